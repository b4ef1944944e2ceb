import PyProof.Rows.All
import Wide.All
import OpenK.AllK
import Wide.FinOn
import HandS.ForMost
import HandS.ForExc
import HandS.Wide
import HandS.Zip
import HandS.Flow
import HandS.IsInst
import HandS.TupAny
import HandS.TupMul
import HandS.TupLe
import KE.KTupSum
import KE.DataMinMax
import KE.DataEq
import KE.DataCmp
import KE.SortData
import HandS.Codes
import HandS.RaiseMore
import KE.GoesMore
import HandS.HeadEnd
import HandS.Defaults
import HandS.Head0
import HandS.Head1
import HandS.Head2
import HandS.HeadHook1
import HandS.HeadHook2
import PySem.Challenge.RW_paidasks_k77_whole_losses
set_option Elab.async false
set_option linter.all false
set_option maxRecDepth 100000
set_option maxHeartbeats 4000000
namespace Dl
open PySem PySem.Spec PyProof.Rows L2

inductive D where
  | non | bl (b : Bool) | int (i : Int) | str (s : Str)
  | tup (xs : List D) | lst (xs : List D)
  | dic (ks vs : List D)
  | hand
  | obj (c : Nat) (a : Addr) (xs : List D)
  | pin (a : Addr) (xs : List D)

inductive Sl where
  | un | sh (d : D) | ow (d : D) | lk (d : D)
abbrev Em := List Sl
inductive RV where
  | val (fr : Bool) (d : D) | loc (i : Nat)

def res : RV → Em → Option D
  | .val _ d, _ => some d
  | .loc i, m => match m[i]? with
    | some (.ow d) => some d
    | some (.sh d) => some d
    | some (.lk d) => some d
    | _ => none

inductive Un where
  | neg | not
inductive Bo where
  | add | sub | mul | fdiv | mod | pow
inductive Co where
  | eq | ne | lt | le | gt | ge | isin | notin | is | isnot
inductive Bf where
  | len | abs | int | sum | max | min | any | all | list | tuple | repr | str | sorted | set
inductive Mf where
  | append | pop | extend | insert | index | get | join | split | replace | count | reverse
inductive Cl where
  | ty (n : String) | own (c : Nat)

mutual
inductive E where
  | var (i : Nat) | int (i : Int) | bl (b : Bool) | non | str (s : Str)
  | un (o : Un) (a : E)
  | bin (o : Bo) (a b : E)
  | cmp (o : Co) (a b : E)
  | chn (o p : Co) (a b c : E)
  | and (a b : E) | or (a b : E)
  | ite (c a b : E)
  | tup (es : Es) | lst (es : Es)
  | idx (a i : E)
  | slc (a : E) (lo hi : Oe)
  | call (f : Nat) (es : Es)
  | blt (f : Bf) (es : Es)
  | isi (a : E) (cs : List Cl)
  | mth (m : Mf) (o : E) (es : Es)
  | att (o : E) (f : Str)
  | cmpr (own : List Nat) (t : T) (it : I) (tst : Oe) (elt : E)
inductive Es where
  | nil | cons (e : E) (es : Es)
inductive Oe where
  | none | some (e : E)
inductive I where
  | seq (e : E) | rng (es : Es) | zip (a b : E) | enm (e : E)
inductive T where
  | nm (i : Nat) | tp (ts : Ts) | sub (o i : E)
inductive Ts where
  | nil | cons (t : T) (ts : Ts)
end

mutual
inductive S where
  | asg (t : T) (e : E)
  | par (is : List Nat) (es : Es)
  | aug (i : Nat) (o : Bo) (e : E)
  | expr (e : E)
  | ret (e : E) | retn
  | ifs (c : E) (a b : Ss)
  | frs (t : T) (it : I) (body : Ss)
  | whl (c : E) (body : Ss)
  | rse (x : Str) (es : Es)
  | pas | brk | cnt
inductive Ss where
  | nil | cons (s : S) (ss : Ss)
end

def Ts.len : Ts → Nat
  | .nil => 0
  | .cons _ ts => ts.len + 1
def Es.len : Es → Nat
  | .nil => 0
  | .cons _ es => es.len + 1

inductive brK (o : Option Bool) (A B : Prop) : Prop where
  | mk (b : Bool) (h : o = some b) (t : b = true → A) (f : b = false → B)
theorem brK_none {A B : Prop} : brK none A B = False := propext ⟨fun ⟨_, h, _, _⟩ => (by cases h), False.elim⟩
theorem brK_true {A B : Prop} : brK (some true) A B = A := propext ⟨fun ⟨_, h, t, _⟩ => (by cases h; exact t rfl), fun a => ⟨true, rfl, fun _ => a, fun h => (by cases h)⟩⟩
theorem brK_false {A B : Prop} : brK (some false) A B = B := propext ⟨fun ⟨_, h, _, f⟩ => (by cases h; exact f rfl), fun a => ⟨false, rfl, fun h => (by cases h), fun _ => a⟩⟩
inductive onK {α : Type} (o : Option α) (P : α → Prop) : Prop where
  | mk (a : α) (h : o = some a) (p : P a)
theorem onK_none {α : Type} {P : α → Prop} : onK none P = False := propext ⟨fun ⟨_, h, _⟩ => (by cases h), False.elim⟩
theorem onK_some {α : Type} {a : α} {P : α → Prop} : onK (some a) P = P a := propext ⟨fun ⟨_, h, p⟩ => (by cases h; exact p), fun p => ⟨a, rfl, p⟩⟩
inductive movK (A B : Prop) : Prop where
  | share (a : A)
  | move (b : B)
def intsOf : List D → Option (List Int)
  | [] => some []
  | .int i :: r => (intsOf r).map (i :: ·)
  | _ :: _ => none
def boolsOf : List D → Option (List Bool)
  | [] => some []
  | .bl i :: r => (boolsOf r).map (i :: ·)
  | _ :: _ => none
def strsOf : List D → Option (List Str)
  | [] => some []
  | .str i :: r => (strsOf r).map (i :: ·)
  | _ :: _ => none

mutual
def D.py : D → Option PyData
  | .non => some .none
  | .bl b => some (.bool b)
  | .int i => some (.int i)
  | .str s => some (.str s)
  | .tup xs => (pyAll xs).map .tuple
  | .lst xs => (pyAll xs).map .list
  | _ => none
def pyAll : List D → Option (List PyData)
  | [] => some []
  | x :: r => match D.py x, pyAll r with
    | some a, some b => some (a :: b)
    | _, _ => none
end

def tru : D → Option Bool
  | .bl b => some b
  | .int i => some (i != 0)
  | .non => some false
  | .lst xs => some (!xs.isEmpty)
  | .tup xs => some (!xs.isEmpty)
  | .str s => if s.length ≤ sizeLine then some (s.length != 0) else none
  | _ => none

def mulOk (i j : Int) : Prop := (i.natAbs < 2 ^ 64 ∨ j.natAbs < 2 ^ 64) ∨ (i.natAbs < 2 ^ 400000 ∧ j.natAbs < 2 ^ 400000)

def binS (o : Bo) (x y : D) (Q : Bool → D → Prop) : Prop :=
  match o, x, y with
  | .add, .int i, .int j => Q false (.int (i + j))
  | .add, .str i, .str j => i.length + j.length ≤ sizeLine ∧ Q false (.str (i ++ j))
  | .add, .lst i, .lst j => i.length + j.length ≤ sizeLine ∧ Q true (.lst (i ++ j))
  | .add, .tup i, .tup j => i.length + j.length ≤ sizeLine ∧ Q false (.tup (i ++ j))
  | .sub, .int i, .int j => Q false (.int (i - j))
  | .mul, .int i, .int j => mulOk i j ∧ Q false (.int (i * j))
  | .mul, .lst xs, .int j => -(2 ^ 63) ≤ j ∧ j < 2 ^ 63 ∧ xs.length * j.toNat ≤ sizeLine ∧ Q true (.lst (List.replicate j.toNat xs).flatten)
  | .mul, .tup xs, .int j => xs ≠ [] ∧ 2 ≤ j ∧ j ≤ 1000 ∧ xs.length ≤ 1000 ∧ Q false (.tup (List.replicate j.toNat xs).flatten)
  | .fdiv, .int i, .int j => 0 < j ∧ j.natAbs < 2 ^ 9000 ∧ Q false (.int (i / j))
  | .mod, .int i, .int j => 0 < j ∧ Q false (.int (i % j))
  | .pow, .int i, .int j => 0 ≤ j ∧ j ≤ 1000000 ∧ i.natAbs < 2 ^ 64 ∧ Q false (.int (i ^ j.toNat))
  | _, _, _ => False

def eqS (x y : D) (Q : Bool → Prop) : Prop :=
  match x, y with
  | .int i, .int j => Q (decide (i = j))
  | .str i, .str j => Q (decide (i = j))
  | .bl i, .bl j => Q (decide (i = j))
  | x, y => ∃ p q, D.py x = some p ∧ D.py y = some q ∧ p.depth ≤ 1000 ∧ Q (PyData.eqv p q)

def inS (x c : D) (Q : Bool → Prop) : Prop :=
  match x, c with
  | .str a, .str b => Q (!(Builtin.Str.occurrences b a 0 b.length 1).isEmpty)
  | x, .lst xs => ∃ p ps, D.py x = some p ∧ pyAll xs = some ps ∧ p.depth ≤ 1000 ∧ Q (ps.any fun y => PyData.eqv y p)
  | x, .tup xs => ∃ p ps, D.py x = some p ∧ pyAll xs = some ps ∧ p.depth ≤ 1000 ∧ Q (ps.any fun y => PyData.eqv y p)
  | _, _ => False

def isNon : D → Bool
  | .non => true
  | _ => false

def cmpS (o : Co) (x y : D) (Q : Bool → Prop) : Prop :=
  match o with
  | .eq => eqS x y Q
  | .ne => eqS x y fun b => Q (!b)
  | .lt => match x, y with
    | .int i, .int j => Q (decide (i < j))
    | _, _ => False
  | .le => match x, y with
    | .int i, .int j => Q (decide (i ≤ j))
    | _, _ => False
  | .gt => match x, y with
    | .int i, .int j => Q (decide (j < i))
    | _, _ => False
  | .ge => match x, y with
    | .int i, .int j => Q (decide (j ≤ i))
    | _, _ => False
  | .isin => inS x y Q
  | .notin => inS x y fun b => Q (!b)
  | .is => match x, y with
    | .bl i, .bl j => Q (decide (i = j))
    | x, y => isNon y = true ∧ Q (isNon x)
  | .isnot => match x, y with
    | .bl i, .bl j => Q (!decide (i = j))
    | x, y => isNon y = true ∧ Q (!isNon x)

def ixS (x y : D) : Option D :=
  match x, y with
  | .lst xs, .int i => atI xs i
  | .tup xs, .int i => atI xs i
  | .pin _ xs, .int i => atI xs i
  | .str s, .int i => if s.length ≤ sizeLine then (atI s.cps.toList i).map fun c => .str ⟨#[c]⟩ else none
  | _, _ => none

def cutD (xs : List D) (lo hi : Option Int) : List D :=
  (xs.drop (HT.sIx xs.length 0 lo)).take (HT.sIx xs.length xs.length hi - HT.sIx xs.length 0 lo)

def slcS (x : D) (lo hi : Option Int) (Q : Bool → D → Prop) : Prop :=
  match x with
  | .lst xs => Q true (.lst (cutD xs lo hi))
  | .tup xs => Q false (.tup (cutD xs lo hi))
  | .str s => s.length ≤ sizeLine ∧ Q false (.str (Txt.slice s lo hi))
  | _ => False

def tyOf : D → Option String
  | .non => some "NoneType"
  | .bl _ => some "bool"
  | .int _ => some "int"
  | .str _ => some "str"
  | .tup _ => some "tuple"
  | .lst _ => some "list"
  | .dic _ _ => some "dict"
  | _ => none
def isTy (t : String) (c : String) : Bool := t == c || (t == "bool" && c == "int")
def isCl (d : D) : Cl → Option Bool
  | .ty n => (tyOf d).map fun t => isTy t n
  | .own k => match d with
    | .obj c _ _ => some (c == k)
    | d => (tyOf d).map fun _ => false
def isAny (d : D) : List Cl → Option Bool
  | [] => some false
  | c :: r => match isCl d c, isAny d r with
    | some a, some b => some (a || b)
    | _, _ => none

def bltS (f : Bf) (ds : List D) (Q : Bool → D → Prop) : Prop :=
  match f, ds with
  | .len, [.lst xs] => Q false (.int (xs.length : Nat))
  | .len, [.tup xs] => Q false (.int (xs.length : Nat))
  | .len, [.pin _ xs] => Q false (.int (xs.length : Nat))
  | .len, [.str s] => s.length ≤ sizeLine ∧ Q false (.int (s.length : Nat))
  | .abs, [.int i] => Q false (.int (if i < 0 then -i else i))
  | .int, [.int i] => Q false (.int i)
  | .int, [.bl b] => Q false (.int (if b then 1 else 0))
  | .sum, [.lst xs] => onK (intsOf xs) fun ns => Q false (.int ns.sum)
  | .max, [.lst xs] => onK (intsOf xs) fun ns => ns ≠ [] ∧ ∀ m, m ∈ ns → (∀ y, y ∈ ns → y ≤ m) → Q false (.int m)
  | .min, [.lst xs] => onK (intsOf xs) fun ns => ns ≠ [] ∧ ∀ m, m ∈ ns → (∀ y, y ∈ ns → m ≤ y) → Q false (.int m)
  | .sum, [.tup xs] => onK (intsOf xs) fun ns => Q false (.int ns.sum)
  | .max, [.tup xs] => onK (intsOf xs) fun ns => ns ≠ [] ∧ ∀ m, m ∈ ns → (∀ y, y ∈ ns → y ≤ m) → Q false (.int m)
  | .min, [.tup xs] => onK (intsOf xs) fun ns => ns ≠ [] ∧ ∀ m, m ∈ ns → (∀ y, y ∈ ns → m ≤ y) → Q false (.int m)
  | .max, [.int i, .int j] => Q false (.int (if j > i then j else i))
  | .min, [.int i, .int j] => Q false (.int (if j < i then j else i))
  | .any, [.lst xs] => onK (boolsOf xs) fun bs => Q false (.bl (bs.any id))
  | .all, [.lst xs] => onK (boolsOf xs) fun bs => Q false (.bl (bs.all id))
  | .list, [.lst xs] => Q true (.lst xs)
  | .list, [.tup xs] => Q true (.lst xs)
  | .tuple, [.lst xs] => Q false (.tup xs)
  | .tuple, [.tup xs] => Q false (.tup xs)
  | .repr, [d] => onK (D.py d) fun p => p.showable = true ∧ p.depth ≤ 1000 ∧ p.shown.length ≤ sizeLine ∧ Q false (.str p.shown)
  | .str, [.int i] => i.natAbs.log2 < 1920 ∧ Q false (.str (toString i))
  | _, _ => False

abbrev FS := List D → (Bool → D → Prop) → (Nat → Option D → Prop) → Prop
structure Tb where
  ct : Nat → Option (Addr × List Str)
  xc : Nat → Option (Value × Option Str)
structure Cn where
  tb : Tb
  fn : Nat → Option FS
abbrev XD := Nat → Option D → Em → Prop

def escK (Q : D → Em → Prop) : RV → Em → Prop := fun rv m =>
  match rv with
  | .val _ d => Q d m
  | .loc i => match m[i]? with
    | some (.ow d) => Q d (m.set i (.sh d))
    | some (.sh d) => Q d m
    | _ => False
def resK (rv : RV) (m : Em) (Q : D → Prop) : Prop := match res rv m with
  | some d => Q d
  | none => False
def resAll : List RV → Em → Option (List D)
  | [], _ => some []
  | r :: rs, m => match res r m, resAll rs m with
    | some d, some ds => some (d :: ds)
    | _, _ => none

def setK0 (i : Nat) (rv : RV) (m : Em) (Q : Em → Prop) : Prop :=
  match rv with
  | .val true (.lst xs) => Q (m.set i (.ow (.lst xs)))
  | .val true (.dic ks vs) => Q (m.set i (.ow (.dic ks vs)))
  | .val _ d => Q (m.set i (.sh d))
  | .loc j => match m[j]? with
    | some (.ow d) => movK (Q ((m.set j (.sh d)).set i (.sh d))) (Q ((m.set j .un).set i (.ow d)))
    | some (.sh d) => Q (m.set i (.sh d))
    | _ => False
def setK (i : Nat) (rv : RV) (m : Em) (Q : Em → Prop) : Prop :=
  match m[i]? with
  | none => False
  | some _ => setK0 i rv m Q

def mthS (f : Mf) (x : D) (as : List D) (Q : D → D → Prop) : Prop :=
  match f, x, as with
  | .append, .lst xs, [d] => xs.length < sizeLine ∧ Q .non (.lst (xs ++ [d]))
  | .pop, .lst xs, [] => onK (xs[xs.length - 1]?) fun d => Q d (.lst xs.dropLast)
  | .pop, .lst xs, [.int i] => -(2 ^ 63) ≤ i ∧ i < 2 ^ 63 ∧ onK (seqIndex? i xs.length) fun k => onK (xs[k]?) fun d => Q d (.lst (xs.eraseIdx k))
  | .extend, .lst xs, [.lst ys] => xs.length + ys.length ≤ sizeLine ∧ Q .non (.lst (xs ++ ys))
  | .reverse, .lst xs, [] => Q .non (.lst xs.reverse)
  | _, _, _ => False

def ownL (m : Em) (i : Nat) : Prop := match m[i]? with
  | some (.ow (.lst _)) => True
  | _ => False
def mthK (f : Mf) (i : Nat) (ds : List D) (m : Em) (Q : RV → Em → Prop) : Prop := match m[i]? with
  | some (.ow (.lst x)) => mthS f (.lst x) ds fun v y => Q (.val false v) (m.set i (.ow y))
  | _ => False
def putS (x i v : D) (Q : D → Prop) : Prop :=
  match x, i with
  | .lst xs, .int k => onK (ixN xs.length k) fun j => Q (.lst (xs.set j v))
  | .pin a xs, .int k => onK (ixN xs.length k) fun j => Q (.pin a (xs.set j v))
  | _, _ => False

def putK (j : Nat) (y v : D) (m : Em) (Q : Em → Prop) : Prop := match m[j]? with
  | some (.ow x) => putS x y v fun x' => Q (m.set j (.ow x'))
  | _ => False
def lockE : RV → Em → Em × List Nat
  | .loc i, m => match m[i]? with
    | some (.ow d) => (m.set i (.lk d), [i])
    | _ => (m, [])
  | _, m => (m, [])
def unlock : List Nat → Em → Em
  | [], m => m
  | i :: is, m => match (unlock is m)[i]? with
    | some (.lk d) => (unlock is m).set i (.ow d)
    | _ => unlock is m

def owAt (m : Em) : List Nat → Prop
  | [] => True
  | i :: is => (match m[i]? with
    | some (.ow _) => True
    | _ => False) ∧ owAt m is
structure Po where
  nx : Em → Prop
  rt : RV → Em → Prop
  bk : Em → Prop := fun _ => False
  ct : Em → Prop := fun _ => False

def forK (asg : D → Em → (Em → Prop) → Prop) (body : Em → Po → Prop) : List D → Em → Po → Prop
  | [], m, P => P.nx m
  | d :: ds, m, P => asg d m fun m1 => body m1 { P with nx := fun m2 => forK asg body ds m2 P, ct := fun m2 => forK asg body ds m2 P, bk := P.nx }

def wipeE (m : Em) : List Nat → Em
  | [] => m
  | v :: vs => (wipeE m vs).set v .un
def noOw (m : Em) : List Nat → Prop
  | [] => True
  | i :: is => (match m[i]? with
    | some (.un) => True
    | some (.sh _) => True
    | _ => False) ∧ noOw m is
def backE (m0 m : Em) : List Nat → Em
  | [] => m
  | v :: vs => match m0[v]? with
    | some s => (backE m0 m vs).set v s
    | none => backE m0 m vs

def compK (own : List Nat) (asg : D → Em → (Em → Prop) → Prop) (tst : Em → (Bool → Em → Prop) → Prop) (elt : Em → (D → Em → Prop) → Prop) :
    List D → List D → Em → (List D → Em → Prop) → Prop
  | [], acc, m, Q => Q acc m
  | d :: ds, acc, m, Q => asg d (wipeE m own) fun m1 => tst m1 fun b m2 =>
      if b = true then elt m2 fun v m3 => acc.length < sizeLine ∧ compK own asg tst elt ds (acc ++ [v]) m3 Q else compK own asg tst elt ds acc m2 Q

inductive cmpK (own : List Nat) (asg : D → Em → (Em → Prop) → Prop) (tst : Em → (Bool → Em → Prop) → Prop) (elt : Em → (D → Em → Prop) → Prop) (items : List D) (js : List Nat) (m m1 : Em) (Q : RV → Em → Prop) : Prop where
  | mk (no : noOw m1 own) (oa : owAt m js) (w : compK own asg tst elt items [] m1 fun acc m2 => Q (.val true (.lst acc)) (unlock js (backE m1 m2 own)))
inductive loopK (asg : D → Em → (Em → Prop) → Prop) (body : Em → Po → Prop) (items : List D) (js : List Nat) (m m1 : Em) (P : Po) : Prop where
  | mk (oa : owAt m js) (w : forK asg body items m1 { nx := fun m2 => P.nx (unlock js m2), rt := fun rv m2 => P.rt rv (unlock js m2) })
def zipD : List D → List D → List D
  | x :: xs, y :: ys => .tup [x, y] :: zipD xs ys
  | _, _ => []
def enumD (n : Nat) : List D → List D
  | [] => []
  | x :: xs => .tup [.int n, x] :: enumD (n + 1) xs
def rangeD (lo hi : Int) : List D := (List.range (hi - lo).toNat).map fun (k : Nat) => .int (lo + (k : Int))
def itemsOf : D → Option (List D)
  | .lst xs => some xs
  | .tup xs => some xs
  | _ => none
def b62 (i : Int) : Prop := -(2 ^ 62) ≤ i ∧ i < 2 ^ 62

section
variable (C : Cn)
mutual
def wpE : E → Em → (RV → Em → Prop) → XD → Prop
  | .var i, m, Q, _ => match m[i]? with
    | some (.sh d) => Q (.val false d) m
    | some (.ow _) => Q (.loc i) m
    | some (.lk _) => Q (.loc i) m
    | _ => False
  | .int i, m, Q, _ => Q (.val false (.int i)) m
  | .bl i, m, Q, _ => Q (.val false (.bl i)) m
  | .non, m, Q, _ => Q (.val false .non) m
  | .str i, m, Q, _ => Q (.val false (.str i)) m
  | .un .neg a, m, Q, K => wpE a m (fun r m1 => resK r m1 fun d => match d with
    | .int i => Q (.val false (.int (-i))) m1
    | _ => False) K
  | .un .not a, m, Q, K => wpE a m (fun r m1 => resK r m1 fun d => onK (tru d) fun b => Q (.val false (.bl (!b))) m1) K
  | .bin o a b, m, Q, K => wpE a m (fun r m1 => wpE b m1 (fun q m2 => resK r m2 fun x => resK q m2 fun y => binS o x y fun fr d => Q (.val fr d) m2) K) K
  | .cmp o a b, m, Q, K => wpE a m (fun r m1 => wpE b m1 (fun q m2 => resK r m2 fun x => resK q m2 fun y => cmpS o x y fun c => Q (.val false (.bl c)) m2) K) K
  | .chn o p a b c, m, Q, K => wpE a m (fun r m1 => wpE b m1 (fun q m2 => resK r m2 fun x => resK q m2 fun y => cmpS o x y fun t =>
      brK (some t) (wpE c m2 (fun s m3 => resK q m3 fun y => resK s m3 fun z => cmpS p y z fun u => Q (.val false (.bl u)) m3) K) (Q (.val false (.bl false)) m2)) K) K
  | .and a b, m, Q, K => wpE a m (fun r m1 => resK r m1 fun d => brK (tru d) (wpE b m1 Q K) (Q r m1)) K
  | .or a b, m, Q, K => wpE a m (fun r m1 => resK r m1 fun d => brK (tru d) (Q r m1) (wpE b m1 Q K)) K
  | .ite c a b, m, Q, K => wpE c m (fun r m1 => resK r m1 fun d => brK (tru d) (wpE a m1 Q K) (wpE b m1 Q K)) K
  | .tup es, m, Q, K => wpXs es m (fun ds m1 => Q (.val false (.tup ds)) m1) K
  | .lst es, m, Q, K => wpXs es m (fun ds m1 => Q (.val true (.lst ds)) m1) K
  | .idx a i, m, Q, K => wpE a m (fun r m1 => wpE i m1 (fun q m2 => resK r m2 fun x => resK q m2 fun y => onK (ixS x y) fun d => Q (.val false d) m2) K) K
  | .slc a lo hi, m, Q, K => wpE a m (fun r m1 => wpOe lo m1 (fun l m2 => wpOe hi m2 (fun h m3 => resK r m3 fun x => slcS x l h fun fr d => Q (.val fr d) m3) K) K) K
  | .call f es, m, Q, K => wpXs es m (fun ds m1 => match C.fn f with
    | some s => s ds (fun fr d => Q (.val fr d) m1) (fun c o => K c o m1)
    | none => False) K
  | .blt f es, m, Q, K => wpOs es m (fun rs m1 => match resAll rs m1 with
    | some ds => bltS f ds fun fr d => Q (.val fr d) m1
    | none => False) K
  | .isi a cs, m, Q, K => wpE a m (fun r m1 => resK r m1 fun d => onK (isAny d cs) fun b => Q (.val false (.bl b)) m1) K
  | .mth f o es, m, Q, K => wpE o m (fun r m1 => match r with
    | .loc i => ownL m1 i ∧ wpXs es m1 (fun ds m2 => mthK f i ds m2 Q) K
    | _ => False) K
  | .att _ _, _, _, _ => False
  | .cmpr own t it tst elt, m, Q, K => wpI it m (fun items js m1 => cmpK own (fun d m2 k => wpT t (.val false d) m2 k fun _ _ _ => False) (fun m2 k => wpTest tst m2 k fun _ _ _ => False) (fun m2 k => wpE elt m2 (escK k) fun _ _ _ => False) items js m m1 Q) K
def wpXs : Es → Em → (List D → Em → Prop) → XD → Prop
  | .nil, m, Q, _ => Q [] m
  | .cons e es, m, Q, K => wpE e m (escK fun d m1 => wpXs es m1 (fun ds m2 => Q (d :: ds) m2) K) K
def wpOs : Es → Em → (List RV → Em → Prop) → XD → Prop
  | .nil, m, Q, _ => Q [] m
  | .cons e es, m, Q, K => wpE e m (fun r m1 => wpOs es m1 (fun rs m2 => Q (r :: rs) m2) K) K
def wpOe : Oe → Em → (Option Int → Em → Prop) → XD → Prop
  | .none, m, Q, _ => Q none m
  | .some e, m, Q, K => wpE e m (fun r m1 => resK r m1 fun d => match d with
    | .int i => Q (some i) m1
    | _ => False) K
def wpTest : Oe → Em → (Bool → Em → Prop) → XD → Prop
  | .none, m, Q, _ => Q true m
  | .some e, m, Q, K => wpE e m (fun r m1 => resK r m1 fun d => onK (tru d) fun b => Q b m1) K
def wpI : I → Em → (List D → List Nat → Em → Prop) → XD → Prop
  | .seq e, m, Q, K => wpE e m (fun r m1 => resK r m1 fun d => match itemsOf d with
    | some xs => Q xs (lockE r m1).2 (lockE r m1).1
    | none => False) K
  | .rng es, m, Q, K => wpXs es m (fun ds m1 => match ds with
    | [.int j] => b62 j ∧ Q (rangeD 0 j) [] m1
    | [.int i, .int j] => b62 i ∧ b62 j ∧ Q (rangeD i j) [] m1
    | _ => False) K
  | .zip a b, m, Q, K => wpE a m (fun r m1 => wpE b m1 (fun q m2 => resK r m2 fun x => resK q m2 fun y => match x, y with
    | .lst xs, .lst ys => Q (zipD xs ys) ((lockE r m2).2 ++ (lockE q (lockE r m2).1).2) (lockE q (lockE r m2).1).1
    | .tup xs, .tup ys => Q (zipD xs ys) [] m2
    | _, _ => False) K) K
  | .enm e, m, Q, K => wpE e m (fun r m1 => resK r m1 fun d => match itemsOf d with
    | some xs => Q (enumD 0 xs) (lockE r m1).2 (lockE r m1).1
    | none => False) K
def wpT : T → RV → Em → (Em → Prop) → XD → Prop
  | .nm i, rv, m, Q, _ => setK i rv m Q
  | .tp ts, rv, m, Q, K => resK rv m fun d => match d with
    | .tup xs => xs.length = ts.len ∧ wpTs ts xs m Q K
    | .lst xs => xs.length = ts.len ∧ wpTs ts xs m Q K
    | _ => False
  | .sub o i, rv, m, Q, K => escK (fun v m0 => wpE o m0 (fun r m1 => match r with
    | .loc j => wpE i m1 (fun q m2 => resK q m2 fun y => putK j y v m2 Q) K
    | _ => False) K) rv m
def wpTs : Ts → List D → Em → (Em → Prop) → XD → Prop
  | .nil, ds, m, Q, _ => ds = [] ∧ Q m
  | .cons t ts, ds, m, Q, K => match ds with
    | d :: r => wpT t (.val false d) m (fun m1 => wpTs ts r m1 Q K) K
    | [] => False
end

def escAll : List RV → Em → (List RV → Em → Prop) → Prop
  | [], m, Q => Q [] m
  | .val fr d :: rs, m, Q => escAll rs m fun rs' m' => Q (.val fr d :: rs') m'
  | .loc i :: rs, m, Q => escK (fun d m1 => escAll rs m1 fun rs' m' => Q (.val false d :: rs') m') (.loc i) m
def storeAll : List Nat → List RV → Em → (Em → Prop) → Prop
  | [], [], m, Q => Q m
  | i :: is, r :: rs, m, Q => setK i r m fun m1 => storeAll is rs m1 Q
  | _, _, _, _ => False
def parK (is : List Nat) (rs : List RV) (m : Em) (Q : Em → Prop) : Prop := escAll rs m fun rs' m' => storeAll is rs' m' Q

mutual
def wpS : S → Em → Po → XD → Prop
  | .asg t e, m, P, K => wpE C e m (fun r m1 => wpT C t r m1 P.nx K) K
  | .par is es, m, P, K => wpOs C es m (fun rs m1 => parK is rs m1 P.nx) K
  | .aug i o e, m, P, K => match m[i]? with
    | some (.sh (.int x)) => wpE C e m (fun r m1 => resK r m1 fun d => match o, d with
      | .add, .int y => P.nx (m1.set i (.sh (.int (x + y))))
      | .sub, .int y => P.nx (m1.set i (.sh (.int (x - y))))
      | _, _ => False) K
    | _ => False
  | .expr e, m, P, K => wpE C e m (fun _ m1 => P.nx m1) K
  | .ret e, m, P, K => wpE C e m P.rt K
  | .retn, m, P, _ => P.rt (.val false .non) m
  | .ifs c a b, m, P, K => wpE C c m (fun r m1 => resK r m1 fun d => brK (tru d) (wpSs a m1 P K) (wpSs b m1 P K)) K
  | .frs t it body, m, P, K => wpI C it m (fun items js m1 => loopK (fun d m2 k => wpT C t (.val false d) m2 k fun c o m3 => K c o (unlock js m3)) (fun m2 P2 => wpSs body m2 P2 fun c o m3 => K c o (unlock js m3)) items js m m1 P) K
  | .whl c body, m, P, K => ∃ W : Nat → Em → Prop, (∃ n, W n m) ∧ ∀ n m1, W n m1 → wpE C c m1 (fun r m2 => resK r m2 fun d => brK (tru d) (wpSs body m2 { P with nx := fun m3 => ∃ n', n' < n ∧ W n' m3, ct := fun m3 => ∃ n', n' < n ∧ W n' m3, bk := P.nx } K) (P.nx m2)) K
  | .rse _ _, _, _, _ => False
  | .pas, m, P, _ => P.nx m
  | .brk, m, P, _ => P.bk m
  | .cnt, m, P, _ => P.ct m
def wpSs : Ss → Em → Po → XD → Prop
  | .nil, m, P, _ => P.nx m
  | .cons s ss, m, P, K => wpS s m { P with nx := fun m1 => wpSs ss m1 P K } K
end

def isBoxD : D → Bool
  | .lst _ => true
  | .dic _ _ => true
  | _ => false
def retK (Q : Bool → D → Prop) : RV → Em → Prop := fun rv m =>
  match rv with
  | .val fr d => Q fr d
  | .loc i => match m[i]? with
    | some (.ow d) => isBoxD d = true ∧ Q true d
    | some (.lk d) => isBoxD d = true ∧ Q true d
    | some (.sh d) => Q false d
    | _ => False
def wpFn (n : Nat) (body : Ss) : FS := fun ds Q X => ds.length ≤ n ∧
  wpSs C body (ds.map .sh ++ List.replicate (n - ds.length) .un) { nx := fun _ => Q false .non, rt := retK Q } fun c o _ => X c o
end
end Dl
set_option maxHeartbeats 4000000
namespace Dl
open PySem PySem.Spec PyProof.Rows L2

structure Gh (B : Tb) where
  ha : Option Addr

def key1 : D → Option Key
  | .int i => some (.inl i)
  | .str s => some (.inr s)
  | _ => none
def keysK : List D → Option (List Key)
  | [] => some []
  | d :: r => match key1 d, keysK r with
    | some k, some ks => some (k :: ks)
    | _, _ => none
def keyT : D → Option (List Key)
  | .tup xs => keysK xs
  | _ => none
def keysT : List D → Option (List (List Key))
  | [] => some []
  | d :: r => match keyT d, keysT r with
    | some k, some ks => some (k :: ks)
    | _, _ => none

mutual
def Den {B : Tb} (g : Gh B) (F : Addr → Prop) (H : Hp) : D → V → Prop
  | .non, v => v = .non
  | .bl b, v => v = .bl b
  | .int i, v => v = .int i
  | .str s, v => v = .str s
  | .tup ds, v => ∃ a vs, v = .ref a ∧ H a = some (.tup vs) ∧ DenL g F H ds vs
  | .lst ds, v => ∃ a vs, v = .ref a ∧ F a ∧ H a = some (.lst vs) ∧ DenL g F H ds vs
  | .dic ks ds, v => ∃ a, v = .ref a ∧ F a ∧ ((∃ es : List (Key × V), H a = some (.dK es) ∧ keysK ks = some (es.map (·.1)) ∧ DenL g F H ds (es.map (·.2))) ∨
      (∃ es : List (List Key × V), H a = some (.dT es) ∧ keysT ks = some (es.map (·.1)) ∧ DenL g F H ds (es.map (·.2))))
  | .hand, v => ∃ a, g.ha = some a ∧ v = .ref a
  | .obj c a ds, v => v = .ref a ∧ F a ∧ ∃ C ns dx vs, B.ct c = some (C, ns) ∧ H a = some (.ins C dx (ns.zip vs)) ∧ vs.length = ns.length ∧ DenL g F H ds vs
  | .pin a ds, v => v = .ref a ∧ F a ∧ ∃ vs, H a = some (.lst vs) ∧ DenL g F H ds vs
def DenL {B : Tb} (g : Gh B) (F : Addr → Prop) (H : Hp) : List D → List V → Prop
  | [], [] => True
  | d :: ds, v :: vs => Den g F H d v ∧ DenL g F H ds vs
  | _, _ => False
end

section
variable {B : Tb} {g : Gh B} {F F' : Addr → Prop} {H H' : Hp}
def isTup : HO → Prop
  | .tup _ => True
  | _ => False
structure Le (F : Addr → Prop) (H : Hp) (F' : Addr → Prop) (H' : Hp) : Prop where
  f : ∀ a, F a → F' a
  k : ∀ a o, H a = some o → F a → H' a = some o
  t : ∀ a vs, H a = some (.tup vs) → H' a = some (.tup vs)
theorem Le.refl : Le F H F H := ⟨fun _ h => h, fun _ _ h _ => h, fun _ _ h => h⟩

mutual
theorem Den.mono (l : Le F H F' H') : ∀ (d : D) (v : V), Den g F H d v → Den g F' H' d v
  | .non, v, h => h
  | .bl b, v, h => h
  | .int i, v, h => h
  | .str s, v, h => h
  | .tup ds, v, h => by
    obtain ⟨a, vs, e, h1, h2⟩ := h
    exact ⟨a, vs, e, l.t _ _ h1, DenL.mono l ds vs h2⟩
  | .lst ds, v, h => by
    obtain ⟨a, vs, e, f, h1, h2⟩ := h
    exact ⟨a, vs, e, l.f _ f, l.k _ _ h1 f, DenL.mono l ds vs h2⟩
  | .dic ks ds, v, h => by
    obtain ⟨a, e, f, h⟩ := h
    refine ⟨a, e, l.f _ f, ?_⟩
    rcases h with ⟨es, h1, h2, h3⟩ | ⟨es, h1, h2, h3⟩
    · exact .inl ⟨es, l.k _ _ h1 f, h2, DenL.mono l ds _ h3⟩
    · exact .inr ⟨es, l.k _ _ h1 f, h2, DenL.mono l ds _ h3⟩
  | .hand, v, h => h
  | .pin a ds, v, h => by
    obtain ⟨e, f, vs, h1, h2⟩ := h
    exact ⟨e, l.f _ f, vs, l.k _ _ h1 f, DenL.mono l ds vs h2⟩
  | .obj c a ds, v, h => by
    obtain ⟨e, f, C, ns, dx, vs, h1, h2, h3, h4⟩ := h
    exact ⟨e, l.f _ f, C, ns, dx, vs, h1, l.k _ _ h2 f, h3, DenL.mono l ds vs h4⟩
theorem DenL.mono (l : Le F H F' H') : ∀ (ds : List D) (vs : List V), DenL g F H ds vs → DenL g F' H' ds vs
  | [], [], _ => trivial
  | [], _ :: _, h => h
  | _ :: _, [], h => h
  | d :: ds, v :: vs, h => ⟨Den.mono l d v h.1, DenL.mono l ds vs h.2⟩
end
theorem DenL.len : ∀ {ds : List D} {vs : List V}, DenL g F H ds vs → ds.length = vs.length
  | [], [], _ => rfl
  | [], _ :: _, h => h.elim
  | _ :: _, [], h => h.elim
  | d :: ds, v :: vs, h => by rw [List.length_cons, List.length_cons, DenL.len h.2]
theorem DenL.get : ∀ {ds : List D} {vs : List V} {i : Nat} {v : V}, DenL g F H ds vs → vs[i]? = some v → ∃ d, ds[i]? = some d ∧ Den g F H d v
  | [], [], _, _, _, h => by simp at h
  | [], _ :: _, _, _, h, _ => h.elim
  | _ :: _, [], _, _, h, _ => h.elim
  | d :: ds, v :: vs, 0, x, h, e => by
    simp at e
    subst e
    exact ⟨d, rfl, h.1⟩
  | d :: ds, v :: vs, i + 1, x, h, e => by
    obtain ⟨y, e1, e2⟩ := DenL.get (i := i) h.2 (by simpa using e)
    exact ⟨y, by simpa using e1, e2⟩
theorem DenL.getD : ∀ {ds : List D} {vs : List V} {i : Nat} {d : D}, DenL g F H ds vs → ds[i]? = some d → ∃ v, vs[i]? = some v ∧ Den g F H d v
  | [], [], _, _, _, h => by simp at h
  | [], _ :: _, _, _, h, _ => h.elim
  | _ :: _, [], _, _, h, _ => h.elim
  | d :: ds, v :: vs, 0, x, h, e => by
    simp at e
    subst e
    exact ⟨v, rfl, h.1⟩
  | d :: ds, v :: vs, i + 1, x, h, e => by
    obtain ⟨y, e1, e2⟩ := DenL.getD (i := i) h.2 (by simpa using e)
    exact ⟨y, by simpa using e1, e2⟩
theorem DenL.append : ∀ {ds es : List D} {vs ws : List V}, DenL g F H ds vs → DenL g F H es ws → DenL g F H (ds ++ es) (vs ++ ws)
  | [], _, [], _, _, h => h
  | [], _, _ :: _, _, h, _ => h.elim
  | _ :: _, _, [], _, h, _ => h.elim
  | d :: ds, _, v :: vs, _, h, k => ⟨h.1, DenL.append h.2 k⟩
theorem DenL.take : ∀ {ds : List D} {vs : List V} (n : Nat), DenL g F H ds vs → DenL g F H (ds.take n) (vs.take n)
  | [], [], n, _ => by simp [DenL]
  | [], _ :: _, _, h => h.elim
  | _ :: _, [], _, h => h.elim
  | _ :: _, _ :: _, 0, _ => by simp [DenL]
  | d :: ds, v :: vs, n + 1, h => ⟨h.1, DenL.take n h.2⟩
theorem DenL.drop : ∀ {ds : List D} {vs : List V} (n : Nat), DenL g F H ds vs → DenL g F H (ds.drop n) (vs.drop n)
  | [], [], n, _ => by simp [DenL]
  | [], _ :: _, _, h => h.elim
  | _ :: _, [], _, h => h.elim
  | _ :: _, _ :: _, 0, h => h
  | d :: ds, v :: vs, n + 1, h => DenL.drop n h.2
theorem DenL.set : ∀ {ds : List D} {vs : List V} {d : D} {v : V} (i : Nat), DenL g F H ds vs → Den g F H d v → DenL g F H (ds.set i d) (vs.set i v)
  | [], [], _, _, _, h, _ => by simp [DenL]
  | [], _ :: _, _, _, _, h, _ => h.elim
  | _ :: _, [], _, _, _, h, _ => h.elim
  | _ :: _, _ :: _, _, _, 0, h, k => ⟨k, h.2⟩
  | _ :: _, _ :: _, _, _, i + 1, h, k => ⟨h.1, DenL.set i h.2 k⟩
theorem DenL.eraseIdx : ∀ {ds : List D} {vs : List V} (i : Nat), DenL g F H ds vs → DenL g F H (ds.eraseIdx i) (vs.eraseIdx i)
  | [], [], _, h => by simp [DenL]
  | [], _ :: _, _, h => h.elim
  | _ :: _, [], _, h => h.elim
  | _ :: _, _ :: _, 0, h => h.2
  | _ :: _, _ :: _, i + 1, h => ⟨h.1, DenL.eraseIdx i h.2⟩
theorem DenL.dropLast {ds : List D} {vs : List V} (h : DenL g F H ds vs) : DenL g F H ds.dropLast vs.dropLast := by
  rw [List.dropLast_eq_take, List.dropLast_eq_take, h.len]
  exact h.take _
theorem DenL.reverse : ∀ {ds : List D} {vs : List V}, DenL g F H ds vs → DenL g F H ds.reverse vs.reverse
  | [], [], _ => by simp [DenL]
  | [], _ :: _, h => h.elim
  | _ :: _, [], h => h.elim
  | d :: ds, v :: vs, h => by
    rw [List.reverse_cons, List.reverse_cons]
    exact DenL.append (DenL.reverse h.2) ⟨h.1, trivial⟩
theorem DenL.flatten : ∀ {n : Nat} {ds : List D} {vs : List V}, DenL g F H ds vs → DenL g F H (List.replicate n ds).flatten (List.replicate n vs).flatten
  | 0, _, _, _ => by simp [DenL]
  | n + 1, ds, vs, h => by
    rw [List.replicate_succ, List.replicate_succ, List.flatten_cons, List.flatten_cons]
    exact DenL.append h (DenL.flatten h)

def Bor {B : Tb} (g : Gh B) (F : Addr → Prop) (H : Hp) : D → V → Prop
  | .lst ds, v => ∃ a vs, v = .ref a ∧ H a = some (.lst vs) ∧ DenL g F H ds vs
  | .dic ks ds, v => ∃ a, v = .ref a ∧ ((∃ es : List (Key × V), H a = some (.dK es) ∧ keysK ks = some (es.map (·.1)) ∧ DenL g F H ds (es.map (·.2))) ∨
      (∃ es : List (List Key × V), H a = some (.dT es) ∧ keysT ks = some (es.map (·.1)) ∧ DenL g F H ds (es.map (·.2))))
  | .pin a ds, v => v = .ref a ∧ ∃ vs, H a = some (.lst vs) ∧ DenL g F H ds vs
  | d, v => Den g F H d v
theorem Den.bor : ∀ {d : D} {v : V}, Den g F H d v → Bor g F H d v
  | .lst ds, v, h => by
    obtain ⟨a, vs, e, f, h1, h2⟩ := h
    exact ⟨a, vs, e, h1, h2⟩
  | .dic ks ds, v, h => by
    obtain ⟨a, e, f, h⟩ := h
    exact ⟨a, e, h⟩
  | .non, _, h => h
  | .bl _, _, h => h
  | .int _, _, h => h
  | .str _, _, h => h
  | .tup _, _, h => h
  | .hand, _, h => h
  | .obj _ _ _, _, h => h
  | .pin _ _, _, h => ⟨h.1, h.2.2⟩
end

structure Sta where
  F : Addr → Prop
  m : Em
  σ : L2.St
  H : Hp

def Owns (S : Sta) (a : Addr) : Prop := ∃ (i : Nat) (d : D), S.m[i]? = some (.ow d) ∧ S.σ[i]? = some (some (.ref a))
def Hd (m : Em) (i : Nat) (d : D) : Prop := m[i]? = some (.ow d) ∨ m[i]? = some (.lk d)
def Holds (S : Sta) (a : Addr) : Prop := ∃ (i : Nat) (d : D), Hd S.m i d ∧ S.σ[i]? = some (some (.ref a))
theorem Owns.hd {S : Sta} {a : Addr} (h : Owns S a) : Holds S a := by
  obtain ⟨i, d, h1, h2⟩ := h
  exact ⟨i, d, .inl h1, h2⟩

def HandAt (H : Hp) (a : Addr) : Prop := ∃ (ca : Addr) (cells : List Int) (p q r c : Int), H a = some (.lst [.ref ca, .int p, .int q, .int r, .int c]) ∧ H ca = some (.lst (cells.map .int)) ∧ ca ≠ a ∧
  (∀ x ∈ cells, 0 ≤ x) ∧ 0 ≤ p ∧ 0 ≤ q ∧ 0 ≤ r ∧ r < 2 ^ 40 ∧ 0 ≤ c ∧ cells.length ≤ 63

def Own {B : Tb} (g : Gh B) (H0 : Hp) (F : Addr → Prop) (H : Hp) (a : Addr) : D → Prop
  | .lst ds => ¬ F a ∧ H0 a = none ∧ g.ha ≠ some a ∧ ∃ vs, H a = some (.lst vs) ∧ DenL g F H ds vs
  | .dic ks ds => ¬ F a ∧ H0 a = none ∧ g.ha ≠ some a ∧ ((∃ es : List (Key × V), H a = some (.dK es) ∧ keysK ks = some (es.map (·.1)) ∧ DenL g F H ds (es.map (·.2))) ∨
      (∃ es : List (List Key × V), H a = some (.dT es) ∧ keysT ks = some (es.map (·.1)) ∧ DenL g F H ds (es.map (·.2))))
  | .pin p ds => p = a ∧ ¬ F a ∧ H0 a = none ∧ g.ha ≠ some a ∧ ∃ vs, H a = some (.lst vs) ∧ DenL g F H ds vs
  | _ => False
def isBox : HO → Prop
  | .lst _ => True
  | .dK _ => True
  | .dT _ => True
  | _ => False
theorem Own.nf {B : Tb} {g : Gh B} {H0 H : Hp} {F : Addr → Prop} {a : Addr} {d : D} (h : Own g H0 F H a d) : ¬ F a ∧ H0 a = none ∧ g.ha ≠ some a ∧ ∃ o, H a = some o ∧ isBox o := by
  cases d with
  | lst ds =>
    obtain ⟨h1, h2, h3, vs, h4, _⟩ := h
    exact ⟨h1, h2, h3, _, h4, trivial⟩
  | dic ks ds =>
    obtain ⟨h1, h2, h3, ⟨_, h4, _⟩ | ⟨_, h4, _⟩⟩ := h
    · exact ⟨h1, h2, h3, _, h4, trivial⟩
    · exact ⟨h1, h2, h3, _, h4, trivial⟩
  | pin p ds =>
    obtain ⟨h0, h1, h2, h3, vs, h4, _⟩ := h
    exact ⟨h1, h2, h3, _, h4, trivial⟩
  | _ => exact h.elim

structure Rep {B : Tb} (g : Gh B) (H0 : Hp) (S : Sta) : Prop where
  len : S.m.length = S.σ.length
  sh : ∀ (i : Nat) (d : D), S.m[i]? = some (.sh d) → ∃ v, S.σ[i]? = some (some v) ∧ Den g S.F S.H d v
  ow : ∀ (i : Nat) (d : D), Hd S.m i d → ∃ a : Addr, S.σ[i]? = some (some (.ref a)) ∧ Own g H0 S.F S.H a d
  inj : ∀ (i j : Nat) (d e : D) (a : Addr), Hd S.m i d → Hd S.m j e → S.σ[i]? = some (some (.ref a)) → S.σ[j]? = some (some (.ref a)) → i = j
  keep : ∀ a o, g.ha ≠ some a → H0 a = some o → S.H a = some o
  dom : ∀ a, S.F a → ∃ o, S.H a = some o
  hand : ∀ a, g.ha = some a → HandAt S.H a ∧ ¬ S.F a ∧ (∃ o, H0 a = some o) ∧ ∀ ca r, S.H a = some (.lst (.ref ca :: r)) → ∃ o, H0 ca = some o

structure Go {B : Tb} (g : Gh B) (S S' : Sta) : Prop where
  f : ∀ a, S.F a → S'.F a
  keep : ∀ a o, S.H a = some o → g.ha ≠ some a → ¬ Owns S a → S'.H a = some o
  there : ∀ a o, S.H a = some o → ∃ o', S'.H a = some o'
  nofr : ∀ a o, S.H a = some o → ¬ S.F a → ¬ Owns S a → ¬ S'.F a
  noow : ∀ a o, S.H a = some o → ¬ Owns S a → ¬ Owns S' a
  nohd : ∀ a o, S.H a = some o → ¬ Holds S a → ¬ Holds S' a
  lkk : ∀ (j : Nat) (d : D) (a : Addr), S'.m[j]? = some (.lk d) → S'.σ[j]? = some (some (.ref a)) → ∃ d', S.m[j]? = some (.lk d') ∧ S.σ[j]? = some (some (.ref a))
  hd : ∀ (a ca : Addr) (r : List V), g.ha = some a → S'.H a = some (.lst (.ref ca :: r)) → ∃ r', S.H a = some (.lst (.ref ca :: r'))
theorem Go.refl {B : Tb} {g : Gh B} {S : Sta} : Go g S S := ⟨fun _ h => h, fun _ _ h _ _ => h, fun _ o h => ⟨o, h⟩, fun _ _ _ h _ => h, fun _ _ _ h => h, fun _ _ _ h => h, fun _ d _ h k => ⟨d, h, k⟩, fun _ _ r _ h => ⟨r, h⟩⟩
theorem Go.trans {B : Tb} {g : Gh B} {S S' S'' : Sta} (a : Go g S S') (b : Go g S' S'') : Go g S S'' where
  f := fun x h => b.f x (a.f x h)
  keep := fun x o h n w => b.keep x o (a.keep x o h n w) n (a.noow x o h w)
  there := fun x o h => by
    obtain ⟨o', h'⟩ := a.there x o h
    exact b.there x o' h'
  nofr := fun x o h n w => by
    obtain ⟨o', h'⟩ := a.there x o h
    exact b.nofr x o' h' (a.nofr x o h n w) (a.noow x o h w)
  noow := fun x o h w => by
    obtain ⟨o', h'⟩ := a.there x o h
    exact b.noow x o' h' (a.noow x o h w)
  nohd := fun x o h w => by
    obtain ⟨o', h'⟩ := a.there x o h
    exact b.nohd x o' h' (a.nohd x o h w)
  lkk := fun j d x h k => by
    obtain ⟨d', h', k'⟩ := b.lkk j d x h k
    exact a.lkk j d' x h' k'
  hd := fun x ca r e h => by
    obtain ⟨r', h'⟩ := b.hd x ca r e h
    exact a.hd x ca r' e h'
theorem Go.fresh {B : Tb} {g : Gh B} {S S' : Sta} (a : Go g S S') {p : Addr} (h : S'.H p = none) : S.H p = none := by
  cases e : S.H p with
  | none => rfl
  | some o =>
    obtain ⟨o', h'⟩ := a.there p o e
    rw [h'] at h
    cases h

section
variable {B : Tb} {g : Gh B} {H0 : Hp} {S S' : Sta}
theorem Rep.ownF (R : Rep g H0 S) {a : Addr} (h : Holds S a) : ¬ S.F a ∧ H0 a = none ∧ g.ha ≠ some a ∧ ∃ o, S.H a = some o ∧ isBox o := by
  obtain ⟨i, d, h1, h2⟩ := h
  obtain ⟨b, h3, h4⟩ := R.ow i d h1
  rw [h2] at h3
  cases h3
  exact h4.nf
theorem Rep.noF (R : Rep g H0 S) {a : Addr} (f : S.F a) : ¬ Owns S a := fun h => (R.ownF h.hd).1 f
theorem Rep.haF (R : Rep g H0 S) {a : Addr} (f : S.F a) : g.ha ≠ some a := fun e => (R.hand a e).2.1 f
theorem Rep.tupO (R : Rep g H0 S) {a : Addr} {vs : List V} (h : S.H a = some (.tup vs)) : ¬ Owns S a := fun w => by
  obtain ⟨_, _, _, o, h1, h2⟩ := R.ownF w.hd
  rw [h] at h1
  cases h1
  exact h2
theorem Rep.tupH (R : Rep g H0 S) {a : Addr} {vs : List V} (h : S.H a = some (.tup vs)) : g.ha ≠ some a := fun e => by
  obtain ⟨⟨_, _, _, _, _, _, h1, _⟩, _⟩ := R.hand a e
  rw [h] at h1
  cases h1
theorem Rep.le (R : Rep g H0 S) (G : Go g S S') : Le S.F S.H S'.F S'.H :=
  ⟨G.f, fun a o h f => G.keep a o h (R.haF f) (R.noF f), fun a vs h => G.keep a _ h (R.tupH h) (R.tupO h)⟩
theorem Rep.none0 (R : Rep g H0 S) {p : Addr} (h : S.H p = none) : H0 p = none := by
  cases e : H0 p with
  | none => rfl
  | some o =>
    by_cases hp : g.ha = some p
    · obtain ⟨⟨_, _, _, _, _, _, h1, _⟩, _⟩ := R.hand p hp
      rw [h] at h1
      cases h1
    · have := R.keep p o hp e
      rw [h] at this
      cases this
theorem Rep.haN (R : Rep g H0 S) {p : Addr} (h : S.H p = none) : g.ha ≠ some p := fun e => by
  obtain ⟨⟨_, _, _, _, _, _, h1, _⟩, _⟩ := R.hand p e
  rw [h] at h1
  cases h1
end

def RvOk {B : Tb} (g : Gh B) (H0 Hs : Hp) (S : Sta) (v : V) : RV → Prop
  | .val true (.lst ds) => ∃ a, v = .ref a ∧ Hs a = none ∧ Own g H0 S.F S.H a (.lst ds) ∧ ¬ Holds S a
  | .val true (.dic ks ds) => ∃ a, v = .ref a ∧ Hs a = none ∧ Own g H0 S.F S.H a (.dic ks ds) ∧ ¬ Holds S a
  | .val _ d => Den g S.F S.H d v
  | .loc i => S.σ[i]? = some (some v)

section
variable {B : Tb} {g : Gh B} {H0 Hs : Hp} {S S' : Sta} {v : V}
theorem Own.go (R : Rep g H0 S) (G : Go g S S') {a : Addr} {d : D} (h : Own g H0 S.F S.H a d) (w : ¬ Owns S a) : Own g H0 S'.F S'.H a d := by
  cases d with
  | lst ds =>
    obtain ⟨h1, h2, h3, vs, h4, h5⟩ := h
    exact ⟨G.nofr _ _ h4 h1 w, h2, h3, vs, G.keep _ _ h4 h3 w, h5.mono (R.le G)⟩
  | dic ks ds =>
    obtain ⟨h1, h2, h3, ⟨es, h4, h5, h6⟩ | ⟨es, h4, h5, h6⟩⟩ := h
    · exact ⟨G.nofr _ _ h4 h1 w, h2, h3, .inl ⟨es, G.keep _ _ h4 h3 w, h5, h6.mono (R.le G)⟩⟩
    · exact ⟨G.nofr _ _ h4 h1 w, h2, h3, .inr ⟨es, G.keep _ _ h4 h3 w, h5, h6.mono (R.le G)⟩⟩
  | pin p ds =>
    obtain ⟨h0, h1, h2, h3, vs, h4, h5⟩ := h
    exact ⟨h0, G.nofr _ _ h4 h1 w, h2, h3, vs, G.keep _ _ h4 h3 w, h5.mono (R.le G)⟩
  | _ => exact h.elim
theorem RvOk.den {d : D} {fr : Bool} (h : RvOk g H0 Hs S v (.val fr d)) (hb : ∀ x, d ≠ .lst x) (hc : ∀ x y, d ≠ .dic x y) : Den g S.F S.H d v := by
  cases fr with
  | false => exact h
  | true =>
    cases d with
    | lst x => exact absurd rfl (hb x)
    | dic x y => exact absurd rfl (hc x y)
    | _ => exact h
theorem RvOk.go (R : Rep g H0 S) (G : Go g S S') (es : S'.σ = S.σ) : ∀ {rv : RV}, RvOk g H0 Hs S v rv → RvOk g H0 Hs S' v rv
  | .val true (.lst ds), h => by
    obtain ⟨a, e, h1, h2, h3⟩ := h
    obtain ⟨_, _, _, o, h4, _⟩ := h2.nf
    exact ⟨a, e, h1, h2.go R G fun w => h3 w.hd, G.nohd _ _ h4 h3⟩
  | .val true (.dic ks ds), h => by
    obtain ⟨a, e, h1, h2, h3⟩ := h
    obtain ⟨_, _, _, o, h4, _⟩ := h2.nf
    exact ⟨a, e, h1, h2.go R G fun w => h3 w.hd, G.nohd _ _ h4 h3⟩
  | .val true .non, h => h
  | .val true (.bl _), h => h
  | .val true (.int _), h => h
  | .val true (.str _), h => h
  | .val true (.tup _), h => Den.mono (R.le G) _ _ h
  | .val true .hand, h => h
  | .val true (.obj _ _ _), h => Den.mono (R.le G) _ _ h
  | .val true (.pin _ _), h => Den.mono (R.le G) _ _ h
  | .val false d, h => Den.mono (R.le G) _ _ h
  | .loc i, h => by
    show S'.σ[i]? = _
    rw [es]
    exact h
theorem Own.bor {a : Addr} {d : D} (h : Own g H0 S.F S.H a d) : Bor g S.F S.H d (.ref a) := by
  cases d with
  | lst ds =>
    obtain ⟨h1, h2, h3, vs, h4, h5⟩ := h
    exact ⟨a, vs, rfl, h4, h5⟩
  | dic ks ds =>
    obtain ⟨h1, h2, h3, h4⟩ := h
    exact ⟨a, rfl, h4⟩
  | pin p ds =>
    obtain ⟨h0, h1, h2, h3, vs, h4, h5⟩ := h
    exact ⟨by rw [h0], vs, by rw [h0]; exact h4, h5⟩
  | _ => exact h.elim
theorem RvOk.bor (R : Rep g H0 S) : ∀ {rv : RV} {d : D}, RvOk g H0 Hs S v rv → res rv S.m = some d → Bor g S.F S.H d v
  | .val true (.lst ds), d, h, e => by
    cases e
    obtain ⟨a, e, h1, h2, h3⟩ := h
    subst e
    exact h2.bor
  | .val true (.dic ks ds), d, h, e => by
    cases e
    obtain ⟨a, e, h1, h2, h3⟩ := h
    subst e
    exact h2.bor
  | .val true .non, d, h, e => by cases e; exact h
  | .val true (.bl _), d, h, e => by cases e; exact h
  | .val true (.int _), d, h, e => by cases e; exact h
  | .val true (.str _), d, h, e => by cases e; exact h
  | .val true (.tup _), d, h, e => by cases e; exact h
  | .val true .hand, d, h, e => by cases e; exact h
  | .val true (.obj _ _ _), d, h, e => by cases e; exact h
  | .val true (.pin _ _), d, h, e => by cases e; exact Den.bor h
  | .val false d', d, h, e => by
    cases e
    exact Den.bor h
  | .loc i, d, h, e => by
    have held : Hd S.m i d → Bor g S.F S.H d v := fun q => by
      obtain ⟨a, h1, h2⟩ := R.ow i _ q
      rw [show S.σ[i]? = some (some v) from h] at h1
      cases h1
      exact h2.bor
    simp only [res] at e
    cases q : S.m[i]? with
    | none => rw [q] at e; cases e
    | some s =>
      rw [q] at e
      cases s with
      | un => cases e
      | sh x =>
        cases e
        obtain ⟨u, h1, h2⟩ := R.sh i _ q
        rw [show S.σ[i]? = some (some v) from h] at h1
        cases h1
        exact h2.bor
      | ow x =>
        cases e
        exact held (.inl q)
      | lk x =>
        cases e
        exact held (.inr q)
end
end Dl
set_option maxHeartbeats 4000000
namespace Dl
open PySem PySem.Spec PyProof.Rows L2
section
variable {B : Tb} {g : Gh B} {H0 Hs : Hp} {S S0 S' : Sta} {v : V} {p a : Addr} {o : HO}

theorem updN (h : S.H p = none) {b : Addr} {u : HO} (e : S.H b = some u) : upd S.H p o b = some u := by
  rw [upd_ne (ne_of_none e h)]
  exact e
theorem HandAt.upd {H : Hp} {h : Addr} (x : HandAt H h) (n1 : h ≠ p) (n2 : ∀ ca r, H h = some (.lst (.ref ca :: r)) → ca ≠ p) : HandAt (upd H p o) h := by
  obtain ⟨ca, cells, q1, q2, q3, q4, h1, h2, h3, h4⟩ := x
  exact ⟨ca, cells, q1, q2, q3, q4, by rw [upd_ne n1]; exact h1, by rw [upd_ne (n2 _ _ h1)]; exact h2, h3, h4⟩

theorem Rep.alloc (R : Rep g H0 S) (h : S.H p = none) : Rep g H0 { S with H := upd S.H p o } := by
  have l : Le S.F S.H S.F (L2.upd S.H p o) := ⟨fun _ x => x, fun b u e _ => updN h e, fun b vs e => updN h e⟩
  refine ⟨R.len, fun i d e => ?_, fun i d e => ?_, R.inj, fun b u n e => updN h (R.keep b u n e), fun b f => ?_, fun b e => ?_⟩
  · obtain ⟨u, h1, h2⟩ := R.sh i d e
    exact ⟨u, h1, h2.mono l⟩
  · obtain ⟨b, h1, h2⟩ := R.ow i d e
    refine ⟨b, h1, ?_⟩
    cases d with
    | lst ds =>
      obtain ⟨k1, k2, k3, vs, k4, k5⟩ := h2
      exact ⟨k1, k2, k3, vs, updN h k4, k5.mono l⟩
    | dic ks ds =>
      obtain ⟨k1, k2, k3, ⟨es, k4, k5, k6⟩ | ⟨es, k4, k5, k6⟩⟩ := h2
      · exact ⟨k1, k2, k3, .inl ⟨es, updN h k4, k5, k6.mono l⟩⟩
      · exact ⟨k1, k2, k3, .inr ⟨es, updN h k4, k5, k6.mono l⟩⟩
    | pin q ds =>
      obtain ⟨k0, k1, k2, k3, vs, k4, k5⟩ := h2
      exact ⟨k0, k1, k2, k3, vs, updN h k4, k5.mono l⟩
    | _ => exact h2.elim
  · obtain ⟨u, e⟩ := R.dom b f
    exact ⟨u, updN h e⟩
  · obtain ⟨h1, h2, h3, h4⟩ := R.hand b e
    have nb : b ≠ p := fun z => R.haN h (z ▸ e)
    refine ⟨h1.upd nb fun ca r q z => ?_, h2, h3, fun ca r q => h4 ca r (by rw [← q]; exact (upd_ne nb).symm)⟩
    obtain ⟨u, k⟩ := h4 ca r q
    rw [z, R.none0 h] at k
    cases k
theorem Go.alloc (R : Rep g H0 S) (h : S.H p = none) : Go g S { S with H := upd S.H p o } :=
  ⟨fun _ x => x, fun b u e _ _ => updN h e, fun b u e => ⟨u, updN h e⟩, fun _ _ _ x _ => x, fun _ _ _ x => x, fun _ _ _ x => x, fun _ d _ q r => ⟨d, q, r⟩, fun b ca r e q => by
    have nb : b ≠ p := fun z => R.haN h (z ▸ e)
    exact ⟨r, (upd_ne nb).symm.trans q⟩⟩
theorem Rep.newL (R : Rep g H0 S) (h : S.H p = none) {ds : List D} {vs : List V} (hd : DenL g S.F S.H ds vs) (G : Go g S0 S) :
    RvOk g H0 S0.H { S with H := upd S.H p (.lst vs) } (.ref p) (.val true (.lst ds)) := by
  have l : Le S.F S.H S.F (L2.upd S.H p (.lst vs)) := ⟨fun _ x => x, fun b u e _ => updN h e, fun b vs e => updN h e⟩
  refine ⟨p, rfl, G.fresh h, ⟨fun f => ?_, R.none0 h, R.haN h, vs, upd_same, hd.mono l⟩, fun w => ?_⟩
  · obtain ⟨u, e⟩ := R.dom p f
    rw [h] at e
    cases e
  · obtain ⟨_, _, _, u, e, _⟩ := R.ownF (S := S) w
    rw [h] at e
    cases e
theorem Rep.newT (R : Rep g H0 S) (h : S.H p = none) {ds : List D} {vs : List V} (hd : DenL g S.F S.H ds vs) :
    Den g S.F (upd S.H p (.tup vs)) (.tup ds) (.ref p) :=
  ⟨p, vs, rfl, upd_same, hd.mono ⟨fun _ x => x, fun b u e _ => updN h e, fun b vs e => updN h e⟩⟩

theorem Own.den {H : Hp} {F : Addr → Prop} {d : D} (h : Own g H0 F H a d) : Den g (fun x => F x ∨ x = a) H d (.ref a) := by
  have l : Le F H (fun x => F x ∨ x = a) H := ⟨fun _ x => .inl x, fun _ _ x _ => x, fun _ _ x => x⟩
  cases d with
  | lst ds =>
    obtain ⟨k1, k2, k3, vs, k4, k5⟩ := h
    exact ⟨a, vs, rfl, .inr rfl, k4, k5.mono l⟩
  | dic ks ds =>
    obtain ⟨k1, k2, k3, ⟨es, k4, k5, k6⟩ | ⟨es, k4, k5, k6⟩⟩ := h
    · exact ⟨a, rfl, .inr rfl, .inl ⟨es, k4, k5, k6.mono l⟩⟩
    · exact ⟨a, rfl, .inr rfl, .inr ⟨es, k4, k5, k6.mono l⟩⟩
  | pin q ds =>
    obtain ⟨k0, k1, k2, k3, vs, k4, k5⟩ := h
    exact ⟨by rw [k0], .inr k0, vs, by rw [k0]; exact k4, k5.mono l⟩
  | _ => exact h.elim
theorem Own.moreF {H : Hp} {F : Addr → Prop} {b : Addr} {d : D} (h : Own g H0 F H b d) (n : b ≠ a) : Own g H0 (fun x => F x ∨ x = a) H b d := by
  have l : Le F H (fun x => F x ∨ x = a) H := ⟨fun _ x => .inl x, fun _ _ x _ => x, fun _ _ x => x⟩
  cases d with
  | lst ds =>
    obtain ⟨k1, k2, k3, vs, k4, k5⟩ := h
    exact ⟨fun z => z.elim k1 n, k2, k3, vs, k4, k5.mono l⟩
  | dic ks ds =>
    obtain ⟨k1, k2, k3, ⟨es, k4, k5, k6⟩ | ⟨es, k4, k5, k6⟩⟩ := h
    · exact ⟨fun z => z.elim k1 n, k2, k3, .inl ⟨es, k4, k5, k6.mono l⟩⟩
    · exact ⟨fun z => z.elim k1 n, k2, k3, .inr ⟨es, k4, k5, k6.mono l⟩⟩
  | pin q ds =>
    obtain ⟨k0, k1, k2, k3, vs, k4, k5⟩ := h
    exact ⟨k0, fun z => z.elim k1 n, k2, k3, vs, k4, k5.mono l⟩
  | _ => exact h.elim
theorem frz_tmp (R : Rep g H0 S) (G : Go g S0 S) {d : D} (hn : S0.H a = none) (h : Own g H0 S.F S.H a d) (w : ¬ Holds S a) :
    Rep g H0 { S with F := fun x => S.F x ∨ x = a } ∧ Go g S0 { S with F := fun x => S.F x ∨ x = a } := by
  obtain ⟨k1, k2, k3, u, k4, k5⟩ := h.nf
  have l : Le S.F S.H (fun x => S.F x ∨ x = a) S.H := ⟨fun _ x => .inl x, fun _ _ x _ => x, fun _ _ x => x⟩
  refine ⟨⟨R.len, fun i d e => ?_, fun i d e => ?_, R.inj, R.keep, fun b f => ?_, fun b e => ?_⟩, fun b x => .inl (G.f b x), G.keep, G.there, fun b u e x y z => ?_, G.noow, G.nohd, G.lkk, G.hd⟩
  · obtain ⟨u, h1, h2⟩ := R.sh i d e
    exact ⟨u, h1, h2.mono l⟩
  · obtain ⟨b, h1, h2⟩ := R.ow i d e
    exact ⟨b, h1, h2.moreF fun z => w (z ▸ ⟨i, d, e, h1⟩)⟩
  · rcases f with f | rfl
    · exact R.dom b f
    · exact ⟨u, k4⟩
  · obtain ⟨h1, h2, h3, h4⟩ := R.hand b e
    exact ⟨h1, fun z => z.elim h2 fun z => k3 (z ▸ e), h3, h4⟩
  · rcases z with z | rfl
    · exact G.nofr b u e x y z
    · rw [hn] at e
      cases e
theorem get_set {α : Type} {l : List α} {i j : Nat} {x y : α} (h : (l.set i x)[j]? = some y) : (j = i ∧ y = x) ∨ (j ≠ i ∧ l[j]? = some y) := by
  by_cases e : i = j
  · subst e
    by_cases hl : i < l.length
    · rw [List.getElem?_set_self hl] at h
      exact .inl ⟨rfl, (Option.some.inj h).symm⟩
    · rw [List.getElem?_eq_none (by simpa using Nat.le_of_not_lt hl)] at h
      cases h
  · rw [List.getElem?_set_ne e] at h
    exact .inr ⟨fun z => e z.symm, h⟩
theorem hd_set {m : Em} {i j : Nat} {s : Sl} {e : D} (n1 : ∀ d, s ≠ .ow d) (n2 : ∀ d, s ≠ .lk d) (h : Hd (m.set i s) j e) : j ≠ i ∧ Hd m j e := by
  rcases h with h | h
  · rcases get_set h with ⟨_, q⟩ | ⟨n, q⟩
    · exact absurd q.symm (n1 e)
    · exact ⟨n, .inl q⟩
  · rcases get_set h with ⟨_, q⟩ | ⟨n, q⟩
    · exact absurd q.symm (n2 e)
    · exact ⟨n, .inr q⟩
theorem hd_set_sh {m : Em} {i j : Nat} {d e : D} (h : Hd (m.set i (.sh d)) j e) : j ≠ i ∧ Hd m j e := hd_set (by intro _ q; cases q) (by intro _ q; cases q) h
theorem frz_slot (R : Rep g H0 S) (G : Go g S0 S) {i : Nat} {d : D} (h : S.m[i]? = some (.ow d)) (hs : S.σ[i]? = some (some (.ref a))) :
    Rep g H0 { S with F := fun x => S.F x ∨ x = a, m := S.m.set i (.sh d) } ∧ Go g S0 { S with F := fun x => S.F x ∨ x = a, m := S.m.set i (.sh d) } ∧ Den g (fun x => S.F x ∨ x = a) S.H d (.ref a) := by
  have w : Owns S a := ⟨i, d, h, hs⟩
  obtain ⟨b, hb1, hb2⟩ := R.ow i d (.inl h)
  rw [hs] at hb1
  cases hb1
  obtain ⟨k1, k2, k3, u, k4, k5⟩ := hb2.nf
  have l : Le S.F S.H (fun x => S.F x ∨ x = a) S.H := ⟨fun _ x => .inl x, fun _ _ x _ => x, fun _ _ x => x⟩
  have sub : ∀ b, Owns { S with F := fun x => S.F x ∨ x = a, m := S.m.set i (.sh d) } b → Owns S b := fun b ⟨j, e, h1, h2⟩ => by
    rcases get_set h1 with ⟨_, q⟩ | ⟨_, q⟩
    · cases q
    · exact ⟨j, e, q, h2⟩
  have subH : ∀ b, Holds { S with F := fun x => S.F x ∨ x = a, m := S.m.set i (.sh d) } b → Holds S b := fun b ⟨j, e, h1, h2⟩ => ⟨j, e, (hd_set_sh h1).2, h2⟩
  refine ⟨⟨by simpa using R.len, fun j e q => ?_, fun j e q => ?_, fun j k e f b q1 q2 => R.inj j k e f b (hd_set_sh q1).2 (hd_set_sh q2).2, R.keep, fun b f => ?_, fun b e => ?_⟩,
    ⟨fun b x => .inl (G.f b x), G.keep, G.there, fun b u e x y z => ?_, fun b u e y z => G.noow b u e y (sub b z), fun b u e y z => G.nohd b u e y (subH b z), fun j e b q r => ?_, G.hd⟩, hb2.den⟩
  · rcases get_set q with ⟨q1, q2⟩ | ⟨_, q⟩
    · cases q2
      exact ⟨.ref a, by rw [q1]; exact hs, hb2.den⟩
    · obtain ⟨u, h1, h2⟩ := R.sh j e q
      exact ⟨u, h1, h2.mono l⟩
  · obtain ⟨n, q⟩ := hd_set_sh q
    obtain ⟨b, h1, h2⟩ := R.ow j e q
    exact ⟨b, h1, h2.moreF fun z => n (R.inj j i e d a q (.inl h) (z ▸ h1) hs)⟩
  · rcases f with f | rfl
    · exact R.dom b f
    · exact ⟨u, k4⟩
  · obtain ⟨h1, h2, h3, h4⟩ := R.hand b e
    exact ⟨h1, fun z => z.elim h2 fun z => k3 (z ▸ e), h3, h4⟩
  · rcases z with z | rfl
    · exact G.nofr b u e x y z
    · exact G.noow b u e y w
  · rcases get_set q with ⟨_, q⟩ | ⟨_, q⟩
    · cases q
    · exact G.lkk j e b q r

theorem esc_ok (R : Rep g H0 S) (G : Go g S0 S) {rv : RV} {Q : D → Em → Prop} (h : RvOk g H0 S0.H S v rv) (q : escK Q rv S.m) :
    ∃ (S' : Sta) (d : D), S'.σ = S.σ ∧ S'.H = S.H ∧ Rep g H0 S' ∧ Go g S0 S' ∧ Den g S'.F S'.H d v ∧ Q d S'.m := by
  have plain : ∀ (d : D), Den g S.F S.H d v → Q d S.m → ∃ (S' : Sta) (d : D), S'.σ = S.σ ∧ S'.H = S.H ∧ Rep g H0 S' ∧ Go g S0 S' ∧ Den g S'.F S'.H d v ∧ Q d S'.m :=
    fun d hd hq => ⟨S, d, rfl, rfl, R, G, hd, hq⟩
  cases rv with
  | val fr d =>
    cases fr with
    | false => exact plain d h q
    | true =>
      cases d with
      | lst ds =>
        obtain ⟨a, e, h1, h2, h3⟩ := h
        subst e
        obtain ⟨R', G'⟩ := frz_tmp R G h1 h2 h3
        exact ⟨{ S with F := fun x => S.F x ∨ x = a }, _, rfl, rfl, R', G', h2.den, q⟩
      | dic ks ds =>
        obtain ⟨a, e, h1, h2, h3⟩ := h
        subst e
        obtain ⟨R', G'⟩ := frz_tmp R G h1 h2 h3
        exact ⟨{ S with F := fun x => S.F x ∨ x = a }, _, rfl, rfl, R', G', h2.den, q⟩
      | _ => exact plain _ h q
  | loc i =>
    have q' : (match S.m[i]? with
      | some (.ow d) => Q d (S.m.set i (.sh d))
      | some (.sh d) => Q d S.m
      | _ => False) := q
    cases e : S.m[i]? with
    | none => rw [e] at q'; exact q'.elim
    | some s =>
      rw [e] at q'
      cases s with
      | un => exact q'.elim
      | sh d =>
        obtain ⟨u, h1, h2⟩ := R.sh i d e
        rw [show S.σ[i]? = some (some v) from h] at h1
        cases h1
        exact plain d h2 q'
      | lk d => exact q'.elim
      | ow d =>
        obtain ⟨a, h1, h2⟩ := R.ow i d (.inl e)
        rw [show S.σ[i]? = some (some v) from h] at h1
        cases h1
        obtain ⟨R', G', D'⟩ := frz_slot R G e h
        exact ⟨{ S with F := fun x => S.F x ∨ x = a, m := S.m.set i (.sh d) }, d, rfl, rfl, R', G', D', q'⟩

theorem old_get {α : Type} {l : List α} {i j : Nat} {x y : α} (n : j ≠ i) (h : (l.set i x)[j]? = some y) : l[j]? = some y := by
  rw [List.getElem?_set_ne (Ne.symm n)] at h
  exact h
theorem new_get {α : Type} {l : List α} {i j : Nat} {x y : α} (n : j ≠ i) (h : l[j]? = some y) : (l.set i x)[j]? = some y := by
  rw [List.getElem?_set_ne (Ne.symm n)]
  exact h
theorem Rep.setN (R : Rep g H0 S) (G : Go g S0 S) {i : Nat} {s : Sl} {x : Option V} (n1 : ∀ d, s ≠ .ow d) (n2 : ∀ d, s ≠ .lk d) (hi : i < S.σ.length) (h : ∀ d, s = .sh d → ∃ v, x = some v ∧ Den g S.F S.H d v) :
    Rep g H0 { S with m := S.m.set i s, σ := S.σ.set i x } ∧ Go g S0 { S with m := S.m.set i s, σ := S.σ.set i x } := by
  have sub : ∀ b, Owns { S with m := S.m.set i s, σ := S.σ.set i x } b → Owns S b := fun b ⟨j, e, h1, h2⟩ => by
    rcases get_set h1 with ⟨_, q⟩ | ⟨n, q⟩
    · exact absurd q.symm (n1 e)
    · exact ⟨j, e, q, old_get n h2⟩
  have subH : ∀ b, Holds { S with m := S.m.set i s, σ := S.σ.set i x } b → Holds S b := fun b ⟨j, e, h1, h2⟩ =>
    ⟨j, e, (hd_set n1 n2 h1).2, old_get (hd_set n1 n2 h1).1 h2⟩
  refine ⟨⟨by simpa using R.len, fun j e q => ?_, fun j e q => ?_, fun j k e f b q1 q2 q3 q4 => ?_, R.keep, R.dom, R.hand⟩, G.f, G.keep, G.there, G.nofr, fun b u e y z => G.noow b u e y (sub b z), fun b u e y z => G.nohd b u e y (subH b z), fun j e b q r => ?_, G.hd⟩
  · rcases get_set q with ⟨q1, q2⟩ | ⟨n, q⟩
    · subst q1
      obtain ⟨v, rfl, hv⟩ := h e q2.symm
      exact ⟨v, List.getElem?_set_self hi, hv⟩
    · obtain ⟨u, h1, h2⟩ := R.sh j e q
      exact ⟨u, new_get n h1, h2⟩
  · obtain ⟨n, q⟩ := hd_set n1 n2 q
    obtain ⟨b, h1, h2⟩ := R.ow j e q
    exact ⟨b, new_get n h1, h2⟩
  · obtain ⟨m1, p1⟩ := hd_set n1 n2 q1
    obtain ⟨m2, p2⟩ := hd_set n1 n2 q2
    exact R.inj j k e f b p1 p2 (old_get m1 q3) (old_get m2 q4)
  · rcases get_set q with ⟨_, q⟩ | ⟨n, q⟩
    · exact absurd q.symm (n2 e)
    · exact G.lkk j e b q (old_get n r)
theorem Rep.setSh (R : Rep g H0 S) (G : Go g S0 S) {i : Nat} {d : D} (hi : i < S.σ.length) (h : Den g S.F S.H d v) :
    Rep g H0 { S with m := S.m.set i (.sh d), σ := S.σ.set i (some v) } ∧ Go g S0 { S with m := S.m.set i (.sh d), σ := S.σ.set i (some v) } :=
  R.setN G (by intro _ q; cases q) (by intro _ q; cases q) hi fun e q => by
    cases q
    exact ⟨v, rfl, h⟩
theorem Rep.setOw (R : Rep g H0 S) (G : Go g S0 S) {i : Nat} {d : D} (hi : i < S.σ.length) (hn : ∀ u, S0.H a = some u → Owns S0 a) (h : Own g H0 S.F S.H a d) (w : ¬ Holds S a) :
    Rep g H0 { S with m := S.m.set i (.ow d), σ := S.σ.set i (some (.ref a)) } ∧ Go g S0 { S with m := S.m.set i (.ow d), σ := S.σ.set i (some (.ref a)) } := by
  have here : (S.σ.set i (some (V.ref a)))[i]? = some (some (.ref a)) := List.getElem?_set_self hi
  have at_i : ∀ {l : Nat} {c : Addr}, l = i → (S.σ.set i (some (.ref a)))[l]? = some (some (V.ref c)) → c = a := fun z r => by
    rw [z, here] at r
    cases r
    rfl
  have hds : ∀ {j : Nat} {e : D}, Hd (S.m.set i (.ow d)) j e → (j = i ∧ e = d) ∨ (j ≠ i ∧ Hd S.m j e) := fun q => by
    rcases q with q | q
    · rcases get_set q with ⟨q1, q2⟩ | ⟨n, q⟩
      · cases q2
        exact .inl ⟨q1, rfl⟩
      · exact .inr ⟨n, .inl q⟩
    · rcases get_set q with ⟨_, q2⟩ | ⟨n, q⟩
      · cases q2
      · exact .inr ⟨n, .inr q⟩
  have sub : ∀ b, Owns { S with m := S.m.set i (.ow d), σ := S.σ.set i (some (.ref a)) } b → b = a ∨ Owns S b := fun b ⟨j, e, h1, h2⟩ => by
    rcases get_set h1 with ⟨q, _⟩ | ⟨n, q⟩
    · exact .inl (at_i q h2)
    · exact .inr ⟨j, e, q, old_get n h2⟩
  have subH : ∀ b, Holds { S with m := S.m.set i (.ow d), σ := S.σ.set i (some (.ref a)) } b → b = a ∨ Holds S b := fun b ⟨j, e, h1, h2⟩ => by
    rcases hds h1 with ⟨q, _⟩ | ⟨n, q⟩
    · exact .inl (at_i q h2)
    · exact .inr ⟨j, e, q, old_get n h2⟩
  refine ⟨⟨by simpa using R.len, fun j e q => ?_, fun j e q => ?_, fun j k e f b q1 q2 q3 q4 => ?_, R.keep, R.dom, R.hand⟩, G.f, G.keep, G.there, G.nofr, fun b u e y z => ?_, fun b u e y z => ?_, fun j e b q r => ?_, G.hd⟩
  · rcases get_set q with ⟨_, q2⟩ | ⟨n, q⟩
    · cases q2
    · obtain ⟨u, h1, h2⟩ := R.sh j e q
      exact ⟨u, new_get n h1, h2⟩
  · rcases hds q with ⟨q1, q2⟩ | ⟨n, q⟩
    · subst q1 q2
      exact ⟨a, here, h⟩
    · obtain ⟨b, h1, h2⟩ := R.ow j e q
      exact ⟨b, new_get n h1, h2⟩
  · rcases hds q1 with ⟨r1, _⟩ | ⟨n1, p1⟩
    · rcases hds q2 with ⟨r2, _⟩ | ⟨n2, p2⟩
      · rw [r1, r2]
      · have eb := at_i r1 q3
        exact (w ⟨k, f, p2, eb ▸ old_get n2 q4⟩).elim
    · rcases hds q2 with ⟨r2, _⟩ | ⟨n2, p2⟩
      · have eb := at_i r2 q4
        exact (w ⟨j, e, p1, eb ▸ old_get n1 q3⟩).elim
      · exact R.inj j k e f b p1 p2 (old_get n1 q3) (old_get n2 q4)
  · rcases sub b z with rfl | z
    · exact y (hn u e)
    · exact G.noow b u e y z
  · rcases subH b z with rfl | z
    · exact y (hn u e).hd
    · exact G.nohd b u e y z
  · rcases get_set q with ⟨_, q⟩ | ⟨n, q⟩
    · cases q
    · exact G.lkk j e b q (old_get n r)
theorem set_ok (R : Rep g H0 S) (G : Go g S0 S) {rv : RV} {i : Nat} {Q : Em → Prop} (hi : i < S.σ.length) (h : RvOk g H0 S0.H S v rv) (q : setK0 i rv S.m Q) :
    ∃ S' : Sta, S'.σ = S.σ.set i (some v) ∧ S'.H = S.H ∧ Rep g H0 S' ∧ Go g S0 S' ∧ Q S'.m := by
  have plain : ∀ (d : D), Den g S.F S.H d v → Q (S.m.set i (.sh d)) → ∃ S' : Sta, S'.σ = S.σ.set i (some v) ∧ S'.H = S.H ∧ Rep g H0 S' ∧ Go g S0 S' ∧ Q S'.m := fun d hd hq => by
    obtain ⟨R', G'⟩ := R.setSh G hi hd
    exact ⟨{ S with m := S.m.set i (.sh d), σ := S.σ.set i (some v) }, rfl, rfl, R', G', hq⟩
  cases rv with
  | val fr d =>
    cases fr with
    | false => exact plain d h q
    | true =>
      cases d with
      | lst ds =>
        obtain ⟨a, e, h1, h2, h3⟩ := h
        subst e
        obtain ⟨R', G'⟩ := R.setOw G hi (fun u z => by rw [h1] at z; cases z) h2 h3
        exact ⟨{ S with m := S.m.set i (.ow (.lst ds)), σ := S.σ.set i (some (.ref a)) }, rfl, rfl, R', G', q⟩
      | dic ks ds =>
        obtain ⟨a, e, h1, h2, h3⟩ := h
        subst e
        obtain ⟨R', G'⟩ := R.setOw G hi (fun u z => by rw [h1] at z; cases z) h2 h3
        exact ⟨{ S with m := S.m.set i (.ow (.dic ks ds)), σ := S.σ.set i (some (.ref a)) }, rfl, rfl, R', G', q⟩
      | _ => exact plain _ h q
  | loc j =>
    have q' : (match S.m[j]? with
      | some (.ow d) => movK (Q ((S.m.set j (.sh d)).set i (.sh d))) (Q ((S.m.set j .un).set i (.ow d)))
      | some (.sh d) => Q (S.m.set i (.sh d))
      | _ => False) := q
    cases e : S.m[j]? with
    | none => rw [e] at q'; exact q'.elim
    | some s =>
      rw [e] at q'
      cases s with
      | un => exact q'.elim
      | sh d =>
        obtain ⟨u, h1, h2⟩ := R.sh j d e
        rw [show S.σ[j]? = some (some v) from h] at h1
        cases h1
        exact plain d h2 q'
      | lk d => exact q'.elim
      | ow d =>
        obtain ⟨a, h1, h2⟩ := R.ow j d (.inl e)
        rw [show S.σ[j]? = some (some v) from h] at h1
        cases h1
        rcases q' with q' | q'
        · obtain ⟨R', G', D'⟩ := frz_slot R G e h
          obtain ⟨R'', G''⟩ := R'.setSh G' hi D'
          exact ⟨{ S with F := fun x => S.F x ∨ x = a, m := (S.m.set j (.sh d)).set i (.sh d), σ := S.σ.set i (some (.ref a)) }, rfl, rfl, R'', G'', q'⟩
        · have hj : S.σ[j]? = some (some (.ref a)) := h
          have jl : j < S.σ.length := (List.getElem?_eq_some_iff.mp hj).1
          have same : S.σ.set j (some (.ref a)) = S.σ := by
            apply List.ext_getElem?
            intro k
            by_cases z : j = k
            · subst z
              rw [List.getElem?_set_self jl, hj]
            · rw [List.getElem?_set_ne z]
          have RG := R.setN G (i := j) (s := .un) (x := some (.ref a)) (by intro _ q; cases q) (by intro _ q; cases q) jl (by intro _ q; cases q)
          rw [same] at RG
          obtain ⟨R', G'⟩ := RG
          have w : ¬ Holds { S with m := S.m.set j .un } a := fun ⟨k, e', q1, q2⟩ => by
            obtain ⟨n, q1⟩ := hd_set (by intro _ q; cases q) (by intro _ q; cases q) q1
            exact n (R.inj k j e' d a q1 (.inl e) q2 hj)
          have hn : ∀ u, S0.H a = some u → Owns S0 a := fun u z => Classical.byContradiction fun y => G.noow a u z y ⟨j, d, e, hj⟩
          obtain ⟨R'', G''⟩ := Rep.setOw (S := { S with m := S.m.set j .un }) R' G' hi hn h2 w
          exact ⟨{ S with m := (S.m.set j .un).set i (.ow d), σ := S.σ.set i (some (.ref a)) }, rfl, rfl, R'', G'', q'⟩

theorem Rep.leW (R : Rep g H0 S) (w : Owns S a) : Le S.F S.H S.F (upd S.H a o) := by
  obtain ⟨k1, k2, k3, u, k4, k5⟩ := R.ownF w.hd
  refine ⟨fun _ x => x, fun b u' e f => ?_, fun b vs e => ?_⟩
  · have nb : b ≠ a := fun z => k1 (z ▸ f)
    exact (upd_ne nb).trans e
  · have nb : b ≠ a := fun z => by
      rw [z, k4] at e
      cases e
      exact k5
    exact (upd_ne nb).trans e
theorem Rep.write (R : Rep g H0 S) {i : Nat} {x y : D} (h : S.m[i]? = some (.ow x)) (hs : S.σ[i]? = some (some (.ref a))) (hy : Own g H0 S.F (upd S.H a o) a y) :
    Rep g H0 { S with H := upd S.H a o, m := S.m.set i (.ow y) } ∧ Go g S { S with H := upd S.H a o, m := S.m.set i (.ow y) } := by
  have w : Owns S a := ⟨i, x, h, hs⟩
  obtain ⟨k1, k2, k3, u, k4, k5⟩ := R.ownF w.hd
  have l : Le S.F S.H S.F (L2.upd S.H a o) := R.leW w
  have ne : ∀ {b : Addr} {u' : HO}, H0 b = some u' → b ≠ a := fun e z => by
    rw [z, k2] at e
    cases e
  have hds : ∀ {j : Nat} {e : D}, Hd (S.m.set i (.ow y)) j e → (j = i ∧ e = y) ∨ (j ≠ i ∧ Hd S.m j e) := fun q => by
    rcases q with q | q
    · rcases get_set q with ⟨q1, q2⟩ | ⟨n, q⟩
      · cases q2
        exact .inl ⟨q1, rfl⟩
      · exact .inr ⟨n, .inl q⟩
    · rcases get_set q with ⟨_, q2⟩ | ⟨n, q⟩
      · cases q2
      · exact .inr ⟨n, .inr q⟩
  have hdo : ∀ {j : Nat} {e : D}, Hd (S.m.set i (.ow y)) j e → ∃ e', Hd S.m j e' := fun q => by
    rcases hds q with ⟨q, _⟩ | ⟨_, q⟩
    · exact ⟨x, q ▸ .inl h⟩
    · exact ⟨_, q⟩
  have sub : ∀ b, Owns { S with H := upd S.H a o, m := S.m.set i (.ow y) } b → Owns S b := fun b ⟨j, e, h1, h2⟩ => by
    rcases get_set h1 with ⟨q, _⟩ | ⟨n, q⟩
    · subst q
      exact ⟨j, x, h, h2⟩
    · exact ⟨j, e, q, h2⟩
  have subH : ∀ b, Holds { S with H := upd S.H a o, m := S.m.set i (.ow y) } b → Holds S b := fun b ⟨j, e, h1, h2⟩ => by
    obtain ⟨e', q⟩ := hdo h1
    exact ⟨j, e', q, h2⟩
  refine ⟨⟨by simpa using R.len, fun j e q => ?_, fun j e q => ?_, fun j k e f b q1 q2 q3 q4 => ?_, fun b u' n e => ?_, fun b f => ?_, fun b e => ?_⟩,
    fun _ z => z, fun b u' e n z => ?_, fun b u' e => ?_, fun _ _ _ z _ => z, fun b u' e y' z => y' (sub b z), fun b u' e y' z => y' (subH b z), fun j e b q r => ?_, fun b ca r e q => ?_⟩
  · rcases get_set q with ⟨_, q2⟩ | ⟨n, q⟩
    · cases q2
    · obtain ⟨u', h1, h2⟩ := R.sh j e q
      exact ⟨u', h1, h2.mono l⟩
  · rcases hds q with ⟨q1, q2⟩ | ⟨n, q⟩
    · subst q1 q2
      exact ⟨a, hs, hy⟩
    · obtain ⟨b, h1, h2⟩ := R.ow j e q
      have nb : b ≠ a := fun z => n (R.inj j i e x b q (.inl h) h1 (z ▸ hs))
      refine ⟨b, h1, ?_⟩
      cases e with
      | lst ds =>
        obtain ⟨j1, j2, j3, vs, j4, j5⟩ := h2
        exact ⟨j1, j2, j3, vs, (upd_ne nb).trans j4, j5.mono l⟩
      | dic ks ds =>
        obtain ⟨j1, j2, j3, ⟨es, j4, j5, j6⟩ | ⟨es, j4, j5, j6⟩⟩ := h2
        · exact ⟨j1, j2, j3, .inl ⟨es, (upd_ne nb).trans j4, j5, j6.mono l⟩⟩
        · exact ⟨j1, j2, j3, .inr ⟨es, (upd_ne nb).trans j4, j5, j6.mono l⟩⟩
      | pin q ds =>
        obtain ⟨j0, j1, j2, j3, vs, j4, j5⟩ := h2
        exact ⟨j0, j1, j2, j3, vs, (upd_ne nb).trans j4, j5.mono l⟩
      | _ => exact h2.elim
  · obtain ⟨e1, o1⟩ := hdo q1
    obtain ⟨e2, o2⟩ := hdo q2
    exact R.inj j k e1 e2 b o1 o2 q3 q4
  · exact (upd_ne (ne e)).trans (R.keep b u' n e)
  · by_cases z : b = a
    · subst z
      exact ⟨o, upd_same⟩
    · obtain ⟨u', e⟩ := R.dom b f
      exact ⟨u', (upd_ne z).trans e⟩
  · obtain ⟨h1, h2, h3, h4⟩ := R.hand b e
    have nb : b ≠ a := fun z => k3 (z ▸ e)
    refine ⟨h1.upd nb fun ca r q => ?_, h2, h3, fun ca r q => h4 ca r (by rw [← q]; exact (upd_ne nb).symm)⟩
    obtain ⟨u', k⟩ := h4 ca r q
    exact ne k
  · have nb : b ≠ a := fun q => z (q ▸ w)
    exact (upd_ne nb).trans e
  · by_cases z : b = a
    · subst z
      exact ⟨o, upd_same⟩
    · exact ⟨u', (upd_ne z).trans e⟩
  · rcases get_set q with ⟨_, q⟩ | ⟨n, q⟩
    · cases q
    · exact ⟨e, q, r⟩
  · have nb : b ≠ a := fun z => k3 (z ▸ e)
    exact ⟨r, (upd_ne nb).symm.trans q⟩

theorem hd_swap {m : Em} {i : Nat} {d : D} {s : Sl} (h : Hd m i d) (hs : s = .ow d ∨ s = .lk d) {j : Nat} {e : D} (q : Hd (m.set i s) j e) : Hd m j e := by
  rcases q with q | q
  · rcases get_set q with ⟨rfl, q2⟩ | ⟨_, q⟩
    · rcases hs with rfl | rfl
      · cases q2
        exact h
      · cases q2
    · exact .inl q
  · rcases get_set q with ⟨rfl, q2⟩ | ⟨_, q⟩
    · rcases hs with rfl | rfl
      · cases q2
      · cases q2
        exact h
    · exact .inr q
theorem Rep.swap (R : Rep g H0 S) {i : Nat} {d : D} {s : Sl} (h : Hd S.m i d) (hs : s = .ow d ∨ s = .lk d) : Rep g H0 { S with m := S.m.set i s } := by
  refine ⟨by simpa using R.len, fun j e q => ?_, fun j e q => R.ow j e (hd_swap h hs q), fun j k e f b q1 q2 => R.inj j k e f b (hd_swap h hs q1) (hd_swap h hs q2), R.keep, R.dom, R.hand⟩
  rcases get_set q with ⟨_, q2⟩ | ⟨_, q⟩
  · rcases hs with rfl | rfl <;> cases q2
  · exact R.sh j e q
structure Lk {B : Tb} (g : Gh B) (S0 S : Sta) (js : List Nat) : Prop where
  f : ∀ a, S0.F a → S.F a
  keep : ∀ a o, S0.H a = some o → g.ha ≠ some a → ¬ Owns S0 a → S.H a = some o
  there : ∀ a o, S0.H a = some o → ∃ o', S.H a = some o'
  nofr : ∀ a o, S0.H a = some o → ¬ S0.F a → ¬ Owns S0 a → ¬ S.F a
  noow : ∀ a o, S0.H a = some o → ¬ Owns S0 a → ¬ Owns S a
  nohd : ∀ a o, S0.H a = some o → ¬ Holds S0 a → ¬ Holds S a
  lkk : ∀ (j : Nat) (d : D) (a : Addr), S.m[j]? = some (.lk d) → S.σ[j]? = some (some (.ref a)) → (∃ d', S0.m[j]? = some (.lk d') ∧ S0.σ[j]? = some (some (.ref a))) ∨ (j ∈ js ∧ (Owns S0 a ∨ S0.H a = none))
  hd : ∀ (a ca : Addr) (r : List V), g.ha = some a → S.H a = some (.lst (.ref ca :: r)) → ∃ r', S0.H a = some (.lst (.ref ca :: r'))
theorem Go.lk (G : Go g S0 S) : Lk g S0 S [] := ⟨G.f, G.keep, G.there, G.nofr, G.noow, G.nohd, fun j d a h k => .inl (G.lkk j d a h k), G.hd⟩
theorem Lk.go {js : List Nat} (L : Lk g S0 S js) (G : Go g S S') : Lk g S0 S' js where
  f := fun x h => G.f x (L.f x h)
  keep := fun x o h n w => G.keep x o (L.keep x o h n w) n (L.noow x o h w)
  there := fun x o h => by
    obtain ⟨o', h'⟩ := L.there x o h
    exact G.there x o' h'
  nofr := fun x o h n w => by
    obtain ⟨o', h'⟩ := L.there x o h
    exact G.nofr x o' h' (L.nofr x o h n w) (L.noow x o h w)
  noow := fun x o h w => by
    obtain ⟨o', h'⟩ := L.there x o h
    exact G.noow x o' h' (L.noow x o h w)
  nohd := fun x o h w => by
    obtain ⟨o', h'⟩ := L.there x o h
    exact G.nohd x o' h' (L.nohd x o h w)
  lkk := fun j d x h k => by
    obtain ⟨d', h', k'⟩ := G.lkk j d x h k
    exact L.lkk j d' x h' k'
  hd := fun x ca r e h => by
    obtain ⟨r', h'⟩ := G.hd x ca r e h
    exact L.hd x ca r' e h'
theorem Lk.fresh {js : List Nat} (L : Lk g S0 S js) (h : S.H p = none) : S0.H p = none := by
  cases e : S0.H p with
  | none => rfl
  | some o =>
    obtain ⟨o', h'⟩ := L.there p o e
    rw [h'] at h
    cases h
theorem Lk.lock {js : List Nat} (R : Rep g H0 S) (L : Lk g S0 S js) {i : Nat} {d : D} (h : S.m[i]? = some (.ow d)) :
    Rep g H0 { S with m := S.m.set i (.lk d) } ∧ Lk g S0 { S with m := S.m.set i (.lk d) } (js ++ [i]) := by
  have sub : ∀ b, Owns { S with m := S.m.set i (.lk d) } b → Owns S b := fun b ⟨j, e, h1, h2⟩ => by
    rcases get_set h1 with ⟨_, q⟩ | ⟨_, q⟩
    · cases q
    · exact ⟨j, e, q, h2⟩
  have subH : ∀ b, Holds { S with m := S.m.set i (.lk d) } b → Holds S b := fun b ⟨j, e, h1, h2⟩ => ⟨j, e, hd_swap (.inl h) (.inr rfl) h1, h2⟩
  refine ⟨R.swap (.inl h) (.inr rfl), L.f, L.keep, L.there, L.nofr, fun b u e y z => L.noow b u e y (sub b z), fun b u e y z => L.nohd b u e y (subH b z), fun j e b q r => ?_, L.hd⟩
  rcases get_set q with ⟨rfl, q2⟩ | ⟨_, q⟩
  · by_cases w : Owns S0 b
    · exact .inr ⟨by simp, .inl w⟩
    · cases e0 : S0.H b with
      | none => exact .inr ⟨by simp, .inr rfl⟩
      | some o => exact (L.noow b o e0 w ⟨j, d, h, r⟩).elim
  · rcases L.lkk j e b q r with z | ⟨z1, z2⟩
    · exact .inl z
    · exact .inr ⟨List.mem_append_left _ z1, z2⟩
theorem unlock_get : ∀ (js : List Nat) (m : Em) (j : Nat), (unlock js m)[j]? = m[j]? ∨ (j ∈ js ∧ ∃ d, m[j]? = some (.lk d) ∧ (unlock js m)[j]? = some (.ow d))
  | [], _, _ => .inl rfl
  | i :: is, m, j => by
    have ih := unlock_get is m j
    show (match (unlock is m)[i]? with
      | some (.lk d) => (unlock is m).set i (.ow d)
      | _ => unlock is m)[j]? = _ ∨ (_ ∧ ∃ d, _ ∧ (match (unlock is m)[i]? with
      | some (.lk d) => (unlock is m).set i (.ow d)
      | _ => unlock is m)[j]? = _)
    have same : (unlock is m)[j]? = m[j]? ∨ (j ∈ i :: is ∧ ∃ d, m[j]? = some (.lk d) ∧ (unlock is m)[j]? = some (.ow d)) := by
      rcases ih with h | ⟨h1, h2⟩
      · exact .inl h
      · exact .inr ⟨List.mem_cons_of_mem _ h1, h2⟩
    split
    · rename_i d q
      by_cases e : i = j
      · subst e
        have hl : i < (unlock is m).length := (List.getElem?_eq_some_iff.mp q).1
        rcases ih with h | ⟨h1, e', h2, h3⟩
        · exact .inr ⟨by simp, d, by rw [← h]; exact q, List.getElem?_set_self hl⟩
        · rw [q] at h3
          cases h3
      · rw [List.getElem?_set_ne e]
        exact same
    · exact same
theorem unlock_len : ∀ (js : List Nat) (m : Em), (unlock js m).length = m.length
  | [], _ => rfl
  | i :: is, m => by
    show (match (unlock is m)[i]? with
      | some (.lk d) => (unlock is m).set i (.ow d)
      | _ => unlock is m).length = _
    split
    · rw [List.length_set, unlock_len is m]
    · exact unlock_len is m
theorem unlock_not : ∀ (js : List Nat) (m : Em) (j : Nat) (d : D), j ∈ js → (unlock js m)[j]? ≠ some (.lk d)
  | [], _, _, _, h => by simp at h
  | i :: is, m, j, d, h => by
    show (match (unlock is m)[i]? with
      | some (.lk d) => (unlock is m).set i (.ow d)
      | _ => unlock is m)[j]? ≠ _
    have ih : j ∈ is → (unlock is m)[j]? ≠ some (.lk d) := fun h => unlock_not is m j d h
    split
    · rename_i e q
      by_cases z : i = j
      · subst z
        rw [List.getElem?_set_self (List.getElem?_eq_some_iff.mp q).1]
        intro c
        cases c
      · rw [List.getElem?_set_ne z]
        rcases List.mem_cons.mp h with h | h
        · exact absurd h.symm z
        · exact ih h
    · rename_i q
      rcases List.mem_cons.mp h with h | h
      · subst h
        exact fun c => q d c
      · exact ih h
theorem owAt_at : ∀ {js : List Nat} {m : Em}, owAt m js → ∀ j ∈ js, ∃ d, m[j]? = some (.ow d)
  | [], _, _, _, h => by simp at h
  | i :: is, m, h, j, hj => by
    rcases List.mem_cons.mp hj with rfl | hj
    · have h1 := h.1
      split at h1
      · rename_i d q
        exact ⟨d, q⟩
      · exact h1.elim
    · exact owAt_at h.2 j hj
theorem Lk.unlock {js : List Nat} (R : Rep g H0 S) (L : Lk g S0 S js) (hj : owAt S0.m js) : Rep g H0 { S with m := Dl.unlock js S.m } ∧ Go g S0 { S with m := Dl.unlock js S.m } := by
  have hds : ∀ {j : Nat} {e : D}, Hd (Dl.unlock js S.m) j e → Hd S.m j e := fun {j e} q => by
    rcases unlock_get js S.m j with h | ⟨_, d, h1, h2⟩
    · rcases q with q | q
      · exact .inl (h ▸ q)
      · exact .inr (h ▸ q)
    · rcases q with q | q
      · rw [h2] at q
        cases q
        exact .inr h1
      · rw [h2] at q
        cases q
  have shs : ∀ {j : Nat} {e : D}, (Dl.unlock js S.m)[j]? = some (.sh e) → S.m[j]? = some (.sh e) := fun {j e} q => by
    rcases unlock_get js S.m j with h | ⟨_, d, h1, h2⟩
    · rw [← h]
      exact q
    · rw [h2] at q
      cases q
  refine ⟨⟨by show (Dl.unlock js S.m).length = _; rw [unlock_len]; exact R.len, fun j e q => R.sh j e (shs q), fun j e q => R.ow j e (hds q), fun j k e f b q1 q2 => R.inj j k e f b (hds q1) (hds q2), R.keep, R.dom, R.hand⟩,
    L.f, L.keep, L.there, L.nofr, fun b u e y z => ?_, fun b u e y ⟨j, d, z1, z2⟩ => L.nohd b u e y ⟨j, d, hds z1, z2⟩, fun j e b q r => ?_, L.hd⟩
  · obtain ⟨j, d, z1, z2⟩ := z
    rcases unlock_get js S.m j with h | ⟨hm, d', h1, h2⟩
    · exact L.noow b u e y ⟨j, d, by rw [← h]; exact z1, z2⟩
    · rcases L.lkk j d' b h1 z2 with ⟨d2, k1, k2⟩ | ⟨_, k | k⟩
      · obtain ⟨d3, k3⟩ := owAt_at hj j hm
        rw [k1] at k3
        cases k3
      · exact y k
      · rw [k] at e
        cases e
  · rcases unlock_get js S.m j with h | ⟨hm, d', h1, h2⟩
    · have q' : S.m[j]? = some (.lk e) := by rw [← h]; exact q
      rcases L.lkk j e b q' r with z | ⟨z1, _⟩
      · exact z
      · exact (unlock_not js S.m j e z1 q).elim
    · have q' : (Dl.unlock js S.m)[j]? = some (.lk e) := q
      rw [h2] at q'
      cases q'
end
end Dl
set_option maxHeartbeats 4000000
namespace Dl
open PySem PySem.Spec PyProof.Rows L2

mutual
theorem D.plain : ∀ (d : D) (p : PyData), D.py d = some p → p.plain = true
  | .non, _, h => by cases h; rfl
  | .bl _, _, h => by cases h; rfl
  | .int _, _, h => by cases h; rfl
  | .str _, _, h => by cases h; rfl
  | .tup xs, _, h => by
    simp only [D.py, Option.map_eq_some_iff] at h
    obtain ⟨ps, h1, rfl⟩ := h
    show PyData.plainAll ps = true
    exact pyAll_plain xs ps h1
  | .lst xs, _, h => by
    simp only [D.py, Option.map_eq_some_iff] at h
    obtain ⟨ps, h1, rfl⟩ := h
    show PyData.plainAll ps = true
    exact pyAll_plain xs ps h1
  | .dic _ _, _, h => by cases h
  | .hand, _, h => by cases h
  | .obj _ _ _, _, h => by cases h
  | .pin _ _, _, h => by cases h
theorem pyAll_plain : ∀ (xs : List D) (ps : List PyData), pyAll xs = some ps → PyData.plainAll ps = true
  | [], _, h => by cases h; rfl
  | x :: r, ps, h => by
    simp only [pyAll] at h
    cases h1 : D.py x with
    | none => rw [h1] at h; cases h
    | some a =>
      cases h2 : pyAll r with
      | none => rw [h1, h2] at h; cases h
      | some b =>
        rw [h1, h2] at h
        cases h
        show (a.plain && PyData.plainAll b) = true
        rw [D.plain x a h1, pyAll_plain r b h2]
        rfl
end

section
variable {B : Tb} {g : Gh B} {F : Addr → Prop} {H : Hp}
mutual
theorem Den.dp (K : PySem.W.Frag) : ∀ (d : D) (v : V) (p : PyData), Den g F H d v → D.py d = some p → Dp K H v p
  | .non, _, _, h, e => by cases h; cases e; exact .non
  | .bl _, _, _, h, e => by cases h; cases e; exact .bl _
  | .int _, _, _, h, e => by cases h; cases e; exact .int _
  | .str _, _, _, h, e => by cases h; cases e; exact .str _
  | .tup xs, _, _, h, e => by
    obtain ⟨a, vs, rfl, h1, h2⟩ := h
    simp only [D.py, Option.map_eq_some_iff] at e
    obtain ⟨ps, h3, rfl⟩ := e
    exact .tup (SqT.of h1) (DenL.dp K xs vs ps h2 h3)
  | .lst xs, _, _, h, e => by
    obtain ⟨a, vs, rfl, _, h1, h2⟩ := h
    simp only [D.py, Option.map_eq_some_iff] at e
    obtain ⟨ps, h3, rfl⟩ := e
    exact .lst (SqL.of h1) (DenL.dp K xs vs ps h2 h3)
  | .dic _ _, _, _, _, e => by cases e
  | .hand, _, _, _, e => by cases e
  | .obj _ _ _, _, _, _, e => by cases e
  | .pin _ _, _, _, _, e => by cases e
theorem DenL.dp (K : PySem.W.Frag) : ∀ (ds : List D) (vs : List V) (ps : List PyData), DenL g F H ds vs → pyAll ds = some ps → DpAll K H vs ps
  | [], [], _, _, e => by cases e; exact .nil
  | [], _ :: _, _, h, _ => h.elim
  | _ :: _, [], _, h, _ => h.elim
  | d :: ds, v :: vs, ps, h, e => by
    simp only [pyAll] at e
    cases h1 : D.py d with
    | none => rw [h1] at e; cases e
    | some a =>
      cases h2 : pyAll ds with
      | none => rw [h1, h2] at e; cases e
      | some b =>
        rw [h1, h2] at e
        cases e
        exact .cons (Den.dp K d v a h.1 h1) (DenL.dp K ds vs b h.2 h2)
end
theorem Bor.dp (K : PySem.W.Frag) {d : D} {v : V} {p : PyData} (h : Bor g F H d v) (e : D.py d = some p) : Dp K H v p := by
  cases d with
  | lst xs =>
    obtain ⟨a, vs, rfl, h1, h2⟩ := h
    simp only [D.py, Option.map_eq_some_iff] at e
    obtain ⟨ps, h3, rfl⟩ := e
    exact .lst (SqL.of h1) (DenL.dp K xs vs ps h2 h3)
  | dic _ _ => cases e
  | non => exact Den.dp K _ _ _ h e
  | bl _ => exact Den.dp K _ _ _ h e
  | int _ => exact Den.dp K _ _ _ h e
  | str _ => exact Den.dp K _ _ _ h e
  | tup _ => exact Den.dp K _ _ _ h e
  | hand => cases e
  | obj _ _ _ => cases e
  | pin _ _ => cases e
theorem DenL.ints : ∀ {ds : List D} {vs : List V} {ns : List Int}, DenL g F H ds vs → intsOf ds = some ns → vs = ns.map .int
  | [], [], _, _, e => by cases e; rfl
  | [], _ :: _, _, h, _ => h.elim
  | _ :: _, [], _, h, _ => h.elim
  | d :: ds, v :: vs, ns, h, e => by
    cases d with
    | int i =>
      simp only [intsOf, Option.map_eq_some_iff] at e
      obtain ⟨ms, h1, rfl⟩ := e
      have h2 : v = .int i := h.1
      rw [h2, DenL.ints h.2 h1]
      rfl
    | _ => cases e
theorem DenL.bools : ∀ {ds : List D} {vs : List V} {ns : List Bool}, DenL g F H ds vs → boolsOf ds = some ns → vs = ns.map .bl
  | [], [], _, _, e => by cases e; rfl
  | [], _ :: _, _, h, _ => h.elim
  | _ :: _, [], _, h, _ => h.elim
  | d :: ds, v :: vs, ns, h, e => by
    cases d with
    | bl i =>
      simp only [boolsOf, Option.map_eq_some_iff] at e
      obtain ⟨ms, h1, rfl⟩ := e
      have h2 : v = .bl i := h.1
      rw [h2, DenL.bools h.2 h1]
      rfl
    | _ => cases e
theorem DenL.strs : ∀ {ds : List D} {vs : List V} {ns : List Str}, DenL g F H ds vs → strsOf ds = some ns → vs = ns.map .str
  | [], [], _, _, e => by cases e; rfl
  | [], _ :: _, _, h, _ => h.elim
  | _ :: _, [], _, h, _ => h.elim
  | d :: ds, v :: vs, ns, h, e => by
    cases d with
    | str i =>
      simp only [strsOf, Option.map_eq_some_iff] at e
      obtain ⟨ms, h1, rfl⟩ := e
      have h2 : v = .str i := h.1
      rw [h2, DenL.strs h.2 h1]
      rfl
    | _ => cases e
end

def After {B : Tb} (g : Gh B) (H0 : Hp) (S : Sta) (Q : VK) (Qd : Bool → D → Prop) : Prop :=
  ∀ (S' : Sta) (v : V) (fr : Bool) (d : D), S'.σ = S.σ → S'.m = S.m → Rep g H0 S' → Go g S S' → RvOk g H0 S.H S' v (.val fr d) → Qd fr d → Q v S'.H
section
variable {B : Tb} {g : Gh B} {H0 : Hp} {S : Sta} {Q : VK} {Qd : Bool → D → Prop} {v v1 v2 : V} {x y d : D}
theorem After.same (k : After g H0 S Q Qd) (R : Rep g H0 S) (h : Den g S.F S.H d v) (q : Qd false d) : Q v S.H := k S v false d rfl rfl R .refl h q
theorem After.newL {ds : List D} {vs : List V} (k : After g H0 S Q Qd) (R : Rep g H0 S) (h : DenL g S.F S.H ds vs) (q : Qd true (.lst ds)) : ∀ p, S.H p = none → Q (.ref p) (upd S.H p (.lst vs)) := fun p hp =>
  k { S with H := upd S.H p (.lst vs) } (.ref p) true (.lst ds) rfl rfl (R.alloc hp) (Go.alloc R hp) (R.newL hp h .refl) q
theorem After.newT {ds : List D} {vs : List V} (k : After g H0 S Q Qd) (R : Rep g H0 S) (h : DenL g S.F S.H ds vs) (q : Qd false (.tup ds)) : ∀ p, S.H p = none → Q (.ref p) (upd S.H p (.tup vs)) := fun p hp =>
  k { S with H := upd S.H p (.tup vs) } (.ref p) false (.tup ds) rfl rfl (R.alloc hp) (Go.alloc R hp) (R.newT hp h) q
end

def OpSim (r : R2) (f : D → D → (Bool → D → Prop) → Prop) : Prop :=
  ∀ {B : Tb} (g : Gh B) (H0 : Hp) (S : Sta) (Q : VK) (Qd : Bool → D → Prop) (v1 v2 : V) (x y : D), Rep g H0 S → Bor g S.F S.H x v1 → Bor g S.F S.H y v2 → f x y Qd → After g H0 S Q Qd → r v1 v2 S.H Q

def rAddD (K : PySem.W.Frag) : R2 := fun x y H Q => rI0 (fun i j => .int (i + j)) x y H Q ∨
  ((fun x y H Q => ∃ i j, x = V.str i ∧ y = V.str j ∧ i.length + j.length ≤ sizeLine ∧ Q (V.str (i ++ j)) H) : R2) x y H Q ∨ (rCat x y H Q ∨ rCatA K x y H Q)
theorem or_add {X : Cx} : OpR X (binaryOp .Add) (rAddD X.K) := op_add.or (op_add_str.or (op_cat.or op_catA))
theorem sim_add (K : PySem.W.Frag) : OpSim (rAddD K) (binS .add) := by
  intro B g H0 S Q Qd v1 v2 x y R h1 h2 f k
  cases x with
  | int i =>
    cases y with
    | int j =>
      obtain rfl : v1 = .int i := h1
      obtain rfl : v2 = .int j := h2
      exact .inl ⟨i, j, rfl, rfl, k.same (d := .int (i + j)) R rfl f⟩
    | _ => exact f.elim
  | str i =>
    cases y with
    | str j =>
      obtain rfl : v1 = .str i := h1
      obtain rfl : v2 = .str j := h2
      exact .inr (.inl ⟨i, j, rfl, rfl, f.1, k.same (d := .str (i ++ j)) R rfl f.2⟩)
    | _ => exact f.elim
  | lst i =>
    cases y with
    | lst j =>
      obtain ⟨a, vs, rfl, ha, hv⟩ := h1
      obtain ⟨b, ws, rfl, hb, hw⟩ := h2
      exact .inr (.inr (.inl ⟨a, b, vs, ws, rfl, rfl, ha, hb, by rw [← hv.len, ← hw.len]; exact f.1, k.newL R (hv.append hw) f.2⟩))
    | _ => exact f.elim
  | tup i =>
    cases y with
    | tup j =>
      obtain ⟨a, vs, rfl, ha, hv⟩ := h1
      obtain ⟨b, ws, rfl, hb, hw⟩ := h2
      refine .inr (.inr (.inr ⟨a, b, vs, ws, rfl, rfl, SqT.of ha, SqT.of hb, by rw [← hv.len, ← hw.len]; exact f.1, fun e => ?_, fun _ e => ?_, fun _ _ => k.newT R (hv.append hw) f.2⟩))
      · refine k.same R ?_ f.2
        have e1 : i = [] := List.length_eq_zero_iff.mp (by rw [hv.len, e]; rfl)
        rw [e1]
        exact ⟨b, ws, rfl, hb, hw⟩
      · refine k.same R ?_ f.2
        have e1 : j = [] := List.length_eq_zero_iff.mp (by rw [hw.len, e]; rfl)
        rw [e1, List.append_nil]
        exact ⟨a, vs, rfl, ha, hv⟩
    | _ => exact f.elim
  | _ => exact f.elim
def rSubD : R2 := rI0 fun i j => .int (i - j)
theorem sim_sub : OpSim rSubD (binS .sub) := by
  intro B g H0 S Q Qd v1 v2 x y R h1 h2 f k
  cases x with
  | int i =>
    cases y with
    | int j =>
      obtain rfl : v1 = .int i := h1
      obtain rfl : v2 = .int j := h2
      exact ⟨i, j, rfl, rfl, k.same (d := .int (i - j)) R rfl f⟩
    | _ => exact f.elim
  | _ => exact f.elim
def rMulD (K : PySem.W.Frag) : R2 := fun x y H Q => rI CMul (fun i j => .int (i * j)) x y H Q ∨ (rI CMulW (fun i j => .int (i * j)) x y H Q ∨ (rRep x y H Q ∨ rRepT K x y H Q))
theorem or_mul {X : Cx} : OpR X (binaryOp .Mult) (rMulD X.K) := op_mul.or (op_mulW.or (op_rep.or op_repT))
theorem small_of {i : Int} {n : Nat} (h : i.natAbs < n) : -(n : Int) < i ∧ i < (n : Int) := by omega
theorem sim_mul (K : PySem.W.Frag) : OpSim (rMulD K) (binS .mul) := by
  intro B g H0 S Q Qd v1 v2 x y R h1 h2 f k
  cases x with
  | int i =>
    cases y with
    | int j =>
      obtain rfl : v1 = .int i := h1
      obtain rfl : v2 = .int j := h2
      obtain ⟨f1, f2⟩ := f
      rcases f1 with (f1 | f1) | ⟨f1, f3⟩
      · exact .inl ⟨i, j, rfl, rfl, .inl (small_of f1), k.same (d := .int (i * j)) R rfl f2⟩
      · exact .inl ⟨i, j, rfl, rfl, .inr (small_of f1), k.same (d := .int (i * j)) R rfl f2⟩
      · exact .inr (.inl ⟨i, j, rfl, rfl, wide_mul f1 f3 (by decide) (by decide) (by decide), k.same (d := .int (i * j)) R rfl f2⟩)
    | _ => exact f.elim
  | lst i =>
    cases y with
    | int j =>
      obtain ⟨a, vs, rfl, ha, hv⟩ := h1
      obtain rfl : v2 = .int j := h2
      exact .inr (.inr (.inl ⟨a, j, vs, rfl, rfl, ha, f.1, f.2.1, by rw [← hv.len]; exact f.2.2.1, k.newL R hv.flatten f.2.2.2⟩))
    | _ => exact f.elim
  | tup i =>
    cases y with
    | int j =>
      obtain ⟨a, vs, rfl, ha, hv⟩ := h1
      obtain rfl : v2 = .int j := h2
      refine .inr (.inr (.inr ⟨a, j, vs, rfl, rfl, SqT.of ha, fun e => f.1 (List.length_eq_zero_iff.mp (by rw [hv.len, e]; rfl)), f.2.1, f.2.2.1, by rw [← hv.len]; exact f.2.2.2.1, k.newT R hv.flatten f.2.2.2.2⟩))
    | _ => exact f.elim
  | _ => exact f.elim
def rFdvD : R2 := rI CDivW fun i j => .int (i / j)
theorem sim_fdv : OpSim rFdvD (binS .fdiv) := by
  intro B g H0 S Q Qd v1 v2 x y R h1 h2 f k
  cases x with
  | int i =>
    cases y with
    | int j =>
      obtain rfl : v1 = .int i := h1
      obtain rfl : v2 = .int j := h2
      exact ⟨i, j, rfl, rfl, wide_div f.1 f.2.1 (by decide) (by decide), k.same (d := .int (i / j)) R rfl f.2.2⟩
    | _ => exact f.elim
  | _ => exact f.elim
def rModD : R2 := rI (fun _ j => 0 < j) fun i j => .int (i % j)
theorem sim_mod : OpSim rModD (binS .mod) := by
  intro B g H0 S Q Qd v1 v2 x y R h1 h2 f k
  cases x with
  | int i =>
    cases y with
    | int j =>
      obtain rfl : v1 = .int i := h1
      obtain rfl : v2 = .int j := h2
      exact ⟨i, j, rfl, rfl, f.1, k.same (d := .int (i % j)) R rfl f.2⟩
    | _ => exact f.elim
  | _ => exact f.elim
def rPowD : R2 := rI CPow fun i j => .int (i ^ j.toNat)
theorem sim_pow : OpSim rPowD (binS .pow) := by
  intro B g H0 S Q Qd v1 v2 x y R h1 h2 f k
  cases x with
  | int i =>
    cases y with
    | int j =>
      obtain rfl : v1 = .int i := h1
      obtain rfl : v2 = .int j := h2
      exact ⟨i, j, rfl, rfl, ⟨f.1, f.2.1, f.2.2.1⟩, k.same (d := .int (i ^ j.toNat)) R rfl f.2.2.2⟩
    | _ => exact f.elim
  | _ => exact f.elim

section
variable {X : Cx}
def rEqP (K : PySem.W.Frag) : R2 := fun x y H Q => ∃ d e, Dp K H x d ∧ Dp K H y e ∧ d.plain = true ∧ e.plain = true ∧ d.depth ≤ 1000 ∧ Q (.bl (PyData.eqv d e)) H
def rNeP (K : PySem.W.Frag) : R2 := fun x y H Q => ∃ d e, Dp K H x d ∧ Dp K H y e ∧ d.plain = true ∧ e.plain = true ∧ d.depth ≤ 1000 ∧ Q (.bl (!PyData.eqv d e)) H
theorem op_eqP (hu : X.A.units + 3000 < cLine) : OpR X (compareOp .Eq) (rEqP X.K) := by
  intro pins s σ H x y v u Q I rx ry ⟨d, e, hd, he, sd, se, z, q⟩
  obtain ⟨as, r1⟩ := Dp.reads I d x v hd rx
  obtain ⟨bs, r2⟩ := Dp.reads I e y u he ry
  exact SeqAt.eq_plain r1 r2 sd se (by have := Nat.min_le_left d.depth e.depth; omega) ⟨.bl _, H, I, rfl, q⟩
theorem op_neP (hu : X.A.units + 3000 < cLine) : OpR X (compareOp .NotEq) (rNeP X.K) := by
  intro pins s σ H x y v u Q I rx ry ⟨d, e, hd, he, sd, se, z, q⟩
  obtain ⟨as, r1⟩ := Dp.reads I d x v hd rx
  obtain ⟨bs, r2⟩ := Dp.reads I e y u he ry
  exact SeqAt.ne_plain r1 r2 sd se (by have := Nat.min_le_left d.depth e.depth; omega) ⟨.bl _, H, I, rfl, q⟩
def rInP (K : PySem.W.Frag) (neg : Bool) : R2 := fun x y H Q => ∃ d ds, Dp K H x d ∧ (Dp K H y (.list ds) ∨ Dp K H y (.tuple ds)) ∧ d.plain = true ∧ PyData.plainAll ds = true ∧ d.depth ≤ 1000 ∧
  Q (.bl (if neg then !(ds.any fun z => PyData.eqv z d) else ds.any fun z => PyData.eqv z d)) H
theorem op_inP (hu : X.A.units + 3000 < cLine) : OpR X (compareOp .In) (rInP X.K false) := by
  intro pins s σ H x y v u Q I rx ry ⟨d, ds, hd, he, sd, se, z, q⟩
  obtain ⟨as, r1⟩ := Dp.reads I d x v hd rx
  have b : X.A.units + 1 + min (PyData.depthAll ds) d.depth < cLine := by have := Nat.min_le_right (PyData.depthAll ds) d.depth; omega
  rcases he with he | he
  · obtain ⟨bs, r2⟩ := Dp.reads I _ y u he ry
    exact SeqAt.in_list_data r2 r1 se sd b ⟨.bl _, H, I, rfl, q⟩
  · obtain ⟨bs, r2⟩ := Dp.reads I _ y u he ry
    exact SeqAt.in_tuple_data r2 r1 se sd b ⟨.bl _, H, I, rfl, q⟩
theorem op_notInP (hu : X.A.units + 3000 < cLine) : OpR X (compareOp .NotIn) (rInP X.K true) := by
  intro pins s σ H x y v u Q I rx ry ⟨d, ds, hd, he, sd, se, z, q⟩
  obtain ⟨as, r1⟩ := Dp.reads I d x v hd rx
  have b : X.A.units + 1 + min (PyData.depthAll ds) d.depth < cLine := by have := Nat.min_le_right (PyData.depthAll ds) d.depth; omega
  rcases he with he | he
  · obtain ⟨bs, r2⟩ := Dp.reads I _ y u he ry
    exact SeqAt.notIn_list_data r2 r1 se sd b ⟨.bl _, H, I, rfl, q⟩
  · obtain ⟨bs, r2⟩ := Dp.reads I _ y u he ry
    exact SeqAt.notIn_tuple_data r2 r1 se sd b ⟨.bl _, H, I, rfl, q⟩
end

def CmpSim (r : R2) (f : D → D → (Bool → Prop) → Prop) : Prop :=
  ∀ {B : Tb} (g : Gh B) (H0 : Hp) (S : Sta) (Q : VK) (Qd : Bool → Prop) (v1 v2 : V) (x y : D), Rep g H0 S → Bor g S.F S.H x v1 → Bor g S.F S.H y v2 → f x y Qd → (∀ b, Qd b → Q (.bl b) S.H) → r v1 v2 S.H Q

def rEqA (K : PySem.W.Frag) : R2 := fun x y H Q => rEq x y H Q ∨ rEqP K x y H Q
def rNeA (K : PySem.W.Frag) : R2 := fun x y H Q => rNe x y H Q ∨ rNeP K x y H Q
theorem decInj {α : Type} [DecidableEq α] (f : α → V) (hf : ∀ a b, f a = f b → a = b) (a b : α) : decide (f a = f b) = decide (a = b) :=
  decide_eq_decide.mpr ⟨hf a b, fun e => by rw [e]⟩
theorem eqS_cases {x y : D} {Qd : Bool → Prop} (f : eqS x y Qd) : (∃ i j, x = .int i ∧ y = .int j ∧ Qd (decide (i = j))) ∨ (∃ i j, x = .str i ∧ y = .str j ∧ Qd (decide (i = j))) ∨ (∃ i j, x = .bl i ∧ y = .bl j ∧ Qd (decide (i = j))) ∨
    ∃ p q, D.py x = some p ∧ D.py y = some q ∧ p.depth ≤ 1000 ∧ Qd (PyData.eqv p q) := by
  unfold eqS at f
  split at f
  · exact .inl ⟨_, _, rfl, rfl, f⟩
  · exact .inr (.inl ⟨_, _, rfl, rfl, f⟩)
  · exact .inr (.inr (.inl ⟨_, _, rfl, rfl, f⟩))
  · exact .inr (.inr (.inr f))
theorem sim_eq (K : PySem.W.Frag) : CmpSim (rEqA K) (cmpS .eq) := by
  intro B g H0 S Q Qd v1 v2 x y R h1 h2 f k
  rcases eqS_cases f with ⟨i, j, rfl, rfl, q⟩ | ⟨i, j, rfl, rfl, q⟩ | ⟨i, j, rfl, rfl, q⟩ | ⟨p, q, e1, e2, z, f⟩
  · obtain rfl : v1 = .int i := h1
    obtain rfl : v2 = .int j := h2
    exact .inl ⟨rfl, by rw [decInj V.int fun a b e => V.int.inj e]; exact k _ q⟩
  · obtain rfl : v1 = .str i := h1
    obtain rfl : v2 = .str j := h2
    exact .inl ⟨rfl, by rw [decInj V.str fun a b e => V.str.inj e]; exact k _ q⟩
  · obtain rfl : v1 = .bl i := h1
    obtain rfl : v2 = .bl j := h2
    exact .inl ⟨rfl, by rw [decInj V.bl fun a b e => V.bl.inj e]; exact k _ q⟩
  · exact .inr ⟨p, q, h1.dp K e1, h2.dp K e2, D.plain _ _ e1, D.plain _ _ e2, z, k _ f⟩
theorem sim_ne (K : PySem.W.Frag) : CmpSim (rNeA K) (cmpS .ne) := by
  intro B g H0 S Q Qd v1 v2 x y R h1 h2 f k
  rcases eqS_cases (Qd := fun b => Qd (!b)) f with ⟨i, j, rfl, rfl, q⟩ | ⟨i, j, rfl, rfl, q⟩ | ⟨i, j, rfl, rfl, q⟩ | ⟨p, q, e1, e2, z, f⟩
  · obtain rfl : v1 = .int i := h1
    obtain rfl : v2 = .int j := h2
    exact .inl ⟨rfl, by rw [decInj V.int fun a b e => V.int.inj e]; exact k _ q⟩
  · obtain rfl : v1 = .str i := h1
    obtain rfl : v2 = .str j := h2
    exact .inl ⟨rfl, by rw [decInj V.str fun a b e => V.str.inj e]; exact k _ q⟩
  · obtain rfl : v1 = .bl i := h1
    obtain rfl : v2 = .bl j := h2
    exact .inl ⟨rfl, by rw [decInj V.bl fun a b e => V.bl.inj e]; exact k _ q⟩
  · exact .inr ⟨p, q, h1.dp K e1, h2.dp K e2, D.plain _ _ e1, D.plain _ _ e2, z, k _ f⟩
theorem sim_ord {p : Int → Int → Bool} {o : Co} (ho : ∀ x y Q, cmpS o x y Q = match x, y with
    | .int i, .int j => Q (p i j)
    | _, _ => False) : CmpSim (rI0 fun i j => .bl (p i j)) (cmpS o) := by
  intro B g H0 S Q Qd v1 v2 x y R h1 h2 f k
  rw [ho] at f
  cases x with
  | int i =>
    cases y with
    | int j =>
      obtain rfl : v1 = .int i := h1
      obtain rfl : v2 = .int j := h2
      exact ⟨i, j, rfl, rfl, k _ f⟩
    | _ => exact f.elim
  | _ => exact f.elim
def rStrIn (neg : Bool) : R2 := fun x y H Q => ∃ i j, x = .str i ∧ y = .str j ∧ Q (.bl (if neg then !(!(Builtin.Str.occurrences j i 0 j.length 1).isEmpty) else !(Builtin.Str.occurrences j i 0 j.length 1).isEmpty)) H
def rInA (K : PySem.W.Frag) (neg : Bool) : R2 := fun x y H Q => rStrIn neg x y H Q ∨ rInP K neg x y H Q
theorem inS_cases {x c : D} {Qd : Bool → Prop} (f : inS x c Qd) : (∃ i j, x = .str i ∧ c = .str j ∧ Qd (!(Builtin.Str.occurrences j i 0 j.length 1).isEmpty)) ∨
    ∃ xs p ps, (c = .lst xs ∨ c = .tup xs) ∧ D.py x = some p ∧ pyAll xs = some ps ∧ p.depth ≤ 1000 ∧ Qd (ps.any fun y => PyData.eqv y p) := by
  unfold inS at f
  split at f
  · exact .inl ⟨_, _, rfl, rfl, f⟩
  · obtain ⟨p, ps, h⟩ := f
    exact .inr ⟨_, p, ps, .inl rfl, h⟩
  · obtain ⟨p, ps, h⟩ := f
    exact .inr ⟨_, p, ps, .inr rfl, h⟩
  · exact f.elim
theorem in_dp {B : Tb} {g : Gh B} {S : Sta} {c : D} {xs : List D} {v : V} {ps : List PyData} (K : PySem.W.Frag) (h : Bor g S.F S.H c v) (e : c = .lst xs ∨ c = .tup xs) (hp : pyAll xs = some ps) : Dp K S.H v (.list ps) ∨ Dp K S.H v (.tuple ps) := by
  rcases e with rfl | rfl
  · exact .inl (h.dp K (by simp [D.py, hp]))
  · exact .inr (h.dp K (by simp [D.py, hp]))
theorem sim_in (K : PySem.W.Frag) : CmpSim (rInA K false) (cmpS .isin) := by
  intro B g H0 S Q Qd v1 v2 x y R h1 h2 f k
  rcases inS_cases f with ⟨i, j, rfl, rfl, q⟩ | ⟨xs, p, ps, e, e1, e2, z, f⟩
  · obtain rfl : v1 = .str i := h1
    obtain rfl : v2 = .str j := h2
    exact .inl ⟨i, j, rfl, rfl, k _ q⟩
  · exact .inr ⟨p, ps, h1.dp K e1, in_dp K h2 e e2, D.plain _ _ e1, pyAll_plain _ _ e2, z, k _ f⟩
theorem sim_notin (K : PySem.W.Frag) : CmpSim (rInA K true) (cmpS .notin) := by
  intro B g H0 S Q Qd v1 v2 x y R h1 h2 f k
  rcases inS_cases (Qd := fun b => Qd (!b)) f with ⟨i, j, rfl, rfl, q⟩ | ⟨xs, p, ps, e, e1, e2, z, f⟩
  · obtain rfl : v1 = .str i := h1
    obtain rfl : v2 = .str j := h2
    exact .inl ⟨i, j, rfl, rfl, k _ q⟩
  · exact .inr ⟨p, ps, h1.dp K e1, in_dp K h2 e e2, D.plain _ _ e1, pyAll_plain _ _ e2, z, k _ f⟩
theorem or_in {X : Cx} (hu : X.A.units + 3000 < cLine) : OpR X (compareOp .In) (rInA X.K false) := op_in_str.or (op_inP hu)
theorem or_notin {X : Cx} (hu : X.A.units + 3000 < cLine) : OpR X (compareOp .NotIn) (rInA X.K true) := op_notin_str.or (op_notInP hu)
theorem or_eq {X : Cx} (hu : X.A.units + 3000 < cLine) : OpR X (compareOp .Eq) (rEqA X.K) := op_eq.or (op_eqP hu)
theorem or_ne {X : Cx} (hu : X.A.units + 3000 < cLine) : OpR X (compareOp .NotEq) (rNeA X.K) := op_ne.or (op_neP hu)
theorem Bor.nonD {B : Tb} {g : Gh B} {S : Sta} {x : D} {v : V} (h : Bor g S.F S.H x v) : decide (v = V.non) = isNon x := by
  cases x with
  | non => obtain rfl : v = .non := h; rfl
  | bl b => obtain rfl : v = .bl b := h; rfl
  | int b => obtain rfl : v = .int b := h; rfl
  | str b => obtain rfl : v = .str b := h; rfl
  | tup xs => obtain ⟨a, vs, rfl, _⟩ := h; rfl
  | lst xs => obtain ⟨a, vs, rfl, _⟩ := h; rfl
  | dic xs ys => obtain ⟨a, rfl, _⟩ := h; rfl
  | hand => obtain ⟨a, _, rfl⟩ := h; rfl
  | obj c a xs => obtain ⟨rfl, _⟩ := h; rfl
  | pin a xs => obtain ⟨rfl, _⟩ := h; rfl
def rIsT : R2 := fun x y H Q => (∃ a b, x = .bl a ∧ y = .bl b ∧ Q (.bl (decide (a = b))) H) ∨ (y = .non ∧ Q (.bl (decide (x = .non))) H)
def rIsF : R2 := fun x y H Q => (∃ a b, x = .bl a ∧ y = .bl b ∧ Q (.bl (!decide (a = b))) H) ∨ (y = .non ∧ Q (.bl (!decide (x = .non))) H)
theorem isS_cases {x y : D} {Q : Bool → Prop} (f : cmpS .is x y Q) : (∃ i j, x = .bl i ∧ y = .bl j ∧ Q (decide (i = j))) ∨ (y = .non ∧ Q (isNon x)) := by
  unfold cmpS at f
  dsimp only at f
  split at f
  · exact .inl ⟨_, _, rfl, rfl, f⟩
  · have e : y = .non := by cases y <;> first | rfl | cases f.1
    exact .inr ⟨e, f.2⟩
theorem isnotS_cases {x y : D} {Q : Bool → Prop} (f : cmpS .isnot x y Q) : (∃ i j, x = .bl i ∧ y = .bl j ∧ Q (!decide (i = j))) ∨ (y = .non ∧ Q (!isNon x)) := by
  unfold cmpS at f
  dsimp only at f
  split at f
  · exact .inl ⟨_, _, rfl, rfl, f⟩
  · have e : y = .non := by cases y <;> first | rfl | cases f.1
    exact .inr ⟨e, f.2⟩
theorem sim_is : CmpSim rIsT (cmpS .is) := by
  intro B g H0 S Q Qd v1 v2 x y R h1 h2 f k
  rcases isS_cases f with ⟨i, j, rfl, rfl, q⟩ | ⟨rfl, q⟩
  · obtain rfl : v1 = .bl i := h1
    obtain rfl : v2 = .bl j := h2
    exact .inl ⟨i, j, rfl, rfl, k _ q⟩
  · refine .inr ⟨h2, ?_⟩
    rw [h1.nonD]
    exact k _ q
theorem sim_isnot : CmpSim rIsF (cmpS .isnot) := by
  intro B g H0 S Q Qd v1 v2 x y R h1 h2 f k
  rcases isnotS_cases f with ⟨i, j, rfl, rfl, q⟩ | ⟨rfl, q⟩
  · obtain rfl : v1 = .bl i := h1
    obtain rfl : v2 = .bl j := h2
    exact .inl ⟨i, j, rfl, rfl, k _ q⟩
  · refine .inr ⟨h2, ?_⟩
    rw [h1.nonD]
    exact k _ q
theorem or_isT {X : Cx} : OpR X (compareOp .Is) rIsT := op_is_bl.or op_isN
theorem or_isF {X : Cx} : OpR X (compareOp .IsNot) rIsF := op_isnot_bl.or op_notN
end Dl
set_option maxHeartbeats 4000000
namespace Dl
open PySem PySem.Spec PyProof.Rows L2

def XR {B : Tb} (g : Gh B) (S : Sta) (c : Nat) (o : Option D) (cls : Value) (d : Option Addr) : Prop :=
  ∃ fn : Option Str, B.xc c = some (cls, fn) ∧ (match o, fn with
    | none, none => True
    | some x, some f => ∃ (dx : Addr) (v : V), d = some dx ∧ S.H dx = some (.xd [(f, v)]) ∧ Den g S.F S.H x v
    | _, _ => False)
abbrev EXT := L2.St → XK
def OkE {B : Tb} (g : Gh B) (H0 : Hp) (S : Sta) (Q : VK) (Qd : RV → Em → Prop) : Prop :=
  ∀ (S' : Sta) (v : V) (rv : RV), S'.σ = S.σ → Rep g H0 S' → Go g S S' → RvOk g H0 S.H S' v rv → Qd rv S'.m → Q v S'.H
def OkX {B : Tb} (g : Gh B) (H0 : Hp) (S : Sta) (EX : EXT) (K : XD) : Prop :=
  ∀ (S' : Sta) (c : Nat) (o : Option D) (cls : Value) (d : Option Addr), S'.σ = S.σ → Rep g H0 S' → Go g S S' → XR g S' c o cls d → K c o S'.m → EX S'.σ cls d S'.H
def OkD {B : Tb} (n : Nat) (g : Gh B) (H0 : Hp) (S : Sta) (Q : List V → Hp → Prop) (Qd : List D → Em → Prop) : Prop :=
  ∀ (S' : Sta) (vs : List V) (ds : List D), ds.length = n → S'.σ = S.σ → Rep g H0 S' → Go g S S' → DenL g S'.F S'.H ds vs → Qd ds S'.m → Q vs S'.H
def frD : RV → Bool
  | .val true (.lst _) => true
  | .val true (.dic _ _) => true
  | _ => false
def Aprt (v : V) (r : RV) : List V → List RV → Prop
  | w :: ws, s :: ss => (frD r = true → frD s = true → w ≠ v) ∧ Aprt v r ws ss
  | _, _ => True
def RvAll {B : Tb} (g : Gh B) (H0 Hs : Hp) (S : Sta) : List V → List RV → Prop
  | [], [] => True
  | v :: vs, r :: rs => RvOk g H0 Hs S v r ∧ Aprt v r vs rs ∧ RvAll g H0 Hs S vs rs
  | _, _ => False
def OkR {B : Tb} (g : Gh B) (H0 : Hp) (S : Sta) (Q : List V → Hp → Prop) (Qd : List RV → Em → Prop) : Prop :=
  ∀ (S' : Sta) (vs : List V) (rs : List RV), S'.σ = S.σ → Rep g H0 S' → Go g S S' → RvAll g H0 S.H S' vs rs → Qd rs S'.m → Q vs S'.H
def OkB {B : Tb} (g : Gh B) (H0 : Hp) (S : Sta) (Q : Bool → Hp → Prop) (Qd : Bool → Em → Prop) : Prop :=
  ∀ (S' : Sta) (b : Bool), S'.σ = S.σ → Rep g H0 S' → Go g S S' → Qd b S'.m → Q b S'.H

section
variable (C : Cn) (EX : EXT)
def SimE (t : TE) (e : E) : Prop := ∀ (g : Gh C.tb) (H0 : Hp) (S : Sta) (Q : VK) (Qd : RV → Em → Prop) (K : XD), Rep g H0 S → wpE C e S.m Qd K → OkE g H0 S Q Qd → OkX g H0 S EX K → t S.σ S.H Q
def wpB (e : E) (m : Em) (Q : Bool → Em → Prop) (K : XD) : Prop := wpE C e m (fun r m1 => resK r m1 fun d => onK (tru d) fun b => Q b m1) K
def SimB (t : TT) (e : E) : Prop := ∀ (g : Gh C.tb) (H0 : Hp) (S : Sta) (Q : Bool → Hp → Prop) (Qd : Bool → Em → Prop) (K : XD), Rep g H0 S → wpB C e S.m Qd K → OkB g H0 S Q Qd → OkX g H0 S EX K → t S.σ S.H Q
def SimXs (t : TA) (es : Es) : Prop := ∀ (g : Gh C.tb) (H0 : Hp) (S : Sta) (Q : List V → Hp → Prop) (Qd : List D → Em → Prop) (K : XD), Rep g H0 S → wpXs C es S.m Qd K → OkD es.len g H0 S Q Qd → OkX g H0 S EX K → t S.σ S.H Q
def SimOs (t : TA) (es : Es) : Prop := ∀ (g : Gh C.tb) (H0 : Hp) (S : Sta) (Q : List V → Hp → Prop) (Qd : List RV → Em → Prop) (K : XD), Rep g H0 S → wpOs C es S.m Qd K → OkR g H0 S Q Qd → OkX g H0 S EX K → t S.σ S.H Q
def SimOe (t : TO) (e : Oe) : Prop := ∀ (g : Gh C.tb) (H0 : Hp) (S : Sta) (Q : Option Int → Hp → Prop) (Qd : Option Int → Em → Prop) (K : XD), Rep g H0 S → wpOe C e S.m Qd K →
  (∀ (S' : Sta) (o : Option Int), S'.σ = S.σ → Rep g H0 S' → Go g S S' → Qd o S'.m → Q o S'.H) → OkX g H0 S EX K → t S.σ S.H Q
def SimTs (t : TT) (e : Oe) : Prop := ∀ (g : Gh C.tb) (H0 : Hp) (S : Sta) (Q : Bool → Hp → Prop) (Qd : Bool → Em → Prop) (K : XD), Rep g H0 S → wpTest C e S.m Qd K → OkB g H0 S Q Qd → OkX g H0 S EX K → t S.σ S.H Q
end

section
variable {B : Tb} {g : Gh B} {H0 Hs : Hp} {S S1 S2 S' : Sta} {EX : EXT} {K : XD} {C : Cn} {Q : VK} {Qd : RV → Em → Prop} {v : V} {rv : RV} {d : D}
theorem OkX.go (x : OkX g H0 S EX K) (G : Go g S S1) (es : S1.σ = S.σ) : OkX g H0 S1 EX K := fun S' c o cls d e R G' q k => x S' c o cls d (e.trans es) R (G.trans G') q k
theorem RvOk.back (G : Go g S S1) : ∀ {rv : RV}, RvOk g H0 S1.H S' v rv → RvOk g H0 S.H S' v rv
  | .val true (.lst ds), h => by
    obtain ⟨a, e, h1, h2, h3⟩ := h
    exact ⟨a, e, G.fresh h1, h2, h3⟩
  | .val true (.dic ks ds), h => by
    obtain ⟨a, e, h1, h2, h3⟩ := h
    exact ⟨a, e, G.fresh h1, h2, h3⟩
  | .val true .non, h => h
  | .val true (.bl _), h => h
  | .val true (.int _), h => h
  | .val true (.str _), h => h
  | .val true (.tup _), h => h
  | .val true .hand, h => h
  | .val true (.obj _ _ _), h => h
  | .val true (.pin _ _), h => h
  | .val false _, h => h
  | .loc _, h => h
theorem RvOk.frThere : ∀ {rv : RV}, RvOk g H0 Hs S v rv → frD rv = true → ∃ a, v = .ref a ∧ ∃ o, S.H a = some o
  | .val true (.lst ds), h, _ => by
    obtain ⟨a, e, h1, h2, h3⟩ := h
    obtain ⟨_, _, _, o, h4, _⟩ := h2.nf
    exact ⟨a, e, o, h4⟩
  | .val true (.dic ks ds), h, _ => by
    obtain ⟨a, e, h1, h2, h3⟩ := h
    obtain ⟨_, _, _, o, h4, _⟩ := h2.nf
    exact ⟨a, e, o, h4⟩
theorem RvOk.frNone : ∀ {rv : RV}, RvOk g H0 Hs S v rv → frD rv = true → ∃ a, v = .ref a ∧ Hs a = none
  | .val true (.lst ds), h, _ => by
    obtain ⟨a, e, h1, h2, h3⟩ := h
    exact ⟨a, e, h1⟩
  | .val true (.dic ks ds), h, _ => by
    obtain ⟨a, e, h1, h2, h3⟩ := h
    exact ⟨a, e, h1⟩
theorem OkE.go (k : OkE g H0 S Q Qd) (G : Go g S S1) (es : S1.σ = S.σ) : OkE g H0 S1 Q Qd := fun S' v rv e R G' o q => k S' v rv (e.trans es) R (G.trans G') (o.back G) q
theorem OkB.go {Q : Bool → Hp → Prop} {Qd : Bool → Em → Prop} (k : OkB g H0 S Q Qd) (G : Go g S S1) (es : S1.σ = S.σ) : OkB g H0 S1 Q Qd := fun S' b e R G' q => k S' b (e.trans es) R (G.trans G') q
theorem OkE.after (k : OkE g H0 S Q Qd) (G : Go g S S1) (es : S1.σ = S.σ) : After g H0 S1 Q fun fr d => Qd (.val fr d) S1.m := fun S' v fr d e em R G' o q =>
  k S' v (.val fr d) (e.trans es) R (G.trans G') (o.back G) (by rw [em]; exact q)
theorem resK_some {m : Em} {P : D → Prop} (h : resK rv m P) : ∃ d, res rv m = some d ∧ P d := by
  unfold resK at h
  cases e : res rv m with
  | none => rw [e] at h; exact h.elim
  | some d =>
    rw [e] at h
    exact ⟨d, rfl, h⟩
theorem RvOk.plain (R : Rep g H0 S) (h : Den g S.F S.H d v) : RvOk g H0 Hs S v (.val false d) := h

theorem SimE.var {i : Nat} : SimE C EX (tVar i) (.var i) := by
  intro g H0 S Q Qd K R w k x
  simp only [wpE] at w
  cases e : S.m[i]? with
  | none => rw [e] at w; exact w.elim
  | some s =>
    rw [e] at w
    cases s with
    | un => exact w.elim
    | sh d =>
      obtain ⟨v, h1, h2⟩ := R.sh i d e
      exact ⟨v, h1, k S v (.val false d) rfl R .refl h2 w⟩
    | ow d =>
      obtain ⟨a, h1, h2⟩ := R.ow i d (.inl e)
      exact ⟨_, h1, k S _ (.loc i) rfl R .refl h1 w⟩
    | lk d =>
      obtain ⟨a, h1, h2⟩ := R.ow i d (.inr e)
      exact ⟨_, h1, k S _ (.loc i) rfl R .refl h1 w⟩
theorem SimE.int {i : Int} : SimE C EX (tC (.int i)) (.int i) := fun g H0 S Q Qd K R w k x => k S _ (.val false (.int i)) rfl R .refl rfl w
theorem SimE.bl {i : Bool} : SimE C EX (tC (.bl i)) (.bl i) := fun g H0 S Q Qd K R w k x => k S _ (.val false (.bl i)) rfl R .refl rfl w
theorem SimE.non : SimE C EX (tC .non) .non := fun g H0 S Q Qd K R w k x => k S _ (.val false .non) rfl R .refl rfl w
theorem SimE.str {i : Str} : SimE C EX (tC (.str i)) (.str i) := fun g H0 S Q Qd K R w k x => k S _ (.val false (.str i)) rfl R .refl rfl w
theorem resB {b : Bool} {m : Em} {Pd : Bool → Prop} : (resK (.val false (.bl b)) m fun d => onK (tru d) fun b => Pd b) = Pd b := onK_some
variable {ta tb tc : TE} {a b c : E} {r r' : R2}
theorem SimE.two {g : Gh C.tb} {Qa : RV → RV → Em → Prop} (ha : SimE C EX ta a) (hb : SimE C EX tb b) (R : Rep g H0 S) (w : wpE C a S.m (fun r m1 => wpE C b m1 (fun q m2 => Qa r q m2) K) K) (x : OkX g H0 S EX K) {P : V → V → Hp → Prop}
    (k : ∀ (S2 : Sta) (v1 v2 : V) (r1 r2 : RV), S2.σ = S.σ → Rep g H0 S2 → Go g S S2 → RvOk g H0 S.H S2 v1 r1 → RvOk g H0 S.H S2 v2 r2 → Qa r1 r2 S2.m → P v1 v2 S2.H) : ta S.σ S.H fun x H1 => tb S.σ H1 fun y H2 => P x y H2 := by
  refine ha g H0 S _ _ K R w (fun S1 v1 r1 e1 R1 G1 o1 w1 => ?_) x
  have hb' := hb g H0 S1 (fun y H2 => P v1 y H2) _ K R1 w1 (fun S2 v2 r2 e2 R2 G2 o2 w2 => k S2 v1 v2 r1 r2 (e2.trans e1) R2 (G1.trans G2) (o1.go R1 G2 e2) (o2.back G1) w2) (x.go G1 e1)
  rw [e1] at hb'
  exact hb'
theorem SimE.bin {o : Bo} (hr : OpSim r (binS o)) (ha : SimE C EX ta a) (hb : SimE C EX tb b) : SimE C EX (tOp r ta tb) (.bin o a b) := by
  intro g H0 S Q Qd K R w k x
  simp only [wpE] at w
  refine SimE.two ha hb R w x fun S2 v1 v2 r1 r2 es R2 G o1 o2 w2 => ?_
  obtain ⟨d1, h1, w3⟩ := resK_some w2
  obtain ⟨d2, h2, w4⟩ := resK_some w3
  exact hr g H0 S2 Q _ v1 v2 d1 d2 R2 (o1.bor R2 h1) (o2.bor R2 h2) w4 (k.after G es)
theorem SimE.cmpC {g : Gh C.tb} {o : Co} {Qb : Bool → Em → Prop} {P : VK} (hr : CmpSim r (cmpS o)) (ha : SimE C EX ta a) (hb : SimE C EX tb b) (R : Rep g H0 S)
    (w : wpE C a S.m (fun r m1 => wpE C b m1 (fun q m2 => resK r m2 fun x => resK q m2 fun y => cmpS o x y fun c => Qb c m2) K) K) (x : OkX g H0 S EX K)
    (k : ∀ (S2 : Sta) (t : Bool), S2.σ = S.σ → Rep g H0 S2 → Go g S S2 → Qb t S2.m → P (.bl t) S2.H) : tOp r ta tb S.σ S.H P := by
  refine SimE.two ha hb R w x fun S2 v1 v2 r1 r2 es R2 G o1 o2 w2 => ?_
  obtain ⟨d1, h1, w3⟩ := resK_some w2
  obtain ⟨d2, h2, w4⟩ := resK_some w3
  exact hr g H0 S2 P _ v1 v2 d1 d2 R2 (o1.bor R2 h1) (o2.bor R2 h2) w4 fun b q => k S2 b es R2 G q
theorem SimE.cmp {o : Co} (hr : CmpSim r (cmpS o)) (ha : SimE C EX ta a) (hb : SimE C EX tb b) : SimE C EX (tOp r ta tb) (.cmp o a b) := by
  intro g H0 S Q Qd K R w k x
  simp only [wpE] at w
  exact SimE.cmpC (Qb := fun t m => Qd (.val false (.bl t)) m) hr ha hb R w x fun S2 t es R2 G q => k S2 _ (.val false (.bl t)) es R2 G rfl q
theorem SimB.cmp {o : Co} (hr : CmpSim r (cmpS o)) (ha : SimE C EX ta a) (hb : SimE C EX tb b) : SimB C EX (tTest (tOp r ta tb)) (.cmp o a b) := by
  intro g H0 S Q Qd K R w k x
  simp only [wpB, wpE, resB] at w
  exact SimE.cmpC (Qb := fun t m => Qd t m) hr ha hb R w x fun S2 t es R2 G q => ⟨t, rfl, k S2 t es R2 G q⟩
theorem SimE.chnC {g : Gh C.tb} {o p : Co} {Qb : Bool → Em → Prop} {P : VK} (hr : CmpSim r (cmpS o)) (hr' : CmpSim r' (cmpS p)) (ha : SimE C EX ta a) (hb : SimE C EX tb b) (hc : SimE C EX tc c) (R : Rep g H0 S)
    (w : wpE C a S.m (fun r m1 => wpE C b m1 (fun q m2 => resK r m2 fun x => resK q m2 fun y => cmpS o x y fun t =>
      brK (some t) (wpE C c m2 (fun s m3 => resK q m3 fun y => resK s m3 fun z => cmpS p y z fun u => Qb u m3) K) (Qb false m2)) K) K) (x : OkX g H0 S EX K)
    (k : ∀ (S2 : Sta) (t : Bool), S2.σ = S.σ → Rep g H0 S2 → Go g S S2 → Qb t S2.m → P (.bl t) S2.H) : tChain r r' ta tb tc S.σ S.H P := by
  refine SimE.two ha hb R w x fun S2 v1 v2 r1 r2 es R2 G o1 o2 w2 => ?_
  obtain ⟨d1, h1, w3⟩ := resK_some w2
  obtain ⟨d2, h2, w4⟩ := resK_some w3
  refine hr g H0 S2 _ _ v1 v2 d1 d2 R2 (o1.bor R2 h1) (o2.bor R2 h2) w4 fun t q => ⟨t, rfl, ?_⟩
  cases t with
  | false => exact k S2 false es R2 G (Eq.mp brK_false q)
  | true =>
    have q := Eq.mp brK_true q
    have hc' := hc g H0 S2 (fun w' H4 => r' v2 w' H4 P) _ K R2 q (fun S3 v3 r3 e3 R3 G3 o3 w5 => ?_) (x.go G es)
    · rw [es] at hc'
      exact hc'
    · obtain ⟨d2', h2', w6⟩ := resK_some w5
      obtain ⟨d3, h3, w7⟩ := resK_some w6
      exact hr' g H0 S3 P _ v2 v3 d2' d3 R3 ((o2.go R2 G3 e3).bor R3 h2') (o3.bor R3 h3) w7 fun b q => k S3 b (e3.trans es) R3 (G.trans G3) q
theorem SimE.chn {o p : Co} (hr : CmpSim r (cmpS o)) (hr' : CmpSim r' (cmpS p)) (ha : SimE C EX ta a) (hb : SimE C EX tb b) (hc : SimE C EX tc c) : SimE C EX (tChain r r' ta tb tc) (.chn o p a b c) := by
  intro g H0 S Q Qd K R w k x
  simp only [wpE] at w
  exact SimE.chnC (Qb := fun t m => Qd (.val false (.bl t)) m) hr hr' ha hb hc R w x fun S2 t es R2 G q => k S2 _ (.val false (.bl t)) es R2 G rfl q
theorem SimB.chn {o p : Co} (hr : CmpSim r (cmpS o)) (hr' : CmpSim r' (cmpS p)) (ha : SimE C EX ta a) (hb : SimE C EX tb b) (hc : SimE C EX tc c) : SimB C EX (tTest (tChain r r' ta tb tc)) (.chn o p a b c) := by
  intro g H0 S Q Qd K R w k x
  simp only [wpB, wpE, resB] at w
  refine SimE.chnC (Qb := fun t m => Qd t m) hr hr' ha hb hc R ?_ x fun S2 t es R2 G q => ⟨t, rfl, k S2 t es R2 G q⟩
  exact w
theorem SimE.neg (ha : SimE C EX ta a) : SimE C EX (tUn (rU fun i => .int (-i)) ta) (.un .neg a) := by
  intro g H0 S Q Qd K R w k x
  simp only [wpE] at w
  refine ha g H0 S _ _ K R w (fun S1 v1 r1 e1 R1 G1 o1 w1 => ?_) x
  obtain ⟨d1, h1, w2⟩ := resK_some w1
  cases d1 with
  | int i =>
    obtain rfl : v1 = .int i := o1.bor R1 h1
    exact ⟨i, rfl, k S1 _ (.val false (.int (-i))) e1 R1 G1 rfl w2⟩
  | _ => exact w2.elim

theorem Bor.tru (K : PySem.W.Frag) {b : Bool} (h : Bor g S.F S.H d v) (e : tru d = some b) : TruV K v S.H b := by
  cases d with
  | non => obtain rfl : v = .non := h; cases e; rfl
  | bl i => obtain rfl : v = .bl i := h; cases e; rfl
  | int i => obtain rfl : v = .int i := h; cases e; rfl
  | str s =>
    obtain rfl : v = .str s := h
    have e1 : (if s.length ≤ sizeLine then some (s.length != 0) else none) = some b := e
    by_cases hz : s.length ≤ sizeLine
    · rw [if_pos hz] at e1
      cases e1
      refine ⟨hz, ?_⟩
      rw [Bool.eq_iff_iff]
      simp
    · rw [if_neg hz] at e1
      cases e1
  | tup xs =>
    obtain ⟨a, vs, rfl, h1, h2⟩ := h
    cases e
    refine .inr (.inl ⟨vs, SqT.of h1, ?_⟩)
    rw [Bool.eq_iff_iff]
    have := h2.len
    cases xs <;> cases vs <;> simp_all
  | lst xs =>
    obtain ⟨a, vs, rfl, h1, h2⟩ := h
    cases e
    refine .inl ⟨vs, SqL.of h1, ?_⟩
    rw [Bool.eq_iff_iff]
    have := h2.len
    cases xs <;> cases vs <;> simp_all
  | _ => cases e
theorem tru_some {P : Bool → Prop} {o : Option Bool} (h : onK o fun b => P b) : ∃ b, o = some b ∧ P b := by
  obtain ⟨b, e, p⟩ := h
  exact ⟨b, e, p⟩
theorem tru2_some {P P' : Prop} {o : Option Bool} (h : brK o P P') : ∃ b, o = some b ∧ if b = true then P else P' := by
  obtain ⟨b, e, h1, h2⟩ := h
  cases b with
  | true => exact ⟨_, e, h1 rfl⟩
  | false => exact ⟨_, e, h2 rfl⟩
theorem SimB.truth (Kf : PySem.W.Frag) (ha : SimE C EX ta a) : SimB C EX (fun σ H Q => ta σ H fun x H' => ∃ k, TruV Kf x H' k ∧ Q k H') a := by
  intro g H0 S Q Qd K R w k x
  refine ha g H0 S _ _ K R w (fun S1 v1 r1 e1 R1 G1 o1 w1 => ?_) x
  obtain ⟨d1, h1, w2⟩ := resK_some w1
  obtain ⟨t, h2, w3⟩ := tru_some (P := fun b => Qd b S1.m) w2
  exact ⟨t, (o1.bor R1 h1).tru Kf h2, k S1 t e1 R1 G1 w3⟩
theorem SimE.not (Kf : PySem.W.Frag) (ha : SimE C EX ta a) : SimE C EX (tNotT Kf ta) (.un .not a) := by
  intro g H0 S Q Qd K R w k x
  simp only [wpE] at w
  refine ha g H0 S _ _ K R w (fun S1 v1 r1 e1 R1 G1 o1 w1 => ?_) x
  obtain ⟨d1, h1, w2⟩ := resK_some w1
  obtain ⟨t, h2, w3⟩ := tru_some (P := fun b => Qd (.val false (.bl (!b))) S1.m) w2
  exact ⟨t, (o1.bor R1 h1).tru Kf h2, k S1 _ (.val false (.bl (!t))) e1 R1 G1 rfl w3⟩
theorem SimB.not {tA : TT} (ha : SimB C EX tA a) : SimB C EX (tNot tA) (.un .not a) := by
  intro g H0 S Q Qd K R w k x
  simp only [wpB, wpE, resB] at w
  refine ha g H0 S _ (fun b m => Qd (!b) m) K R ?_ (fun S1 b e1 R1 G1 q => k S1 _ e1 R1 G1 q) x
  exact w
theorem SimE.and (Kf : PySem.W.Frag) (ha : SimE C EX ta a) (hb : SimE C EX tb b) : SimE C EX (tAndT Kf ta tb) (.and a b) := by
  intro g H0 S Q Qd K R w k x
  simp only [wpE] at w
  refine ha g H0 S _ _ K R w (fun S1 v1 r1 e1 R1 G1 o1 w1 => ?_) x
  obtain ⟨d1, h1, w2⟩ := resK_some w1
  obtain ⟨t, h2, w3⟩ := tru2_some w2
  refine ⟨t, (o1.bor R1 h1).tru Kf h2, ?_⟩
  cases t with
  | false => exact k S1 _ r1 e1 R1 G1 o1 w3
  | true =>
    have h := hb g H0 S1 Q Qd K R1 w3 (k.go G1 e1) (x.go G1 e1)
    rw [e1] at h
    exact h
theorem SimE.or (Kf : PySem.W.Frag) (ha : SimE C EX ta a) (hb : SimE C EX tb b) : SimE C EX (tOrT Kf ta tb) (.or a b) := by
  intro g H0 S Q Qd K R w k x
  simp only [wpE] at w
  refine ha g H0 S _ _ K R w (fun S1 v1 r1 e1 R1 G1 o1 w1 => ?_) x
  obtain ⟨d1, h1, w2⟩ := resK_some w1
  obtain ⟨t, h2, w3⟩ := tru2_some w2
  refine ⟨t, (o1.bor R1 h1).tru Kf h2, ?_⟩
  cases t with
  | true => exact k S1 _ r1 e1 R1 G1 o1 w3
  | false =>
    have h := hb g H0 S1 Q Qd K R1 w3 (k.go G1 e1) (x.go G1 e1)
    rw [e1] at h
    exact h
theorem split_and {rv : RV} {m : Em} {X : Prop} {Qd : Bool → Em → Prop} :
    (resK rv m fun d => brK (tru d) X (resK rv m fun d => onK (tru d) fun b => Qd b m)) = resK rv m fun d => onK (tru d) fun b => if b = true then X else Qd false m := by
  unfold resK
  cases res rv m with
  | none => rfl
  | some d =>
    cases e : tru d with
    | none => simp [e, onK_none, onK_some, brK_none, brK_true, brK_false]
    | some b => cases b <;> simp [e, onK_none, onK_some, brK_none, brK_true, brK_false]
theorem split_or {rv : RV} {m : Em} {X : Prop} {Qd : Bool → Em → Prop} :
    (resK rv m fun d => brK (tru d) (resK rv m fun d => onK (tru d) fun b => Qd b m) X) = resK rv m fun d => onK (tru d) fun b => if b = true then Qd true m else X := by
  unfold resK
  cases res rv m with
  | none => rfl
  | some d =>
    cases e : tru d with
    | none => simp [e, onK_none, onK_some, brK_none, brK_true, brK_false]
    | some b => cases b <;> simp [e, onK_none, onK_some, brK_none, brK_true, brK_false]
theorem SimB.and {tA tB : TT} (ha : SimB C EX tA a) (hb : SimB C EX tB b) : SimB C EX (tAnd tA tB) (.and a b) := by
  intro g H0 S Q Qd K R w k x
  simp only [wpB, wpE, resB] at w
  have w : wpB C a S.m (fun t m => if t = true then wpB C b m Qd K else Qd false m) K := Eq.mp (congrArg (fun F => wpE C a S.m F K) (funext fun r => funext fun m1 => split_and)) w
  refine ha g H0 S _ (fun t m => if t = true then wpB C b m Qd K else Qd false m) K R w (fun S1 t e1 R1 G1 q => ?_) x
  cases t with
  | false => exact k S1 false e1 R1 G1 q
  | true =>
    have h := hb g H0 S1 Q Qd K R1 q (k.go G1 e1) (x.go G1 e1)
    rw [e1] at h
    exact h
theorem SimB.or {tA tB : TT} (ha : SimB C EX tA a) (hb : SimB C EX tB b) : SimB C EX (tOr tA tB) (.or a b) := by
  intro g H0 S Q Qd K R w k x
  simp only [wpB, wpE, resB] at w
  have w : wpB C a S.m (fun t m => if t = true then Qd true m else wpB C b m Qd K) K := Eq.mp (congrArg (fun F => wpE C a S.m F K) (funext fun r => funext fun m1 => split_or)) w
  refine ha g H0 S _ (fun t m => if t = true then Qd true m else wpB C b m Qd K) K R w (fun S1 t e1 R1 G1 q => ?_) x
  cases t with
  | true => exact k S1 true e1 R1 G1 q
  | false =>
    have h := hb g H0 S1 Q Qd K R1 q (k.go G1 e1) (x.go G1 e1)
    rw [e1] at h
    exact h
theorem split_ite {rv : RV} {m : Em} {X Y : Prop} : (resK rv m fun d => brK (tru d) X Y) = resK rv m fun d => onK (tru d) fun b => if b = true then X else Y := by
  unfold resK
  cases res rv m with
  | none => rfl
  | some d =>
    cases e : tru d with
    | none => simp [e, onK_none, onK_some, brK_none, brK_true, brK_false]
    | some b => cases b <;> simp [e, onK_none, onK_some, brK_none, brK_true, brK_false]
theorem SimE.ite {tA : TT} (hc : SimB C EX tA c) (ha : SimE C EX ta a) (hb : SimE C EX tb b) : SimE C EX (tIf tA ta tb) (.ite c a b) := by
  intro g H0 S Q Qd K R w k x
  simp only [wpE] at w
  have w : wpB C c S.m (fun t m => if t = true then wpE C a m Qd K else wpE C b m Qd K) K := Eq.mp (congrArg (fun F => wpE C c S.m F K) (funext fun r => funext fun m1 => split_ite)) w
  refine hc g H0 S _ (fun t m => if t = true then wpE C a m Qd K else wpE C b m Qd K) K R w (fun S1 t e1 R1 G1 q => ?_) x
  cases t with
  | true =>
    have h := ha g H0 S1 Q Qd K R1 q (k.go G1 e1) (x.go G1 e1)
    rw [e1] at h
    exact h
  | false =>
    have h := hb g H0 S1 Q Qd K R1 q (k.go G1 e1) (x.go G1 e1)
    rw [e1] at h
    exact h

theorem SimXs.nil : SimXs C EX tNil .nil := fun g H0 S Q Qd K R w k x => k S [] [] rfl rfl R .refl trivial w
theorem SimXs.cons {t : TA} {es : Es} (ha : SimE C EX ta a) (ht : SimXs C EX t es) : SimXs C EX (tCons ta t) (.cons a es) := by
  intro g H0 S Q Qd K R w k x
  simp only [wpXs] at w
  refine ha g H0 S _ _ K R w (fun S1 v1 r1 e1 R1 G1 o1 w1 => ?_) x
  obtain ⟨S2, d, e2, h2, R2, G2, hd, w2⟩ := esc_ok R1 G1 o1 w1
  have es2 : S2.σ = S.σ := e2.trans e1
  have h := ht g H0 S2 (fun xs H2 => Q (v1 :: xs) H2) _ K R2 w2 (fun S3 vs ds hl e3 R3 G3 hds w3 => k S3 (v1 :: vs) (d :: ds) (by rw [List.length_cons, hl]; rfl) (e3.trans es2) R3 (G2.trans G3) ⟨hd.mono (R2.le G3), hds⟩ w3) (x.go G2 es2)
  rw [es2, h2] at h
  exact h
theorem SimOs.nil : SimOs C EX tNil .nil := fun g H0 S Q Qd K R w k x => k S [] [] rfl R .refl trivial w
theorem SimOs.cons {t : TA} {es : Es} (ha : SimE C EX ta a) (ht : SimOs C EX t es) : SimOs C EX (tCons ta t) (.cons a es) := by
  intro g H0 S Q Qd K R w k x
  simp only [wpOs] at w
  refine ha g H0 S _ _ K R w (fun S1 v1 r1 e1 R1 G1 o1 w1 => ?_) x
  have back : ∀ {S3 : Sta} {vs : List V} {rs : List RV}, RvAll g H0 S1.H S3 vs rs → RvAll g H0 S.H S3 vs rs := fun {S3 vs rs} => by
    induction vs generalizing rs with
    | nil =>
      intro h
      cases rs with
      | nil => trivial
      | cons r rs => exact h.elim
    | cons v vs ih =>
      intro h
      cases rs with
      | nil => exact h.elim
      | cons r rs => exact ⟨h.1.back G1, h.2.1, ih h.2.2⟩
  have ap : ∀ {S3 : Sta} {vs : List V} {rs : List RV}, RvAll g H0 S1.H S3 vs rs → Aprt v1 r1 vs rs := fun {S3 vs rs} => by
    induction vs generalizing rs with
    | nil =>
      intro h
      cases rs <;> trivial
    | cons v vs ih =>
      intro h
      cases rs with
      | nil => trivial
      | cons r rs =>
        refine ⟨fun f1 f2 z => ?_, ih h.2.2⟩
        obtain ⟨a, ea, ha⟩ := o1.frThere f1
        obtain ⟨b, eb, hb⟩ := h.1.frNone f2
        subst ea
        rw [eb] at z
        cases z
        obtain ⟨o, ho⟩ := ha
        rw [hb] at ho
        cases ho
  have h := ht g H0 S1 (fun xs H2 => Q (v1 :: xs) H2) _ K R1 w1 (fun S3 vs rs e3 R3 G3 hr w3 => k S3 (v1 :: vs) (r1 :: rs) (e3.trans e1) R3 (G1.trans G3) ⟨o1.go R1 G3 e3, ap hr, back hr⟩ w3) (x.go G1 e1)
  rw [e1] at h
  exact h
theorem SimE.tup {t : TA} {es : Es} (hn : es.len ≤ 1000) (ht : SimXs C EX t es) : SimE C EX (tTup t) (.tup es) := by
  intro g H0 S Q Qd K R w k x
  simp only [wpE] at w
  refine ht g H0 S _ _ K R w (fun S1 vs ds hl e1 R1 G1 hds w1 => ?_) x
  refine ⟨by rw [← hds.len, hl]; exact Nat.le_trans hn (by decide), fun p hp => ?_⟩
  exact (k.after G1 e1).newT R1 hds w1 p hp
theorem SimE.lst {t : TA} {es : Es} (hn : es.len ≤ 1000) (ht : SimXs C EX t es) : SimE C EX (tLst t) (.lst es) := by
  intro g H0 S Q Qd K R w k x
  simp only [wpE] at w
  refine ht g H0 S _ _ K R w (fun S1 vs ds hl e1 R1 G1 hds w1 => ?_) x
  refine ⟨by rw [← hds.len, hl]; exact Nat.le_trans hn (by decide), fun p hp => ?_⟩
  exact (k.after G1 e1).newL R1 hds w1 p hp
end
end Dl
set_option maxHeartbeats 4000000
namespace Dl
open PySem PySem.Spec PyProof.Rows L2
section
variable {B : Tb} {g : Gh B} {H0 Hs : Hp} {S S1 S2 S' : Sta} {EX : EXT} {K : XD} {C : Cn} {Q : VK} {Qd : RV → Em → Prop} {v : V} {rv : RV} {d : D}
variable {ta tb tc : TE} {a b c : E} {r r' : R2}

theorem atI_den {F : Addr → Prop} {H : Hp} {ds : List D} {vs : List V} {i : Int} {d : D} (h : DenL g F H ds vs) (e : atI ds i = some d) : ∃ v, atI vs i = some v ∧ Den g F H d v := by
  unfold atI at e ⊢
  rw [← h.len]
  cases q : ixN ds.length i with
  | none => rw [q] at e; cases e
  | some j =>
    rw [q] at e
    exact h.getD e
theorem opt_some {P : D → Prop} {o : Option D} (h : match o with
  | some d => P d
  | none => False) : ∃ d, o = some d ∧ P d := by
  cases o with
  | none => exact h.elim
  | some b => exact ⟨b, rfl, h⟩
theorem SimE.idx (Kf : PySem.W.Frag) (ha : SimE C EX ta a) (hb : SimE C EX tb b) : SimE C EX (tOp (rIx Kf) ta tb) (.idx a b) := by
  intro g H0 S Q Qd K R w k x
  simp only [wpE] at w
  refine SimE.two ha hb R w x fun S2 v1 v2 r1 r2 es R2 G o1 o2 w2 => ?_
  obtain ⟨d1, h1, w3⟩ := resK_some w2
  obtain ⟨d2, h2, w4⟩ := resK_some w3
  obtain ⟨d, h3, w5⟩ := w4
  have b1 := o1.bor R2 h1
  have b2 := o2.bor R2 h2
  cases d2 with
  | int i =>
    obtain rfl : v2 = .int i := b2
    cases d1 with
    | lst xs =>
      obtain ⟨a, vs, rfl, hv1, hv2⟩ := b1
      obtain ⟨v, q1, q2⟩ := atI_den hv2 h3
      exact .inl ⟨a, vs, i, v, rfl, rfl, SqL.of hv1, q1, k S2 v (.val false d) es R2 G q2 w5⟩
    | tup xs =>
      obtain ⟨a, vs, rfl, hv1, hv2⟩ := b1
      obtain ⟨v, q1, q2⟩ := atI_den hv2 h3
      exact .inr (.inl ⟨a, vs, i, v, rfl, rfl, SqT.of hv1, q1, k S2 v (.val false d) es R2 G q2 w5⟩)
    | pin p xs =>
      obtain ⟨rfl, vs, hv1, hv2⟩ := b1
      obtain ⟨v, q1, q2⟩ := atI_den hv2 h3
      exact .inl ⟨p, vs, i, v, rfl, rfl, SqL.of hv1, q1, k S2 v (.val false d) es R2 G q2 w5⟩
    | str s =>
      obtain rfl : v1 = .str s := b1
      have h4 : (if s.length ≤ sizeLine then (atI s.cps.toList i).map fun c => D.str ⟨#[c]⟩ else none) = some d := h3
      by_cases hz : s.length ≤ sizeLine
      · rw [if_pos hz] at h4
        obtain ⟨c, h5, rfl⟩ := Option.map_eq_some_iff.mp h4
        exact .inr (.inr ⟨s, i, c, rfl, rfl, hz, h5, k S2 _ (.val false (.str ⟨#[c]⟩)) es R2 G rfl w5⟩)
      · rw [if_neg hz] at h4
        cases h4
    | _ => cases h3
  | _ => cases d1 <;> cases h3

theorem SimOe.none : SimOe C EX tNoPart .none := fun g H0 S Q Qd K R w k x => k S _ rfl R .refl w
theorem SimOe.some (ha : SimE C EX ta a) : SimOe C EX (tPart ta) (.some a) := by
  intro g H0 S Q Qd K R w k x
  simp only [wpOe] at w
  refine ha g H0 S _ _ K R w (fun S1 v1 r1 e1 R1 G1 o1 w1 => ?_) x
  obtain ⟨d1, h1, w2⟩ := resK_some w1
  cases d1 with
  | int i =>
    obtain rfl : v1 = .int i := o1.bor R1 h1
    exact ⟨i, rfl, k S1 _ e1 R1 G1 w2⟩
  | _ => exact w2.elim
def rSlD (K : PySem.W.Frag) : V → Option Int → Option Int → Hp → VK → Prop := fun x lo hi H Q => rSlL K x lo hi H Q ∨ (rSlA K x lo hi H Q ∨ C8.rSlX x lo hi H Q)
theorem sl_any {X : Cx} : SlR X (rSlD X.K) := SlR.or sl_list (SlR.or sl_tupA C8.sl_txt)
theorem cut_den {F : Addr → Prop} {H : Hp} {ds : List D} {vs : List V} {lo hi : Option Int} (h : DenL g F H ds vs) : DenL g F H (cutD ds lo hi) (cutV vs lo hi) := by
  unfold cutD cutV
  rw [h.len]
  exact (h.drop _).take _
theorem SimE.slc (Kf : PySem.W.Frag) {lo hi : Oe} {tl th : TO} (ha : SimE C EX ta a) (hl : SimOe C EX tl lo) (hh : SimOe C EX th hi) : SimE C EX (tSl (rSlD Kf) ta tl th) (.slc a lo hi) := by
  intro g H0 S Q Qd K R w k x
  simp only [wpE] at w
  refine ha g H0 S _ _ K R w (fun S1 v1 r1 e1 R1 G1 o1 w1 => ?_) x
  have h := hl g H0 S1 (fun l H2 => th S1.σ H2 fun u H3 => rSlD Kf v1 l u H3 Q) _ K R1 w1 (fun S2 l e2 R2 G2 w2 => ?_) (x.go G1 e1)
  · rw [e1] at h
    exact h
  have h := hh g H0 S2 (fun u H3 => rSlD Kf v1 l u H3 Q) _ K R2 w2 (fun S3 u e3 R3 G3 w3 => ?_) (x.go (G1.trans G2) (e2.trans e1))
  · rw [e2] at h
    exact h
  have es : S3.σ = S.σ := e3.trans (e2.trans e1)
  have G := G1.trans (G2.trans G3)
  obtain ⟨d1, h1, w4⟩ := resK_some w3
  have b1 := ((o1.go R1 G2 e2).go R2 G3 e3).bor R3 h1
  cases d1 with
  | lst xs =>
    obtain ⟨a, vs, rfl, hv1, hv2⟩ := b1
    exact .inl ⟨a, vs, rfl, SqL.of hv1, (k.after G es).newL R3 (cut_den hv2) w4⟩
  | tup xs =>
    obtain ⟨a, vs, rfl, hv1, hv2⟩ := b1
    refine .inr (.inl ⟨a, vs, rfl, SqT.of hv1, fun hc => ?_, fun _ => (k.after G es).newT R3 (cut_den hv2) w4⟩)
    have hw : cutV vs l u = vs := by
      unfold cutV
      rw [hc.1, hc.2, List.drop_zero, Nat.sub_zero, List.take_length]
    refine (k.after G es).same R3 ?_ w4
    refine ⟨a, vs, rfl, hv1, ?_⟩
    rw [← hw]
    exact cut_den hv2
  | str s =>
    obtain rfl : v1 = .str s := b1
    exact .inr (.inr ⟨s, rfl, w4.1, (k.after G es).same (d := .str (Txt.slice s l u)) R3 rfl w4.2⟩)
  | _ => exact w4.elim

def toSp (B : Tb) (n : Nat) (s : FS) : Sp := fun vs H Q E => vs.length = n ∧ ∃ (g : Gh B) (F : Addr → Prop) (ds : List D), DenL g F H ds vs ∧ Rep g H ⟨F, [], [], H⟩ ∧
  s ds (fun fr d => ∀ (F' : Addr → Prop) (H' : Hp) (v : V), Rep g H ⟨F', [], [], H'⟩ → Go g ⟨F, [], [], H⟩ ⟨F', [], [], H'⟩ → RvOk g H H ⟨F', [], [], H'⟩ v (.val fr d) → Q v H')
    (fun c o => ∀ (F' : Addr → Prop) (H' : Hp) (cls : Value) (dd : Option Addr), Rep g H ⟨F', [], [], H'⟩ → Go g ⟨F, [], [], H⟩ ⟨F', [], [], H'⟩ → XR g ⟨F', [], [], H'⟩ c o cls dd → E cls dd H')
structure Mono (s : FS) : Prop where
  mono : ∀ (ds : List D) (Q Q' : Bool → D → Prop) (X X' : Nat → Option D → Prop), (∀ fr d, Q fr d → Q' fr d) → (∀ c o, X c o → X' c o) → s ds Q X → s ds Q' X'
theorem noOwns0 {F : Addr → Prop} {H : Hp} {a : Addr} : ¬ Owns ⟨F, [], [], H⟩ a := fun ⟨i, d, h, _⟩ => by simp at h
theorem noHolds0 {F : Addr → Prop} {H : Hp} {a : Addr} : ¬ Holds ⟨F, [], [], H⟩ a := fun ⟨i, d, h, _⟩ => by
  rcases h with h | h <;> simp at h
theorem Rep.bare (R : Rep g H0 S) : Rep g S.H ⟨S.F, [], [], S.H⟩ := by
  refine ⟨rfl, fun i d h => by simp at h, fun i d h => by rcases h with h | h <;> simp at h, fun i j d e a h => by rcases h with h | h <;> simp at h, fun _ _ _ h => h, R.dom, fun a e => ?_⟩
  obtain ⟨h1, h2, h3, h4⟩ := R.hand a e
  refine ⟨h1, h2, ?_, fun ca r q => ?_⟩
  · obtain ⟨_, _, _, _, _, _, h5, _⟩ := h1
    exact ⟨_, h5⟩
  · obtain ⟨cb, cells, _, _, _, _, h5, h6, _⟩ := h1
    rw [h5] at q
    cases q
    exact ⟨_, h6⟩
theorem Rep.behind (R : Rep g H0 S) {F' : Addr → Prop} {H' : Hp} (R' : Rep g S.H ⟨F', [], [], H'⟩) (G : Go g ⟨S.F, [], [], S.H⟩ ⟨F', [], [], H'⟩) :
    Rep g H0 { S with F := F', H := H' } ∧ Go g S { S with F := F', H := H' } := by
  have kp : ∀ a o, S.H a = some o → g.ha ≠ some a → H' a = some o := fun a o h n => G.keep a o h n noOwns0
  have l : Le S.F S.H F' H' := ⟨G.f, fun a o h f => kp a o h (R.haF f), fun a vs h => kp a _ h (R.tupH h)⟩
  have nf : ∀ a o, S.H a = some o → ¬ S.F a → ¬ F' a := fun a o h n => G.nofr a o h n noOwns0
  refine ⟨⟨R.len, fun i d h => ?_, fun i d h => ?_, R.inj, fun a o n h => kp a o (R.keep a o n h) n, R'.dom, fun a e => ?_⟩, G.f, fun a o h n _ => kp a o h n, G.there, fun a o h n _ => nf a o h n, fun _ _ _ z => z, fun _ _ _ z => z, fun j d a h k => ⟨d, h, k⟩, G.hd⟩
  · obtain ⟨v, h1, h2⟩ := R.sh i d h
    exact ⟨v, h1, h2.mono l⟩
  · obtain ⟨a, h1, h2⟩ := R.ow i d h
    refine ⟨a, h1, ?_⟩
    cases d with
    | lst ds =>
      obtain ⟨k1, k2, k3, vs, k4, k5⟩ := h2
      exact ⟨nf _ _ k4 k1, k2, k3, vs, kp _ _ k4 k3, k5.mono l⟩
    | dic ks ds =>
      obtain ⟨k1, k2, k3, ⟨es, k4, k5, k6⟩ | ⟨es, k4, k5, k6⟩⟩ := h2
      · exact ⟨nf _ _ k4 k1, k2, k3, .inl ⟨es, kp _ _ k4 k3, k5, k6.mono l⟩⟩
      · exact ⟨nf _ _ k4 k1, k2, k3, .inr ⟨es, kp _ _ k4 k3, k5, k6.mono l⟩⟩
    | pin q ds =>
      obtain ⟨k0, k1, k2, k3, vs, k4, k5⟩ := h2
      exact ⟨k0, nf _ _ k4 k1, k2, k3, vs, kp _ _ k4 k3, k5.mono l⟩
    | _ => exact h2.elim
  · obtain ⟨h1, h2, h3, h4⟩ := R.hand a e
    obtain ⟨k1, k2, k3, k4⟩ := R'.hand a e
    refine ⟨k1, k2, h3, fun ca r q => ?_⟩
    obtain ⟨r', q'⟩ := G.hd a ca r e q
    exact h4 ca r' q'
theorem RvOk.behind (R : Rep g H0 S) {F' : Addr → Prop} {H' : Hp} {fr : Bool} (h : RvOk g S.H S.H ⟨F', [], [], H'⟩ v (.val fr d)) : RvOk g H0 S.H { S with F := F', H := H' } v (.val fr d) := by
  have nh : ∀ {a : Addr}, S.H a = none → ¬ Holds { S with F := F', H := H' } a := fun {a} hn w => by
    obtain ⟨_, _, _, o, h1, _⟩ := R.ownF (S := S) w
    rw [hn] at h1
    cases h1
  cases fr with
  | false => exact h
  | true =>
    cases d with
    | lst ds =>
      obtain ⟨a, e, h1, ⟨k1, k2, k3, k4⟩, _⟩ := h
      exact ⟨a, e, h1, ⟨k1, R.none0 h1, k3, k4⟩, nh h1⟩
    | dic ks ds =>
      obtain ⟨a, e, h1, ⟨k1, k2, k3, k4⟩, _⟩ := h
      exact ⟨a, e, h1, ⟨k1, R.none0 h1, k3, k4⟩, nh h1⟩
    | _ => exact h
theorem SimE.call {f : Nat} {es : Es} {t : TA} {s : FS} (hs : C.fn f = some s) (hm : Mono s) (ht : SimXs C EX t es) : SimE C EX (tCallS (toSp C.tb es.len s) EX t) (.call f es) := by
  intro g H0 S Q Qd K R w k x
  simp only [wpE, hs] at w
  refine ht g H0 S _ _ K R w (fun S1 vs ds hl e1 R1 G1 hds w1 => ?_) x
  refine ⟨by rw [← hds.len]; exact hl, g, S1.F, ds, hds, R1.bare, hm.mono _ _ _ _ _ (fun fr d q F' H' v R' G' o => ?_) (fun c o q F' H' cls dd R' G' xr => ?_) w1⟩
  · obtain ⟨R2, G2⟩ := R1.behind R' G'
    exact k { S1 with F := F', H := H' } v (.val fr d) e1 R2 (G1.trans G2) ((o.behind R1).back G1) q
  · obtain ⟨R2, G2⟩ := R1.behind R' G'
    have h := x { S1 with F := F', H := H' } c o cls dd e1 R2 (G1.trans G2) xr q
    show EX S.σ cls dd H'
    rw [← e1]
    exact h

def clV : Cl → List V
  | .ty n => [.ty n]
  | .own _ => []
theorem ty_den (Kf : PySem.W.Frag) {t : String} (h : Bor g S.F S.H d v) (e : tyOf d = some t) : TyX Kf S.H v (.type t) := by
  cases d with
  | non => obtain rfl : v = .non := h; cases e; exact .base .non
  | bl b => obtain rfl : v = .bl b := h; cases e; exact .base (.bl b)
  | int b => obtain rfl : v = .int b := h; cases e; exact .base (.int b)
  | str b => obtain rfl : v = .str b := h; cases e; exact .base (.str b)
  | tup xs => obtain ⟨a, vs, rfl, h1, _⟩ := h; cases e; exact .base (.tup h1)
  | lst xs => obtain ⟨a, vs, rfl, h1, _⟩ := h; cases e; exact .base (.lst h1)
  | dic xs ys =>
    obtain ⟨a, rfl, ⟨es, h1, _⟩ | ⟨es, h1, _⟩⟩ := h
    · cases e; exact .base (.dK h1)
    · cases e; exact .base (.dT h1)
  | _ => cases e
def knownTy (n : String) : Bool := n == "int" || n == "bool" || n == "str" || n == "tuple" || n == "list" || n == "dict"
theorem tyOf_mem {t : String} (e : tyOf d = some t) : t = "NoneType" ∨ t = "bool" ∨ t = "int" ∨ t = "str" ∨ t = "tuple" ∨ t = "list" ∨ t = "dict" := by
  cases d <;> cases e <;> simp
theorem kit_ty (Kf : PySem.W.Frag) {t n : String} (e : tyOf d = some t) (hn : knownTy n = true) : PySem.W.kitOne Kf (.type t) (.type n) = some (isTy t n) := by
  have hn' : n = "int" ∨ n = "bool" ∨ n = "str" ∨ n = "tuple" ∨ n = "list" ∨ n = "dict" := by
    simp only [knownTy, Bool.or_eq_true, beq_iff_eq] at hn
    rcases hn with ((((h | h) | h) | h) | h) | h <;> simp [h]
  rcases tyOf_mem e with rfl | rfl | rfl | rfl | rfl | rfl | rfl <;> rcases hn' with rfl | rfl | rfl | rfl | rfl | rfl <;> kernel_rfl
theorem SimE.isi1 (Kf : PySem.W.Frag) {n : String} (hn : knownTy n = true) (ha : SimE C EX ta a) : SimE C EX (tCB (rIsi Kf) (tCons ta (tCons (tC (.ty n)) tNil))) (.isi a [.ty n]) := by
  intro g H0 S Q Qd K R w k x
  simp only [wpE] at w
  refine ha g H0 S _ _ K R w (fun S1 v1 r1 e1 R1 G1 o1 w1 => ?_) x
  obtain ⟨d1, h1, w2⟩ := resK_some w1
  obtain ⟨t, h2, w3⟩ := tru_some (P := fun b => Qd (.val false (.bl b)) S1.m) w2
  have hb := o1.bor R1 h1
  cases e : tyOf d1 with
  | none =>
    have h3 : isAny d1 [.ty n] = none := by
      cases d1 <;> first | (cases e; done) | rfl
    rw [h2] at h3
    cases h3
  | some ty =>
    refine ⟨v1, .ty n, .type ty, .type n, isTy ty n, rfl, .ty n, ty_den Kf hb e, kit_ty Kf e hn, ?_⟩
    have h3 : isAny d1 [.ty n] = some (isTy ty n) := by
      cases d1 <;> cases e <;> simp [isAny, isCl, tyOf]
    rw [h2] at h3
    cases h3
    exact k S1 _ (.val false (.bl _)) e1 R1 G1 rfl w3
end
end Dl
set_option maxHeartbeats 4000000
namespace Dl
open PySem PySem.Spec PyProof.Rows L2

def BorL {B : Tb} (g : Gh B) (F : Addr → Prop) (H : Hp) : List D → List V → Prop
  | [], [] => True
  | d :: ds, v :: vs => Bor g F H d v ∧ BorL g F H ds vs
  | _, _ => False
section
variable {B : Tb} {g : Gh B} {H0 Hs : Hp} {S S1 S2 S' : Sta} {EX : EXT} {K : XD} {C : Cn} {Q : VK} {v : V} {rv : RV} {d : D}
variable {ta tb tc : TE} {a b c : E} {r r' : R2}
theorem RvAll.bor (R : Rep g H0 S) : ∀ {vs : List V} {rs : List RV} {ds : List D}, RvAll g H0 Hs S vs rs → resAll rs S.m = some ds → BorL g S.F S.H ds vs
  | [], [], ds, _, e => by
    cases e
    trivial
  | [], _ :: _, _, h, _ => h.elim
  | _ :: _, [], _, h, _ => h.elim
  | v :: vs, r :: rs, ds, h, e => by
    simp only [resAll] at e
    cases e1 : res r S.m with
    | none => rw [e1] at e; cases e
    | some d =>
      cases e2 : resAll rs S.m with
      | none => rw [e1, e2] at e; cases e
      | some ds' =>
        rw [e1, e2] at e
        cases e
        exact ⟨h.1.bor R e1, RvAll.bor R h.2.2 e2⟩
def BltSim (f : Bf) (r : List V → Hp → VK → Prop) : Prop := ∀ {B : Tb} (g : Gh B) (H0 : Hp) (S : Sta) (vs : List V) (ds : List D) (Q : VK) (Qd : Bool → D → Prop), Rep g H0 S → BorL g S.F S.H ds vs → bltS f ds Qd → After g H0 S Q Qd → r vs S.H Q
theorem SimE.blt {f : Bf} {r : List V → Hp → VK → Prop} {t : TA} {es : Es} (hr : BltSim f r) (ht : SimOs C EX t es) : SimE C EX (tCB r t) (.blt f es) := by
  intro g H0 S Q Qd K R w k x
  simp only [wpE] at w
  refine ht g H0 S _ _ K R w (fun S1 vs rs e1 R1 G1 o1 w1 => ?_) x
  cases e : resAll rs S1.m with
  | none => rw [e] at w1; exact w1.elim
  | some ds =>
    rw [e] at w1
    exact hr g H0 S1 vs ds Q _ R1 (o1.bor R1 e) w1 (k.after G1 e1)

theorem borL1 {F : Addr → Prop} {H : Hp} {vs : List V} (h : BorL g F H [d] vs) : ∃ v, vs = [v] ∧ Bor g F H d v := by
  cases vs with
  | nil => exact h.elim
  | cons v vs =>
    cases vs with
    | nil => exact ⟨v, rfl, h.1⟩
    | cons w ws => exact h.2.elim
theorem borL2 {F : Addr → Prop} {H : Hp} {d e : D} {vs : List V} (h : BorL g F H [d, e] vs) : ∃ v w, vs = [v, w] ∧ Bor g F H d v ∧ Bor g F H e w := by
  cases vs with
  | nil => exact h.elim
  | cons v vs =>
    obtain ⟨w, rfl, h2⟩ := borL1 h.2
    exact ⟨v, w, rfl, h.1, h2⟩

def rLenD (K : PySem.W.Frag) : List V → Hp → VK → Prop := fun xs H Q => ∃ x n, xs = [x] ∧ LenV K x H n ∧ Q (.int n) H
theorem blt_len (K : PySem.W.Frag) : BltSim .len (rLenD K) := by
  intro B g H0 S vs ds Q Qd R b w k
  match ds, w with
  | [.lst xs], w =>
    obtain ⟨v, rfl, h⟩ := borL1 b
    obtain ⟨a, us, rfl, h1, h2⟩ := h
    refine ⟨_, us.length, rfl, .inl ⟨us, SqL.of h1, rfl⟩, k.same (d := .int (us.length : Nat)) R rfl ?_⟩
    rw [← h2.len]
    exact w
  | [.tup xs], w =>
    obtain ⟨v, rfl, h⟩ := borL1 b
    obtain ⟨a, us, rfl, h1, h2⟩ := h
    refine ⟨_, us.length, rfl, .inr ⟨us, SqT.of h1, rfl⟩, k.same (d := .int (us.length : Nat)) R rfl ?_⟩
    rw [← h2.len]
    exact w
  | [.pin p xs], w =>
    obtain ⟨v, rfl, h⟩ := borL1 b
    obtain ⟨rfl, us, h1, h2⟩ := h
    refine ⟨_, us.length, rfl, .inl ⟨us, SqL.of h1, rfl⟩, k.same (d := .int (us.length : Nat)) R rfl ?_⟩
    rw [← h2.len]
    exact w
  | [.str s], w =>
    obtain ⟨v, rfl, h⟩ := borL1 b
    obtain rfl : v = .str s := h
    exact ⟨_, s.length, rfl, ⟨w.1, rfl⟩, k.same (d := .int (s.length : Nat)) R rfl w.2⟩
def rAbsD : List V → Hp → VK → Prop := fun xs H Q => ∃ i, xs = [.int i] ∧ Q (.int (if i < 0 then -i else i)) H
theorem blt_abs : BltSim .abs rAbsD := by
  intro B g H0 S vs ds Q Qd R b w k
  match ds, w with
  | [.int i], w =>
    obtain ⟨v, rfl, h⟩ := borL1 b
    obtain rfl : v = .int i := h
    exact ⟨i, rfl, k.same (d := .int (if i < 0 then -i else i)) R rfl w⟩
def rInt1D : List V → Hp → VK → Prop := fun xs H Q => (∃ i, xs = [.int i] ∧ Q (.int i) H) ∨ ∃ k, xs = [.bl k] ∧ Q (.int (if k = true then 1 else 0)) H
theorem blt_int : BltSim .int rInt1D := by
  intro B g H0 S vs ds Q Qd R b w k
  match ds, w with
  | [.int i], w =>
    obtain ⟨v, rfl, h⟩ := borL1 b
    obtain rfl : v = .int i := h
    exact .inl ⟨i, rfl, k.same (d := .int i) R rfl w⟩
  | [.bl i], w =>
    obtain ⟨v, rfl, h⟩ := borL1 b
    obtain rfl : v = .bl i := h
    exact .inr ⟨i, rfl, k.same (d := .int (if i = true then 1 else 0)) R rfl w⟩
theorem some_of {α : Type} {P : α → Prop} {o : Option α} (h : match o with
  | some d => P d
  | none => False) : ∃ d, o = some d ∧ P d := by
  cases o with
  | none => exact h.elim
  | some b => exact ⟨b, rfl, h⟩
theorem max_tup {prog : Program} {w : World} {A : Around} {E : Value → Shared → Prop} {s : Shared} {l : Addr} {xs : Array (Int × Tok)} {Q : Value → Shared → Prop} (hh : A.handled = none) (hl : s.heap.IsTuple l (intItems xs)) (hne : 0 < xs.size)
    (h : ∀ v h' tk, (intItems xs)[argBest (fun i j => decide (numAt xs i > numAt xs j)) (xs.size - 1)]? = some v → (∀ b o, s.heap.get? b = some o → h'.get? b = some o) → Q v { s with heap := h', toks := tk }) :
    wpAny (model prog w) A (call (.builtin "max") [.ref l]) Q E s := by
  obtain ⟨o, ho, hc, n, hd⟩ := id hl
  have hn : l ≠ s.heap.objs.size := Nat.ne_of_lt (Heap.lt_size ho)
  refine call_max_walk (wpAny_pyIter_tuple hl ?_)
  refine ⟨_, _, _, _, _, _, _, rfl, Walks.tuple (A := A.in1) hh s.heap.objs.size l hn (intItems xs), ⟨⟨_, Heap.get?_push_size _ rfl, rfl, rfl⟩, hl.at fun o e => Heap.get?_push_of_some _ e⟩, fun b hb => ?_, by simpa [intItems] using hne, CmpOf.ints_gt (numAt xs) (fun _ _ => intItems_at), fun v h' tk hP hk => ?_⟩
  · rcases List.mem_cons.mp hb with rfl | hb
    · exact Heap.lt_size (Heap.get?_push_size _ rfl)
    · obtain rfl := List.mem_singleton.mp hb
      exact Heap.lt_size (Heap.get?_push_of_some _ ho)
  · exact h v h' tk (by simpa [intItems] using hP) fun b o e => hk b o (fun hb => absurd (Heap.lt_size e) ((List.mem_singleton.mp hb) ▸ Nat.lt_irrefl _)) (Heap.get?_push_of_some _ e)
theorem min_tup {prog : Program} {w : World} {A : Around} {E : Value → Shared → Prop} {s : Shared} {l : Addr} {xs : Array (Int × Tok)} {Q : Value → Shared → Prop} (hh : A.handled = none) (hl : s.heap.IsTuple l (intItems xs)) (hne : 0 < xs.size)
    (h : ∀ v h' tk, (intItems xs)[argBest (fun i j => decide (numAt xs i < numAt xs j)) (xs.size - 1)]? = some v → (∀ b o, s.heap.get? b = some o → h'.get? b = some o) → Q v { s with heap := h', toks := tk }) :
    wpAny (model prog w) A (call (.builtin "min") [.ref l]) Q E s := by
  obtain ⟨o, ho, hc, n, hd⟩ := id hl
  have hn : l ≠ s.heap.objs.size := Nat.ne_of_lt (Heap.lt_size ho)
  refine call_min_walk (wpAny_pyIter_tuple hl ?_)
  refine ⟨_, _, _, _, _, _, _, rfl, Walks.tuple (A := A.in1) hh s.heap.objs.size l hn (intItems xs), ⟨⟨_, Heap.get?_push_size _ rfl, rfl, rfl⟩, hl.at fun o e => Heap.get?_push_of_some _ e⟩, fun b hb => ?_, by simpa [intItems] using hne, CmpOf.ints_lt (numAt xs) (fun _ _ => intItems_at), fun v h' tk hP hk => ?_⟩
  · rcases List.mem_cons.mp hb with rfl | hb
    · exact Heap.lt_size (Heap.get?_push_size _ rfl)
    · obtain rfl := List.mem_singleton.mp hb
      exact Heap.lt_size (Heap.get?_push_of_some _ ho)
  · exact h v h' tk (by simpa [intItems] using hP) fun b o e => hk b o (fun hb => absurd (Heap.lt_size e) ((List.mem_singleton.mp hb) ▸ Nat.lt_irrefl _)) (Heap.get?_push_of_some _ e)
def rSumT (K : PySem.W.Frag) : List V → Hp → VK → Prop := fun vs H Q => ∃ (a : Addr) (ns : List Int), vs = [V.ref a] ∧ SqT K H a (ns.map V.int) ∧ Q (.int ns.sum) H
def rMaxT (K : PySem.W.Frag) : List V → Hp → VK → Prop := fun vs H Q => ∃ (a : Addr) (ns : List Int), vs = [V.ref a] ∧ SqT K H a (ns.map V.int) ∧ 0 < ns.length ∧ ∀ m, m ∈ ns → (∀ y, y ∈ ns → y ≤ m) → Q (.int m) H
def rMinT (K : PySem.W.Frag) : List V → Hp → VK → Prop := fun vs H Q => ∃ (a : Addr) (ns : List Int), vs = [V.ref a] ∧ SqT K H a (ns.map V.int) ∧ 0 < ns.length ∧ ∀ m, m ∈ ns → (∀ y, y ∈ ns → m ≤ y) → Q (.int m) H
theorem cr_sumT {X : Cx} (hc : X.calm = true) : CallR X (.builtin "sum") (rSumT X.K) := by
  intro pins s σ H vs us Q I r h
  obtain ⟨a, ns, rfl, hs, q⟩ := h
  obtain ⟨its, rv, hl, _⟩ := I.tuple hs
  rw [Vals.ref1 r]
  obtain ⟨xs, e⟩ := rv.ints.allInts.items
  have hn : numsOf (intItems xs).toList = ns := by rw [← e]; exact rv.ints.numsOf
  rw [nums_intItems] at hn
  rw [e] at hl
  refine PySem.W.ktm_sumG (I.ok.hd hc) hl fun h' tk t' hk => ⟨.int _, H, I.kept hk, ⟨_, rfl⟩, ?_⟩
  rw [preSum_eq, List.take_of_length_le (by simp), hn]
  exact q
theorem cr_maxT {X : Cx} (hc : X.calm = true) : CallR X (.builtin "max") (rMaxT X.K) := by
  intro pins s σ H vs us Q I r h
  obtain ⟨a, ns, rfl, hs, hne, q⟩ := h
  obtain ⟨its, rv, hl, _⟩ := I.tuple hs
  rw [Vals.ref1 r]
  obtain ⟨xs, e⟩ := rv.ints.allInts.items
  have hn : numsOf (intItems xs).toList = ns := by rw [← e]; exact rv.ints.numsOf
  rw [nums_intItems] at hn
  subst hn
  rw [e] at hl
  have hsz : 0 < xs.size := by simpa using hne
  refine max_tup (I.ok.hd hc) hl hsz fun v h' tk hv hk => ?_
  obtain ⟨t, rfl⟩ := intItems_at hv
  obtain ⟨h1, h2⟩ := argBest_gt (numAt xs) (xs.size - 1)
  refine ⟨.int _, H, I.kept hk, ⟨t, rfl⟩, q _ ?_ fun a ha => ?_⟩
  · rw [numAt_eq]; exact PySem.getD_mem (by rw [List.length_map, Array.length_toList]; omega)
  · obtain ⟨j, hj, rfl⟩ := mem_getD ha
    rw [List.length_map, Array.length_toList] at hj
    rw [← numAt_eq]; exact h2 j (by omega)
theorem cr_minT {X : Cx} (hc : X.calm = true) : CallR X (.builtin "min") (rMinT X.K) := by
  intro pins s σ H vs us Q I r h
  obtain ⟨a, ns, rfl, hs, hne, q⟩ := h
  obtain ⟨its, rv, hl, _⟩ := I.tuple hs
  rw [Vals.ref1 r]
  obtain ⟨xs, e⟩ := rv.ints.allInts.items
  have hn : numsOf (intItems xs).toList = ns := by rw [← e]; exact rv.ints.numsOf
  rw [nums_intItems] at hn
  subst hn
  rw [e] at hl
  have hsz : 0 < xs.size := by simpa using hne
  refine min_tup (I.ok.hd hc) hl hsz fun v h' tk hv hk => ?_
  obtain ⟨t, rfl⟩ := intItems_at hv
  obtain ⟨h1, h2⟩ := argBest_lt (numAt xs) (xs.size - 1)
  refine ⟨.int _, H, I.kept hk, ⟨t, rfl⟩, q _ ?_ fun a ha => ?_⟩
  · rw [numAt_eq]; exact PySem.getD_mem (by rw [List.length_map, Array.length_toList]; omega)
  · obtain ⟨j, hj, rfl⟩ := mem_getD ha
    rw [List.length_map, Array.length_toList] at hj
    rw [← numAt_eq]; exact h2 j (by omega)
def rSumD (K : PySem.W.Frag) : List V → Hp → VK → Prop := fun xs H Q => rSum K xs H Q ∨ rSumT K xs H Q
theorem blt_sum (K : PySem.W.Frag) : BltSim .sum (rSumD K) := by
  intro B g H0 S vs ds Q Qd R b w k
  match ds, w with
  | [.lst xs], w =>
    obtain ⟨v, rfl, h⟩ := borL1 b
    obtain ⟨a, us, rfl, h1, h2⟩ := h
    obtain ⟨ns, e, w⟩ := w
    rw [h2.ints e] at h1
    exact .inl ⟨a, ns, rfl, SqL.of h1, k.same (d := .int ns.sum) R rfl w⟩
  | [.tup xs], w =>
    obtain ⟨v, rfl, h⟩ := borL1 b
    obtain ⟨a, us, rfl, h1, h2⟩ := h
    obtain ⟨ns, e, w⟩ := w
    rw [h2.ints e] at h1
    exact .inr ⟨a, ns, rfl, SqT.of h1, k.same (d := .int ns.sum) R rfl w⟩
theorem pos_len {α : Type} {l : List α} (h : l ≠ []) : 0 < l.length := by
  cases l with
  | nil => exact absurd rfl h
  | cons a b => exact Nat.succ_pos _
def rMaxD (K : PySem.W.Frag) : List V → Hp → VK → Prop := fun xs H Q => (rMax K xs H Q ∨ rMaxT K xs H Q) ∨ ∃ i j, xs = [.int i, .int j] ∧ Q (.int (if j > i then j else i)) H
def rMinD (K : PySem.W.Frag) : List V → Hp → VK → Prop := fun xs H Q => (rMin K xs H Q ∨ rMinT K xs H Q) ∨ ∃ i j, xs = [.int i, .int j] ∧ Q (.int (if j < i then j else i)) H
theorem CallR.or {X : Cx} {f : Value} {r r' : List V → Hp → VK → Prop} (h : CallR X f r) (h' : CallR X f r') : CallR X f fun xs H Q => r xs H Q ∨ r' xs H Q := fun pins s σ H xs us Q I rv q => by
  rcases q with q | q
  · exact h pins s σ H xs us Q I rv q
  · exact h' pins s σ H xs us Q I rv q
theorem cr_maxD {X : Cx} (hc : X.calm = true) : CallR X (.builtin "max") (rMaxD X.K) := ((cr_max hc).or (cr_maxT hc)).or (call_max2 hc)
theorem cr_minD {X : Cx} (hc : X.calm = true) : CallR X (.builtin "min") (rMinD X.K) := ((cr_min hc).or (cr_minT hc)).or (call_min2 hc)
theorem blt_max (K : PySem.W.Frag) : BltSim .max (rMaxD K) := by
  intro B g H0 S vs ds Q Qd R b w k
  match ds, w with
  | [.lst xs], w =>
    obtain ⟨v, rfl, h⟩ := borL1 b
    obtain ⟨a, us, rfl, h1, h2⟩ := h
    obtain ⟨ns, e, w⟩ := w
    rw [h2.ints e] at h1
    exact .inl (.inl ⟨a, ns, rfl, SqL.of h1, pos_len w.1, fun m hm hx => k.same (d := .int m) R rfl (w.2 m hm hx)⟩)
  | [.tup xs], w =>
    obtain ⟨v, rfl, h⟩ := borL1 b
    obtain ⟨a, us, rfl, h1, h2⟩ := h
    obtain ⟨ns, e, w⟩ := w
    rw [h2.ints e] at h1
    exact .inl (.inr ⟨a, ns, rfl, SqT.of h1, pos_len w.1, fun m hm hx => k.same (d := .int m) R rfl (w.2 m hm hx)⟩)
  | [.int i, .int j], w =>
    obtain ⟨v, u, rfl, h, h'⟩ := borL2 b
    obtain rfl : v = .int i := h
    obtain rfl : u = .int j := h'
    exact .inr ⟨i, j, rfl, k.same (d := .int (if j > i then j else i)) R rfl w⟩
theorem blt_min (K : PySem.W.Frag) : BltSim .min (rMinD K) := by
  intro B g H0 S vs ds Q Qd R b w k
  match ds, w with
  | [.lst xs], w =>
    obtain ⟨v, rfl, h⟩ := borL1 b
    obtain ⟨a, us, rfl, h1, h2⟩ := h
    obtain ⟨ns, e, w⟩ := w
    rw [h2.ints e] at h1
    exact .inl (.inl ⟨a, ns, rfl, SqL.of h1, pos_len w.1, fun m hm hx => k.same (d := .int m) R rfl (w.2 m hm hx)⟩)
  | [.tup xs], w =>
    obtain ⟨v, rfl, h⟩ := borL1 b
    obtain ⟨a, us, rfl, h1, h2⟩ := h
    obtain ⟨ns, e, w⟩ := w
    rw [h2.ints e] at h1
    exact .inl (.inr ⟨a, ns, rfl, SqT.of h1, pos_len w.1, fun m hm hx => k.same (d := .int m) R rfl (w.2 m hm hx)⟩)
  | [.int i, .int j], w =>
    obtain ⟨v, u, rfl, h, h'⟩ := borL2 b
    obtain rfl : v = .int i := h
    obtain rfl : u = .int j := h'
    exact .inr ⟨i, j, rfl, k.same (d := .int (if j < i then j else i)) R rfl w⟩
theorem blt_any (K : PySem.W.Frag) : BltSim .any (rAny K) := by
  intro B g H0 S vs ds Q Qd R b w k
  match ds, w with
  | [.lst xs], w =>
    obtain ⟨v, rfl, h⟩ := borL1 b
    obtain ⟨a, us, rfl, h1, h2⟩ := h
    obtain ⟨ns, e, w⟩ := w
    rw [h2.bools e] at h1
    exact ⟨a, ns, rfl, SqL.of h1, k.same (d := .bl (ns.any id)) R rfl w⟩
theorem blt_all (K : PySem.W.Frag) : BltSim .all (rAll K) := by
  intro B g H0 S vs ds Q Qd R b w k
  match ds, w with
  | [.lst xs], w =>
    obtain ⟨v, rfl, h⟩ := borL1 b
    obtain ⟨a, us, rfl, h1, h2⟩ := h
    obtain ⟨ns, e, w⟩ := w
    rw [h2.bools e] at h1
    exact ⟨a, ns, rfl, SqL.of h1, k.same (d := .bl (ns.all id)) R rfl w⟩
def rListD (K : PySem.W.Frag) : List V → Hp → VK → Prop := fun xs H Q => ∃ p ys, xs = [.ref p] ∧ (SqL K H p ys ∨ SqT K H p ys) ∧ ∀ (l : Addr), H l = none → Q (.ref l) (upd H l (.lst ys))
theorem blt_list (K : PySem.W.Frag) : BltSim .list (rListD K) := by
  intro B g H0 S vs ds Q Qd R b w k
  match ds, w with
  | [.lst xs], w =>
    obtain ⟨v, rfl, h⟩ := borL1 b
    obtain ⟨a, us, rfl, h1, h2⟩ := h
    exact ⟨a, us, rfl, .inl (SqL.of h1), k.newL R h2 w⟩
  | [.tup xs], w =>
    obtain ⟨v, rfl, h⟩ := borL1 b
    obtain ⟨a, us, rfl, h1, h2⟩ := h
    exact ⟨a, us, rfl, .inr (SqT.of h1), k.newL R h2 w⟩
def rTupleD (K : PySem.W.Frag) : List V → Hp → VK → Prop := fun xs H Q => ∃ p ys, xs = [.ref p] ∧ ((SqL K H p ys ∧ ∀ (l : Addr), H l = none → Q (.ref l) (upd H l (.tup ys))) ∨ SqT K H p ys ∧ Q (.ref p) H)
theorem blt_tuple (K : PySem.W.Frag) : BltSim .tuple (rTupleD K) := by
  intro B g H0 S vs ds Q Qd R b w k
  match ds, w with
  | [.lst xs], w =>
    obtain ⟨v, rfl, h⟩ := borL1 b
    obtain ⟨a, us, rfl, h1, h2⟩ := h
    exact ⟨a, us, rfl, .inl ⟨SqL.of h1, k.newT R h2 w⟩⟩
  | [.tup xs], w =>
    obtain ⟨v, rfl, h⟩ := borL1 b
    obtain ⟨a, us, rfl, h1, h2⟩ := h
    exact ⟨a, us, rfl, .inr ⟨SqT.of h1, k.same (d := .tup xs) R ⟨a, us, rfl, h1, h2⟩ w⟩⟩
def rReprD (K : PySem.W.Frag) : List V → Hp → VK → Prop := fun xs H Q => ∃ x d, xs = [x] ∧ Dp K H x d ∧ d.showable = true ∧ d.plain = true ∧ d.depth ≤ 1000 ∧ d.shown.length ≤ sizeLine ∧ Q (.str d.shown) H
mutual
theorem noDict : ∀ (d : PyData), d.plain = true → d.hasDict = false
  | .none, _ => rfl
  | .bool _, _ => rfl
  | .int _, _ => rfl
  | .str _, _ => rfl
  | .list xs, h => by
    simp only [PyData.hasDict]
    exact noDicts xs h
  | .tuple xs, h => by
    simp only [PyData.hasDict]
    exact noDicts xs h
  | .dict _, h => by cases h
theorem noDicts : ∀ (ds : List PyData), PyData.plainAll ds = true → PyData.hasDictAll ds = false
  | [], _ => by simp only [PyData.hasDictAll]
  | x :: xs, h => by
    have h' : (x.plain && PyData.plainAll xs) = true := h
    rw [Bool.and_eq_true] at h'
    simp only [PyData.hasDictAll, noDict x h'.1, noDicts xs h'.2, Bool.or_self]
end
theorem cr_repr {X : Cx} (hu : X.A.units + 3000 < cLine) (hg : X.A.guards = some []) : CallR X (.builtin "repr") (rReprD X.K) := by
  intro pins s σ H xs us Q I r h
  obtain ⟨x, d, rfl, hd, hs, hp, hn, hz, q⟩ := h
  obtain ⟨u, rfl, rx⟩ := vals1 r
  obtain ⟨as, rd⟩ := Dp.reads I d x u hd rx
  have hh := noDict d hp
  have close : ∀ {h' : Heap} {t : Tok} {tk : Nat}, (∀ b o, s.heap.get? b = some o → h'.get? b = some o) → EP X pins σ Q (.str d.shown t) { s with heap := h', toks := tk } := fun hk => ⟨.str d.shown, H, I.kept hk, ⟨_, rfl⟩, q⟩
  cases hd with
  | non =>
    cases rx
    exact PySem.P.repr_of_none (close fun _ _ e => e)
  | bl b =>
    cases rx
    exact PySem.P.repr_of_bool (close fun _ _ e => e)
  | int i =>
    obtain ⟨t, rfl⟩ := rx
    exact PySem.P.repr_of_int (of_decide_eq_true hs) (close fun _ _ e => e)
  | str x =>
    obtain ⟨t, rfl⟩ := rx
    exact PySem.P.repr_of_str (close fun _ _ e => e) hz
  | lst h1 h2 =>
    cases rx
    exact PySem.repr_of_reads' rd hs (PyData.noDict_hsm hh) hg (by omega) (fun _ _ e => e) (fun h' u tk hk => close hk) hz
  | tup h1 h2 =>
    cases rx
    exact PySem.repr_of_reads' rd hs (PyData.noDict_hsm hh) hg (by omega) (fun _ _ e => e) (fun h' u tk hk => close hk) hz
theorem blt_repr (K : PySem.W.Frag) : BltSim .repr (rReprD K) := by
  intro B g H0 S vs ds Q Qd R b w k
  match ds, w with
  | [d], w =>
    obtain ⟨v, rfl, h⟩ := borL1 b
    obtain ⟨p, e, w⟩ := w
    exact ⟨v, p, rfl, h.dp K e, w.1, D.plain _ _ e, w.2.1, w.2.2.1, k.same (d := .str p.shown) R rfl w.2.2.2⟩
def rStrD : List V → Hp → VK → Prop := fun xs H Q => ∃ i : Int, xs = [.int i] ∧ i.natAbs.log2 < 1920 ∧ Q (.str (toString i)) H
theorem blt_str : BltSim .str rStrD := by
  intro B g H0 S vs ds Q Qd R b w k
  match ds, w with
  | [.int i], w =>
    obtain ⟨v, rfl, h⟩ := borL1 b
    obtain rfl : v = .int i := h
    exact ⟨i, rfl, w.1, k.same (d := .str (toString i)) R rfl w.2⟩
end
end Dl
set_option maxHeartbeats 4000000
namespace Dl
open PySem PySem.Spec PyProof.Rows L2
section
variable {B : Tb} {g : Gh B} {H0 Hs : Hp} {S S0 S1 S2 S' : Sta} {EX : EXT} {K : XD} {C : Cn} {Q : VK} {Qd : RV → Em → Prop} {v : V} {rv : RV} {d : D}
variable {ta tb tc : TE} {a b c : E} {r r' : R2}

def MthSim (f : Mf) (r : V → List V → Hp → VK → Prop) : Prop := ∀ {B : Tb} (g : Gh B) (F : Addr → Prop) (H : Hp) (p : Addr) (xs : List V) (x : List D) (vs : List V) (ds : List D) (Q : VK) (Qd : D → D → Prop),
  H p = some (.lst xs) → DenL g F H x xs → DenL g F H ds vs → mthS f (.lst x) ds Qd →
  (∀ (v : V) (d : D) (ys : List V) (y : List D), Den g F H d v → DenL g F H y ys → Qd d (.lst y) → Q v (upd H p (.lst ys))) → r (.ref p) vs H Q
theorem denL1 {F : Addr → Prop} {H : Hp} {vs : List V} (h : DenL g F H [d] vs) : ∃ v, vs = [v] ∧ Den g F H d v := by
  cases vs with
  | nil => exact h.elim
  | cons v vs =>
    cases vs with
    | nil => exact ⟨v, rfl, h.1⟩
    | cons w ws => exact h.2.elim
theorem denL0 {F : Addr → Prop} {H : Hp} {vs : List V} (h : DenL g F H [] vs) : vs = [] := by
  cases vs with
  | nil => rfl
  | cons v vs => exact h.elim
theorem mth_append : MthSim .append rAppend := by
  intro B g F H p xs x vs ds Q Qd hp hx hd w k
  match ds, w with
  | [d], w =>
    obtain ⟨v, rfl, h⟩ := denL1 hd
    exact ⟨p, xs, v, rfl, rfl, hp, by rw [← hx.len]; exact w.1, k .non .non _ _ rfl (hx.append (es := [d]) (ws := [v]) ⟨h, trivial⟩) w.2⟩
def rPopD : V → List V → Hp → VK → Prop := fun x vs H Q => rPop x vs H Q ∨ rPopAt x vs H Q
theorem mt_popD {X : Cx} : MtR X "list.pop" rPopD := fun pins s σ H x xs v us Q I rx rv h => by
  rcases h with h | h
  · exact mt_pop pins s σ H x xs v us Q I rx rv h
  · exact mt_popAt pins s σ H x xs v us Q I rx rv h
theorem mth_pop : MthSim .pop rPopD := by
  intro B g F H p xs x vs ds Q Qd hp hx hd w k
  match ds, w with
  | [], w =>
    obtain rfl := denL0 hd
    obtain ⟨d, e, w⟩ := w
    obtain ⟨v, h1, h2⟩ := hx.getD e
    exact .inl ⟨p, xs, v, rfl, rfl, hp, by rw [← hx.len]; exact h1, k v d _ _ h2 hx.dropLast w⟩
  | [.int i], w =>
    obtain ⟨v, rfl, h⟩ := denL1 hd
    obtain rfl : v = .int i := h
    obtain ⟨w1, w2, w3⟩ := w
    obtain ⟨j, e, d, e2, w3⟩ := w3
    obtain ⟨v, h1, h2⟩ := hx.getD e2
    exact .inr ⟨p, xs, i, j, v, rfl, rfl, hp, w1, w2, by rw [← hx.len]; exact e, h1, k v d _ _ h2 (hx.eraseIdx j) w3⟩
theorem mth_extend : MthSim .extend rExtend := by
  intro B g F H p xs x vs ds Q Qd hp hx hd w k
  match ds, w with
  | [.lst ys], w =>
    obtain ⟨v, rfl, h⟩ := denL1 hd
    obtain ⟨b, us, rfl, f, h1, h2⟩ := h
    exact ⟨p, b, xs, us, rfl, rfl, hp, h1, by rw [← hx.len, ← h2.len]; exact w.1, k .non .non _ _ rfl (hx.append h2) w.2⟩
theorem mth_reverse : MthSim .reverse rReverse := by
  intro B g F H p xs x vs ds Q Qd hp hx hd w k
  match ds, w with
  | [], w =>
    obtain rfl := denL0 hd
    exact ⟨p, xs, rfl, rfl, hp, k .non .non _ _ rfl hx.reverse w⟩
theorem ownL_some {m : Em} {i : Nat} (h : ownL m i) : ∃ x, m[i]? = some (.ow (.lst x)) := by
  unfold ownL at h
  split at h
  · exact ⟨_, by assumption⟩
  · exact h.elim
theorem SimE.mth {f : Mf} {r : V → List V → Hp → VK → Prop} {Kf : PySem.W.Frag} {t : TA} {es : Es} (hr : MthSim f r)
    (ha : SimE C EX ta a) (ht : SimXs C EX t es) : SimE C EX (tBM Kf "list" r ta t) (.mth f a es) := by
  intro g H0 S Q Qd K R w k x
  simp only [wpE] at w
  refine ha g H0 S _ _ K R w (fun S1 v1 r1 e1 R1 G1 o1 w1 => ?_) x
  cases r1 with
  | val fr d => exact w1.elim
  | loc i =>
    have w1 : ownL S1.m i ∧ wpXs C es S1.m (fun ds m2 => mthK f i ds m2 Qd) K := w1
    obtain ⟨w0, w1⟩ := w1
    obtain ⟨x0, hx0⟩ := ownL_some w0
    obtain ⟨a, h1, h2⟩ := R1.ow i _ (.inl hx0)
    have hv : S1.σ[i]? = some (some v1) := o1
    rw [h1] at hv
    cases hv
    obtain ⟨k1, k2, k3, us, k4, k5⟩ := h2
    refine ⟨.inl ⟨rfl, us, SqL.of k4⟩, ?_⟩
    have h := ht g H0 S1 (fun xs H2 => r (.ref a) xs H2 Q) _ K R1 w1 (fun S2 vs ds hl e2 R2 G2 hds w2 => ?_) (x.go G1 e1)
    · rw [e1] at h
      exact h
    · unfold mthK at w2
      cases e : S2.m[i]? with
      | none => rw [e] at w2; exact w2.elim
      | some s =>
        rw [e] at w2
        cases s with
        | ow y =>
          cases y with
          | lst x =>
            obtain ⟨a', q1, q2⟩ := R2.ow i _ (.inl e)
            rw [e2, h1] at q1
            cases q1
            obtain ⟨j1, j2, j3, xs, j4, j5⟩ := q2
            have hs : S2.σ[i]? = some (some (.ref a)) := by rw [e2]; exact h1
            refine hr g S2.F S2.H a xs x vs ds Q _ j4 j5 hds w2 fun v d ys y hd hy q => ?_
            have l := R2.leW (o := HO.lst ys) ⟨i, _, e, hs⟩
            obtain ⟨R3, G3⟩ := R2.write (o := HO.lst ys) (y := .lst y) e hs ⟨j1, j2, j3, ys, upd_same, hy.mono l⟩
            exact k { S2 with H := upd S2.H a (.lst ys), m := S2.m.set i (.ow (.lst y)) } v (.val false d) (e2.trans e1) R3 (G1.trans (G2.trans G3)) (hd.mono l) q
          | _ => exact w2.elim
        | _ => exact w2.elim
theorem SimE.mth0 {f : Mf} {r : V → List V → Hp → VK → Prop} {Kf : PySem.W.Frag} (hr : MthSim f r) (ha : SimE C EX ta a) : SimE C EX (tBM0 Kf "list" r ta) (.mth f a .nil) :=
  fun g H0 S Q Qd K R w k x => SimE.mth (Kf := Kf) hr ha SimXs.nil g H0 S Q Qd K R w k x
end
end Dl
set_option maxHeartbeats 4000000
namespace PySem
open Sem (wp)
open AutoSeq1 (wpAny_loadPart')
theorem meets_enumerate_newTd (l : Addr) (items : Array Value) (n : Nat) (dct : Option Addr) (sl : Array (Option Value)) :
    Meets (Builtin.«enumerate.__new__» ⟨[.type "enumerate", .ref l], []⟩) (fun _ R s => s.heap.get? l = some { cls := .type "tuple", dict := dct, data := .seq items n, slots := sl } ∧
      R (.ok (.ret (.ref (s.heap.push { cls := .type "tuple_iterator", data := .fields #[.ref l, .int 0 0] }).objs.size)))
        { s with heap := (s.heap.push { cls := .type "tuple_iterator", data := .fields #[.ref l, .int 0 0] }).push { cls := .type "enumerate", data := .fields #[.none, .bool false, .ref s.heap.objs.size, rawInt 0, .none, .none] } }) :=
  .of_wp fun prog w A R s h => by
    obtain ⟨hp, g, d, tk, os⟩ := s; obtain ⟨hl, h⟩ := h
    have hsub := sub_enumerate
    have hL : Heap.IsTuple (Shared.heap ⟨hp, g, d, tk, os⟩) l items := ⟨_, hl, rfl, n, rfl⟩
    wp_walk using wpAny_loadPart' hl
    refine wpAny_stack_any fun st => wpAny_pure ?_
    split
    · rename_i c _ _ _ _ _
      cases (c == Value.type "enumerate")
      · wp_walk using wpAny_loadPart' hl, wpAny_pyIter_tuple hL
        exact ⟨_, rfl, h⟩
      · wp_walk using wpAny_loadPart' hl, wpAny_pyIter_tuple hL
        exact ⟨_, rfl, h⟩
    · wp_walk using wpAny_loadPart' hl, wpAny_pyIter_tuple hL
      exact ⟨_, rfl, h⟩
section
variable {prog : Program} {w : World} {A : Around} {E : Value → Shared → Prop} {s : Shared}
theorem call_enumerate_tup {l : Addr} {items : Array Value} {Q : Value → Shared → Prop} (hL : s.heap.IsTuple l items)
    (h : ∀ h', IsEnum h' (s.heap.objs.size + 1) s.heap.objs.size 0 .none → h'.IsTupleIter s.heap.objs.size l 0 → h'.objs.size = s.heap.objs.size + 2 →
      (∀ b o, s.heap.get? b = some o → h'.get? b = some o) → Q (.ref (s.heap.objs.size + 1)) { s with heap := h' }) :
    wpAny (model prog w) A (call (.type "enumerate") [.ref l]) Q E s := by
  obtain ⟨⟨c, dct, dt, sl⟩, hl, hc, n, hd⟩ := hL
  replace hc : c = .type "tuple" := hc
  replace hd : dt = .seq items n := hd
  subst hc hd
  refine callType_new F.called_enumerate (by decide) (F.typeCall_enumerate_1 _) (F.newCall_enumerate_1 _) (fun obj => F.args_object_init_2 obj _) F.entry_enumerate_new
    (meets_enumerate_newTd l items n dct sl) ⟨hl, ?_⟩
  have hz : (s.heap.push { cls := .type "tuple_iterator", data := .fields #[.ref l, .int 0 0] }).objs.size = s.heap.objs.size + 1 := Heap.size_push ..
  show _ ∧ _
  rw [hz]
  have he : IsEnum ((s.heap.push { cls := .type "tuple_iterator", data := .fields #[.ref l, .int 0 0] }).push
      { cls := .type "enumerate", data := .fields #[.none, .bool false, .ref s.heap.objs.size, rawInt 0, .none, .none] }) (s.heap.objs.size + 1) s.heap.objs.size 0 .none := by
    have := Heap.get?_push_size (s.heap.push { cls := .type "tuple_iterator", data := .fields #[.ref l, .int 0 0] })
      (o := { cls := .type "enumerate", data := .fields #[.none, .bool false, .ref s.heap.objs.size, rawInt 0, .none, .none] }) rfl
    rw [hz] at this; exact this
  refine ⟨⟨_, he, rfl⟩, h _ he ⟨_, Heap.get?_push_of_some _ (Heap.get?_push_size _ rfl), rfl, rfl⟩ (by rw [Heap.size_push, hz]) fun b o x => Heap.get?_push_of_some _ (Heap.get?_push_of_some _ x)⟩
theorem enum_tup_end {e it l : Addr} {i : Nat} {items : Array Value} {old : Value} {Q : Option Value → Shared → Prop} (hh : A.handled = none)
    (he : IsEnum s.heap e it (i : Int) old) (hit : s.heap.IsTupleIter it l i) (hl : s.heap.IsTuple l items) (hx : items[i]? = none)
    (hQ : ∀ h', Heap.ExtBut it s.heap h' → Q none { s with heap := h' }) : wpAny (model prog w) A (pyNext (.ref e)) Q E s := by
  have hT : s.TypeIs (.ref e) "enumerate" := ⟨_, he, rfl⟩
  unfold pyNext
  refine wpAny_bind (wpAny_attempt (wpAny_callSpecial?_slot (name := Str.ofString "__next__") hT F.slot_enumerate_next
    (wpAny_call_entry F.slot_enumerate_next hT F.entry_enumerate_next ?_ (F.args_enumerate_next_1 _))))
  show wpAny _ _ (field (.ref e) 2 >>= _) _ _ _
  refine wpAny_bind (wpAny_field he rfl (x := .ref it) rfl ?_)
  refine wpAny_bind (wpAny_nextOf_tuple_end (A := A.in1) hh hit hl hx fun h' x he' hx' => ?_)
  obtain ⟨o, ho, hc⟩ := hx'
  refine wpAny_bind (wpAny_isInstance (T := "StopIteration") (b := true) ⟨o, ho, hc⟩ isSubtype_stop ?_)
  exact wpAny_pure (hQ _ he')
end
end PySem
namespace Dl
open PySem PySem.Spec PyProof.Rows L2
def IteT (K : PySem.W.Frag) (a : Addr) : It :=
  ⟨fun i H => ∃ (xs : List V) (x : V), SqT K H a xs ∧ xs[i]? = some x, fun i H v H' => ∃ T x, v = .ref T ∧ H T = none ∧ H' = upd H T (.tup [.int (i : Nat), x]) ∧ ∀ xs, SqT K H a xs → xs[i]? = some x, fun i H => ∃ xs : List V, SqT K H a xs ∧ xs.length ≤ i⟩
theorem turn_enumT {P : Program} {w : World} {K : PySem.W.Frag} {elts : List Expr} {kk : Nat} {tpos : Pos} (a e it : Addr) (hne : e ≠ it) (hea : e ≠ a) (hia : a ≠ it) :
    Turn P w K (.Tuple elts kk tpos) (IteT K a) [e, it] e (fun i h => (∃ old, IsEnum h e it ((i : Nat) : Int) old) ∧ h.IsTupleIter it a i) where
  mem := by simp
  obj := fun i h st b hb => by
    obtain ⟨⟨old, he⟩, ⟨o, ho, hc, hd⟩⟩ := st
    have e' : b = e ∨ b = it := by simpa using hb
    rcases e' with z | z
    · rw [z]; exact ⟨_, he, fun v q => nomatch q⟩
    · rw [z]; exact ⟨o, ho, fun v q => by rw [hd] at q; cases q⟩
  keep := fun i h h' st k => let ⟨⟨old, he⟩, hi⟩ := st; ⟨⟨old, k e (by simp) _ he⟩, hi.at fun o q => k it (by simp) o q⟩
  item := by
    intro X hP hw hK hc i pins s σ H E I hf st hg
    subst hP hw hK
    obtain ⟨⟨old, he⟩, hit⟩ := st
    obtain ⟨xs, x, hq, hx⟩ := hg
    obtain ⟨its, rv, p, hz⟩ := I.tuple hq
    obtain ⟨u, hu, ru⟩ := rv.get hx
    have hel : e < s.heap.objs.size := Heap.lt_size he
    have hil : it < s.heap.objs.size := by obtain ⟨_, q, _⟩ := hit; exact Heap.lt_size q
    have hlt : i < its.toArray.size := by
      have := (List.getElem?_eq_some_iff.mp hu).1
      simpa using this
    have D := Draws.tuple (prog := X.prog) (w := X.w) (A := X.A.in1) (I.ok.hd hc) it a hia its.toArray
    refine wpAny_pyNext_enum_itemD D he ⟨hit, p⟩ hlt hne (by simp [hne, hea]) fun u' h' tk hP ho hst hT hsz hk => ?_
    obtain rfl : u = u' := by
      have hP : its[i]? = some u' := by simpa using hP
      rw [hu] at hP
      exact Option.some.inj hP
    refine ⟨_, rfl, wpAny_letOwnedTupleGo_enum (s := { s with heap := h', toks := tk + 1 }) ho fun h'' he' sb => ?_⟩
    have hT2 : h''.get? s.heap.objs.size = some { cls := .type "tuple", data := .seq #[.int i tk, u] } := (sb.2 _ (Nat.ne_of_gt hel)).trans hT
    have new : ObjOk X.prog X.w (upd H s.heap.objs.size (.tup [.int (i : Nat), x])) h'' s.heap.objs.size (.tup [.int (i : Nat), x]) :=
      ⟨by show 2 ≤ sizeLine; decide, [.int i tk, u], .cons ⟨_, rfl⟩ (.cons ru .nil), ⟨_, hT2, rfl, _, rfl⟩⟩
    have I1 : Inv X pins σ (upd H s.heap.objs.size (.tup [.int (i : Nat), x])) { s with heap := h'', toks := tk + 1 } :=
      I.turnedNew (ch := [e, it]) (fun b ob hb q => (sb.2 b (fun z => hb (by simp [z]))).trans (hk b ob (fun z => hb (by simp [z])) (fun z => hb (by simp [z])) q)) hf (Nat.le_refl _) new
    refine ⟨.ref s.heap.objs.size, _, I1, rfl, ⟨_, x, rfl, I.hok.fresh (Nat.le_refl _), rfl, fun ys hy => ?_⟩, ⟨⟨u, ?_⟩, hst.1.at fun o q => (sb.2 it (Ne.symm hne)).trans q⟩, fun b hb => ?_⟩
    · rw [I.tuple_inj hy hq]; exact hx
    · have e1 : ((i + 1 : Nat) : Int) = (i : Int) + 1 := by omega
      rw [e1]; exact he'
    · have hb' : b < s.heap.objs.size := by
        have e' : b = e ∨ b = it := by simpa using hb
        rcases e' with z | z
        · rw [z]; exact hel
        · rw [z]; exact hil
      rw [upd_ne (Nat.ne_of_lt hb')]
      exact (hf b hb).1
  done := by
    intro X hP hw hK hc i pins s σ H E I hf st hg
    subst hP hw hK
    obtain ⟨⟨old, he⟩, hit⟩ := st
    obtain ⟨xs, hq, hx⟩ := hg
    obtain ⟨its, rv, p, hz⟩ := I.tuple hq
    obtain ⟨f0, f1, f2, f3, f4, f5⟩ := hf it (by simp)
    have hl := rv.length
    exact enum_tup_end (I.ok.hd hc) he hit p (by simp; omega) fun h' eb => ⟨rfl, I.turned (t' := s.toks) (fun b o hb q => eb b o hb q) f0 f1 f3 f4 f5⟩
  self := fun A i s Q E st h => let ⟨⟨_, he⟩, _⟩ := st; wpAny_pyIter_enum he h
def iEnumT (K : PySem.W.Frag) (ta : TA) : TI := fun σ H R => ta σ H fun vs H1 => ∃ a xs, vs = [.ref a] ∧ ((SqL K H1 a xs ∧ R (Ite K a) H1) ∨ (SqT K H1 a xs ∧ R (IteT K a) H1))
theorem pi_enumT {X : Cx} {e : Expr} {ta : TA} {p pos tpos : Pos} {elts : List Expr} {kk : Nat} (hg : Gl X "enumerate") (hm : X.mg "enumerate" = none) (ha : PA X [e] ta) (hs : starEach [e] X.env = [(false, eval e X.env)] := by rfl) :
    PI X (.Tuple elts kk tpos) (.Call (.Name "enumerate" p) [e] [] pos) (iEnumT X.K ta) := by
  refine ⟨fun pins s σ H R I h => ?_⟩
  refine Call_ (ld_blt I hg hm boot_enumerate (PyProof.Rows.callWith_type1 (thn (ha.run pos pins s σ H _ I h) fun us s1 ⟨vs, H1, I1, r1, q1⟩ => ?_) hs rfl))
  obtain ⟨a, xs, ex, q⟩ := q1
  subst ex
  cases r1 with
  | cons r rr =>
    cases rr
    cases r
    rcases q with ⟨hq, q⟩ | ⟨hq, q⟩
    · obtain ⟨its, rv, p', hz⟩ := I1.list hq
      refine call_enumerate_list p'.isList fun h' he hit hsz hk => wpAny_pyIter_enum he ?_
      have I2 : Inv X pins σ H1 { s1 with heap := h' } := I1.kept (t' := s1.toks) hk
      refine ⟨s1.heap.objs.size + 1, [s1.heap.objs.size + 1, s1.heap.objs.size], _, _, H1, rfl, I2, turn_enum a (s1.heap.objs.size + 1) s1.heap.objs.size, ⟨⟨.none, he⟩, hit, Nat.succ_ne_self _⟩, fun b hb => ?_, q⟩
      have e' : b = s1.heap.objs.size + 1 ∨ b = s1.heap.objs.size := by simpa using hb
      have hle : s1.heap.objs.size ≤ b := by
        rcases e' with z | z
        · rw [z]; exact Nat.le_add_right _ _
        · rw [z]; exact Nat.le_refl _
      exact I1.fpOk hle (I1.hok.fresh hle)
    · obtain ⟨its, rv, p', hz⟩ := I1.tuple hq
      have hlt : a < s1.heap.objs.size := by obtain ⟨_, e, _⟩ := p'; exact Heap.lt_size e
      refine call_enumerate_tup p' fun h' he hit hsz hk => wpAny_pyIter_enum he ?_
      have I2 : Inv X pins σ H1 { s1 with heap := h' } := I1.kept (t' := s1.toks) hk
      refine ⟨s1.heap.objs.size + 1, [s1.heap.objs.size + 1, s1.heap.objs.size], _, _, H1, rfl, I2, turn_enumT a (s1.heap.objs.size + 1) s1.heap.objs.size (Nat.succ_ne_self _) (Nat.ne_of_gt (Nat.lt_succ_of_lt hlt)) (Nat.ne_of_lt hlt), ⟨⟨.none, he⟩, hit⟩, fun b hb => ?_, q⟩
      have e' : b = s1.heap.objs.size + 1 ∨ b = s1.heap.objs.size := by simpa using hb
      have hle : s1.heap.objs.size ≤ b := by
        rcases e' with z | z
        · rw [z]; exact Nat.le_add_right _ _
        · rw [z]; exact Nat.le_refl _
      exact I1.fpOk hle (I1.hok.fresh hle)
end Dl
set_option maxHeartbeats 4000000
namespace Dl
open PySem PySem.Spec PyProof.Rows L2
def OkXs {B : Tb} (g : Gh B) (H0 : Hp) (S : Sta) (EX : EXT) (K : XD) : Prop :=
  ∀ (S' : Sta) (c : Nat) (o : Option D) (cls : Value) (d : Option Addr), Rep g H0 S' → Go g S S' → XR g S' c o cls d → K c o S'.m → EX S'.σ cls d S'.H
mutual
def T.slots : T → List Nat
  | .nm i => [i]
  | .tp ts => ts.slots
  | .sub _ _ => []
def Ts.slots : Ts → List Nat
  | .nil => []
  | .cons t ts => t.slots ++ ts.slots
end
def SameOut (is : List Nat) (σ σ' : L2.St) : Prop := σ'.length = σ.length ∧ ∀ j, j ∉ is → σ'[j]? = σ[j]?
theorem SameOut.rfl {is : List Nat} {σ : L2.St} : SameOut is σ σ := ⟨Eq.refl _, fun _ _ => Eq.refl _⟩
theorem SameOut.trans {is js : List Nat} {σ σ' σ'' : L2.St} (h : SameOut is σ σ') (k : SameOut js σ' σ'') : SameOut (is ++ js) σ σ'' :=
  ⟨k.1.trans h.1, fun j hj => (k.2 j fun z => hj (List.mem_append_right _ z)).trans (h.2 j fun z => hj (List.mem_append_left _ z))⟩
section
variable (C : Cn) (EX : EXT)
def OkT {B : Tb} (g : Gh B) (H0 : Hp) (S0 S : Sta) (is : List Nat) (Q : L2.St → Hp → Prop) (Qd : Em → Prop) : Prop := ∀ S' : Sta, SameOut is S.σ S'.σ → Rep g H0 S' → Go g S0 S' → Qd S'.m → Q S'.σ S'.H
def SimT (t : TG) (tg : T) : Prop := ∀ (g : Gh C.tb) (H0 : Hp) (S0 S : Sta) (v : V) (rv : RV) (Q : L2.St → Hp → Prop) (Qd : Em → Prop) (K : XD), Rep g H0 S → Go g S0 S → RvOk g H0 S0.H S v rv → wpT C tg rv S.m Qd K →
  OkT g H0 S0 S tg.slots Q Qd → OkXs g H0 S0 EX K → t v S.σ S.H Q
def SimTL (t : TGs) (ts : Ts) : Prop := ∀ (g : Gh C.tb) (H0 : Hp) (S : Sta) (vs : List V) (ds : List D) (Q : L2.St → Hp → Prop) (Qd : Em → Prop) (K : XD), Rep g H0 S → DenL g S.F S.H ds vs → wpTs C ts ds S.m Qd K →
  OkT g H0 S S ts.slots Q Qd → OkXs g H0 S EX K → t vs S.σ S.H Q
end
section
variable {B : Tb} {g : Gh B} {H0 Hs : Hp} {S S0 S1 S2 S' : Sta} {EX : EXT} {K : XD} {C : Cn} {Q : VK} {Qd : RV → Em → Prop} {v : V} {rv : RV} {d : D}
variable {ta tb tc : TE} {a b c : E} {r r' : R2}
theorem OkXs.here (x : OkXs g H0 S EX K) (G : Go g S S1) : OkX g H0 S1 EX K := fun S' c o cls d _ R G' q k => x S' c o cls d R (G.trans G') q k
theorem OkXs.go (x : OkXs g H0 S EX K) (G : Go g S S1) : OkXs g H0 S1 EX K := fun S' c o cls d R G' q k => x S' c o cls d R (G.trans G') q k
theorem setK_some {i : Nat} {m : Em} {Q : Em → Prop} (h : setK i rv m Q) : i < m.length ∧ setK0 i rv m Q := by
  unfold setK at h
  split at h
  · exact h.elim
  · rename_i s e
    exact ⟨(List.getElem?_eq_some_iff.mp e).1, h⟩
theorem SimT.nm {i : Nat} : SimT C EX (gName i) (.nm i) := by
  intro g H0 S0 S v rv Q Qd K R G o w k x
  simp only [wpT] at w
  obtain ⟨hi, w⟩ := setK_some w
  obtain ⟨S', e1, e2, R', G', q⟩ := set_ok R G (by rw [← R.len]; exact hi) o w
  have h := k S' ⟨by rw [e1, List.length_set], fun j hj => by
    rw [e1]
    exact List.getElem?_set_ne fun z => hj (by rw [← z]; simp [T.slots])⟩ R' G' q
  rw [e1, e2] at h
  exact h
theorem SimTL.nil : SimTL C EX gNil .nil := by
  intro g H0 S vs ds Q Qd K R hd w k x
  simp only [wpTs] at w
  obtain ⟨rfl, w⟩ := w
  exact ⟨denL0 hd, k S SameOut.rfl R .refl w⟩
theorem SimTL.cons {t : TG} {u : TGs} {tg : T} {ts : Ts} (h : SimT C EX t tg) (h' : SimTL C EX u ts) : SimTL C EX (gCons t u) (.cons tg ts) := by
  intro g H0 S vs ds Q Qd K R hd w k x
  simp only [wpTs] at w
  cases ds with
  | nil => exact w.elim
  | cons d ds =>
    cases vs with
    | nil => exact hd.elim
    | cons v vs =>
      refine ⟨v, vs, rfl, ?_⟩
      refine h g H0 S S v (.val false d) _ _ K R .refl hd.1 w (fun S1 e1 R1 G1 w1 => ?_) x
      refine h' g H0 S1 vs ds Q Qd K R1 (hd.2.mono (R.le G1)) w1 (fun S2 e2 R2 G2 w2 => k S2 (e1.trans e2) R2 (G1.trans G2) w2) (x.go G1)
def gSeq (Kf : PySem.W.Frag) (n : Nat) (t : TGs) : TG := fun v σ H Q => gTup Kf n t v σ H Q ∨ gLst Kf n t v σ H Q
theorem pg_seq {X : Cx} {pos : Pos} {es : List Expr} {k : Nat} {t : TGs} {n : Nat} (hc : X.calm = true) (h : PGs X es t) (hn : (assignEach es X.env).length = n) (hst : (assignEach es X.env).findIdx? (·.1) = none) : PG X (.Tuple es k pos) (gSeq X.K n t) := by
  refine ⟨fun pins s σ H v u Q I r hw => ?_⟩
  rcases hw with hw | hw
  · exact (pg_tup hc h hn hst).run pins s σ H v u Q I r hw
  · exact (pg_lst hc h hn hst).run pins s σ H v u Q I r hw
theorem SimT.tp {Kf : PySem.W.Frag} {t : TGs} {ts : Ts} (h : SimTL C EX t ts) : SimT C EX (gSeq Kf ts.len t) (.tp ts) := by
  intro g H0 S0 S v rv Q Qd K R G o w k x
  simp only [wpT] at w
  obtain ⟨d, h1, w⟩ := resK_some w
  have b := o.bor R h1
  cases d with
  | tup xs =>
    obtain ⟨a, vs, rfl, hv1, hv2⟩ := b
    exact .inl ⟨a, vs, rfl, SqT.of hv1, by rw [← hv2.len]; exact w.1, h g H0 S vs xs Q Qd K R hv2 w.2 (fun S' e R' G' q => k S' e R' (G.trans G') q) (x.go G)⟩
  | lst xs =>
    obtain ⟨a, vs, rfl, hv1, hv2⟩ := b
    exact .inr ⟨a, vs, rfl, SqL.of hv1, by rw [← hv2.len]; exact w.1, h g H0 S vs xs Q Qd K R hv2 w.2 (fun S' e R' G' q => k S' e R' (G.trans G') q) (x.go G)⟩
  | _ => exact w.elim
theorem SimT.sub (ha : SimE C EX ta a) (hb : SimE C EX tb b) : SimT C EX (gSub ta tb rSetL) (.sub a b) := by
  intro g H0 S0 S v rv Q Qd K R G o w k x
  simp only [wpT] at w
  obtain ⟨S1, d, e1, h1, R1, G1, hd, w⟩ := esc_ok R G o w
  have h := ha g H0 S1 (fun o H1 => tb S.σ H1 fun i H2 => rSetL o i v H2 fun H3 => Q S.σ H3) _ K R1 w (fun S2 v2 r2 e2 R2 G2 o2 w2 => ?_) (x.here G1)
  · rw [e1, h1] at h
    exact h
  cases r2 with
  | val fr d => exact w2.elim
  | loc j =>
    have hj : S2.σ[j]? = some (some v2) := o2
    have h := hb g H0 S2 (fun i H2 => rSetL v2 i v H2 fun H3 => Q S.σ H3) _ K R2 w2 (fun S3 v3 r3 e3 R3 G3 o3 w3 => ?_) (x.here (G1.trans G2))
    · rw [e2, e1] at h
      exact h
    obtain ⟨y, h3, w4⟩ := resK_some w3
    have b3 := o3.bor R3 h3
    unfold putK at w4
    cases e : S3.m[j]? with
    | none => rw [e] at w4; exact w4.elim
    | some s =>
      rw [e] at w4
      cases s with
      | ow z =>
        cases z with
        | lst xs =>
          cases y with
          | int i =>
            obtain rfl : v3 = .int i := b3
            obtain ⟨a', q1, q2⟩ := R3.ow j _ (.inl e)
            rw [e3, hj] at q1
            cases q1
            obtain ⟨j1, j2, j3, vs, j4, j5⟩ := q2
            obtain ⟨n, ei, w5⟩ := w4
            · refine ⟨a', vs, i, n, rfl, rfl, j4, by rw [← j5.len]; exact ei, ?_⟩
              have hs : S3.σ[j]? = some (some (.ref a')) := by rw [e3]; exact hj
              have l := R3.leW (o := HO.lst (vs.set n v)) ⟨j, _, e, hs⟩
              have l3 := (R1.le G2).f
              have hd3 : Den g S3.F S3.H d v := (hd.mono (R1.le G2)).mono (R2.le G3)
              obtain ⟨R4, G4⟩ := R3.write (o := HO.lst (vs.set n v)) (y := .lst (xs.set n d)) e hs ⟨j1, j2, j3, _, upd_same, (j5.set n hd3).mono l⟩
              have es : S3.σ = S.σ := e3.trans (e2.trans e1)
              have q := k { S3 with H := upd S3.H a' (.lst (vs.set n v)), m := S3.m.set j (.ow (.lst (xs.set n d))) } ⟨by rw [es], fun l _ => by rw [es]⟩ R4 (G1.trans (G2.trans (G3.trans G4))) w5
              rw [← es]
              exact q
          | _ => exact w4.elim
        | pin pa xs =>
          cases y with
          | int i =>
            obtain rfl : v3 = .int i := b3
            obtain ⟨a', q1, q2⟩ := R3.ow j _ (.inl e)
            rw [e3, hj] at q1
            cases q1
            obtain ⟨j0, j1, j2, j3, vs, j4, j5⟩ := q2
            obtain ⟨n, ei, w5⟩ := w4
            · refine ⟨a', vs, i, n, rfl, rfl, j4, by rw [← j5.len]; exact ei, ?_⟩
              have hs : S3.σ[j]? = some (some (.ref a')) := by rw [e3]; exact hj
              have l := R3.leW (o := HO.lst (vs.set n v)) ⟨j, _, e, hs⟩
              have l3 := (R1.le G2).f
              have hd3 : Den g S3.F S3.H d v := (hd.mono (R1.le G2)).mono (R2.le G3)
              obtain ⟨R4, G4⟩ := R3.write (o := HO.lst (vs.set n v)) (y := .pin pa (xs.set n d)) e hs ⟨j0, j1, j2, j3, _, upd_same, (j5.set n hd3).mono l⟩
              have es : S3.σ = S.σ := e3.trans (e2.trans e1)
              have q := k { S3 with H := upd S3.H a' (.lst (vs.set n v)), m := S3.m.set j (.ow (.pin pa (xs.set n d))) } ⟨by rw [es], fun l _ => by rw [es]⟩ R4 (G1.trans (G2.trans (G3.trans G4))) w5
              rw [← es]
              exact q
          | _ => exact w4.elim
        | _ => cases y <;> exact w4.elim
      | _ => exact w4.elim

structure Walks {B : Tb} (g : Gh B) (H0 : Hp) (J : It) (ds : List D) (S1 : Sta) : Prop where
  go : ∀ S, Rep g H0 S → Go g S1 S → ∀ i, i < ds.length → J.go i S.H
  yld : ∀ S, Rep g H0 S → Go g S1 S → ∀ i v H' d, J.yld i S.H v H' → ds[i]? = some d → Rep g H0 { S with H := H' } ∧ Go g S { S with H := H' } ∧ Den g S.F H' d v
  stop : ∀ S, Rep g H0 S → Go g S1 S → J.stop ds.length S.H
def SimI (C : Cn) (EX : EXT) (t : TI) (it : I) : Prop := ∀ (g : Gh C.tb) (H0 : Hp) (S : Sta) (P : It → Hp → Prop) (Qd : List D → List Nat → Em → Prop) (K : XD), Rep g H0 S → wpI C it S.m Qd K →
  (∀ (S' : Sta) (J : It) (ds : List D) (js : List Nat), S'.σ = S.σ → Rep g H0 S' → Lk g S S' js → Walks g H0 J ds S' → Qd ds js S'.m → P J S'.H) → OkX g H0 S EX K → t S.σ S.H P
structure Still {B : Tb} (g : Gh B) (S : Sta) (p : Addr) : Prop where
  ha : g.ha ≠ some p
  ow : ¬ Owns S p
theorem Still.at {o : HO} {p : Addr} (h : Still g S p) (G : Go g S S') (e : S.H p = some o) : S'.H p = some o := G.keep p o e h.ha h.ow
theorem lock_ok {js : List Nat} {xs : List D} (R : Rep g H0 S) (L : Lk g S0 S js) (h : RvOk g H0 Hs S v rv) (e : res rv S.m = some d) (hd : d = .lst xs ∨ d = .tup xs) :
    ∃ (p : Addr) (vs : List V), v = .ref p ∧ DenL g S.F S.H xs vs ∧ ((d = .lst xs ∧ S.H p = some (.lst vs)) ∨ (d = .tup xs ∧ S.H p = some (.tup vs))) ∧ Rep g H0 { S with m := (lockE rv S.m).1 } ∧ Lk g S0 { S with m := (lockE rv S.m).1 } (js ++ (lockE rv S.m).2) ∧ Still g { S with m := (lockE rv S.m).1 } p := by
  have same : ∀ {q : Em × List Nat}, q = (S.m, []) → Rep g H0 { S with m := q.1 } ∧ Lk g S0 { S with m := q.1 } (js ++ q.2) := fun {q} e => by
    subst e
    exact ⟨R, by rw [List.append_nil]; exact L⟩
  have shared : ∀ {q : Em × List Nat}, q = (S.m, []) → Den g S.F S.H d v → ∃ (p : Addr) (vs : List V), v = .ref p ∧ DenL g S.F S.H xs vs ∧ ((d = .lst xs ∧ S.H p = some (.lst vs)) ∨ (d = .tup xs ∧ S.H p = some (.tup vs))) ∧ Rep g H0 { S with m := q.1 } ∧ Lk g S0 { S with m := q.1 } (js ++ q.2) ∧ Still g { S with m := q.1 } p := fun {q} eq hv => by
    subst eq
    obtain ⟨s1, s2⟩ := same rfl
    rcases hd with rfl | rfl
    · obtain ⟨p, vs, e1, f, e2, e3⟩ := hv
      exact ⟨p, vs, e1, e3, .inl ⟨rfl, e2⟩, s1, s2, R.haF f, R.noF f⟩
    · obtain ⟨p, vs, e1, e2, e3⟩ := hv
      exact ⟨p, vs, e1, e3, .inr ⟨rfl, e2⟩, s1, s2, R.tupH e2, R.tupO e2⟩
  have lone : ∀ {i : Nat} {p : Addr}, S.m[i]? = some (.lk d) → S.σ[i]? = some (some (.ref p)) → ¬ Owns S p := fun {i p} hm hs ⟨j, e', hj, hs'⟩ => by
    have := R.inj i j d e' p (.inr hm) (.inl hj) hs hs'
    subst this
    rw [hm] at hj
    cases hj
  cases rv with
  | val fr d0 =>
    cases e
    have q : lockE (.val fr d) S.m = (S.m, []) := rfl
    cases fr with
    | false => exact shared q h
    | true =>
      rcases hd with rfl | rfl
      · obtain ⟨p, e1, h1, h2, h3⟩ := h
        obtain ⟨j1, j2, j3, vs, j4, j5⟩ := h2
        obtain ⟨s1, s2⟩ := same q
        exact ⟨p, vs, e1, j5, .inl ⟨rfl, j4⟩, s1, s2, j3, fun w => h3 w.hd⟩
      · exact shared q h
  | loc i =>
    have hv : S.σ[i]? = some (some v) := h
    simp only [res] at e
    cases em : S.m[i]? with
    | none => rw [em] at e; cases e
    | some s =>
      rw [em] at e
      cases s with
      | un => cases e
      | sh d0 =>
        cases e
        obtain ⟨u, h1, h2⟩ := R.sh i _ em
        rw [hv] at h1
        cases h1
        exact shared (by simp only [lockE, em]) h2
      | lk d0 =>
        cases e
        obtain ⟨p, h1, h2⟩ := R.ow i _ (.inr em)
        rw [hv] at h1
        cases h1
        obtain ⟨s1, s2⟩ := same (q := lockE (.loc i) S.m) (by simp only [lockE, em])
        rcases hd with rfl | rfl
        · obtain ⟨j1, j2, j3, vs, j4, j5⟩ := h2
          refine ⟨p, vs, rfl, j5, .inl ⟨rfl, j4⟩, s1, s2, j3, ?_⟩
          have : (lockE (.loc i) S.m).1 = S.m := by simp only [lockE, em]
          rw [this]
          exact lone em hv
        · exact h2.elim
      | ow d0 =>
        cases e
        obtain ⟨p, h1, h2⟩ := R.ow i _ (.inl em)
        rw [hv] at h1
        cases h1
        have q : lockE (.loc i) S.m = (S.m.set i (.lk d), [i]) := by simp only [lockE, em]
        obtain ⟨s1, s2⟩ := L.lock R em
        rw [q]
        rcases hd with rfl | rfl
        · obtain ⟨j1, j2, j3, vs, j4, j5⟩ := h2
          refine ⟨p, vs, rfl, j5, .inl ⟨rfl, j4⟩, s1, s2, j3, fun ⟨j, e', hj, hs'⟩ => ?_⟩
          rcases get_set hj with ⟨_, z⟩ | ⟨n, z⟩
          · cases z
          · exact n (R.inj j i e' _ p (.inl z) (.inl em) hs' hv)
        · exact h2.elim
theorem walks_lst {Kf : PySem.W.Frag} {p : Addr} {vs : List V} {xs : List D} (hp : S.H p = some (.lst vs)) (hd : DenL g S.F S.H xs vs) (st : Still g S p) (R : Rep g H0 S) : Walks g H0 (Itl Kf p) xs S where
  go := fun S' R' G i hi => by
    obtain ⟨v, h1, _⟩ := hd.getD (List.getElem?_eq_getElem hi)
    exact ⟨vs, v, SqL.of (st.at G hp), h1⟩
  yld := fun S' R' G i v H' d y e => by
    obtain ⟨rfl, y⟩ := y
    obtain ⟨u, h1, h2⟩ := hd.getD e
    have := y vs (SqL.of (st.at G hp))
    rw [h1] at this
    cases this
    exact ⟨R', .refl, h2.mono (R.le G)⟩
  stop := fun S' R' G => ⟨vs, SqL.of (st.at G hp), by rw [hd.len]; exact Nat.le_refl _⟩
theorem walks_tup {Kf : PySem.W.Frag} {p : Addr} {vs : List V} {xs : List D} (hp : S.H p = some (.tup vs)) (hd : DenL g S.F S.H xs vs) (st : Still g S p) (R : Rep g H0 S) : Walks g H0 (Itt Kf p) xs S where
  go := fun S' R' G i hi => by
    obtain ⟨v, h1, _⟩ := hd.getD (List.getElem?_eq_getElem hi)
    exact ⟨vs, v, SqT.of (st.at G hp), h1⟩
  yld := fun S' R' G i v H' d y e => by
    obtain ⟨rfl, y⟩ := y
    obtain ⟨u, h1, h2⟩ := hd.getD e
    have := y vs (SqT.of (st.at G hp))
    rw [h1] at this
    cases this
    exact ⟨R', .refl, h2.mono (R.le G)⟩
  stop := fun S' R' G => ⟨vs, SqT.of (st.at G hp), by rw [hd.len]; exact Nat.le_refl _⟩
def iSeqD (Kf : PySem.W.Frag) (te : TE) : TI := fun σ H P => te σ H fun x H1 => ∃ p, x = .ref p ∧ (((∃ xs, SqL Kf H1 p xs) ∧ P (Itl Kf p) H1) ∨ ((∃ xs, SqT Kf H1 p xs) ∧ P (Itt Kf p) H1))
theorem pi_seqD {X : Cx} {tg l : Expr} {te : TE} (hl : PE X l te) : PI X tg l (iSeqD X.K te) :=
  ⟨fun pins s σ H P I h => thn (hl.run pins s σ H _ I h) fun v s1 ⟨x, H1, I1, r1, p, e, q⟩ => by
    subst e
    cases r1
    rcases q with ⟨⟨xs, hq⟩, q⟩ | ⟨⟨xs, hq⟩, q⟩
    · obtain ⟨its, _, hp, _⟩ := I1.list hq
      exact wpAny_pyIter_list hp.isList (pi_one (tk := s1.toks) I1 _ (turn_list p _) ⟨_, Heap.get?_push_size _ rfl, rfl, rfl⟩ q)
    · obtain ⟨its, _, hp, _⟩ := I1.tuple hq
      exact wpAny_pyIter_tuple (show s1.heap.IsTuple p its.toArray from hp) (pi_one (tk := s1.toks) I1 _ (turn_tuple p _) ⟨_, Heap.get?_push_size _ rfl, rfl, rfl⟩ q)⟩
theorem items_some {Pd : List D → Prop} (h : match itemsOf d with
  | some xs => Pd xs
  | none => False) : ∃ xs, (d = .lst xs ∨ d = .tup xs) ∧ Pd xs := by
  cases d with
  | lst xs => exact ⟨xs, .inl rfl, h⟩
  | tup xs => exact ⟨xs, .inr rfl, h⟩
  | _ => exact h.elim
theorem SimI.seq (Kf : PySem.W.Frag) (ha : SimE C EX ta a) : SimI C EX (iSeqD Kf ta) (.seq a) := by
  intro g H0 S P Qd K R w k x
  simp only [wpI] at w
  refine ha g H0 S _ _ K R w (fun S1 v1 r1 e1 R1 G1 o1 w1 => ?_) x
  obtain ⟨d1, h1, w2⟩ := resK_some w1
  obtain ⟨xs, hx, w3⟩ := items_some (Pd := fun xs => Qd xs (lockE r1 S1.m).2 (lockE r1 S1.m).1) w2
  obtain ⟨p, vs, rfl, q1, q2, R2, L2, st⟩ := lock_ok R1 G1.lk o1 h1 hx
  refine ⟨p, rfl, ?_⟩
  rcases q2 with ⟨_, q2⟩ | ⟨_, q2⟩
  · exact .inl ⟨⟨vs, SqL.of q2⟩, k { S1 with m := (lockE r1 S1.m).1 } _ xs _ e1 R2 L2 (walks_lst q2 q1 st R2) w3⟩
  · exact .inr ⟨⟨vs, SqT.of q2⟩, k { S1 with m := (lockE r1 S1.m).1 } _ xs _ e1 R2 L2 (walks_tup q2 q1 st R2) w3⟩
theorem range_get {lo hi : Int} {i : Nat} {d : D} (h : (rangeD lo hi)[i]? = some d) : d = .int (lo + (i : Int)) ∧ i < (hi - lo).toNat := by
  unfold rangeD at h
  rw [List.getElem?_map] at h
  cases e : (List.range (hi - lo).toNat)[i]? with
  | none => rw [e] at h; cases h
  | some j =>
    rw [e] at h
    obtain ⟨h1, h2⟩ := List.getElem?_eq_some_iff.mp e
    rw [List.getElem_range] at h2
    subst h2
    cases h
    exact ⟨rfl, by simpa using h1⟩
theorem range_len (lo hi : Int) : (rangeD lo hi).length = (hi - lo).toNat := by simp [rangeD]
theorem walks_rng (lo hi : Int) : Walks g H0 (Itr lo (hi - lo).toNat) (rangeD lo hi) S where
  go := fun S' _ _ i h => by rw [range_len] at h; exact h
  yld := fun S' R' _ i v H' d y e => by
    obtain ⟨rfl, rfl⟩ := y
    obtain ⟨rfl, _⟩ := range_get e
    exact ⟨R', .refl, rfl⟩
  stop := fun _ _ _ => by rw [range_len]; exact Nat.le_refl _
theorem SimI.rng1 {t : TA} {es : Es} (hn : es.len = 1) (ht : SimXs C EX t es) : SimI C EX (iRng1 t) (.rng es) := by
  intro g H0 S P Qd K R w k x
  simp only [wpI] at w
  refine ht g H0 S _ _ K R w (fun S1 vs ds hl e1 R1 G1 hds w1 => ?_) x
  rw [hn] at hl
  match ds, hl with
  | [d], _ =>
    obtain ⟨v, rfl, h⟩ := denL1 hds
    cases d with
    | int j =>
      obtain rfl : v = .int j := h
      obtain ⟨⟨w1, w2⟩, w3⟩ := w1
      have wr := walks_rng (g := g) (H0 := H0) (S := S1) 0 j
      rw [Int.sub_zero] at wr
      exact ⟨j, rfl, w1, w2, k S1 _ _ [] e1 R1 G1.lk wr w3⟩
    | _ => exact w1.elim
theorem SimI.rng2 {t : TA} {es : Es} (hn : es.len = 2) (ht : SimXs C EX t es) : SimI C EX (iRng2 t) (.rng es) := by
  intro g H0 S P Qd K R w k x
  simp only [wpI] at w
  refine ht g H0 S _ _ K R w (fun S1 vs ds hl e1 R1 G1 hds w1 => ?_) x
  rw [hn] at hl
  match ds, hl, w1 with
  | [.int i, .int j], _, w1 =>
    match vs, hds with
    | [v, u], hds =>
      obtain ⟨h1, h2, _⟩ := hds
      obtain rfl : v = .int i := h1
      obtain rfl : u = .int j := h2
      obtain ⟨w1, w2, w3⟩ := w1
      exact ⟨i, j, rfl, ⟨w1.1, w1.2, w2.1, w2.2⟩, k S1 _ _ [] e1 R1 G1.lk (walks_rng i j) w3⟩
theorem zip_get : ∀ {xs ys : List D} {i : Nat} {d : D}, (zipD xs ys)[i]? = some d → ∃ x y, xs[i]? = some x ∧ ys[i]? = some y ∧ d = .tup [x, y]
  | [], _, _, _, h => by simp [zipD] at h
  | _ :: _, [], _, _, h => by simp [zipD] at h
  | x :: xs, y :: ys, 0, d, h => by
    simp [zipD] at h
    exact ⟨x, y, rfl, rfl, h.symm⟩
  | x :: xs, y :: ys, i + 1, d, h => by
    simp only [zipD, List.getElem?_cons_succ] at h
    obtain ⟨x', y', h1, h2, h3⟩ := zip_get h
    exact ⟨x', y', by simpa using h1, by simpa using h2, h3⟩
theorem zip_len : ∀ (xs ys : List D), (zipD xs ys).length = min xs.length ys.length
  | [], _ => by simp [zipD]
  | _ :: _, [] => by simp [zipD]
  | x :: xs, y :: ys => by
    simp only [zipD, List.length_cons, zip_len xs ys]
    omega
theorem new_pair {T : Addr} {x y : V} {d e : D} (R : Rep g H0 S) (hT : S.H T = none) (hx : Den g S.F S.H d x) (hy : Den g S.F S.H e y) :
    Rep g H0 { S with H := upd S.H T (.tup [x, y]) } ∧ Go g S { S with H := upd S.H T (.tup [x, y]) } ∧ Den g S.F (upd S.H T (.tup [x, y])) (.tup [d, e]) (.ref T) :=
  ⟨R.alloc hT, .alloc R hT, R.newT hT (ds := [d, e]) (vs := [x, y]) ⟨hx, hy, trivial⟩⟩
theorem walks_zipL {Kf : PySem.W.Frag} {p q : Addr} {vs us : List V} {xs ys : List D} (hp : S.H p = some (.lst vs)) (hq : S.H q = some (.lst us)) (hd : DenL g S.F S.H xs vs) (he : DenL g S.F S.H ys us) (st : Still g S p) (st' : Still g S q) (R : Rep g H0 S) :
    Walks g H0 (Itz Kf p q) (zipD xs ys) S where
  go := fun S' R' G i hi => by
    rw [zip_len] at hi
    obtain ⟨v, h1, _⟩ := hd.getD (List.getElem?_eq_getElem (show i < xs.length by omega))
    obtain ⟨u, h2, _⟩ := he.getD (List.getElem?_eq_getElem (show i < ys.length by omega))
    exact ⟨vs, us, v, u, SqL.of (st.at G hp), SqL.of (st'.at G hq), h1, h2⟩
  yld := fun S' R' G i v H' d y e => by
    obtain ⟨T, x, y, rfl, hT, rfl, y1, y2⟩ := y
    obtain ⟨dx, dy, z1, z2, rfl⟩ := zip_get e
    obtain ⟨u, h1, h2⟩ := hd.getD z1
    obtain ⟨u', h1', h2'⟩ := he.getD z2
    have a1 := y1 vs (SqL.of (st.at G hp))
    have a2 := y2 us (SqL.of (st'.at G hq))
    rw [h1] at a1
    rw [h1'] at a2
    cases a1
    cases a2
    exact new_pair R' hT (h2.mono (R.le G)) (h2'.mono (R.le G))
  stop := fun S' R' G => ⟨vs, us, SqL.of (st.at G hp), SqL.of (st'.at G hq), by
    rw [zip_len, hd.len, he.len]
    omega⟩
theorem walks_zipT {Kf : PySem.W.Frag} {p q : Addr} {vs us : List V} {xs ys : List D} (hp : S.H p = some (.tup vs)) (hq : S.H q = some (.tup us)) (hd : DenL g S.F S.H xs vs) (he : DenL g S.F S.H ys us) (st : Still g S p) (st' : Still g S q) (R : Rep g H0 S) :
    Walks g H0 (RZ.ItzT Kf p q) (zipD xs ys) S where
  go := fun S' R' G i hi => by
    rw [zip_len] at hi
    obtain ⟨v, h1, _⟩ := hd.getD (List.getElem?_eq_getElem (show i < xs.length by omega))
    obtain ⟨u, h2, _⟩ := he.getD (List.getElem?_eq_getElem (show i < ys.length by omega))
    exact ⟨vs, us, v, u, SqT.of (st.at G hp), SqT.of (st'.at G hq), h1, h2⟩
  yld := fun S' R' G i v H' d y e => by
    obtain ⟨T, x, y, rfl, hT, rfl, y1, y2⟩ := y
    obtain ⟨dx, dy, z1, z2, rfl⟩ := zip_get e
    obtain ⟨u, h1, h2⟩ := hd.getD z1
    obtain ⟨u', h1', h2'⟩ := he.getD z2
    have a1 := y1 vs (SqT.of (st.at G hp))
    have a2 := y2 us (SqT.of (st'.at G hq))
    rw [h1] at a1
    rw [h1'] at a2
    cases a1
    cases a2
    exact new_pair R' hT (h2.mono (R.le G)) (h2'.mono (R.le G))
  stop := fun S' R' G => ⟨vs, us, SqT.of (st.at G hp), SqT.of (st'.at G hq), by
    rw [zip_len, hd.len, he.len]
    omega⟩
theorem enum_get : ∀ {xs : List D} {n i : Nat} {d : D}, (enumD n xs)[i]? = some d → ∃ x, xs[i]? = some x ∧ d = .tup [.int ((n + i : Nat) : Int), x]
  | [], _, _, _, h => by simp [enumD] at h
  | x :: xs, n, 0, d, h => by
    simp [enumD] at h
    exact ⟨x, rfl, h.symm⟩
  | x :: xs, n, i + 1, d, h => by
    simp only [enumD, List.getElem?_cons_succ] at h
    obtain ⟨y, h1, h2⟩ := enum_get h
    exact ⟨y, by simpa using h1, by rw [h2, show n + 1 + i = n + (i + 1) by omega]⟩
theorem enum_len : ∀ (n : Nat) (xs : List D), (enumD n xs).length = xs.length
  | _, [] => rfl
  | n, x :: xs => by simp only [enumD, List.length_cons, enum_len (n + 1) xs]
theorem walks_enum {Kf : PySem.W.Frag} {p : Addr} {vs : List V} {xs : List D} (hp : S.H p = some (.lst vs)) (hd : DenL g S.F S.H xs vs) (st : Still g S p) (R : Rep g H0 S) : Walks g H0 (Ite Kf p) (enumD 0 xs) S where
  go := fun S' R' G i hi => by
    rw [enum_len] at hi
    obtain ⟨v, h1, _⟩ := hd.getD (List.getElem?_eq_getElem hi)
    exact ⟨vs, v, SqL.of (st.at G hp), h1⟩
  yld := fun S' R' G i v H' d y e => by
    obtain ⟨T, x, rfl, hT, rfl, y⟩ := y
    obtain ⟨dx, z1, rfl⟩ := enum_get e
    obtain ⟨u, h1, h2⟩ := hd.getD z1
    have a1 := y vs (SqL.of (st.at G hp))
    rw [h1] at a1
    cases a1
    rw [Nat.zero_add]
    exact new_pair (d := .int (i : Nat)) R' hT rfl (h2.mono (R.le G))
  stop := fun S' R' G => ⟨vs, SqL.of (st.at G hp), by rw [enum_len, hd.len]; exact Nat.le_refl _⟩
theorem walks_enumT {Kf : PySem.W.Frag} {p : Addr} {vs : List V} {xs : List D} (hp : S.H p = some (.tup vs)) (hd : DenL g S.F S.H xs vs) (st : Still g S p) (R : Rep g H0 S) : Walks g H0 (IteT Kf p) (enumD 0 xs) S where
  go := fun S' R' G i hi => by
    rw [enum_len] at hi
    obtain ⟨v, h1, _⟩ := hd.getD (List.getElem?_eq_getElem hi)
    exact ⟨vs, v, SqT.of (st.at G hp), h1⟩
  yld := fun S' R' G i v H' d y e => by
    obtain ⟨T, x, rfl, hT, rfl, y⟩ := y
    obtain ⟨dx, z1, rfl⟩ := enum_get e
    obtain ⟨u, h1, h2⟩ := hd.getD z1
    have a1 := y vs (SqT.of (st.at G hp))
    rw [h1] at a1
    cases a1
    rw [Nat.zero_add]
    exact new_pair (d := .int (i : Nat)) R' hT rfl (h2.mono (R.le G))
  stop := fun S' R' G => ⟨vs, SqT.of (st.at G hp), by rw [enum_len, hd.len]; exact Nat.le_refl _⟩
theorem SimI.enm (Kf : PySem.W.Frag) (ha : SimE C EX ta a) : SimI C EX (iEnumT Kf (tCons ta tNil)) (.enm a) := by
  intro g H0 S P Qd K R w k x
  simp only [wpI] at w
  refine ha g H0 S _ _ K R w (fun S1 v1 r1 e1 R1 G1 o1 w1 => ?_) x
  obtain ⟨d1, h1, w2⟩ := resK_some w1
  obtain ⟨xs, hx, w3⟩ := items_some (Pd := fun xs => Qd (enumD 0 xs) (lockE r1 S1.m).2 (lockE r1 S1.m).1) w2
  obtain ⟨p, vs, rfl, q1, q2, R2, L2, st⟩ := lock_ok R1 G1.lk o1 h1 hx
  rcases q2 with ⟨_, q2⟩ | ⟨_, q2⟩
  · exact ⟨p, vs, rfl, .inl ⟨SqL.of q2, k { S1 with m := (lockE r1 S1.m).1 } _ _ _ e1 R2 L2 (walks_enum q2 q1 st R2) w3⟩⟩
  · exact ⟨p, vs, rfl, .inr ⟨SqT.of q2, k { S1 with m := (lockE r1 S1.m).1 } _ _ _ e1 R2 L2 (walks_enumT q2 q1 st R2) w3⟩⟩
end
end Dl
set_option maxHeartbeats 4000000
namespace Dl
open PySem PySem.Spec PyProof.Rows L2
section
variable {B : Tb} {g : Gh B} {H0 Hs : Hp} {S S0 S1 S2 S' : Sta} {EX : EXT} {K : XD} {C : Cn} {Q : VK} {Qd : RV → Em → Prop} {v : V} {rv : RV} {d : D}
variable {ta tb tc : TE} {a b c : E} {r r' : R2}

theorem lock_cases (rv : RV) (m : Em) : (lockE rv m) = (m, []) ∨ ∃ i d, rv = .loc i ∧ m[i]? = some (.ow d) ∧ lockE rv m = (m.set i (.lk d), [i]) := by
  cases rv with
  | val fr d => exact .inl rfl
  | loc i =>
    cases e : m[i]? with
    | none => exact .inl (by simp only [lockE, e])
    | some s =>
      cases s with
      | ow d => exact .inr ⟨i, d, rfl, e, by simp only [lockE, e]⟩
      | _ => exact .inl (by simp only [lockE, e])
theorem res_lock (q rv : RV) (m : Em) : res q (lockE rv m).1 = res q m := by
  rcases lock_cases rv m with h | ⟨i, d, _, h1, h2⟩
  · rw [h]
  · rw [h2]
    cases q with
    | val fr d => rfl
    | loc j =>
      simp only [res]
      by_cases z : i = j
      · subst z
        rw [List.getElem?_set_self (List.getElem?_eq_some_iff.mp h1).1, h1]
      · rw [List.getElem?_set_ne z]
theorem lock_owns {p : Addr} (h : Owns { S with m := (lockE rv S.m).1 } p) : Owns S p := by
  rcases lock_cases rv S.m with e | ⟨i, d, _, h1, h2⟩
  · rw [e] at h
    exact h
  · rw [h2] at h
    obtain ⟨j, e, z1, z2⟩ := h
    rcases get_set z1 with ⟨_, z⟩ | ⟨_, z⟩
    · cases z
    · exact ⟨j, e, z, z2⟩
theorem lock_holds {p : Addr} (h : Holds { S with m := (lockE rv S.m).1 } p) : Holds S p := by
  rcases lock_cases rv S.m with e | ⟨i, d, _, h1, h2⟩
  · rw [e] at h
    exact h
  · rw [h2] at h
    obtain ⟨j, e, z1, z2⟩ := h
    exact ⟨j, e, hd_swap (.inl h1) (.inr rfl) z1, z2⟩
theorem RvOk.lock {q : RV} : ∀ {q : RV}, RvOk g H0 Hs S v q → RvOk g H0 Hs { S with m := (lockE rv S.m).1 } v q
  | .val true (.lst ds), h => by
    obtain ⟨a, e, h1, h2, h3⟩ := h
    exact ⟨a, e, h1, h2, fun w => h3 (lock_holds w)⟩
  | .val true (.dic ks ds), h => by
    obtain ⟨a, e, h1, h2, h3⟩ := h
    exact ⟨a, e, h1, h2, fun w => h3 (lock_holds w)⟩
  | .val true .non, h => h
  | .val true (.bl _), h => h
  | .val true (.int _), h => h
  | .val true (.str _), h => h
  | .val true (.tup _), h => h
  | .val true .hand, h => h
  | .val true (.obj _ _ _), h => h
  | .val true (.pin _ _), h => h
  | .val false d, h => h
  | .loc i, h => h
theorem Lk.nil (L : Lk g S0 S ([] ++ [])) : Lk g S0 S [] := L
theorem SimI.zip (Kf : PySem.W.Frag) (ha : SimE C EX ta a) (hb : SimE C EX tb b) : SimI C EX (RZ.iZipA Kf (tCons ta (tCons tb tNil))) (.zip a b) := by
  intro g H0 S P Qd K R w k x
  simp only [wpI] at w
  refine SimE.two (P := fun v1 v2 H2 => ∃ a b xs ys, [v1, v2] = [.ref a, .ref b] ∧ ((SqL Kf H2 a xs ∧ SqL Kf H2 b ys ∧ P (Itz Kf a b) H2) ∨ (SqT Kf H2 a xs ∧ SqT Kf H2 b ys ∧ P (RZ.ItzT Kf a b) H2))) ha hb R w x fun S2 v1 v2 r1 r2 es R2 G o1 o2 w2 => ?_
  obtain ⟨d1, h1, w3⟩ := resK_some w2
  obtain ⟨d2, h2, w4⟩ := resK_some w3
  cases d1 with
  | lst xs =>
    cases d2 with
    | lst ys =>
      obtain ⟨p, vs, rfl, q1, q2, R3, L3, st⟩ := lock_ok R2 G.lk o1 h1 (.inl rfl)
      rcases q2 with ⟨_, q2⟩ | ⟨z, _⟩
      · obtain ⟨p', us, rfl, q1', q2', R4, L4, st'⟩ := lock_ok R3 L3 (o2.lock (q := r2)) (by show res r2 (lockE r1 S2.m).1 = _; rw [res_lock]; exact h2) (.inl rfl)
        rcases q2' with ⟨_, q2'⟩ | ⟨z, _⟩
        · exact ⟨p, p', vs, us, rfl, .inl ⟨SqL.of q2, SqL.of q2', k { S2 with m := (lockE r2 (lockE r1 S2.m).1).1 } _ _ _ es R4 L4 (walks_zipL q2 q2' q1 q1' ⟨st.ha, fun w => st.ow (lock_owns w)⟩ st' R4) w4⟩⟩
        · cases z
      · cases z
    | _ => exact w4.elim
  | tup xs =>
    cases d2 with
    | tup ys =>
      obtain ⟨p, vs, rfl, q2, q1⟩ := o1.bor R2 h1
      obtain ⟨p', us, rfl, q2', q1'⟩ := o2.bor R2 h2
      exact ⟨p, p', vs, us, rfl, .inr ⟨SqT.of q2, SqT.of q2', k S2 _ _ [] es R2 G.lk (walks_zipT q2 q2' q1 q1' ⟨R2.tupH q2, R2.tupO q2⟩ ⟨R2.tupH q2', R2.tupO q2'⟩ R2) w4⟩⟩
    | _ => exact w4.elim
  | _ => cases d2 <;> exact w4.elim

theorem wipe_get {σ : L2.St} {j : Nat} : ∀ {vs : List Nat}, j ∉ vs → (wipe σ vs)[j]? = σ[j]?
  | [], _ => rfl
  | v :: vs, h => by
    show ((wipe σ vs).set v none)[j]? = _
    rw [List.getElem?_set_ne fun z => h (by simp [z])]
    exact wipe_get fun z => h (List.mem_cons_of_mem _ z)
theorem wipe_in {σ : L2.St} {j : Nat} : ∀ {vs : List Nat}, j ∈ vs → j < σ.length → (wipe σ vs)[j]? = some none
  | [], h, _ => by simp at h
  | v :: vs, h, hl => by
    show ((wipe σ vs).set v none)[j]? = _
    by_cases z : v = j
    · subst z
      exact List.getElem?_set_self (by rw [wipe_length]; exact hl)
    · rw [List.getElem?_set_ne z]
      rcases List.mem_cons.mp h with h | h
      · exact absurd h.symm z
      · exact wipe_in h hl
theorem wipe_same {σ σ' : L2.St} {vs is : List Nat} (h : SameOut is σ σ') (hs : ∀ i ∈ is, i ∈ vs) : wipe σ' vs = wipe σ vs := by
  apply List.ext_getElem?
  intro j
  by_cases hj : j ∈ vs
  · by_cases hl : j < σ.length
    · rw [wipe_in hj hl, wipe_in hj (by rw [h.1]; exact hl)]
    · rw [List.getElem?_eq_none (by rw [wipe_length, h.1]; omega), List.getElem?_eq_none (by rw [wipe_length]; omega)]
  · rw [wipe_get hj, wipe_get hj]
    exact h.2 j fun z => hj (hs j z)
theorem wipeE_len (m : Em) : ∀ vs : List Nat, (wipeE m vs).length = m.length
  | [] => rfl
  | v :: vs => by
    show ((wipeE m vs).set v .un).length = _
    rw [List.length_set, wipeE_len m vs]
theorem wipeE_get {m : Em} {j : Nat} : ∀ {vs : List Nat}, j ∉ vs → (wipeE m vs)[j]? = m[j]?
  | [], _ => rfl
  | v :: vs, h => by
    show ((wipeE m vs).set v .un)[j]? = _
    rw [List.getElem?_set_ne fun z => h (by simp [z])]
    exact wipeE_get fun z => h (List.mem_cons_of_mem _ z)
theorem wipeE_in {m : Em} {j : Nat} {s : Sl} : ∀ {vs : List Nat}, j ∈ vs → (wipeE m vs)[j]? = some s → s = .un
  | [], h, _ => by simp at h
  | v :: vs, h, e => by
    rcases get_set (show ((wipeE m vs).set v .un)[j]? = some s from e) with ⟨_, q⟩ | ⟨n, q⟩
    · exact q
    · rcases List.mem_cons.mp h with h | h
      · exact absurd h n
      · exact wipeE_in h q
theorem wipe_ok (R : Rep g H0 S) (G : Go g S0 S) : ∀ vs : List Nat, Rep g H0 { S with m := wipeE S.m vs, σ := wipe S.σ vs } ∧ Go g S0 { S with m := wipeE S.m vs, σ := wipe S.σ vs }
  | [] => ⟨R, G⟩
  | v :: vs => by
    obtain ⟨R', G'⟩ := wipe_ok R G vs
    by_cases h : v < S.σ.length
    · exact Rep.setN (x := none) R' G' (by intro _ q; cases q) (by intro _ q; cases q) (by show v < (wipe S.σ vs).length; rw [wipe_length]; exact h) (by intro _ q; cases q)
    · have e1 : wipeE S.m (v :: vs) = wipeE S.m vs := List.set_eq_of_length_le (by rw [wipeE_len, R.len]; omega)
      have e2 : wipe S.σ (v :: vs) = wipe S.σ vs := List.set_eq_of_length_le (by rw [wipe_length]; omega)
      rw [e1, e2]
      exact ⟨R', G'⟩
theorem backE_len (m0 m : Em) : ∀ vs : List Nat, (backE m0 m vs).length = m.length
  | [] => rfl
  | v :: vs => by
    show (match m0[v]? with
      | some s => (backE m0 m vs).set v s
      | none => backE m0 m vs).length = _
    split
    · rw [List.length_set, backE_len m0 m vs]
    · exact backE_len m0 m vs
theorem backE_get {m0 m : Em} {j : Nat} : ∀ {vs : List Nat}, j ∉ vs → (backE m0 m vs)[j]? = m[j]?
  | [], _ => rfl
  | v :: vs, h => by
    show (match m0[v]? with
      | some s => (backE m0 m vs).set v s
      | none => backE m0 m vs)[j]? = _
    split
    · rw [List.getElem?_set_ne fun z => h (by simp [z])]
      exact backE_get fun z => h (List.mem_cons_of_mem _ z)
    · exact backE_get fun z => h (List.mem_cons_of_mem _ z)
theorem backE_in {m0 m : Em} {j : Nat} (hl : m0.length = m.length) : ∀ {vs : List Nat}, j ∈ vs → (backE m0 m vs)[j]? = m0[j]?
  | [], h => by simp at h
  | v :: vs, h => by
    show (match m0[v]? with
      | some s => (backE m0 m vs).set v s
      | none => backE m0 m vs)[j]? = _
    split
    · rename_i s e
      by_cases z : v = j
      · subst z
        rw [List.getElem?_set_self (by rw [backE_len, ← hl]; exact (List.getElem?_eq_some_iff.mp e).1), e]
      · rw [List.getElem?_set_ne z]
        rcases List.mem_cons.mp h with h | h
        · exact absurd h.symm z
        · exact backE_in hl h
    · rename_i e
      rcases List.mem_cons.mp h with h | h
      · subst h
        rw [e]
        rw [List.getElem?_eq_none]
        rw [backE_len, ← hl]
        exact List.getElem?_eq_none_iff.mp e
      · exact backE_in hl h
theorem noOw_at : ∀ {is : List Nat} {m : Em}, noOw m is → ∀ j ∈ is, ∃ s, m[j]? = some s ∧ (s = .un ∨ ∃ d, s = .sh d)
  | [], _, _, _, h => by simp at h
  | i :: is, m, h, j, hj => by
    rcases List.mem_cons.mp hj with rfl | hj
    · have h1 := h.1
      split at h1
      · rename_i q
        exact ⟨_, q, .inl rfl⟩
      · rename_i d q
        exact ⟨_, q, .inr ⟨d, rfl⟩⟩
      · exact h1.elim
    · exact noOw_at h.2 j hj
theorem back_ok {vs : List Nat} (R : Rep g H0 S1) (no : noOw S1.m vs) (R' : Rep g H0 S) (G1 : Go g S1 S) (hσ : wipe S.σ vs = wipe S1.σ vs) :
    Rep g H0 { S with m := backE S1.m S.m vs, σ := S1.σ } ∧ Go g S1 { S with m := backE S1.m S.m vs, σ := S1.σ } ∧ ∀ b, Holds { S with m := backE S1.m S.m vs, σ := S1.σ } b → Holds S b := by
  have lenσ : S.σ.length = S1.σ.length := by
    have := congrArg List.length hσ
    rw [wipe_length, wipe_length] at this
    exact this
  have lm : S1.m.length = S.m.length := by rw [R.len, R'.len, lenσ]
  have out : ∀ {j : Nat}, j ∉ vs → S.σ[j]? = S1.σ[j]? := fun {j} hj => by
    rw [← wipe_get (σ := S.σ) hj, hσ, wipe_get hj]
  have l := R.le G1
  have hd0 : ∀ {j : Nat} {d : D}, Hd (backE S1.m S.m vs) j d → j ∉ vs ∧ Hd S.m j d := fun {j d} h => by
    by_cases hj : j ∈ vs
    · obtain ⟨s, e, z⟩ := noOw_at no j hj
      have := backE_in (m0 := S1.m) (m := S.m) lm hj
      unfold Hd at h
      rw [this, e] at h
      rcases z with rfl | ⟨d', rfl⟩ <;> rcases h with h | h <;> cases h
    · unfold Hd at h
      rw [backE_get hj] at h
      exact ⟨hj, h⟩
  have sub : ∀ b, Owns { S with m := backE S1.m S.m vs, σ := S1.σ } b → Owns S b := fun b ⟨j, e, h1, h2⟩ => by
    obtain ⟨hj, _⟩ := hd0 (.inl h1)
    refine ⟨j, e, ?_, by rw [out hj]; exact h2⟩
    have h1 : (backE S1.m S.m vs)[j]? = some (.ow e) := h1
    rw [backE_get hj] at h1
    exact h1
  have subH : ∀ b, Holds { S with m := backE S1.m S.m vs, σ := S1.σ } b → Holds S b := fun b ⟨j, e, h1, h2⟩ => by
    obtain ⟨hj, h⟩ := hd0 h1
    exact ⟨j, e, h, by rw [out hj]; exact h2⟩
  refine ⟨⟨by rw [backE_len, R'.len, lenσ], fun j d h => ?_, fun j d h => ?_, fun i j d e p h1 h2 h3 h4 => ?_, R'.keep, R'.dom, R'.hand⟩, ⟨G1.f, G1.keep, G1.there, G1.nofr, fun b u e y z => G1.noow b u e y (sub b z), fun b u e y z => G1.nohd b u e y (subH b z), fun j d b h1 h2 => ?_, G1.hd⟩, subH⟩
  · by_cases hj : j ∈ vs
    · have h : (backE S1.m S.m vs)[j]? = some (.sh d) := h
      rw [backE_in lm hj] at h
      obtain ⟨u, z1, z2⟩ := R.sh j d h
      exact ⟨u, z1, z2.mono l⟩
    · have h : (backE S1.m S.m vs)[j]? = some (.sh d) := h
      rw [backE_get hj] at h
      obtain ⟨u, z1, z2⟩ := R'.sh j d h
      exact ⟨u, by rw [← out hj]; exact z1, z2⟩
  · obtain ⟨hj, h⟩ := hd0 h
    obtain ⟨p, z1, z2⟩ := R'.ow j d h
    exact ⟨p, by rw [← out hj]; exact z1, z2⟩
  · obtain ⟨k1, q1⟩ := hd0 h1
    obtain ⟨k2, q2⟩ := hd0 h2
    exact R'.inj i j d e p q1 q2 (by rw [out k1]; exact h3) (by rw [out k2]; exact h4)
  · obtain ⟨hj, _⟩ := hd0 (.inr h1)
    have h1 : (backE S1.m S.m vs)[j]? = some (.lk d) := h1
    rw [backE_get hj] at h1
    exact G1.lkk j d b h1 (by rw [out hj]; exact h2)
theorem unlock_holds {js : List Nat} {p : Addr} (h : Holds { S with m := Dl.unlock js S.m } p) : Holds S p := by
  obtain ⟨j, e, q, z⟩ := h
  refine ⟨j, e, ?_, z⟩
  rcases unlock_get js S.m j with h | ⟨_, d, h1, h2⟩
  · rcases q with q | q
    · exact .inl (h ▸ q)
    · exact .inr (h ▸ q)
  · rcases q with q | q
    · rw [show (Dl.unlock js S.m)[j]? = _ from h2] at q
      cases q
      exact .inr h1
    · rw [show (Dl.unlock js S.m)[j]? = _ from h2] at q
      cases q
theorem Rep.put {p : Addr} {o : HO} (R : Rep g H0 S) (nF : ¬ S.F p) (nH : ¬ Holds S p) (nh : g.ha ≠ some p) (n0 : H0 p = none) (ho : ∃ vs, S.H p = some (.lst vs)) : Rep g H0 { S with H := upd S.H p o } := by
  have ne : ∀ {b : Addr}, S.F b → b ≠ p := fun f z => nF (z ▸ f)
  have l : Le S.F S.H S.F (L2.upd S.H p o) := ⟨fun _ x => x, fun b u e f => (upd_ne (ne f)).trans e, fun b vs e => by
    have nb : b ≠ p := fun z => by
      obtain ⟨us, hu⟩ := ho
      rw [z, hu] at e
      cases e
    exact (upd_ne nb).trans e⟩
  refine ⟨R.len, fun i d e => ?_, fun i d e => ?_, R.inj, fun b u n e => ?_, fun b f => ?_, fun b e => ?_⟩
  · obtain ⟨u, h1, h2⟩ := R.sh i d e
    exact ⟨u, h1, h2.mono l⟩
  · obtain ⟨b, h1, h2⟩ := R.ow i d e
    have nb : b ≠ p := fun z => nH ⟨i, d, e, z ▸ h1⟩
    refine ⟨b, h1, ?_⟩
    cases d with
    | lst ds =>
      obtain ⟨k1, k2, k3, vs, k4, k5⟩ := h2
      exact ⟨k1, k2, k3, vs, (upd_ne nb).trans k4, k5.mono l⟩
    | dic ks ds =>
      obtain ⟨k1, k2, k3, ⟨es, k4, k5, k6⟩ | ⟨es, k4, k5, k6⟩⟩ := h2
      · exact ⟨k1, k2, k3, .inl ⟨es, (upd_ne nb).trans k4, k5, k6.mono l⟩⟩
      · exact ⟨k1, k2, k3, .inr ⟨es, (upd_ne nb).trans k4, k5, k6.mono l⟩⟩
    | pin q ds =>
      obtain ⟨k0, k1, k2, k3, vs, k4, k5⟩ := h2
      exact ⟨k0, k1, k2, k3, vs, (upd_ne nb).trans k4, k5.mono l⟩
    | _ => exact h2.elim
  · have nb : b ≠ p := fun z => by
      rw [z, n0] at e
      cases e
    exact (upd_ne nb).trans (R.keep b u n e)
  · obtain ⟨u, e⟩ := R.dom b f
    exact ⟨u, (upd_ne (ne f)).trans e⟩
  · obtain ⟨h1, h2, h3, h4⟩ := R.hand b e
    have nb : b ≠ p := fun z => nh (z ▸ e)
    refine ⟨h1.upd nb fun ca r q z => ?_, h2, h3, fun ca r q => h4 ca r (by rw [← q]; exact (upd_ne nb).symm)⟩
    obtain ⟨u, k⟩ := h4 ca r q
    rw [z, n0] at k
    cases k
theorem Go.put {p : Addr} {o : HO} (G : Go g S1 S) (n : S1.H p = none) (nh : g.ha ≠ some p) : Go g S1 { S with H := upd S.H p o } where
  f := G.f
  keep := fun b u e x y => by
    have nb : b ≠ p := fun z => by
      rw [z, n] at e
      cases e
    exact (upd_ne nb).trans (G.keep b u e x y)
  there := fun b u e => by
    have nb : b ≠ p := fun z => by
      rw [z, n] at e
      cases e
    obtain ⟨u', e'⟩ := G.there b u e
    exact ⟨u', (upd_ne nb).trans e'⟩
  nofr := G.nofr
  noow := fun b u e y z => G.noow b u e y z
  nohd := fun b u e y z => G.nohd b u e y z
  lkk := G.lkk
  hd := fun b ca r e q => by
    have nb : b ≠ p := fun z => nh (z ▸ e)
    exact G.hd b ca r e ((upd_ne nb).symm.trans q)
def EX0 : EXT := fun _ _ _ _ => False
theorem okx0 : OkX g H0 S EX0 fun _ _ _ => False := fun _ _ _ _ _ _ _ _ _ k => k
theorem okxs0 : OkXs g H0 S EX0 fun _ _ _ => False := fun _ _ _ _ _ _ _ _ k => k
theorem SimTs.none : SimTs C EX (fun _ H Q => Q true H) .none := fun g H0 S Q Qd K R w k x => k S true rfl R .refl w
theorem SimE.cmpr {ti : TI} {tg : TG} {tt : TT} {te : TE} {it : I} {t : T} {tst : Oe} {elt : E} {own : List Nat} (hs : ∀ i ∈ t.slots, i ∈ own) (hi : SimI C EX ti it) (hg : SimT C EX0 tg t) (ht : SimTs C EX0 tt tst) (he : SimE C EX0 te elt) :
    SimE C EX (tLc ti tg tt te own) (.cmpr own t it tst elt) := by
  intro g H0 S Q Qd K R w k x
  simp only [wpE] at w
  refine hi g H0 S _ _ K R w (fun S1 J ds js e1 R1 L1 wk w1 => ?_) x
  obtain ⟨no, oa, w1⟩ := w1
  intro p hp
  have nh := R1.haN hp
  have n0 := R1.none0 hp
  have idem : wipe (wipe S1.σ own) own = wipe S1.σ own := wipe_same (is := own) ⟨wipe_length _ _, fun j hj => wipe_get hj⟩ fun _ h => h
  let asg : D → Em → (Em → Prop) → Prop := fun d m2 k => wpT C t (.val false d) m2 k fun _ _ _ => False
  let test : Em → (Bool → Em → Prop) → Prop := fun m2 k => wpTest C tst m2 k fun _ _ _ => False
  let el : Em → (D → Em → Prop) → Prop := fun m2 k => wpE C elt m2 (escK k) fun _ _ _ => False
  let fin : List D → Em → Prop := fun acc m2 => Qd (.val true (.lst acc)) (unlock js (backE S1.m m2 own))
  let At : Nat → Sta → Prop := fun i S' => Rep g H0 S' ∧ Go g S1 S' ∧ wipe S'.σ own = wipe S1.σ own ∧ ∃ (vs : List V) (acc : List D), S'.H p = some (.lst vs) ∧ DenL g S'.F S'.H acc vs ∧ ¬ S'.F p ∧ ¬ Holds S' p ∧ compK own asg test el (ds.drop i) acc S'.m fin
  refine ⟨fun i m H => i ≤ ds.length ∧ m = ds.length - i ∧ ∃ S' : Sta, S'.H = H ∧ At i S', ⟨ds.length, Nat.zero_le _, rfl, { S1 with H := upd S1.H p (.lst []) }, rfl, R1.alloc hp, .alloc R1 hp, rfl, [], [], upd_same, trivial, fun f => ?_, fun h => ?_, w1⟩, ?_⟩
  · obtain ⟨o, ho⟩ := R1.dom p f
    rw [hp] at ho
    cases ho
  · obtain ⟨_, _, _, o, ho, _⟩ := R1.ownF (S := S1) h
    rw [hp] at ho
    cases ho
  rintro i m H ⟨hi, rfl, S3, rfl, R3, G3, hσ, vs, acc, a1, a2, a3, a4, w3⟩
  by_cases hlt : i < ds.length
  · refine .inr ⟨wk.go S3 R3 G3 i hlt, fun H' => i + 1 ≤ ds.length ∧ ∃ S' : Sta, S'.H = H' ∧ At (i + 1) S', fun H' ⟨q1, q2⟩ => ⟨_, by omega, q1, rfl, q2⟩, fun v H' y => ?_⟩
    rw [List.drop_eq_getElem_cons hlt] at w3
    obtain ⟨R4, G4⟩ := wipe_ok R3 G3 own
    obtain ⟨R4', G4'⟩ := wipe_ok R3 .refl own
    obtain ⟨R5, G5, hd5⟩ := wk.yld { S3 with m := wipeE S3.m own, σ := wipe S3.σ own } R4 G4 i v H' _ y (List.getElem?_eq_getElem hlt)
    have G35 := G4'.trans G5
    have h := hg g H0 _ { S3 with H := H', m := wipeE S3.m own, σ := wipe S3.σ own } v (.val false ds[i]) (fun σ2 H2 => wipe σ2 own = wipe S.σ own ∧ tt σ2 H2 fun b H3 => if b = true then te σ2 H3 fun y H4 => ∃ acc, H4 p = some (.lst acc) ∧ acc.length < sizeLine ∧ (i + 1 ≤ ds.length ∧ ∃ S' : Sta, S'.H = upd H4 p (.lst (acc ++ [y])) ∧ At (i + 1) S') else (i + 1 ≤ ds.length ∧ ∃ S' : Sta, S'.H = H3 ∧ At (i + 1) S'))
      _ _ R5 .refl hd5 w3 (fun S6 e6 R6 G6 w6 => ?_) okxs0
    · have h' : tg v (wipe S3.σ own) H' _ := h
      rw [hσ, e1] at h'
      exact h'
    · have hw : wipe S6.σ own = wipe S1.σ own := (wipe_same e6 hs).trans ((congrArg (fun σ => wipe σ own) hσ).trans idem)
      refine ⟨by rw [hw, e1], ?_⟩
      have G36 := G35.trans G6
      have stay : ∀ {S7 : Sta}, Go g S3 S7 → S7.H p = some (.lst vs) ∧ DenL g S7.F S7.H acc vs ∧ ¬ S7.F p ∧ ¬ Holds S7 p := fun {S7} G7 =>
        ⟨G7.keep p _ a1 nh fun w => a4 w.hd, a2.mono (R3.le G7), G7.nofr p _ a1 a3 fun w => a4 w.hd, G7.nohd p _ a1 a4⟩
      refine ht g H0 S6 _ _ _ R6 w6 (fun S7 b e7 R7 G7 w7 => ?_) okx0
      have G37 := G36.trans G7
      cases b with
      | false =>
        refine ⟨hlt, S7, rfl, R7, G3.trans G37, by rw [e7]; exact hw, vs, acc, (stay G37).1, (stay G37).2.1, (stay G37).2.2.1, (stay G37).2.2.2, w7⟩
      | true =>
        have w7 : wpE C elt S7.m (escK fun v m3 => acc.length < sizeLine ∧ compK own asg test el (ds.drop (i + 1)) (acc ++ [v]) m3 fin) fun _ _ _ => False := w7
        have h := he g H0 S7 (fun y H4 => ∃ acc, H4 p = some (.lst acc) ∧ acc.length < sizeLine ∧ (i + 1 ≤ ds.length ∧ ∃ S' : Sta, S'.H = upd H4 p (.lst (acc ++ [y])) ∧ At (i + 1) S')) _ _ R7 w7 (fun S8 y r8 e8 R8 G8 o8 w8 => ?_) okx0
        · rw [e7] at h
          exact h
        · obtain ⟨S9, d9, e9, h9, R9, G9, hd9, w9, w10⟩ := esc_ok R8 G8 o8 w8
          have G39 := G37.trans G9
          obtain ⟨b1, b2, b3, b4⟩ := stay G39
          refine ⟨vs, by rw [← h9]; exact b1, by rw [← b2.len]; exact w9, hlt, { S9 with H := upd S9.H p (.lst (vs ++ [y])) }, by rw [← h9], R9.put b3 b4 nh n0 ⟨_, b1⟩, Go.put (G3.trans G39) hp nh, by rw [show S9.σ = S6.σ from e9.trans (e8.trans e7)]; exact hw, vs ++ [y], acc ++ [d9], upd_same, ?_, b3, b4, w10⟩
          have l : Le S9.F S9.H S9.F (upd S9.H p (.lst (vs ++ [y]))) := ⟨fun _ x => x, fun b u e f => (upd_ne fun (z : b = p) => b3 (z ▸ f)).trans e, fun b us e => (upd_ne fun (z : b = p) => by
            rw [z, b1] at e
            cases e).trans e⟩
          exact (b2.mono l).append (es := [d9]) (ws := [y]) ⟨hd9.mono l, trivial⟩
  · obtain rfl : i = ds.length := by omega
    rw [List.drop_length] at w3
    refine .inl ⟨wk.stop S3 R3 G3, ?_⟩
    have w3 : Qd (.val true (.lst acc)) (unlock js (backE S1.m S3.m own)) := w3
    obtain ⟨R4, G4, hh⟩ := back_ok R1 no R3 G3 hσ
    obtain ⟨R5, G5⟩ := Lk.unlock R4 (L1.go G4) oa
    exact k { S3 with m := unlock js (backE S1.m S3.m own), σ := S1.σ } (.ref p) (.val true (.lst acc)) e1 R5 G5 ⟨p, rfl, L1.fresh hp, ⟨a3, n0, nh, vs, a1, a2⟩, fun h => a4 (hh p (unlock_holds h))⟩ w3
end
end Dl
set_option maxHeartbeats 4000000
namespace Dl
open PySem PySem.Spec PyProof.Rows L2
structure OkP {B : Tb} (g : Gh B) (H0 : Hp) (S : Sta) (D : Ends) (P : Po) : Prop where
  nx : ∀ S' : Sta, Rep g H0 S' → Go g S S' → P.nx S'.m → D.nx S'.σ S'.H
  rt : ∀ (S' : Sta) (v : V) (rv : RV), Rep g H0 S' → Go g S S' → RvOk g H0 S.H S' v rv → P.rt rv S'.m → D.rt v S'.H
  bk : ∀ S' : Sta, Rep g H0 S' → Go g S S' → P.bk S'.m → D.bk S'.σ S'.H
  ct : ∀ S' : Sta, Rep g H0 S' → Go g S S' → P.ct S'.m → D.ct S'.σ S'.H
section
variable (C : Cn) (EX : EXT)
def SimS (t : TS) (s : S) : Prop := ∀ (g : Gh C.tb) (H0 : Hp) (S : Sta) (D : Ends) (P : Po) (K : XD), Rep g H0 S → wpS C s S.m P K → OkP g H0 S D P → OkXs g H0 S EX K → t D S.σ S.H
def SimSs (t : TS) (ss : Ss) : Prop := ∀ (g : Gh C.tb) (H0 : Hp) (S : Sta) (D : Ends) (P : Po) (K : XD), Rep g H0 S → wpSs C ss S.m P K → OkP g H0 S D P → OkXs g H0 S EX K → t D S.σ S.H
end
section
variable {B : Tb} {g : Gh B} {H0 Hs : Hp} {S S0 S1 S2 S' : Sta} {EX : EXT} {K : XD} {C : Cn} {Q : VK} {Qd : RV → Em → Prop} {v : V} {rv : RV} {d : D} {D : Ends} {P : Po}
variable {ta tb tc : TE} {a b c : E} {r r' : R2}
theorem RvOk.weak {Hs' : Hp} (n : ∀ p, Hs' p = none → Hs p = none) : ∀ {rv : RV}, RvOk g H0 Hs' S v rv → RvOk g H0 Hs S v rv
  | .val true (.lst ds), h => by
    obtain ⟨a, e, h1, h2, h3⟩ := h
    exact ⟨a, e, n _ h1, h2, h3⟩
  | .val true (.dic ks ds), h => by
    obtain ⟨a, e, h1, h2, h3⟩ := h
    exact ⟨a, e, n _ h1, h2, h3⟩
  | .val true .non, h => h
  | .val true (.bl _), h => h
  | .val true (.int _), h => h
  | .val true (.str _), h => h
  | .val true (.tup _), h => h
  | .val true .hand, h => h
  | .val true (.obj _ _ _), h => h
  | .val true (.pin _ _), h => h
  | .val false d, h => h
  | .loc i, h => h
theorem RvOk.unlock {js : List Nat} : ∀ {rv : RV}, RvOk g H0 Hs S v rv → RvOk g H0 Hs { S with m := Dl.unlock js S.m } v rv
  | .val true (.lst ds), h => by
    obtain ⟨a, e, h1, h2, h3⟩ := h
    exact ⟨a, e, h1, h2, fun w => h3 (unlock_holds w)⟩
  | .val true (.dic ks ds), h => by
    obtain ⟨a, e, h1, h2, h3⟩ := h
    exact ⟨a, e, h1, h2, fun w => h3 (unlock_holds w)⟩
  | .val true .non, h => h
  | .val true (.bl _), h => h
  | .val true (.int _), h => h
  | .val true (.str _), h => h
  | .val true (.tup _), h => h
  | .val true .hand, h => h
  | .val true (.obj _ _ _), h => h
  | .val true (.pin _ _), h => h
  | .val false d, h => h
  | .loc i, h => h
theorem OkP.go (k : OkP g H0 S D P) (G : Go g S S1) : OkP g H0 S1 D P :=
  ⟨fun S' R' G' q => k.nx S' R' (G.trans G') q, fun S' v rv R' G' o q => k.rt S' v rv R' (G.trans G') (o.back G) q, fun S' R' G' q => k.bk S' R' (G.trans G') q, fun S' R' G' q => k.ct S' R' (G.trans G') q⟩
theorem SimSs.nil : SimSs C EX tNext .nil := fun g H0 S D P K R w k x => k.nx S R .refl w
theorem SimSs.cons {t u : TS} {s : Dl.S} {ss : Ss} (h : SimS C EX t s) (h' : SimSs C EX u ss) : SimSs C EX (tSeq t u) (.cons s ss) := by
  intro g H0 S D P K R w k x
  simp only [wpSs] at w
  refine h g H0 S { D with nx := u D } _ K R w ⟨fun S1 R1 G1 q => ?_, k.rt, k.bk, k.ct⟩ x
  exact h' g H0 S1 D P K R1 q (k.go G1) (x.go G1)
theorem SimS.pas : SimS C EX tNext .pas := fun g H0 S D P K R w k x => k.nx S R .refl w
theorem SimS.brk : SimS C EX tBreak .brk := fun g H0 S D P K R w k x => k.bk S R .refl w
theorem SimS.cnt : SimS C EX tCont .cnt := fun g H0 S D P K R w k x => k.ct S R .refl w
theorem SimS.retn : SimS C EX tRetN .retn := fun g H0 S D P K R w k x => k.rt S .non (.val false .non) R .refl rfl w
theorem SimS.expr (ha : SimE C EX ta a) : SimS C EX (tDrop ta) (.expr a) := by
  intro g H0 S D P K R w k x
  simp only [wpS] at w
  refine ha g H0 S _ _ K R w (fun S1 v1 r1 e1 R1 G1 o1 w1 => ?_) (x.here .refl)
  have h := k.nx S1 R1 G1 w1
  rw [e1] at h
  exact h
theorem SimS.ret (ha : SimE C EX ta a) : SimS C EX (tRet ta) (.ret a) := by
  intro g H0 S D P K R w k x
  simp only [wpS] at w
  exact ha g H0 S _ _ K R w (fun S1 v1 r1 e1 R1 G1 o1 w1 => k.rt S1 v1 r1 R1 G1 o1 w1) (x.here .refl)
theorem SimS.ifs {tt : TT} {t u : TS} {p q : Ss} (hc : SimB C EX tt c) (ht : SimSs C EX t p) (hu : SimSs C EX u q) : SimS C EX (tIfS tt t u) (.ifs c p q) := by
  intro g H0 S D P K R w k x
  simp only [wpS] at w
  have w : wpB C c S.m (fun t m => if t = true then wpSs C p m P K else wpSs C q m P K) K := Eq.mp (congrArg (fun F => wpE C c S.m F K) (funext fun r => funext fun m1 => split_ite)) w
  refine hc g H0 S _ (fun t m => if t = true then wpSs C p m P K else wpSs C q m P K) K R w (fun S1 b e1 R1 G1 w1 => ?_) (x.here .refl)
  cases b with
  | true =>
    have h := ht g H0 S1 D P K R1 w1 (k.go G1) (x.go G1)
    rw [e1] at h
    exact h
  | false =>
    have h := hu g H0 S1 D P K R1 w1 (k.go G1) (x.go G1)
    rw [e1] at h
    exact h
theorem SimS.asg {tg : TG} {t : T} (ha : SimE C EX ta a) (hg : SimT C EX tg t) : SimS C EX (tAsg ta tg) (.asg t a) := by
  intro g H0 S D P K R w k x
  simp only [wpS] at w
  refine ha g H0 S _ _ K R w (fun S1 v1 r1 e1 R1 G1 o1 w1 => ?_) (x.here .refl)
  have h := hg g H0 S S1 v1 r1 D.nx P.nx K R1 G1 o1 w1 (fun S2 _ R2 G2 q => k.nx S2 R2 G2 q) x
  rw [e1] at h
  exact h
theorem SimS.aug {i : Nat} {o : Bo} {f : Int → Int → Int} (hf : (o = .add ∧ f = fun i j => i + j) ∨ (o = .sub ∧ f = fun i j => i - j)) (ha : SimE C EX ta a) : SimS C EX (tAug i ta (ipI f)) (.aug i o a) := by
  intro g H0 S D P K R w k x
  simp only [wpS] at w
  cases e : S.m[i]? with
  | none => rw [e] at w; exact w.elim
  | some s =>
    rw [e] at w
    cases s with
    | sh d0 =>
      cases d0 with
      | int j =>
        obtain ⟨u, h1, h2⟩ := R.sh i _ e
        obtain rfl : u = .int j := h2
        refine ⟨.int j, h1, ?_⟩
        refine ha g H0 S _ _ K R w (fun S1 v1 r1 e1 R1 G1 o1 w1 => ?_) (x.here .refl)
        obtain ⟨d1, h3, w2⟩ := resK_some w1
        have hi : i < S1.σ.length := by
          rw [e1]
          exact (List.getElem?_eq_some_iff.mp h1).1
        have go : ∀ y : Int, P.nx (S1.m.set i (.sh (.int y))) → D.nx (S.σ.set i (some (.int y))) S1.H := fun y q => by
          obtain ⟨R2, G2⟩ := R1.setSh G1 hi (v := .int y) (d := .int y) rfl
          have h := k.nx _ R2 G2 q
          rw [e1] at h
          exact h
        have b := o1.bor R1 h3
        cases d1 with
        | int y =>
          obtain rfl : v1 = .int y := b
          rcases hf with ⟨rfl, rfl⟩ | ⟨rfl, rfl⟩
          · exact ⟨j, y, rfl, rfl, go _ w2⟩
          · exact ⟨j, y, rfl, rfl, go _ w2⟩
        | _ => cases o <;> exact w2.elim
      | _ => exact w.elim
    | _ => exact w.elim
theorem SimS.whl {tt : TT} {t : TS} {p : Ss} (hc : SimB C EX tt c) (ht : SimSs C EX t p) : SimS C EX (tWhile tt t) (.whl c p) := by
  intro g H0 S D P K R w k x
  simp only [wpS] at w
  obtain ⟨W, ⟨n, w0⟩, step⟩ := w
  refine ⟨fun n σ H => ∃ S' : Sta, S'.σ = σ ∧ S'.H = H ∧ Rep g H0 S' ∧ Go g S S' ∧ W n S'.m, ⟨n, S, rfl, rfl, R, .refl, w0⟩, ?_⟩
  rintro n σ H ⟨S1, rfl, rfl, R1, G1, w1⟩
  have w2 := step n S1.m w1
  have w2 : wpB C c S1.m (fun t m => if t = true then wpSs C p m { P with nx := fun m3 => ∃ n', n' < n ∧ W n' m3, ct := fun m3 => ∃ n', n' < n ∧ W n' m3, bk := P.nx } K else P.nx m) K := Eq.mp (congrArg (fun F => wpE C c S1.m F K) (funext fun r => funext fun m1 => split_ite)) w2
  refine hc g H0 S1 _ (fun t m => if t = true then wpSs C p m { P with nx := fun m3 => ∃ n', n' < n ∧ W n' m3, ct := fun m3 => ∃ n', n' < n ∧ W n' m3, bk := P.nx } K else P.nx m) K R1 w2 (fun S2 b e2 R2 G2 w3 => ?_) (x.here G1)
  have G12 := G1.trans G2
  cases b with
  | false =>
    have h := k.nx S2 R2 G12 w3
    rw [e2] at h
    exact h
  | true =>
    let N : L2.St → Hp → Prop := fun σ H => ∃ S' : Sta, S'.σ = σ ∧ S'.H = H ∧ Rep g H0 S' ∧ Go g S S' ∧ ∃ n', n' < n ∧ W n' S'.m
    refine ⟨N, fun σ' H' ⟨S3, h1, h2, h3, h4, n', h5, h6⟩ => ⟨n', h5, S3, h1, h2, h3, h4, h6⟩, ?_⟩
    have h := ht g H0 S2 { D with nx := N, ct := N, bk := D.nx } { P with nx := fun m3 => ∃ n', n' < n ∧ W n' m3, ct := fun m3 => ∃ n', n' < n ∧ W n' m3, bk := P.nx } K R2 w3
      ⟨fun S3 R3 G3 q => ⟨S3, rfl, rfl, R3, G12.trans G3, q⟩, fun S3 v rv R3 G3 o q => k.rt S3 v rv R3 (G12.trans G3) (o.back G12) q, fun S3 R3 G3 q => k.nx S3 R3 (G12.trans G3) q, fun S3 R3 G3 q => ⟨S3, rfl, rfl, R3, G12.trans G3, q⟩⟩ (x.go G12)
    rw [e2] at h
    exact h
theorem SimS.frs {ti : TI} {tg : TG} {tb : TS} {it : I} {t : T} {body : Ss} (hi : SimI C EX ti it) (hg : SimT C EX tg t) (hb : SimSs C EX tb body) : SimS C EX (tFor ti tg tb) (.frs t it body) := by
  intro g H0 S D P K R w k x
  simp only [wpS] at w
  refine hi g H0 S _ _ K R w (fun S1 J ds js e1 R1 L1 wk w1 => ?_) (x.here .refl)
  obtain ⟨oa, w1⟩ := w1
  let asg : Dl.D → Em → (Em → Prop) → Prop := fun d m2 k => wpT C t (.val false d) m2 k fun c o m3 => K c o (unlock js m3)
  let bod : Em → Po → Prop := fun m2 P2 => wpSs C body m2 P2 fun c o m3 => K c o (unlock js m3)
  let P1 : Po := { nx := fun m2 => P.nx (unlock js m2), rt := fun rv m2 => P.rt rv (unlock js m2) }
  let At : Nat → Sta → Prop := fun i S' => Rep g H0 S' ∧ Go g S1 S' ∧ forK asg bod (ds.drop i) S'.m P1
  have xs : OkXs g H0 S1 EX fun c o m3 => K c o (unlock js m3) := fun S' c o cls d R' G' q kk => by
    obtain ⟨R5, G5⟩ := Lk.unlock R' (L1.go G') oa
    refine x { S' with m := unlock js S'.m } c o cls d R5 G5 ?_ kk
    exact q
  have fr : ∀ p, S1.H p = none → S.H p = none := fun p h => L1.fresh h
  refine ⟨fun i n σ H => i ≤ ds.length ∧ n = ds.length - i ∧ ∃ S' : Sta, S'.σ = σ ∧ S'.H = H ∧ At i S', ⟨ds.length, Nat.zero_le _, rfl, S1, e1, rfl, R1, .refl, w1⟩, ?_⟩
  rintro i n σ H ⟨hi, rfl, S3, rfl, rfl, R3, G3, w3⟩
  by_cases hlt : i < ds.length
  · let N : L2.St → Hp → Prop := fun σ' H' => i + 1 ≤ ds.length ∧ ∃ S' : Sta, S'.σ = σ' ∧ S'.H = H' ∧ At (i + 1) S'
    refine .inr ⟨wk.go S3 R3 G3 i hlt, N, fun σ' H' ⟨q1, q2⟩ => ⟨_, by omega, q1, rfl, q2⟩, fun v H' y => ?_⟩
    rw [List.drop_eq_getElem_cons hlt] at w3
    obtain ⟨R5, G5, hd5⟩ := wk.yld S3 R3 G3 i v H' _ y (List.getElem?_eq_getElem hlt)
    have G15 := G3.trans G5
    refine hg g H0 { S3 with H := H' } { S3 with H := H' } v (.val false ds[i]) (fun σ2 H2 => tb { D with nx := N, ct := N, bk := D.nx } σ2 H2) _ _ R5 .refl hd5 w3 (fun S6 e6 R6 G6 w6 => ?_) (xs.go G15)
    have G16 := G15.trans G6
    refine hb g H0 S6 _ _ _ R6 w6 ⟨fun S7 R7 G7 q => ⟨hlt, S7, rfl, rfl, R7, G16.trans G7, q⟩, fun S7 v rv R7 G7 o q => ?_, fun S7 R7 G7 q => ?_, fun S7 R7 G7 q => ⟨hlt, S7, rfl, rfl, R7, G16.trans G7, q⟩⟩ (xs.go G16)
    · obtain ⟨R8, G8⟩ := Lk.unlock R7 (L1.go (G16.trans G7)) oa
      exact k.rt { S7 with m := unlock js S7.m } v rv R8 G8 ((o.unlock).weak fun p h => fr p (G16.fresh h)) q
    · obtain ⟨R8, G8⟩ := Lk.unlock R7 (L1.go (G16.trans G7)) oa
      exact k.nx { S7 with m := unlock js S7.m } R8 G8 q
  · obtain rfl : i = ds.length := by omega
    rw [List.drop_length] at w3
    obtain ⟨R8, G8⟩ := Lk.unlock R3 (L1.go G3) oa
    exact .inl ⟨wk.stop S3 R3 G3, k.nx { S3 with m := unlock js S3.m } R8 G8 w3⟩

def setMany : L2.St → List Nat → List V → L2.St
  | σ, i :: is, v :: vs => setMany (σ.set i (some v)) is vs
  | σ, _, _ => σ
theorem setMany_comm : ∀ {is : List Nat} {vs : List V} {σ : L2.St} {i : Nat} {x : Option V}, i ∉ is → setMany (σ.set i x) is vs = (setMany σ is vs).set i x
  | [], _, _, _, _, _ => rfl
  | _ :: _, [], _, _, _, _ => rfl
  | j :: is, v :: vs, σ, i, x, h => by
    show setMany ((σ.set i x).set j (some v)) is vs = (setMany (σ.set j (some v)) is vs).set i x
    rw [List.set_comm _ _ (fun z => h (by simp [z]) : i ≠ j), setMany_comm fun z => h (List.mem_cons_of_mem _ z)]
theorem setMany_app : ∀ {is js : List Nat} {vs us : List V} {σ : L2.St}, vs.length = is.length → setMany σ (is ++ js) (vs ++ us) = setMany (setMany σ is vs) js us
  | [], _, [], _, _, _ => rfl
  | [], _, _ :: _, _, _, h => by cases h
  | _ :: _, _, [], _, _, h => by cases h
  | i :: is, js, v :: vs, us, σ, h => setMany_app (is := is) (by simpa using h)
theorem setMany_rev : ∀ {is : List Nat} {vs : List V} {σ : L2.St}, vs.length = is.length → is.Nodup → setMany σ is.reverse vs.reverse = setMany σ is vs
  | [], [], _, _, _ => rfl
  | [], _ :: _, _, h, _ => by cases h
  | _ :: _, [], _, h, _ => by cases h
  | i :: is, v :: vs, σ, h, n => by
    have h' : vs.length = is.length := by simpa using h
    rw [List.nodup_cons] at n
    rw [List.reverse_cons, List.reverse_cons, setMany_app (by simpa using h'), setMany_rev h' n.2]
    exact (setMany_comm n.1).symm
def tParN (is : List Nat) (t : TA) : TS := fun D σ H => t σ H fun vs H1 => vs.length = is.length ∧ D.nx (setMany σ is vs) H1
structure Nm (X : Cx) (i : Nat) (x : Str) : Prop where
  ix : X.N[i]? = some x
  loc : X.env.scope.names.lookup x = some .local
theorem bind_many {X : Cx} {pins : List (Addr × Obj)} {H : Hp} {E : Unit → Shared → Prop} (hN : X.N.Nodup) : ∀ (l : List (Nat × Str)) (vs : List V) (us : List Value) (σ : L2.St) (s : Shared), (∀ p ∈ l, Nm X p.1 p.2) → Vals vs us → vs.length = l.length → Inv X pins σ H s →
    (∀ s', Inv X pins (setMany σ (l.map (·.1)) vs) H s' → E () s') → wpAny (model X.prog X.w) X.A (assignInOrder (l.map fun p => fun v => bindName X.env p.2 v) us) E X.xe s
  | [], [], _, σ, s, _, .nil, _, I, k => assignInOrder_nil (k s I)
  | [], _ :: _, _, _, _, _, _, h, _, _ => by cases h
  | _ :: _, [], _, _, _, _, _, h, _, _ => by cases h
  | p :: l, v :: vs, _, σ, s, hp, .cons r rs, h, I, k => by
    obtain ⟨h1, h2⟩ := hp p (by simp)
    exact assignInOrder_cons (wpAny_bindName (store_ok I hN h1 (.inl h2) r (fun s2 I2 => bind_many hN l vs _ _ s2 (fun q hq => hp q (List.mem_cons_of_mem _ hq)) rs (by simpa using h) I2 k) (.inr h2)))
theorem Vals.rev {vs : List V} {us : List Value} (h : Vals vs us) : Vals vs.reverse us.reverse := by
  induction h with
  | nil => exact .nil
  | cons r rs ih =>
    rw [List.reverse_cons, List.reverse_cons]
    exact ih.append (.cons r .nil)
theorem binds_rev (env : Env) (l : List (Nat × Str)) : ((l.map (·.2)).reverse.map fun n => bindName env n) = (l.reverse.map fun p => fun v => bindName env p.2 v) := by
  rw [← List.map_reverse, List.map_map]
  rfl
theorem bind_rev {X : Cx} {pins : List (Addr × Obj)} {H : Hp} {E : Unit → Shared → Prop} (hN : X.N.Nodup) (l : List (Nat × Str)) (vs : List V) (us : List Value) (σ : L2.St) (s : Shared) (hl : ∀ p ∈ l, Nm X p.1 p.2) (hd : (l.map (·.1)).Nodup) (rv : Vals vs us) (hn : vs.length = l.length) (I : Inv X pins σ H s)
    (k : ∀ s', Inv X pins (setMany σ (l.map (·.1)) vs) H s' → E () s') : wpAny (model X.prog X.w) X.A (assignInOrder ((l.map (·.2)).reverse.map fun n => bindName X.env n) us.reverse) E X.xe s := by
  rw [binds_rev]
  refine bind_many hN l.reverse vs.reverse us.reverse σ s (fun p hp => hl p (List.mem_reverse.mp hp)) (Vals.rev rv) ?_ I fun s'' I'' => k s'' ?_
  · rw [List.length_reverse, List.length_reverse, hn]
  · rw [List.map_reverse, setMany_rev (by rw [List.length_map]; exact hn) hd] at I''
    exact I''
theorem ps_parN {X : Cx} {l : List (Nat × Str)} {ts es : List Expr} {t : TA} {kt k2 : Nat} {pt pt2 pos : Pos} (hc : X.calm = true) (hN : X.N.Nodup) (hl : ∀ p ∈ l, Nm X p.1 p.2) (hd : (l.map (·.1)).Nodup) (he : l.length ≤ 1000) (ha : PA X es t)
    (hw : swappedStores [.Tuple ts kt pt] (.Tuple es k2 pt2) X.env = pure (some (l.map (·.2)))) (hs : swapsWithSole [.Tuple ts kt pt] (.Tuple es k2 pt2) pos.line X.env = pure false) :
    PS X (.Assign [.Tuple ts kt pt] (.Tuple es k2 pt2) pos) (tParN (l.map (·.1)) t) := by
  refine ⟨fun pins s σ H D I h => ?_⟩
  rw [exec_Assign_arm]
  refine wpAny_bind (wpAny_standAt ?_)
  rw [hs]
  refine wpAny_bind (wpAny_pure ?_)
  rw [if_neg (by decide)]
  refine wpAny_bind (Tuple_ (thn (ha.run _ pins s σ H _ I h) fun us s1 ⟨vs, H1, I1, rv, hn, q⟩ => ?_))
  have hn : vs.length = l.length := by rw [hn, List.length_map]
  have hu : us.length = l.length := by rw [← rv.length, hn]
  refine wpAny_newObj_type ?_ (by show us.toArray.size ≤ sizeLine; rw [List.size_toArray, hu]; exact Nat.le_trans he (by decide))
  have I2 : Inv X pins σ H1 { s1 with heap := s1.heap.push { cls := .type "tuple", data := .seq us.toArray } } := I1.kept (t' := s1.toks) fun b o e => Heap.get?_push_of_some _ e
  rw [hw]
  refine wpAny_bind (wpAny_pure ?_)
  unfold assignStores
  have e3 : (l.map (·.2)).length = us.toArray.size := by rw [List.length_map, List.size_toArray, hu]
  refine wpAny_bind (wpAny_rule (wpAny_bind ?_))
  rw [e3]
  refine unpackItems_tuple (items := us.toArray) (I.ok.hd hc) (IsTup.new s1.heap _) fun h' hx' => ?_
  have I3 := I2.kept (h' := h') (t' := s1.toks) fun b o e => hx' b o (Nat.ne_of_lt (Heap.lt_size e)) e
  exact wpAny_bind (bind_rev hN l vs us σ _ hl hd rv hn I3 fun s'' I'' => wpAny_pure ⟨_, H1, I'', q⟩)

def isVal : RV → Bool
  | .val _ _ => true
  | .loc _ => false
theorem RvAll.go (R : Rep g H0 S) (G : Go g S S') (es : S'.σ = S.σ) : ∀ {vs : List V} {rs : List RV}, RvAll g H0 Hs S vs rs → RvAll g H0 Hs S' vs rs
  | [], [], _ => trivial
  | [], _ :: _, h => h.elim
  | _ :: _, [], h => h.elim
  | v :: vs, r :: rs, h => ⟨h.1.go R G es, h.2.1, RvAll.go R G es h.2.2⟩
theorem Aprt.same : ∀ {vs : List V} {rs rs' : List RV} {r r' : RV}, frD r' = frD r → rs'.map frD = rs.map frD → Aprt v r vs rs → Aprt v r' vs rs'
  | [], _, _, _, _, _, _, _ => by simp [Aprt]
  | _ :: _, [], [], _, _, _, _, _ => by simp [Aprt]
  | _ :: _, [], _ :: _, _, _, _, h, _ => by simp at h
  | _ :: _, _ :: _, [], _, _, _, h, _ => by simp at h
  | w :: ws, s :: ss, s' :: ss', r, r', h1, h2, h => by
    simp only [List.map_cons, List.cons.injEq] at h2
    exact ⟨fun a b => h.1 (h1 ▸ a) (h2.1 ▸ b), Aprt.same h1 h2.2 h.2⟩
theorem escAll_ok : ∀ (rs : List RV) (S : Sta) (vs : List V) (Qd : List RV → Em → Prop), Rep g H0 S → RvAll g H0 Hs S vs rs → escAll rs S.m Qd →
    ∃ (S' : Sta) (rs' : List RV), S'.σ = S.σ ∧ S'.H = S.H ∧ Rep g H0 S' ∧ Go g S S' ∧ RvAll g H0 Hs S' vs rs' ∧ (∀ r ∈ rs', isVal r = true) ∧ rs'.map frD = rs.map frD ∧ Qd rs' S'.m
  | [], S, vs, Qd, R, h, q => ⟨S, [], rfl, rfl, R, .refl, h, by simp, rfl, q⟩
  | .val fr d :: rs, S, [], Qd, R, h, q => h.elim
  | .loc i :: rs, S, [], Qd, R, h, q => h.elim
  | .val fr d :: rs, S, v :: vs, Qd, R, h, q => by
    obtain ⟨S', rs', e1, e2, R', G', h', a1, a2, q'⟩ := escAll_ok rs S vs (fun rs' m' => Qd (.val fr d :: rs') m') R h.2.2 q
    refine ⟨S', .val fr d :: rs', e1, e2, R', G', ⟨h.1.go R G' e1, h.2.1.same rfl a2, h'⟩, fun r hr => ?_, by rw [List.map_cons, List.map_cons, a2], q'⟩
    rcases List.mem_cons.mp hr with rfl | hr
    · rfl
    · exact a1 r hr
  | .loc i :: rs, S, v :: vs, Qd, R, h, q => by
    obtain ⟨S1, d, e1, h1, R1, G1, hd, q1⟩ := esc_ok (rv := .loc i) R .refl h.1 q
    obtain ⟨S', rs', e1', e2', R', G', h', a1, a2, q'⟩ := escAll_ok rs S1 vs (fun rs' m' => Qd (.val false d :: rs') m') R1 (h.2.2.go R G1 e1) q1
    refine ⟨S', .val false d :: rs', e1'.trans e1, e2'.trans h1, R', G1.trans G', ⟨hd.mono (R1.le G'), Aprt.same (r := .loc i) (r' := .val false d) (by rfl) a2 h.2.1, h'⟩, fun r hr => ?_, by rw [List.map_cons, List.map_cons, a2]; rfl, q'⟩
    rcases List.mem_cons.mp hr with rfl | hr
    · rfl
    · exact a1 r hr
theorem hd_new {i : Nat} {s : Sl} {x : Option V} {b : Addr} (h : Holds { S with m := S.m.set i s, σ := S.σ.set i x } b) : Holds S b ∨ (x = some (.ref b) ∧ ((∃ d, s = .ow d) ∨ ∃ d, s = .lk d)) := by
  obtain ⟨j, e, h1, h2⟩ := h
  by_cases z : j = i
  · subst z
    have h2 : (S.σ.set j x)[j]? = some (some (.ref b)) := h2
    rcases get_set h2 with ⟨_, q⟩ | ⟨n, _⟩
    · refine .inr ⟨q.symm, ?_⟩
      rcases h1 with h1 | h1
      · rcases get_set h1 with ⟨_, q⟩ | ⟨n, _⟩
        · exact .inl ⟨e, q.symm⟩
        · exact absurd rfl n
      · rcases get_set h1 with ⟨_, q⟩ | ⟨n, _⟩
        · exact .inr ⟨e, q.symm⟩
        · exact absurd rfl n
    · exact absurd rfl n
  · refine .inl ⟨j, e, ?_, old_get z h2⟩
    rcases h1 with h1 | h1
    · exact .inl (old_get z h1)
    · exact .inr (old_get z h1)
theorem set_val (R : Rep g H0 S) (G : Go g S0 S) {i : Nat} {fr : Bool} {d : Dl.D} {Q : Em → Prop} (hi : i < S.σ.length) (h : RvOk g H0 S0.H S v (.val fr d)) (q : setK0 i (.val fr d) S.m Q) :
    ∃ S' : Sta, S'.σ = S.σ.set i (some v) ∧ S'.H = S.H ∧ S'.F = S.F ∧ Rep g H0 S' ∧ Go g S0 S' ∧ (∀ b, Holds S' b → Holds S b ∨ (frD (.val fr d) = true ∧ v = .ref b)) ∧ Q S'.m := by
  have plain : Den g S.F S.H d v → Q (S.m.set i (.sh d)) → ∃ S' : Sta, S'.σ = S.σ.set i (some v) ∧ S'.H = S.H ∧ S'.F = S.F ∧ Rep g H0 S' ∧ Go g S0 S' ∧ (∀ b, Holds S' b → Holds S b ∨ (frD (.val fr d) = true ∧ v = .ref b)) ∧ Q S'.m := fun hd hq => by
    obtain ⟨R', G'⟩ := R.setSh G hi hd
    refine ⟨{ S with m := S.m.set i (.sh d), σ := S.σ.set i (some v) }, rfl, rfl, rfl, R', G', fun b hb => ?_, hq⟩
    rcases hd_new hb with z | ⟨_, ⟨_, z⟩ | ⟨_, z⟩⟩
    · exact .inl z
    · cases z
    · cases z
  cases fr with
  | false => exact plain h q
  | true =>
    cases d with
    | lst ds =>
      obtain ⟨a, e, h1, h2, h3⟩ := h
      subst e
      obtain ⟨R', G'⟩ := R.setOw G hi (fun u z => by rw [h1] at z; cases z) h2 h3
      refine ⟨{ S with m := S.m.set i (.ow (.lst ds)), σ := S.σ.set i (some (.ref a)) }, rfl, rfl, rfl, R', G', fun b hb => ?_, q⟩
      rcases hd_new hb with z | ⟨z, _⟩
      · exact .inl z
      · exact .inr ⟨rfl, Option.some.inj z⟩
    | dic ks ds =>
      obtain ⟨a, e, h1, h2, h3⟩ := h
      subst e
      obtain ⟨R', G'⟩ := R.setOw G hi (fun u z => by rw [h1] at z; cases z) h2 h3
      refine ⟨{ S with m := S.m.set i (.ow (.dic ks ds)), σ := S.σ.set i (some (.ref a)) }, rfl, rfl, rfl, R', G', fun b hb => ?_, q⟩
      rcases hd_new hb with z | ⟨z, _⟩
      · exact .inl z
      · exact .inr ⟨rfl, Option.some.inj z⟩
    | _ => exact plain h q
theorem RvOk.same {q : RV} (eH : S'.H = S.H) (eF : S'.F = S.F) (hh : ∀ b, Holds S' b → Holds S b ∨ v = .ref b) (hq : isVal q = true) {w : V} (n : frD q = true → w ≠ v) (h : RvOk g H0 Hs S w q) : RvOk g H0 Hs S' w q := by
  cases q with
  | loc i => cases hq
  | val fr d =>
    have pl : Den g S.F S.H d w → Den g S'.F S'.H d w := fun h => by
      rw [eH, eF]
      exact h
    cases fr with
    | false => exact pl h
    | true =>
      cases d with
      | lst ds =>
        obtain ⟨a, e, h1, h2, h3⟩ := h
        refine ⟨a, e, h1, by rw [eH, eF]; exact h2, fun z => ?_⟩
        rcases hh a z with z | z
        · exact h3 z
        · exact n rfl (e.trans z.symm)
      | dic ks ds =>
        obtain ⟨a, e, h1, h2, h3⟩ := h
        refine ⟨a, e, h1, by rw [eH, eF]; exact h2, fun z => ?_⟩
        rcases hh a z with z | z
        · exact h3 z
        · exact n rfl (e.trans z.symm)
      | _ => exact pl h
theorem RvAll.same {fr : Bool} {d : Dl.D} (eH : S'.H = S.H) (eF : S'.F = S.F) (hh : ∀ b, Holds S' b → Holds S b ∨ (frD (.val fr d) = true ∧ v = .ref b)) : ∀ {vs : List V} {rs : List RV}, (∀ r ∈ rs, isVal r = true) → Aprt v (.val fr d) vs rs → RvAll g H0 Hs S vs rs → RvAll g H0 Hs S' vs rs
  | [], [], _, _, _ => trivial
  | [], _ :: _, _, _, h => h.elim
  | _ :: _, [], _, _, h => h.elim
  | w :: vs, r :: rs, hv, ap, h => by
    refine ⟨?_, h.2.1, RvAll.same eH eF hh (fun q hq => hv q (List.mem_cons_of_mem _ hq)) ap.2 h.2.2⟩
    by_cases z : frD (.val fr d) = true
    · exact RvOk.same eH eF (fun b hb => (hh b hb).imp id fun q => q.2) (hv r (by simp)) (fun q => ap.1 z q) h.1
    · cases r with
      | loc i =>
        have := hv (.loc i) (by simp)
        cases this
      | val fr' d' =>
        have hh' : ∀ b, Holds S' b → Holds S b := fun b hb => (hh b hb).elim id fun q => absurd q.1 z
        cases fr' with
        | false =>
          show Den g S'.F S'.H d' w
          rw [eH, eF]
          exact h.1
        | true =>
          cases d' with
          | lst ds =>
            obtain ⟨a, e, h1, h2, h3⟩ := h.1
            exact ⟨a, e, h1, by rw [eH, eF]; exact h2, fun q => h3 (hh' a q)⟩
          | dic ks ds =>
            obtain ⟨a, e, h1, h2, h3⟩ := h.1
            exact ⟨a, e, h1, by rw [eH, eF]; exact h2, fun q => h3 (hh' a q)⟩
          | _ =>
            have h1 := h.1
            unfold RvOk at h1 ⊢
            rw [eH, eF]
            exact h1
theorem storeAll_ok : ∀ (is : List Nat) (rs : List RV) (S : Sta) (vs : List V) (Q : Em → Prop), Rep g H0 S → Go g S0 S → RvAll g H0 S0.H S vs rs → (∀ r ∈ rs, isVal r = true) → storeAll is rs S.m Q →
    vs.length = is.length ∧ ∃ S' : Sta, S'.σ = setMany S.σ is vs ∧ S'.H = S.H ∧ Rep g H0 S' ∧ Go g S0 S' ∧ Q S'.m
  | [], [], S, [], Q, R, G, h, _, q => ⟨rfl, S, rfl, rfl, R, G, q⟩
  | [], [], S, _ :: _, Q, R, G, h, _, q => h.elim
  | [], _ :: _, S, vs, Q, R, G, h, _, q => q.elim
  | _ :: _, [], S, vs, Q, R, G, h, _, q => q.elim
  | i :: is, r :: rs, S, [], Q, R, G, h, _, q => h.elim
  | i :: is, .loc j :: rs, S, v :: vs, Q, R, G, h, hv, q => by
    have := hv (.loc j) (by simp)
    cases this
  | i :: is, .val fr d :: rs, S, v :: vs, Q, R, G, h, hv, q => by
    obtain ⟨hi, q⟩ := setK_some (show setK i (.val fr d) S.m (fun m1 => storeAll is rs m1 Q) from q)
    obtain ⟨S1, e1, e2, e3, R1, G1, hh, q1⟩ := set_val R G (by rw [← R.len]; exact hi) h.1 q
    have hv' : ∀ r ∈ rs, isVal r = true := fun r hr => hv r (List.mem_cons_of_mem _ hr)
    obtain ⟨l, S', e1', e2', R', G', q'⟩ := storeAll_ok is rs S1 vs Q R1 G1 (RvAll.same e2 e3 hh hv' h.2.1 h.2.2) hv' q1
    refine ⟨by rw [List.length_cons, List.length_cons, l], S', by rw [e1', e1]; rfl, e2'.trans e2, R', G', q'⟩
theorem SimS.par {is : List Nat} {es : Es} {t : TA} (ht : SimOs C EX t es) : SimS C EX (tParN is t) (.par is es) := by
  intro g H0 S D P K R w k x
  simp only [wpS, parK] at w
  refine ht g H0 S _ _ K R w (fun S1 vs rs e1 R1 G1 o1 w1 => ?_) (x.here .refl)
  obtain ⟨S2, rs', e2, h2, R2, G2, o2, a1, a2, w2⟩ := escAll_ok rs S1 vs (fun rs' m' => storeAll is rs' m' P.nx) R1 o1 w1
  obtain ⟨l, S3, e3, h3, R3, G3, w3⟩ := storeAll_ok is rs' S2 vs P.nx R2 (G1.trans G2) o2 a1 w2
  refine ⟨l, ?_⟩
  have h := k.nx S3 R3 G3 w3
  rw [e3, h3, e2, e1, h2] at h
  exact h
end
end Dl
set_option maxHeartbeats 4000000
namespace Dl
open PySem PySem.Spec PyProof.Rows L2
structure Roof (k : Nat) (A : Around) : Prop where
  room : Room k A
  gd : A.guards = some []
  big : A.units + 16 * k + 4000 < cLine
theorem Roof.mono {j k : Nat} {A : Around} (r : Roof k A) (h : j ≤ k) : Roof j A := ⟨r.room.mono h, r.gd, by have := r.big; omega⟩
theorem Roof.deeper {k : Nat} {A : Around} (r : Roof (k + 1) A) (env : Env) : Roof k (A.deeper env) := ⟨r.room.deeper env, r.gd, by have := r.big; show A.units + 3 + 16 * k + 4000 < _; omega⟩
theorem Roof.data {k : Nat} {A : Around} (r : Roof k A) : A.units + 3000 < cLine := by have := r.big; omega
structure FnG (Pg : Program) (w : World) (K : PySem.W.Frag) (mg : Str → Option Value) (base : Heap) (CX : CXT) (k : Nat) (f : Addr) (fd : FuncData) (ps : List Str) (sp : Sp) : Prop where
  len : ∀ vs H Q E, sp vs H Q E → vs.length = ps.length
  run : ∀ (A : Around) (outer : List Env) (s : Shared) (H : Hp) (args : Args) (us : List Value) (vs : List V) (Q : VK) (E : XK), Roof k A → Env0 Pg w K mg base A outer s H → BindsTo s fd args (ps.zip us) → Vals vs us → sp vs H Q E →
    codeAny (model Pg w) A (.call (.ref f) args) (CR CX outer Pg w H s Q E) s
theorem FnG.mono {Pg : Program} {w : World} {K : PySem.W.Frag} {mg : Str → Option Value} {base : Heap} {CX : CXT} {j k : Nat} {f : Addr} {fd : FuncData} {ps : List Str} {sp : Sp} (F : FnG Pg w K mg base CX j f fd ps sp) (h : j ≤ k) : FnG Pg w K mg base CX k f fd ps sp :=
  ⟨F.len, fun A outer s H args us vs Q E hr => F.run A outer s H args us vs Q E (hr.mono h)⟩
section
variable {X : Cx} {CX : CXT} {k : Nat} {f : Addr} {fd : FuncData} {ps : List Str} {sp : Sp} {E : L2.St → XK} {x : Str} {p pos : Pos} {e : Expr} {es : List Expr} {t : TA}
theorem runG {pins : List (Addr × Obj)} {σ : L2.St} {H : Hp} {s : Shared} {Q : VK} {us : List Value} {vs : List V} (F : FnG X.prog X.w X.K X.mg X.base CX k f fd ps sp) (hr : Roof k X.A) (hb : Binds X.K fd ps []) (hx : PassesAt CX X σ (E σ)) (I : Inv X pins σ H s) (r : Vals vs us)
    (h : sp vs H Q (E σ)) : wpAny (model X.prog X.w) X.A (call (.ref f) us) (EP X pins σ Q) X.xe s := by
  have n : us.length = ps.length := r.length.symm.trans (F.len _ _ _ _ h)
  have b : BindsTo s fd ⟨us, []⟩ (ps.zip us) := by
    have := hb s us I.kIn (by rw [List.append_nil]; exact n)
    rwa [List.append_nil] at this
  refine wpAny_call (codeAny_mono (F.run X.A X.stack s H _ us vs Q (E σ) hr I.env0 b r h) fun res s' hq => ?_)
  match res, hq with
  | .error e, hq => exact hx pins H s e s' I hq
  | .ok (.ret u), hq => exact I.after hq
theorem pe_callG (F : FnG X.prog X.w X.K X.mg X.base CX k f fd ps sp) (hr : Roof k X.A) (hg : Gl X x) (hm : X.mg x = some (.ref f)) (hk : PySem.W.keepIn X.K (.ref f) = true) (hb : Binds X.K fd ps []) (hx : ∀ σ, PassesAt CX X σ (E σ)) (ha : PA X (e :: es) t)
    (hd : (x == ("__debug__" : Str)) = false) (he : starEach (e :: es) X.env = (false, eval e X.env) :: starEach es X.env) (hp : (backTo pos (starEach es X.env)).any (·.1) = false) : PE X (.Call (.Name x p) (e :: es) [] pos) (tCallS sp E t) :=
  ⟨fun pins s σ H Q I h => wpAny_Call_Name_kw (ld_glob I hg hm (PySem.W.callWith_K (h₀ := X.base) I.ok.mod.kin hk (thn (ha.run pos pins s σ H _ I h) fun us s1 ⟨vs, H1, I1, r, q⟩ => ⟨I1.kIn, runG F hr hb (hx σ) I1 r q⟩) he hp) hd)⟩
end
theorem fnG_of {CX : CXT} {Pg : Program} {w : World} {K : PySem.W.Frag} {mg : Str → Option Value} {base : Heap} {k : Nat} {f : Addr} {name qual : Str} {params : Arguments} {body : List Stmt} {scope : Scope} {dV kV doc pm cdv ct oc : Value} {an od : Option Addr}
    {osl : Array (Option Value)} {N ps : List Str} {sp : Sp} (lk : K.lookup f = some ⟨oc, od, .func (PySem.W.fnOf name qual params body scope dV kV doc pm an cdv ct), osl⟩) (hcd : PySem.W.codeIn K cdv qual = true) (S : FnScope N ps scope)
    (len : ∀ vs H Q E, sp vs H Q E → vs.length = ps.length)
    (hbody : ∀ (A : Around) (outer : List Env) (s : Shared) (H : Hp) (vs : List V) (Q : VK) (E : XK), Roof k (A.deeper (envOfC qual scope s.heap.objs.size f cdv)) → sp vs H Q E →
      ∃ t, PSs (cxOf CX Pg w K mg base N qual scope f cdv A outer s H E) body t ∧ t { nx := fun _ H' => Q .non H', rt := Q } (L2.start N vs) H) :
    FnG Pg w K mg base CX (k + 1) f (PySem.W.fnOf name qual params body scope dV kV doc pm an cdv ct) ps sp where
  len := len
  run := fun A outer s H args us vs Q E hr e0 hb r hsp => by
    have KX : K.In s.heap := e0.mod.kin.keeps fun b o e => (e0.bs b o e).1
    refine codeAny_call_function hr.room.depth (KX _ _ lk) rfl S.co S.gen rfl (PySem.W.codeRec_of KX hcd) (hb _ _ _ _ ?_)
    have hkind : ∀ y ∈ ps.zip us, scope.names.lookup y.1 = some .local ∨ (scope.names.lookup y.1 = some .cell ∧ ((cellsFrom (s.heap.objs.size + 1) scope.names []).lookup y.1).isSome = true) := fun ⟨n, v⟩ hy =>
      (S.par n (List.of_mem_zip hy).1).imp id fun q => ⟨q, PySem.W.cellsFrom_some _ _ _ (.inl q)⟩
    refine wpAny_newFunctionEnv_cells S.kind hkind fun env he s1 x => ?_
    cases he
    refine ⟨(e0.mod.nolimit.keeps fun b o e => (e0.bs b o e).1).keeps x.toInCall.keep, codeAny_func ?_⟩
    obtain ⟨t, ht, hq⟩ := hbody A outer s H vs Q E (hr.deeper _) hsp
    have I := inv_start (CX := CX) (E := E) S hr.room.hd e0 (len _ _ _ _ hsp) r x
    refine wpAny_mono (ht.run [] s1 (L2.start N vs) H _ I hq) (fun fl s' hs => ?_) fun e s' hs => hs
    match fl, hs with
    | .ret u, ⟨v, σ', H', J, rv, q⟩ => exact ⟨v, H', J.os, J.bare, J.base, J.hok, rv, q⟩
    | .next, ⟨σ', H', J, q⟩ => exact ⟨.non, H', J.os, J.bare, J.base, J.hok, rfl, q⟩
    | .brk, ⟨_, _, _, q⟩ => exact q.elim
    | .cont, ⟨_, _, _, q⟩ => exact q.elim

section
variable {B : Tb} {g : Gh B} {H0 : Hp} {S S' : Sta}
theorem bare_ok (hm : ∀ (i : Nat) (d : D), ¬ Hd S.m i d) (R' : Rep g S.H S') (G : Go g S S') : Rep g S.H ⟨S'.F, [], [], S'.H⟩ ∧ Go g ⟨S.F, [], [], S.H⟩ ⟨S'.F, [], [], S'.H⟩ := by
  have no : ∀ a, ¬ Owns S a := fun a ⟨i, d, h, _⟩ => hm i d (.inl h)
  refine ⟨⟨rfl, fun i d h => by simp at h, fun i d h => by rcases h with h | h <;> simp at h, fun i j d e a h => by rcases h with h | h <;> simp at h, R'.keep, R'.dom, R'.hand⟩, G.f, fun a o h n _ => G.keep a o h n (no a), G.there, fun a o h n _ => G.nofr a o h n (no a), fun _ _ _ _ => noOwns0, fun _ _ _ _ => noHolds0, fun j d a h => by simp at h, G.hd⟩
theorem bare_val (hm : ∀ (i : Nat) (d : D), ¬ Hd S.m i d) (R' : Rep g S.H S') (G : Go g S S') {v : V} {rv : RV} {Qd : Bool → D → Prop} (o : RvOk g S.H S.H S' v rv) (q : retK Qd rv S'.m) : ∃ fr d, RvOk g S.H S.H ⟨S'.F, [], [], S'.H⟩ v (.val fr d) ∧ Qd fr d := by
  have own : ∀ {a : Addr} {d : D}, Own g S.H S'.F S'.H a d → isBoxD d = true → RvOk g S.H S.H ⟨S'.F, [], [], S'.H⟩ (.ref a) (.val true d) := fun {a d} h bx => by
    cases d with
    | lst ds => exact ⟨a, rfl, h.2.1, h, noHolds0⟩
    | dic ks ds => exact ⟨a, rfl, h.2.1, h, noHolds0⟩
    | _ => cases bx
  cases rv with
  | val fr d =>
    refine ⟨fr, d, ?_, q⟩
    cases fr with
    | false => exact o
    | true =>
      cases d with
      | lst ds =>
        obtain ⟨a, rfl, h1, h2, h3⟩ := o
        exact own h2 rfl
      | dic ks ds =>
        obtain ⟨a, rfl, h1, h2, h3⟩ := o
        exact own h2 rfl
      | _ => exact o
  | loc i =>
    have q : (match S'.m[i]? with
      | some (.ow d) => isBoxD d = true ∧ Qd true d
      | some (.lk d) => isBoxD d = true ∧ Qd true d
      | some (.sh d) => Qd false d
      | _ => False) := q
    have hv : S'.σ[i]? = some (some v) := o
    cases e : S'.m[i]? with
    | none => rw [e] at q; exact q.elim
    | some s =>
      rw [e] at q
      cases s with
      | un => exact q.elim
      | sh d =>
        obtain ⟨u, h1, h2⟩ := R'.sh i d e
        rw [hv] at h1
        cases h1
        exact ⟨false, d, h2, q⟩
      | ow d =>
        obtain ⟨a, h1, h2⟩ := R'.ow i d (.inl e)
        rw [hv] at h1
        cases h1
        exact ⟨true, d, own h2 q.1, q.2⟩
      | lk d =>
        obtain ⟨a, h1, h2⟩ := R'.ow i d (.inr e)
        rw [hv] at h1
        cases h1
        exact ⟨true, d, own h2 q.1, q.2⟩
theorem start_rep {F : Addr → Prop} {H : Hp} {ds : List D} {vs : List V} {N : List Str} (hd : DenL g F H ds vs) (R : Rep g H ⟨F, [], [], H⟩) (hn : ds.length ≤ N.length) :
    Rep g H ⟨F, ds.map .sh ++ List.replicate (N.length - ds.length) .un, L2.start N vs, H⟩ ∧ ∀ (i : Nat) (d : D), ¬ Hd (ds.map Sl.sh ++ List.replicate (N.length - ds.length) .un) i d := by
  have nh : ∀ (i : Nat) (d : D), ¬ Hd (ds.map Sl.sh ++ List.replicate (N.length - ds.length) .un) i d := fun i d h => by
    have key : ∀ s, (ds.map Sl.sh ++ List.replicate (N.length - ds.length) .un)[i]? = some s → (∃ d, s = .sh d) ∨ s = .un := fun s e => by
      rw [List.getElem?_append] at e
      split at e
      · rw [List.getElem?_map] at e
        obtain ⟨d, _, rfl⟩ := Option.map_eq_some_iff.mp e
        exact .inl ⟨d, rfl⟩
      · rw [List.getElem?_replicate] at e
        split at e
        · exact .inr (Option.some.inj e).symm
        · cases e
    rcases h with h | h
    · rcases key _ h with ⟨_, z⟩ | z <;> cases z
    · rcases key _ h with ⟨_, z⟩ | z <;> cases z
  refine ⟨⟨?_, fun i d h => ?_, fun i d h => (nh i d h).elim, fun i j d e a h => (nh i d h).elim, R.keep, R.dom, R.hand⟩, nh⟩
  · show (ds.map Sl.sh ++ List.replicate (N.length - ds.length) Sl.un).length = (L2.start N vs).length
    unfold L2.start
    simp only [List.length_append, List.length_map, List.length_replicate, hd.len]
  · have h : (ds.map Sl.sh ++ List.replicate (N.length - ds.length) Sl.un)[i]? = some (.sh d) := h
    rw [List.getElem?_append] at h
    split at h
    · rename_i hl
      rw [List.getElem?_map] at h
      obtain ⟨d', e, z⟩ := Option.map_eq_some_iff.mp h
      cases z
      obtain ⟨v, h1, h2⟩ := hd.getD e
      refine ⟨v, ?_, h2⟩
      show (L2.start N vs)[i]? = _
      unfold L2.start
      have hlt : i < vs.length := (List.getElem?_eq_some_iff.mp h1).1
      rw [List.getElem?_append_left (by simpa using hlt), List.getElem?_map, h1]
      rfl
    · rw [List.getElem?_replicate] at h
      split at h
      · cases h
      · cases h
theorem promise {C : Cn} {EX : EXT} {N : List Str} {n : Nat} {body : Ss} {t : TS} {vs : List V} {H : Hp} {Q : VK} {E : XK} (hs : SimSs C EX t body) (hE : ∀ σ cls d H, E cls d H → EX σ cls d H) (h : toSp C.tb n (wpFn C N.length body) vs H Q E) :
    t { nx := fun _ H' => Q .non H', rt := Q } (L2.start N vs) H := by
  obtain ⟨_, g, F, ds, hd, R, hn, w⟩ := h
  obtain ⟨R1, nh⟩ := start_rep hd R hn
  refine hs g H ⟨F, _, L2.start N vs, H⟩ _ _ _ R1 w ⟨fun S' R' G q => ?_, fun S' v rv R' G o q => ?_, fun S' R' G q => q, fun S' R' G q => q⟩ fun S' c o cls dd R' G xr q => ?_
  · obtain ⟨R2, G2⟩ := bare_ok nh R' G
    exact q S'.F S'.H .non R2 G2 rfl
  · obtain ⟨R2, G2⟩ := bare_ok nh R' G
    obtain ⟨fr, d, o2, q2⟩ := bare_val nh R' G o q
    exact q2 S'.F S'.H v R2 G2 o2
  · obtain ⟨R2, G2⟩ := bare_ok nh R' G
    exact hE _ _ _ _ (q S'.F S'.H cls dd R2 G2 xr)
end
end Dl
set_option maxHeartbeats 4000000
namespace Dl
open PySem PySem.Spec PyProof.Rows L2
inductive GK where
  | fn (i n : Nat) | ci (i : Int) | cs (s : Str) | bf (f : Bf) | rng | zip | enm | isi
structure Tc where
  N : List Str
  gk : Str → Option GK
  ty : Str → Option String
def slotOf (N : List Str) (x : Str) : Option Nat := match N.findIdx? (· == x) with
  | some i => if N[i]? = some x then some i else none
  | none => none
def unStar : Expr → Bool
  | .Starred _ _ => false
  | _ => true
def unSlice : Expr → Bool
  | .Slice _ _ _ _ => false
  | _ => true
def unSet : Expr → Bool
  | .Set _ _ _ => false
  | _ => true
def unSuper : Expr → Bool
  | .Call _ _ _ _ => false
  | _ => true
def unComp : Expr → Bool
  | .ListComp _ _ _ _ => false
  | .SetComp _ _ _ _ => false
  | .DictComp _ _ _ _ _ => false
  | _ => true
def unTup : Expr → Bool
  | .Tuple _ _ _ => false
  | .List _ _ => false
  | _ => true
def plainTest : Nat → Expr → Bool
  | 0, _ => false
  | _ + 1, .IfExp _ _ _ _ => false
  | n + 1, .UnaryOp .Not a _ => plainTest n a
  | n + 1, .BoolOp _ es _ => es.all (plainTest n)
  | _, _ => true
def boOf : Operator → Option Bo
  | .Add => some .add
  | .Sub => some .sub
  | .Mult => some .mul
  | .FloorDiv => some .fdiv
  | .Mod => some .mod
  | .Pow => some .pow
  | _ => none
def coOf : CmpOp → Co
  | .Eq => .eq
  | .NotEq => .ne
  | .Lt => .lt
  | .LtE => .le
  | .Gt => .gt
  | .GtE => .ge
  | .Is => .is
  | .IsNot => .isnot
  | .In => .isin
  | .NotIn => .notin
def mfOf (x : Str) : Option Mf := if x = "append" then some .append else if x = "pop" then some .pop else if x = "extend" then some .extend else if x = "reverse" then some .reverse else none
def ownOf (N : List Str) : List (Str × NameKind) → List (Str × Nat)
  | [] => []
  | (n, k) :: r => if (k == .local || k == .cell) = true then (match slotOf N n with
    | some i => (n, i) :: ownOf N r
    | none => ownOf N r) else ownOf N r
section
variable (T : Tc)
def trName (sc : Scope) (x : Str) : Option E :=
  if ((x == ("__debug__" : Str)) || (x == ("__classdict__" : Str))) = true then none else match sc.names.lookup x with
  | some .local => (slotOf T.N x).map .var
  | some .cell => (slotOf T.N x).map .var
  | some .free => (slotOf T.N x).map .var
  | some .globalImplicit => match T.gk x with
    | some (.ci i) => some (.int i)
    | some (.cs s) => some (.str s)
    | _ => none
  | _ => none
def isGl (sc : Scope) (x : Str) : Bool := sc.names.lookup x == some .globalImplicit && !(x == ("__debug__" : Str))
def trList (F : Expr → Option E) : List Expr → Option Es
  | [] => some .nil
  | e :: es => if unStar e = true then (match F e, trList F es with
    | some a, some b => some (.cons a b)
    | _, _ => none) else none
def trPart (F : Expr → Option E) : Option Expr → Option Oe
  | none => some .none
  | some e => (F e).map .some
def trIfs (F : Expr → Option E) : List Expr → Option Oe
  | [] => some .none
  | [e] => if plainTest 9 e = true then (F e).map .some else none
  | _ => none
mutual
def trTarget (F : Expr → Option E) (sc : Scope) (fl : Str → Bool) : Nat → Expr → Option Dl.T
  | 0, _ => none
  | _ + 1, .Name x _ => match sc.names.lookup x with
    | some .local => (slotOf T.N x).map .nm
    | some .cell => if fl x = true then (slotOf T.N x).map .nm else none
    | _ => none
  | n + 1, .Tuple es _ _ => (trTargets F sc fl n es).map .tp
  | _ + 1, .Subscript o i _ => if unSlice i = true then (match F o, F i with
    | some a, some b => some (.sub a b)
    | _, _ => none) else none
  | _ + 1, _ => none
def trTargets (F : Expr → Option E) (sc : Scope) (fl : Str → Bool) : Nat → List Expr → Option Ts
  | 0, _ => none
  | _ + 1, [] => some .nil
  | n + 1, e :: es => if unStar e = true then (match trTarget F sc fl n e, trTargets F sc fl n es with
    | some a, some b => some (.cons a b)
    | _, _ => none) else none
end
def trIter (F : Expr → Option E) (sc : Scope) (tg : Expr) : Expr → Option I
  | .Call (.Name f p) args [] pos => if isGl sc f = true then (match T.gk f, args with
    | some .rng, [a] => if f = "range" ∧ unStar a = true then (F a).map fun a => .rng (.cons a .nil) else none
    | some .rng, [a, b] => if f = "range" ∧ unStar a = true ∧ unStar b = true then (match F a, F b with
      | some a, some b => some (.rng (.cons a (.cons b .nil)))
      | _, _ => none) else none
    | some .enm, [a] => if f = "enumerate" ∧ unStar a = true then (match tg with
      | .Tuple _ _ _ => (F a).map .enm
      | _ => none) else none
    | some .zip, [a, b] => if f = "zip" ∧ unStar a = true ∧ unStar b = true then (match tg, F a, F b with
      | .Tuple _ _ _, some a, some b => some (.zip a b)
      | _, _, _ => none) else none
    | _, _ => (F (.Call (.Name f p) args [] pos)).map .seq) else none
  | e => if unSet e = true then (F e).map .seq else none
def bfName : Bf → Str
  | .len => "len"
  | .abs => "abs"
  | .int => "int"
  | .sum => "sum"
  | .max => "max"
  | .min => "min"
  | .any => "any"
  | .all => "all"
  | .list => "list"
  | .tuple => "tuple"
  | .repr => "repr"
  | .str => "str"
  | .sorted => "sorted"
  | .set => "set"
def trE1 (F : Scope → Expr → Option E) (sc : Scope) : Expr → Option E
  | .Constant (.int i) _ _ => some (.int i)
  | .Constant (.bool b) _ _ => some (.bl b)
  | .Constant .none _ _ => some .non
  | .Constant (.str x) _ _ => some (.str x)
  | .Name x _ => trName T sc x
  | .UnaryOp .USub a _ => (F sc a).map (.un .neg)
  | .UnaryOp .Not a _ => (F sc a).map (.un .not)
  | .BinOp a op b _ => match boOf op, F sc a, F sc b with
    | some o, some x, some y => some (.bin o x y)
    | _, _, _ => none
  | .Compare a [op] [b] _ => if behindInMarks op b = true then none else match F sc a, F sc b with
    | some x, some y => some (.cmp (coOf op) x y)
    | _, _ => none
  | .Compare a [o, p] [b, c] _ => if lastMarks [o, p] [b, c] = true then none else match F sc a, F sc b, F sc c with
    | some x, some y, some z => some (.chn (coOf o) (coOf p) x y z)
    | _, _, _ => none
  | .BoolOp _ [a] _ => F sc a
  | .BoolOp .And (a :: b :: rest) pos => match F sc a, F sc (.BoolOp .And (b :: rest) pos) with
    | some x, some y => some (.and x y)
    | _, _ => none
  | .BoolOp .Or (a :: b :: rest) pos => match F sc a, F sc (.BoolOp .Or (b :: rest) pos) with
    | some x, some y => some (.or x y)
    | _, _ => none
  | .IfExp c a b _ => if plainTest 9 c = true then (match F sc c, F sc a, F sc b with
    | some x, some y, some z => some (.ite x y z)
    | _, _, _ => none) else none
  | .Tuple es _ _ => if es.length ≤ 1000 then (trList (F sc) es).map .tup else none
  | .List es _ => if es.length ≤ 1000 then (trList (F sc) es).map .lst else none
  | .Subscript a (.Slice lo hi none _) _ => match F sc a, trPart (F sc) lo, trPart (F sc) hi with
    | some x, some y, some z => some (.slc x y z)
    | _, _, _ => none
  | .Subscript a b _ => if unSlice b = true then (match F sc a, F sc b with
    | some x, some y => some (.idx x y)
    | _, _ => none) else none
  | .Call (.Name f _) (e :: es) [] _ => if isGl sc f = true then (match T.gk f with
    | some (.fn i n) => if es.length + 1 = n then (trList (F sc) (e :: es)).map (.call i) else none
    | some (.bf b) => if f = bfName b then (trList (F sc) (e :: es)).map (.blt b) else none
    | some .isi => if (f = "isinstance" ∧ unStar e = true) then (match es with
      | [.Name t _] => if isGl sc t = true then (match F sc e, T.ty t with
        | some x, some n => some (.isi x [.ty n])
        | _, _ => none) else none
      | _ => none) else none
    | _ => none) else none
  | .Call (.Attribute o m apos) args [] cpos => if unSuper o = true ∧ (apos.endLine == cpos.line) = true ∧ args.length < 29 then (match mfOf m, F sc o, trList (F sc) args with
    | some f, some x, some xs => some (.mth f x xs)
    | _, _, _ => none) else none
  | .ListComp elt [⟨tg, it, ifs, 0⟩] scope _ => if blkC T.N sc scope (ownOf T.N scope.names) = true then
      (match trIter T (F sc) sc tg it, trTarget T (F (relS scope sc)) (relS scope sc) (fun x => scope.names.lookup x == some .cell) 9 tg, trIfs (F (relS scope sc)) ifs, F (relS scope sc) elt with
      | some i, some t, some c, some e => if (t.slots.all fun j => ((ownOf T.N scope.names).map (·.2)).contains j) = true then some (.cmpr ((ownOf T.N scope.names).map (·.2)) t i c e) else none
      | _, _, _, _ => none) else none
  | _ => none
def trE : Nat → Scope → Expr → Option E
  | 0, _, _ => none
  | n + 1, sc, e => trE1 T (trE n) sc e

def bkOf (sc : Scope) : ScopeKind := if sc.kind.isAnnotationScope then .function else sc.kind
def isStar : Expr → Bool
  | .Starred .. => true
  | _ => false
def lineOf (ts : List Expr) : Nat := (ts.head?.map (·.pos.line)).getD 0
def nameAt (sc : Scope) (line : Nat) : Expr → Option Str
  | .Name id pos => if (sc.names.lookup id == some .local && pos.line == line) = true then some id else none
  | _ => none
def namesAt (sc : Scope) (ts : List Expr) : List Str := ts.filterMap (nameAt sc (lineOf ts))
def swOf (sc : Scope) (ts vs : List Expr) : Option (Option (List Str)) :=
  if (!(ts.length == 2 || ts.length == 3) || vs.length != ts.length || bkOf sc != .function) = true then some none else
  if vs.any isStar = true then some none else
  if ((namesAt sc ts).length != ts.length || (namesAt sc ts).eraseDups.length != (namesAt sc ts).length) = true then some none else
  if vs.all (foldedForSure 8) = true then some none else
  if vs.all (constantsAlone 8) = true then none else some (some (namesAt sc ts))
def slotsOf (N : List Str) : List Str → Option (List (Nat × Str))
  | [] => some []
  | x :: r => match slotOf N x, slotsOf N r with
    | some i, some l => some ((i, x) :: l)
    | _, _ => none
def swB (sc : Scope) (x : Str) (p pos : Pos) (scope : Scope) : Bool := bkOf sc == .function && sc.names.lookup x == some .local && p.line == pos.line && !(scope.names.any fun (n, k) => n == x && (k == .local || k == .cell))
def trAssign (F : Expr → Option E) (sc : Scope) (tg e : Expr) : Option Dl.S :=
  match tg, e with
  | .Tuple ts _ _, .Tuple vs _ _ => match swOf sc ts vs with
    | some (some names) => (match slotsOf T.N names, trList F vs with
      | some l, some es => if (decide (l.map (·.1)).Nodup && decide (l.length ≤ 1000) && l.all fun p => sc.names.lookup p.2 == some .local) = true then some (.par (l.map (·.1)) es) else none
      | _, _ => none)
    | some none => (match trTarget T F sc (fun _ => true) 9 tg, F e with
      | some t, some a => some (.asg t a)
      | _, _ => none)
    | none => none
  | .Name x p, e => (match trTarget T F sc (fun _ => true) 9 (.Name x p), F e with
      | some t, some a => some (.asg t a)
      | _, _ => none)
  | tg, e => if unComp e = true then (match trTarget T F sc (fun _ => true) 9 tg, F e with
      | some t, some a => some (.asg t a)
      | _, _ => none) else none
def trS1 (G : List Stmt → Option Ss) (F : Expr → Option E) (sc : Scope) : Stmt → Option Dl.S
  | .Expr (.Constant (.str _) _ _) _ => some .pas
  | .Expr e _ => if unComp e = true then (F e).map .expr else none
  | .Pass _ => some .pas
  | .Break _ => some .brk
  | .Continue _ => some .cnt
  | .Return none _ => some .retn
  | .Return (some e) _ => (F e).map .ret
  | .If c a b _ => if plainTest 9 c = true then (match F c, G a, G b with
    | some x, some y, some z => some (.ifs x y z)
    | _, _, _ => none) else none
  | .While c a [] _ => if plainTest 9 c = true then (match F c, G a with
    | some x, some y => some (.whl x y)
    | _, _ => none) else none
  | .For tg it a [] _ => match trIter T F sc tg it, trTarget T F sc (fun _ => true) 9 tg, G a with
    | some i, some t, some y => some (.frs t i y)
    | _, _, _ => none
  | .Assign [tg] e _ => trAssign T F sc tg e
  | .Raise (some (.Call (.Name x _) [] [] _)) none _ => some (.rse x .nil)
  | .AugAssign (.Name x _) op e _ => match trTarget T F sc (fun _ => true) 9 (.Name x ⟨0, 0, 0, 0⟩), op, F e with
    | some (.nm i), .Add, some a => some (.aug i .add a)
    | some (.nm i), .Sub, some a => some (.aug i .sub a)
    | _, _, _ => none
  | _ => none
def trSs : Nat → Scope → List Stmt → Option Ss
  | 0, _, _ => none
  | _ + 1, _, [] => some .nil
  | n + 1, sc, s :: ss => match trS1 T (trSs n sc) (trE T n sc) sc s, trSs n sc ss with
    | some a, some b => some (.cons a b)
    | _, _ => none
end
end Dl
set_option maxHeartbeats 4000000
namespace Dl
open PySem PySem.Spec PyProof.Rows L2
structure Wd where
  P : Program
  w : World
  K : PySem.W.Frag
  mg : Str → Option Value
  base : Heap
  CX : CXT
  k : Nat
  N : List Str
structure Fam (W : Wd) (sc : Scope) (fl : Str → Bool) (EX : EXT) (X : Cx) : Prop where
  wd : W = ⟨X.prog, X.w, X.K, X.mg, X.base, W.CX, W.k, X.N⟩
  roof : Roof W.k X.A
  calm : X.calm = true
  nd : X.N.Nodup
  scp : X.env.scope = sc
  kind : sc.kind = .function
  fn : ∀ x, fl x = true → X.fn x = true
  pass : ∀ σ, PassesAt W.CX X σ (EX σ)
def bfVal : Bf → Value
  | .len => .builtin "len"
  | .abs => .builtin "abs"
  | .int => .type "int"
  | .sum => .builtin "sum"
  | .max => .builtin "max"
  | .min => .builtin "min"
  | .any => .builtin "any"
  | .all => .builtin "all"
  | .list => .type "list"
  | .tuple => .type "tuple"
  | .repr => .builtin "repr"
  | .str => .type "str"
  | .sorted => .builtin "sorted"
  | .set => .type "set"
def rBf (K : PySem.W.Frag) : Bf → (List V → Hp → VK → Prop)
  | .len => rLenD K
  | .abs => rAbsD
  | .int => rInt1D
  | .sum => rSumD K
  | .max => rMaxD K
  | .min => rMinD K
  | .any => rAny K
  | .all => rAll K
  | .list => rListD K
  | .tuple => rTupleD K
  | .repr => rReprD K
  | .str => rStrD
  | .sorted => fun _ _ _ => False
  | .set => fun _ _ _ => False
theorem blt_ok (K : PySem.W.Frag) : ∀ b, BltSim b (rBf K b)
  | .len => blt_len K
  | .abs => blt_abs
  | .int => blt_int
  | .sum => blt_sum K
  | .max => blt_max K
  | .min => blt_min K
  | .any => blt_any K
  | .all => blt_all K
  | .list => blt_list K
  | .tuple => blt_tuple K
  | .repr => blt_repr K
  | .str => blt_str
  | .sorted => fun g H0 S vs ds Q Qd R b w k => by simp only [bltS] at w
  | .set => fun g H0 S vs ds Q Qd R b w k => by simp only [bltS] at w
theorem bf_call {X : Cx} {k : Nat} (r : Roof k X.A) (hc : X.calm = true) : ∀ b, CallR X (bfVal b) (rBf X.K b)
  | .len => call_len
  | .abs => call_abs
  | .int => call_int1
  | .sum => (cr_sum hc).or (cr_sumT hc)
  | .max => cr_maxD hc
  | .min => cr_minD hc
  | .any => cr_any hc
  | .all => cr_all hc
  | .list => call_list_of
  | .tuple => call_tuple_of
  | .repr => cr_repr r.data r.gd
  | .str => call_str_int
  | .sorted => fun pins s σ H xs us Q I r h => h.elim
  | .set => fun pins s σ H xs us Q I r h => h.elim
theorem bf_boot : ∀ b, bootBuiltins (bfName b) = some (bfVal b)
  | .len => by kernel_rfl
  | .abs => by kernel_rfl
  | .int => by kernel_rfl
  | .sum => by kernel_rfl
  | .max => by kernel_rfl
  | .min => by kernel_rfl
  | .any => by kernel_rfl
  | .all => by kernel_rfl
  | .list => by kernel_rfl
  | .tuple => by kernel_rfl
  | .repr => by kernel_rfl
  | .str => by kernel_rfl
  | .sorted => by kernel_rfl
  | .set => by kernel_rfl
theorem bf_names : ∀ b, bfName b ≠ "__name__" ∧ (bfName b == ("__debug__" : Str)) = false := by
  intro b
  cases b <;> decide
structure GkOk (T : Tc) (W : Wd) (C : Cn) : Prop where
  e0 : ∀ (X : Cx) (σ : L2.St), PassesAt W.CX X σ fun _ _ _ => False
  nn : T.N = W.N
  fn : ∀ x i n, T.gk x = some (.fn i n) → ∃ f fd ps s, FnG W.P W.w W.K W.mg W.base W.CX W.k f fd ps (toSp C.tb n s) ∧ W.mg x = some (.ref f) ∧ PySem.W.keepIn W.K (.ref f) = true ∧ Binds W.K fd ps [] ∧ C.fn i = some s ∧ Mono s
  ci : ∀ x i, T.gk x = some (.ci i) → ∃ u, W.mg x = some u ∧ RelV (.int i) u
  cs : ∀ x i, T.gk x = some (.cs i) → ∃ u, W.mg x = some u ∧ RelV (.str i) u
  bf : ∀ x b, T.gk x = some (.bf b) → W.mg x = none
  rng : ∀ x, T.gk x = some .rng → W.mg x = none
  zip : ∀ x, T.gk x = some .zip → W.mg x = none
  enm : ∀ x, T.gk x = some .enm → W.mg x = none
  isi : ∀ x, T.gk x = some .isi → W.mg x = none
  ty : ∀ x n, T.ty x = some n → W.mg x = none ∧ bootBuiltins x = some (.type n) ∧ knownTy n = true ∧ x ≠ "__name__"
theorem star_ok {e : Expr} {es : List Expr} {env : Env} (h : unStar e = true) : starEach (e :: es) env = (false, eval e env) :: starEach es env := by
  cases e <;> first | rfl | cases h
theorem star_any {env : Env} {pos : Pos} : ∀ {es : List Expr}, (∀ e ∈ es, unStar e = true) → (backTo pos (starEach es env)).any (·.1) = false
  | [], _ => rfl
  | e :: es, h => by
    have ih := star_any (env := env) (pos := pos) (es := es) fun x hx => h x (List.mem_cons_of_mem _ hx)
    rw [star_ok (h e (by simp))]
    show (false || (backTo pos (starEach es env)).any (·.1)) = false
    rw [ih]
    rfl
theorem star_all {env : Env} {pos : Pos} : ∀ {es : List Expr}, (∀ e ∈ es, unStar e = true) → (backTo pos (starEach es env)).all (fun x => !x.1) = true
  | [], _ => rfl
  | e :: es, h => by
    have ih := star_all (env := env) (pos := pos) (es := es) fun x hx => h x (List.mem_cons_of_mem _ hx)
    rw [star_ok (h e (by simp))]
    show (!false && (backTo pos (starEach es env)).all (fun x => !x.1)) = true
    rw [ih]
    rfl
theorem plain_ix {b : Expr} (h : unSlice b = true) : PlainIx b := by
  intro o i
  cases b <;> first | rfl | cases h
theorem super_ok {o : Expr} {m : Str} {env : Env} {t : Sem Value} (h : unSuper o = true) : attributeBase o m env t = t := by
  cases o <;> first | rfl | cases h
theorem set_ok' {e : Expr} {env : Env} {x : Value} (h : unSet e = true) : foldedSetIterable e env x = pure x := by
  cases e <;> first | rfl | cases h
theorem trList_stars {F : Expr → Option E} : ∀ {es : List Expr} {xs : Es}, trList F es = some xs → ∀ e ∈ es, unStar e = true
  | [], _, _, e, he => by simp at he
  | a :: es, xs, h, e, he => by
    unfold trList at h
    split at h
    · rename_i ha
      split at h
      · rename_i h1 h2
        rcases List.mem_cons.mp he with rfl | he
        · exact ha
        · exact trList_stars h2 e he
      · cases h
    · cases h
theorem trList_len {F : Expr → Option E} : ∀ {es : List Expr} {xs : Es}, trList F es = some xs → xs.len = es.length
  | [], _, h => by cases h; rfl
  | a :: es, xs, h => by
    unfold trList at h
    split at h
    · split at h
      · rename_i h1 h2
        cases h
        show Es.len _ + 1 = _
        rw [trList_len h2]
        rfl
      · cases h
    · cases h
theorem slot_ix {N : List Str} {x : Str} {i : Nat} (h : slotOf N x = some i) : N[i]? = some x := by
  unfold slotOf at h
  split at h
  · split at h
    · rename_i e
      cases h
      exact e
    · cases h
  · cases h
section
variable {T : Tc} {W : Wd} {C : Cn} {EX : EXT} {sc : Scope}
def GoodE (W : Wd) (C : Cn) (EX : EXT) (sc : Scope) (e : Expr) (e' : E) : Prop := ∃ t, SimE C EX t e' ∧ ∀ fl X, Fam W sc fl EX X → PE X e t
def GoodB (W : Wd) (C : Cn) (EX : EXT) (sc : Scope) (e : Expr) (e' : E) : Prop := ∃ t, SimB C EX t e' ∧ ∀ fl X, Fam W sc fl EX X → PT X e t ∧ ∀ op es pos, e = .BoolOp op es pos → PW X e t
def GoodL (W : Wd) (C : Cn) (EX : EXT) (sc : Scope) (es : List Expr) (es' : Es) : Prop := ∃ t, SimXs C EX t es' ∧ SimOs C EX t es' ∧ ∀ fl X, Fam W sc fl EX X → PA X es t
def GoodF (W : Wd) (C : Cn) (EX : EXT) (sc : Scope) (F : Expr → Option E) : Prop := ∀ e e', F e = some e' → GoodE W C EX sc e e'
def GoodFB (W : Wd) (C : Cn) (EX : EXT) (sc : Scope) (F : Expr → Option E) : Prop := ∀ m e e', F e = some e' → plainTest m e = true → GoodB W C EX sc e e'
theorem goodL {F : Expr → Option E} (hF : GoodF W C EX sc F) : ∀ {es : List Expr} {es' : Es}, trList F es = some es' → GoodL W C EX sc es es'
  | [], _, h => by
    cases h
    exact ⟨tNil, SimXs.nil, SimOs.nil, fun _ _ _ => pa_nil⟩
  | a :: es, xs, h => by
    unfold trList at h
    split at h
    · rename_i ha
      split at h
      · rename_i h1 h2
        cases h
        obtain ⟨t, s, p⟩ := hF _ _ h1
        obtain ⟨u, s1, s2, p'⟩ := goodL hF h2
        exact ⟨tCons t u, SimXs.cons s s1, SimOs.cons s s2, fun fl X f => pa_cons (p fl X f) (p' fl X f) (star_ok ha)⟩
      · cases h
    · cases h
theorem goodP {F : Expr → Option E} (hF : GoodF W C EX sc F) {o : Option Expr} {o' : Oe} (h : trPart F o = some o') : ∃ t, SimOe C EX t o' ∧ ∀ fl X, Fam W sc fl EX X → PO X o t := by
  cases o with
  | none =>
    cases h
    exact ⟨_, SimOe.none, fun _ _ _ => po_none⟩
  | some e =>
    obtain ⟨x, hx, rfl⟩ := Option.map_eq_some_iff.mp h
    obtain ⟨t, s, p⟩ := hF _ _ hx
    exact ⟨_, SimOe.some s, fun fl X f => po_some (p fl X f)⟩
theorem good_name (G : GkOk T W C) {x : Str} {p : Pos} {e' : E} (h : trName T sc x = some e') : GoodE W C EX sc (.Name x p) e' := by
  unfold trName at h
  split at h
  · cases h
  · rename_i hd
    simp only [Bool.or_eq_true, not_or, Bool.not_eq_true] at hd
    have var : ∀ {o : Option Nat}, o = slotOf T.N x → (sc.names.lookup x = some .local ∨ sc.names.lookup x = some .cell ∨ sc.names.lookup x = some .free) → o.map E.var = some e' → GoodE W C EX sc (.Name x p) e' := fun {o} eo hv h => by
      subst eo
      obtain ⟨i, hi, rfl⟩ := Option.map_eq_some_iff.mp h
      refine ⟨_, SimE.var, fun fl X f => ?_⟩
      have hN : X.N[i]? = some x := by
        have e1 : W.N = X.N := congrArg Wd.N f.wd
        rw [← e1, ← G.nn]
        exact slot_ix hi
      exact pe_var hN (by rw [f.scp]; exact hv) hd.1 hd.2
    split at h
    · rename_i e
      exact var rfl (.inl e) h
    · rename_i e
      exact var rfl (.inr (.inl e)) h
    · rename_i e
      exact var rfl (.inr (.inr e)) h
    · rename_i e
      split at h
      · rename_i i ek
        cases h
        obtain ⟨u, h2, h3⟩ := G.ci x i ek
        refine ⟨_, SimE.int, fun fl X f => pe_glob (by show X.env.scope.names.lookup x = _; rw [f.scp]; exact e) ?_ h3 hd.1⟩
        have e1 : W.mg = X.mg := congrArg Wd.mg f.wd
        rw [← e1]
        exact h2
      · rename_i i ek
        cases h
        obtain ⟨u, h2, h3⟩ := G.cs x i ek
        refine ⟨_, SimE.str, fun fl X f => pe_glob (by show X.env.scope.names.lookup x = _; rw [f.scp]; exact e) ?_ h3 hd.1⟩
        have e1 : W.mg = X.mg := congrArg Wd.mg f.wd
        rw [← e1]
        exact h2
      · cases h
    · cases h
theorem Fam.gl {fl : Str → Bool} {X : Cx} (f : Fam W sc fl EX X) {x : Str} (h : isGl sc x = true) : Gl X x ∧ (x == ("__debug__" : Str)) = false := by
  unfold isGl at h
  rw [Bool.and_eq_true, Bool.not_eq_true', beq_iff_eq] at h
  exact ⟨by show X.env.scope.names.lookup x = _; rw [f.scp]; exact h.1, h.2⟩
theorem Fam.all {fl : Str → Bool} {X : Cx} (f : Fam W sc fl EX X) : ∃ CX k, W = ⟨X.prog, X.w, X.K, X.mg, X.base, CX, k, X.N⟩ := ⟨_, _, f.wd⟩
theorem Fam.mg {fl : Str → Bool} {X : Cx} (f : Fam W sc fl EX X) : X.mg = W.mg := (congrArg Wd.mg f.wd).symm
theorem Fam.K {fl : Str → Bool} {X : Cx} (f : Fam W sc fl EX X) : X.K = W.K := (congrArg Wd.K f.wd).symm
theorem Fam.N {fl : Str → Bool} {X : Cx} (f : Fam W sc fl EX X) : X.N = W.N := (congrArg Wd.N f.wd).symm
end
end Dl
set_option maxHeartbeats 4000000
namespace Dl
open PySem PySem.Spec PyProof.Rows L2
def rBo (K : PySem.W.Frag) : Bo → R2
  | .add => rAddD K
  | .sub => rSubD
  | .mul => rMulD K
  | .fdiv => rFdvD
  | .mod => rModD
  | .pow => rPowD
theorem sim_bo (K : PySem.W.Frag) : ∀ o, OpSim (rBo K o) (binS o)
  | .add => sim_add K
  | .sub => sim_sub
  | .mul => sim_mul K
  | .fdiv => sim_fdv
  | .mod => sim_mod
  | .pow => sim_pow
theorem or_bo {X : Cx} {op : Operator} {o : Bo} (h : boOf op = some o) : OpR X (binaryOp op) (rBo X.K o) := by
  cases op <;> cases h
  · exact or_add
  · exact op_sub
  · exact or_mul
  · exact op_mod
  · exact op_pow
  · exact op_fdivW
def rCo (K : PySem.W.Frag) : Co → R2
  | .eq => rEqA K
  | .ne => rNeA K
  | .lt => rI0 fun i j => .bl (decide (i < j))
  | .le => rI0 fun i j => .bl (decide (i ≤ j))
  | .gt => rI0 fun i j => .bl (decide (j < i))
  | .ge => rI0 fun i j => .bl (decide (j ≤ i))
  | .isin => rInA K false
  | .notin => rInA K true
  | .is => rIsT
  | .isnot => rIsF
theorem sim_co (K : PySem.W.Frag) : ∀ o, CmpSim (rCo K o) (cmpS o)
  | .eq => sim_eq K
  | .ne => sim_ne K
  | .lt => sim_ord fun _ _ _ => rfl
  | .le => sim_ord fun _ _ _ => rfl
  | .gt => sim_ord fun _ _ _ => rfl
  | .ge => sim_ord fun _ _ _ => rfl
  | .isin => sim_in K
  | .notin => sim_notin K
  | .is => sim_is
  | .isnot => sim_isnot
theorem or_co {X : Cx} (hu : X.A.units + 3000 < cLine) : ∀ op : CmpOp, OpR X (compareOp op) (rCo X.K (coOf op))
  | .Eq => or_eq hu
  | .NotEq => or_ne hu
  | .Lt => op_lt
  | .LtE => op_le
  | .Gt => op_gt
  | .GtE => op_ge
  | .Is => or_isT
  | .IsNot => or_isF
  | .In => or_in hu
  | .NotIn => or_notin hu
def mfName : Mf → Str
  | .append => "append"
  | .pop => "pop"
  | .extend => "extend"
  | .reverse => "reverse"
  | _ => "append"
def mfId : Mf → String
  | .append => "list.append"
  | .pop => "list.pop"
  | .extend => "list.extend"
  | .reverse => "list.reverse"
  | _ => "list.append"
def rMf : Mf → (V → List V → Hp → VK → Prop)
  | .append => rAppend
  | .pop => rPopD
  | .extend => rExtend
  | .reverse => rReverse
  | _ => rAppend
def mfIn : Mf → Bool
  | .append => true
  | .pop => true
  | .extend => true
  | .reverse => true
  | _ => false
theorem mf_of {m : Str} {f : Mf} (h : mfOf m = some f) : m = mfName f ∧ mfIn f = true := by
  unfold mfOf at h
  split at h
  · cases h; exact ⟨by assumption, rfl⟩
  · split at h
    · cases h; exact ⟨by assumption, rfl⟩
    · split at h
      · cases h; exact ⟨by assumption, rfl⟩
      · split at h
        · cases h; exact ⟨by assumption, rfl⟩
        · cases h
theorem mth_ok : ∀ f, mfIn f = true → MthSim f (rMf f)
  | .append, _ => mth_append
  | .pop, _ => mth_pop
  | .extend, _ => mth_extend
  | .reverse, _ => mth_reverse
theorem mf_slot : ∀ f, mfIn f = true → Slot "list" (mfName f) (mfId f)
  | .append, _ => PySem.F.slot_list_append
  | .pop, _ => PySem.F.slot_list_pop
  | .extend, _ => PySem.F.slot_list_extend
  | .reverse, _ => PySem.F.slot_list_reverse
theorem mf_type : ∀ f, mfIn f = true → typeOf (.builtin (mfId f)) = pure (.type "method_descriptor")
  | .append, _ => PySem.F.type_list_append
  | .pop, _ => PySem.F.type_list_pop
  | .extend, _ => PySem.F.type_list_extend
  | .reverse, _ => PySem.F.type_list_reverse
theorem mf_call {X : Cx} : ∀ f, mfIn f = true → MtR X (mfId f) (rMf f)
  | .append, _ => mt_append
  | .pop, _ => mt_popD
  | .extend, _ => mt_extend
  | .reverse, _ => mt_reverse
section
variable {T : Tc} {W : Wd} {C : Cn} {EX : EXT} {sc : Scope} {F : Scope → Expr → Option E}
theorem good_call (G : GkOk T W C) (hF : GoodF W C EX sc (F sc)) {f : Str} {p pos : Pos} {e : Expr} {es : List Expr} {e' : E}
    (h : trE1 T F sc (.Call (.Name f p) (e :: es) [] pos) = some e') : GoodE W C EX sc (.Call (.Name f p) (e :: es) [] pos) e' := by
  unfold trE1 at h
  simp only at h
  split at h
  · rename_i hg
    split at h
    · rename_i i n ek
      split at h
      · rename_i hn
        obtain ⟨xs, hx, rfl⟩ := Option.map_eq_some_iff.mp h
        obtain ⟨t, s, _, pa⟩ := goodL hF hx
        obtain ⟨a, fd, ps, fs, k1, k2, k3, k4, k5, k6⟩ := G.fn f i n ek
        have hl : xs.len = n := by rw [trList_len hx]; exact hn
        refine ⟨_, SimE.call k5 k6 s, fun fl X fm => ?_⟩
        have hs := trList_stars hx
        obtain ⟨g1, g2⟩ := fm.gl hg
        have P := pa fl X fm
        rw [hl]
        obtain ⟨CX, k, rfl⟩ := fm.all
        exact pe_callG k1 fm.roof g1 k2 k3 k4 fm.pass P g2 (star_ok (hs e (by simp))) (star_any fun x hx => hs x (List.mem_cons_of_mem _ hx))
      · cases h
    · rename_i b ek
      split at h
      · rename_i hn
        obtain ⟨xs, hx, rfl⟩ := Option.map_eq_some_iff.mp h
        obtain ⟨t, _, s, pa⟩ := goodL hF hx
        have k2 := G.bf f b ek
        refine ⟨_, SimE.blt (blt_ok W.K b) s, fun fl X fm => ?_⟩
        have hs := trList_stars hx
        obtain ⟨g1, g2⟩ := fm.gl hg
        have P := pa fl X fm
        have cr := bf_call fm.roof fm.calm b
        obtain ⟨CX, k, rfl⟩ := fm.all
        subst hn
        have n1 := (bf_names b).1
        have st := star_ok (env := X.env) (es := es) (hs e (by simp))
        have sa : (backTo pos (starEach es X.env)).any (·.1) = false := star_any fun x hx => hs x (List.mem_cons_of_mem _ hx)
        have hb := bf_boot b
        cases b with
        | len => exact pe_callB cr g1 k2 hb P n1 g2 st sa
        | abs => exact pe_callB cr g1 k2 hb P n1 g2 st sa
        | int => exact pe_callTy cr g1 k2 hb P n1 g2 st sa
        | sum => exact pe_callB cr g1 k2 hb P n1 g2 st sa
        | max => exact pe_callB cr g1 k2 hb P n1 g2 st sa
        | min => exact pe_callB cr g1 k2 hb P n1 g2 st sa
        | any => exact pe_callB cr g1 k2 hb P n1 g2 st sa
        | all => exact pe_callB cr g1 k2 hb P n1 g2 st sa
        | list => exact pe_callTy cr g1 k2 hb P n1 g2 st sa
        | tuple => exact pe_callTy cr g1 k2 hb P n1 g2 st sa
        | repr => exact pe_callB cr g1 k2 hb P n1 g2 st sa
        | str => exact pe_callTy cr g1 k2 hb P n1 g2 st sa
        | sorted => exact pe_callB cr g1 k2 hb P n1 g2 st sa
        | set => exact pe_callTy cr g1 k2 hb P n1 g2 st sa
      · cases h
    · rename_i ek
      split at h
      · rename_i hn
        obtain ⟨rfl, hse⟩ := hn
        split at h
        · rename_i t p2
          split at h
          · rename_i ht
            split at h
            · rename_i x n hx hy
              cases h
              obtain ⟨te, s, pe⟩ := hF _ _ hx
              obtain ⟨y1, y2, y3, y4⟩ := G.ty _ _ hy
              have k2 := G.isi _ ek
              refine ⟨_, SimE.isi1 W.K y3 s, fun fl X fm => ?_⟩
              obtain ⟨g1, g2⟩ := fm.gl hg
              obtain ⟨t1, t2⟩ := fm.gl ht
              have P := pe fl X fm
              obtain ⟨CX, k, rfl⟩ := fm.all
              refine pe_callB call_isi g1 k2 (by kernel_rfl) (pa_cons P (pa_cons (pe_bltn t1 y1 y2 (show RelV (V.ty n) (.type n) from rfl) y4 t2) pa_nil rfl) (star_ok hse)) (by decide) g2 (star_ok hse) rfl
            · cases h
          · cases h
        · cases h
      · cases h
    · cases h
  · cases h
theorem good_mth (hF : GoodF W C EX sc (F sc)) {o : Expr} {m : Str} {apos cpos : Pos} {es : List Expr} {e' : E}
    (h : trE1 T F sc (.Call (.Attribute o m apos) es [] cpos) = some e') : GoodE W C EX sc (.Call (.Attribute o m apos) es [] cpos) e' := by
  unfold trE1 at h
  simp only at h
  split at h
  · rename_i hc
    obtain ⟨c1, c2, c3⟩ := hc
    split at h
    · rename_i f x xs hf hx hxs
      cases h
      obtain ⟨rfl, hin⟩ := mf_of hf
      obtain ⟨t, s, pe⟩ := hF _ _ hx
      obtain ⟨u, s2, _, pa⟩ := goodL hF hxs
      have hs := trList_stars hxs
      cases es with
      | nil =>
        cases hxs
        refine ⟨_, SimE.mth0 (Kf := W.K) (mth_ok f hin) s, fun fl X fm => ?_⟩
        have P := pe fl X fm
        obtain ⟨CX, k, rfl⟩ := fm.all
        exact pe_bm0 PySem.F.plainAttrs_list (mf_slot f hin) (mf_type f hin) (mf_call f hin) P (super_ok c1) c2
      | cons e es =>
        refine ⟨_, SimE.mth (Kf := W.K) (mth_ok f hin) s s2, fun fl X fm => ?_⟩
        have P := pe fl X fm
        have P2 := pa fl X fm
        obtain ⟨CX, k, rfl⟩ := fm.all
        refine pe_bm PySem.F.plainAttrs_list (mf_slot f hin) (mf_type f hin) (mf_call f hin) P P2 (super_ok c1) ?_ c2 (star_ok (hs e (by simp))) (star_any fun x hx => hs x (List.mem_cons_of_mem _ hx))
        rw [star_all hs]
        show (true && true && decide ((e :: es).length + 0 + 0 < 30)) = true
        rw [Bool.and_self, Bool.true_and, decide_eq_true_eq]
        omega
    · cases h
  · cases h
end
end Dl
set_option maxHeartbeats 4000000
namespace Dl
open PySem PySem.Spec PyProof.Rows L2
section
variable {T : Tc} {W : Wd} {C : Cn} {EX : EXT} {sc : Scope} {F : Expr → Option E}
theorem asg_ok {e : Expr} {es : List Expr} {env : Env} (h : unStar e = true) : assignEach (e :: es) env = (false, assign e env) :: assignEach es env := by
  cases e <;> first | rfl | cases h
theorem asg_facts {env : Env} : ∀ {es : List Expr}, (∀ e ∈ es, unStar e = true) → (assignEach es env).length = es.length ∧ (assignEach es env).findIdx? (·.1) = none
  | [], _ => ⟨rfl, rfl⟩
  | e :: es, h => by
    obtain ⟨h1, h2⟩ := asg_facts (env := env) (es := es) fun x hx => h x (List.mem_cons_of_mem _ hx)
    rw [asg_ok (h e (by simp))]
    refine ⟨by rw [List.length_cons, List.length_cons, h1], ?_⟩
    rw [List.findIdx?_cons, h2]
    rfl
theorem trTargets_stars {fl : Str → Bool} : ∀ {n : Nat} {es : List Expr} {ts : Ts}, trTargets T F sc fl n es = some ts → (∀ e ∈ es, unStar e = true) ∧ ts.len = es.length
  | 0, _, _, h => by
    unfold trTargets at h
    cases h
  | n + 1, [], _, h => by
    unfold trTargets at h
    cases h
    exact ⟨by simp, rfl⟩
  | n + 1, a :: es, ts, h => by
    unfold trTargets at h
    split at h
    · rename_i ha
      split at h
      · rename_i h1 h2
        cases h
        obtain ⟨k1, k2⟩ := trTargets_stars h2
        refine ⟨fun e he => ?_, by show Ts.len _ + 1 = _; rw [k2]; rfl⟩
        rcases List.mem_cons.mp he with rfl | he
        · exact ha
        · exact k1 e he
      · cases h
    · cases h
def GoodT (W : Wd) (C : Cn) (EX : EXT) (sc : Scope) (fl : Str → Bool) (e : Expr) (t : Dl.T) : Prop := ∃ g, SimT C EX g t ∧ ∀ X, Fam W sc fl EX X → PG X e g
theorem sub_asg {o i : Expr} {pos : Pos} {env : Env} (h : unSlice i = true) : ∀ v, assign (.Subscript o i pos) env v = (do
      let ov ← holding [v] (eval o env)
      let iv ← holding [v, ov] (eval i env)
      standAt pos
      holding [v, ov, iv] (setItem ov iv v)
      release [v, ov, iv] []) := by
  intro v
  cases i <;> first | rfl | cases h
mutual
theorem good_target (nn : T.N = W.N) (hF : GoodF W C EX sc F) {fl : Str → Bool} : ∀ {n : Nat} {e : Expr} {t : Dl.T}, trTarget T F sc fl n e = some t → GoodT W C EX sc fl e t
  | 0, _, _, h => by
    unfold trTarget at h
    cases h
  | n + 1, e, t, h => by
    have nm : ∀ {x : Str} {p : Pos} {o : Option Nat} {t : Dl.T}, o = slotOf T.N x → ((sc.names.lookup x = some .local) ∨ (sc.names.lookup x = some .cell ∧ fl x = true)) → o.map Dl.T.nm = some t → GoodT W C EX sc fl (.Name x p) t := fun {x p o t} eo hv h => by
      subst eo
      obtain ⟨i, hi, rfl⟩ := Option.map_eq_some_iff.mp h
      refine ⟨_, SimT.nm, fun X f => ?_⟩
      have hN : X.N[i]? = some x := by
        rw [f.N, ← nn]
        exact slot_ix hi
      rcases hv with hv | ⟨hv, hfl⟩
      · exact pg_name f.nd hN (.inl (by rw [f.scp]; exact hv)) (.inr (by rw [f.scp]; exact hv))
      · exact pg_name f.nd hN (.inr (by rw [f.scp]; exact hv)) (.inl (f.fn x hfl))
    unfold trTarget at h
    split at h
    · rename_i e1
      cases e1
    · rename_i n' x p e1
      cases e1
      split at h
      · rename_i e2
        exact nm rfl (.inl e2) h
      · rename_i e2
        split at h
        · rename_i e3
          exact nm rfl (.inr ⟨e2, e3⟩) h
        · cases h
      · cases h
    · rename_i n' es k p e1
      cases e1
      obtain ⟨ts, h1, rfl⟩ := Option.map_eq_some_iff.mp h
      obtain ⟨g, s, pg⟩ := good_targets nn hF h1
      obtain ⟨k1, k2⟩ := trTargets_stars h1
      refine ⟨_, SimT.tp (Kf := W.K) s, fun X f => ?_⟩
      have P := pg X f
      have hc := f.calm
      obtain ⟨CX, k, rfl⟩ := f.all
      obtain ⟨z1, z2⟩ := asg_facts (env := X.env) k1
      exact pg_seq hc P (z1.trans k2.symm) z2
    · rename_i n' o i p e1
      cases e1
      split at h
      · rename_i hi
        split at h
        · rename_i a b h1 h2
          cases h
          obtain ⟨ta, s1, p1⟩ := hF _ _ h1
          obtain ⟨tb, s2, p2⟩ := hF _ _ h2
          exact ⟨_, SimT.sub s1 s2, fun X f => pg_sub (p1 fl X f) (p2 fl X f) set_list (sub_asg hi)⟩
        · cases h
      · cases h
    · cases h
theorem good_targets (nn : T.N = W.N) (hF : GoodF W C EX sc F) {fl : Str → Bool} : ∀ {n : Nat} {es : List Expr} {ts : Ts}, trTargets T F sc fl n es = some ts → ∃ g, SimTL C EX g ts ∧ ∀ X, Fam W sc fl EX X → PGs X es g
  | 0, _, _, h => by
    unfold trTargets at h
    cases h
  | n + 1, [], _, h => by
    unfold trTargets at h
    cases h
    exact ⟨_, SimTL.nil, fun _ _ => pgs_nil⟩
  | n + 1, a :: es, ts, h => by
    unfold trTargets at h
    split at h
    · rename_i ha
      split at h
      · rename_i h1 h2
        cases h
        obtain ⟨g, s, pg⟩ := good_target nn hF h1
        obtain ⟨g', s', pg'⟩ := good_targets nn hF h2
        exact ⟨_, SimTL.cons s s', fun X f => pgs_cons (pg X f) (pg' X f) (by rw [asg_ok ha]; rfl)⟩
      · cases h
    · cases h
end
def GoodI (W : Wd) (C : Cn) (EX : EXT) (sc : Scope) (tg it : Expr) (i : I) : Prop := ∃ t, SimI C EX t i ∧ ∀ fl X, Fam W sc fl EX X → PI X tg it t
theorem good_seq (hF : GoodF W C EX sc F) {tg e : Expr} {i : I} (h : (F e).map I.seq = some i) : GoodI W C EX sc tg e i := by
  obtain ⟨a, h1, rfl⟩ := Option.map_eq_some_iff.mp h
  obtain ⟨t, s, p⟩ := hF _ _ h1
  refine ⟨_, SimI.seq W.K s, fun fl X f => ?_⟩
  have P := p fl X f
  obtain ⟨CX, k, rfl⟩ := f.all
  exact pi_seqD P
theorem good_iter (G : GkOk T W C) (hF : GoodF W C EX sc F) {tg it : Expr} {i : I} (h : trIter T F sc tg it = some i) : GoodI W C EX sc tg it i ∧ unSet it = true := by
  unfold trIter at h
  split at h
  · rename_i f p args pos
    refine ⟨?_, rfl⟩
    split at h
    · rename_i hg
      split at h
      · rename_i a ek
        split at h
        · rename_i hc
          obtain ⟨rfl, ha⟩ := hc
          obtain ⟨x, h1, rfl⟩ := Option.map_eq_some_iff.mp h
          obtain ⟨t, s, pe⟩ := hF _ _ h1
          refine ⟨_, SimI.rng1 rfl (SimXs.cons s SimXs.nil), fun fl X f => ?_⟩
          have st := star_ok (env := X.env) (es := []) ha
          exact pi_range1 (f.gl hg).1 (by rw [f.mg]; exact G.rng _ ek) (pa_cons (pe fl X f) pa_nil st) st
        · cases h
      · rename_i a b ek
        split at h
        · rename_i hc
          obtain ⟨rfl, ha, hb⟩ := hc
          split at h
          · rename_i x y h1 h2
            cases h
            obtain ⟨t, s, pe⟩ := hF _ _ h1
            obtain ⟨t', s', pe'⟩ := hF _ _ h2
            refine ⟨_, SimI.rng2 rfl (SimXs.cons s (SimXs.cons s' SimXs.nil)), fun fl X f => ?_⟩
            have st := star_ok (env := X.env) (es := [b]) ha
            have st' := star_ok (env := X.env) (es := []) hb
            exact pi_range2 (f.gl hg).1 (by rw [f.mg]; exact G.rng _ ek) (pa_cons (pe fl X f) (pa_cons (pe' fl X f) pa_nil st') st) (by rw [st, st']; rfl) (by rw [st']; rfl)
          · cases h
        · cases h
      · rename_i a ek
        split at h
        · rename_i hc
          obtain ⟨rfl, ha⟩ := hc
          split at h
          · rename_i elts kk tpos
            obtain ⟨x, h1, rfl⟩ := Option.map_eq_some_iff.mp h
            obtain ⟨t, s, pe⟩ := hF _ _ h1
            refine ⟨_, SimI.enm W.K s, fun fl X f => ?_⟩
            have P := pe fl X f
            have gl := (f.gl hg).1
            have k2 := G.enm _ ek
            obtain ⟨CX, k, rfl⟩ := f.all
            have st := star_ok (env := X.env) (es := []) ha
            exact pi_enumT gl k2 (pa_cons P pa_nil st) st
          · cases h
        · cases h
      · rename_i a b ek
        split at h
        · rename_i hc
          obtain ⟨rfl, ha, hb⟩ := hc
          split at h
          · rename_i elts kk tpos x y h1 h2
            cases h
            obtain ⟨t, s, pe⟩ := hF _ _ h1
            obtain ⟨t', s', pe'⟩ := hF _ _ h2
            refine ⟨_, SimI.zip W.K s s', fun fl X f => ?_⟩
            have P := pe fl X f
            have P' := pe' fl X f
            have gl := (f.gl hg).1
            have k2 := G.zip _ ek
            obtain ⟨CX, k, rfl⟩ := f.all
            have st := star_ok (env := X.env) (es := [b]) ha
            have st' := star_ok (env := X.env) (es := []) hb
            exact RZ.pi_zipA gl k2 (pa_cons P (pa_cons P' pa_nil st') st) st (by rw [st']; rfl)
          · cases h
        · cases h
      · exact good_seq hF h
    · cases h
  · split at h
    · rename_i hu
      exact ⟨good_seq hF h, hu⟩
    · cases h
theorem good_ifs (hB : GoodFB W C EX sc F) {es : List Expr} {o : Oe} (h : trIfs F es = some o) : ∃ t, SimTs C EX t o ∧ ∀ fl X, Fam W sc fl EX X → PTs X es t := by
  unfold trIfs at h
  split at h
  · cases h
    exact ⟨tYes, SimTs.none, fun _ _ _ => pts_nil⟩
  · split at h
    · rename_i hp
      obtain ⟨x, h1, rfl⟩ := Option.map_eq_some_iff.mp h
      obtain ⟨t, s, p⟩ := hB _ _ _ h1 hp
      refine ⟨t, fun g H0 S Q Qd K R w k x => s g H0 S Q Qd K R ?_ k x, fun fl X f => pts_one (p fl X f).1⟩
      simp only [wpTest] at w
      exact w
    · cases h
  · cases h
end
section
variable {T : Tc} {W : Wd} {C : Cn} {EX : EXT} {sc : Scope} {F : Scope → Expr → Option E}
theorem rel_eq {scope : Scope} {env : Env} : relabel scope env = relS scope env.scope := rfl
theorem blk_fam (G : GkOk T W C) {fl : Str → Bool} {X : Cx} (f : Fam W sc fl EX X) {scope : Scope} (hk : scope.kind = .function) (s : Shared) (H : Hp) (Cc : Addr) (cl : List (Str × Addr)) (fp : List Addr) :
    Fam W (relS scope sc) (fun x => scope.names.lookup x == some .cell) EX0 (X.blk s H scope (compEnvC scope cl Cc X.env) fp) where
  wd := f.wd
  roof := f.roof
  calm := f.calm
  nd := f.nd
  scp := by
    show relabel scope X.env = _
    rw [rel_eq, f.scp]
  kind := hk
  fn := fun x h => h
  pass := fun σ => G.e0 _ σ
theorem lc_parts (G : GkOk T W C) (hF : ∀ EX sc, GoodF W C EX sc (F sc)) (hB : ∀ EX sc, GoodFB W C EX sc (F sc)) {elt tg it : Expr} {ifs : List Expr} {scope : Scope} {pos : Pos} {e' : E} (h : trE1 T F sc (.ListComp elt [⟨tg, it, ifs, 0⟩] scope pos) = some e') :
    ∃ (ti : TI) (g : TG) (tt : TT) (te : TE) (own : List (Str × Nat)), SimE C EX (tLc ti g tt te (own.map (·.2))) e' ∧ ∀ fl X, Fam W sc fl EX X → PI X tg it ti ∧ BlkOk X.N X.env.scope scope own ∧
      (∀ (s : Shared) (H : Hp) (Cc : Addr) (cl : List (Str × Addr)) (fp : List Addr), PG (X.blk s H scope (compEnvC scope cl Cc X.env) fp) tg g) ∧ (∀ (s : Shared) (H : Hp) (Cc : Addr) (cl : List (Str × Addr)) (fp : List Addr), PTs (X.blk s H scope (compEnvC scope cl Cc X.env) fp) ifs tt) ∧
      (∀ (s : Shared) (H : Hp) (Cc : Addr) (cl : List (Str × Addr)) (fp : List Addr), PE (X.blk s H scope (compEnvC scope cl Cc X.env) fp) elt te) ∧ ∀ x, foldedSetIterable it X.env x = pure x := by
  unfold trE1 at h
  simp only at h
  split at h
  · rename_i hb
    split at h
    · rename_i i t c e h1 h2 h3 h4
      split at h
      · rename_i hs
        cases h
        obtain ⟨⟨ti, s1, p1⟩, us⟩ := good_iter G (hF EX sc) h1
        obtain ⟨g, s2, p2⟩ := good_target G.nn (hF EX0 (relS scope sc)) h2
        obtain ⟨tt, s3, p3⟩ := good_ifs (hB EX0 (relS scope sc)) h3
        obtain ⟨te, s4, p4⟩ := hF EX0 (relS scope sc) _ _ h4
        have own := blkOk_by hb
        refine ⟨ti, g, tt, te, ownOf T.N scope.names, SimE.cmpr (fun j hj => ?_) s1 s2 s3 s4, fun fl X f => ?_⟩
        · have := List.all_eq_true.mp hs j hj
          simpa using this
        · have fb := fun s H Cc cl fp => blk_fam G f own.kind s H Cc cl fp
          refine ⟨p1 fl X f, ?_, fun s H Cc cl fp => p2 _ (fb s H Cc cl fp), fun s H Cc cl fp => p3 _ _ (fb s H Cc cl fp), fun s H Cc cl fp => p4 _ _ (fb s H Cc cl fp), fun x => set_ok' us⟩
          rw [f.N, f.scp, ← G.nn]
          exact own
      · cases h
    · cases h
  · cases h
theorem goodE1 (G : GkOk T W C) (hF : ∀ EX sc, GoodF W C EX sc (F sc)) (hB : ∀ EX sc, GoodFB W C EX sc (F sc)) : ∀ EX sc, GoodF W C EX sc (trE1 T F sc) := by
  intro EX sc e e' h
  have h0 := h
  unfold trE1 at h
  split at h
  · cases h; exact ⟨_, SimE.int, fun _ _ _ => pe_int⟩
  · cases h; exact ⟨_, SimE.bl, fun _ _ _ => pe_bl⟩
  · cases h; exact ⟨_, SimE.non, fun _ _ _ => pe_non⟩
  · cases h; exact ⟨_, SimE.str, fun _ _ _ => pe_str⟩
  · exact good_name G h
  · obtain ⟨a, h1, rfl⟩ := Option.map_eq_some_iff.mp h
    obtain ⟨t, s, p⟩ := hF EX sc _ _ h1
    exact ⟨_, SimE.neg s, fun fl X f => pe_un un_neg (p fl X f)⟩
  · obtain ⟨a, h1, rfl⟩ := Option.map_eq_some_iff.mp h
    obtain ⟨t, s, p⟩ := hF EX sc _ _ h1
    refine ⟨_, SimE.not W.K s, fun fl X f => ?_⟩
    have P := p fl X f
    obtain ⟨CX, k, rfl⟩ := f.all
    exact pe_notT P
  · split at h
    · rename_i o x y ho h1 h2
      cases h
      obtain ⟨t, s, p⟩ := hF EX sc _ _ h1
      obtain ⟨t', s', p'⟩ := hF EX sc _ _ h2
      refine ⟨_, SimE.bin (sim_bo W.K o) s s', fun fl X f => ?_⟩
      have P := p fl X f
      have P' := p' fl X f
      obtain ⟨CX, k, rfl⟩ := f.all
      exact pe_op (or_bo ho) P P'
    · cases h
  · split at h
    · cases h
    · rename_i hm
      split at h
      · rename_i x y h1 h2
        cases h
        obtain ⟨t, s, p⟩ := hF EX sc _ _ h1
        obtain ⟨t', s', p'⟩ := hF EX sc _ _ h2
        refine ⟨_, SimE.cmp (sim_co W.K _) s s', fun fl X f => ?_⟩
        have P := p fl X f
        have P' := p' fl X f
        have ro := f.roof.data
        obtain ⟨CX, k, rfl⟩ := f.all
        exact pe_cmpR (or_co ro _) P P' (by simpa using hm)
      · cases h
  · split at h
    · cases h
    · rename_i hm
      split at h
      · rename_i x y z h1 h2 h3
        cases h
        obtain ⟨t, s, p⟩ := hF EX sc _ _ h1
        obtain ⟨t', s', p'⟩ := hF EX sc _ _ h2
        obtain ⟨t'', s'', p''⟩ := hF EX sc _ _ h3
        refine ⟨_, SimE.chn (sim_co W.K _) (sim_co W.K _) s s' s'', fun fl X f => ?_⟩
        have P := p fl X f
        have P' := p' fl X f
        have P'' := p'' fl X f
        have ro := f.roof.data
        obtain ⟨CX, k, rfl⟩ := f.all
        exact pe_chain (or_co ro _) (or_co ro _) P P' P'' (by simpa using hm)
      · cases h
  · obtain ⟨t, s, p⟩ := hF EX sc _ _ h
    exact ⟨t, s, fun fl X f => pe_one (p fl X f)⟩
  · split at h
    · rename_i x y h1 h2
      cases h
      obtain ⟨t, s, p⟩ := hF EX sc _ _ h1
      obtain ⟨t', s', p'⟩ := hF EX sc _ _ h2
      refine ⟨_, SimE.and W.K s s', fun fl X f => ?_⟩
      have P := p fl X f
      have P' := p' fl X f
      obtain ⟨CX, k, rfl⟩ := f.all
      exact pe_andT P P'
    · cases h
  · split at h
    · rename_i x y h1 h2
      cases h
      obtain ⟨t, s, p⟩ := hF EX sc _ _ h1
      obtain ⟨t', s', p'⟩ := hF EX sc _ _ h2
      refine ⟨_, SimE.or W.K s s', fun fl X f => ?_⟩
      have P := p fl X f
      have P' := p' fl X f
      obtain ⟨CX, k, rfl⟩ := f.all
      exact pe_orT P P'
    · cases h
  · split at h
    · rename_i hp
      split at h
      · rename_i x y z h1 h2 h3
        cases h
        obtain ⟨t, s, p⟩ := hB EX sc _ _ _ h1 hp
        obtain ⟨t', s', p'⟩ := hF EX sc _ _ h2
        obtain ⟨t'', s'', p''⟩ := hF EX sc _ _ h3
        exact ⟨_, SimE.ite s s' s'', fun fl X f => pe_ifExp (p fl X f).1 (p' fl X f) (p'' fl X f)⟩
      · cases h
    · cases h
  · split at h
    · rename_i hn
      obtain ⟨xs, h1, rfl⟩ := Option.map_eq_some_iff.mp h
      obtain ⟨t, s, _, p⟩ := goodL (hF EX sc) h1
      exact ⟨_, SimE.tup (by rw [trList_len h1]; exact hn) s, fun fl X f => pe_tup (p fl X f)⟩
    · cases h
  · split at h
    · rename_i hn
      obtain ⟨xs, h1, rfl⟩ := Option.map_eq_some_iff.mp h
      obtain ⟨t, s, _, p⟩ := goodL (hF EX sc) h1
      exact ⟨_, SimE.lst (by rw [trList_len h1]; exact hn) s, fun fl X f => pe_lst (p fl X f)⟩
    · cases h
  · split at h
    · rename_i x y z h1 h2 h3
      cases h
      obtain ⟨t, s, p⟩ := hF EX sc _ _ h1
      obtain ⟨t', s', p'⟩ := goodP (hF EX sc) h2
      obtain ⟨t'', s'', p''⟩ := goodP (hF EX sc) h3
      refine ⟨_, SimE.slc W.K s s' s'', fun fl X f => ?_⟩
      have P := p fl X f
      have P' := p' fl X f
      have P'' := p'' fl X f
      obtain ⟨CX, k, rfl⟩ := f.all
      exact pe_slice sl_any P P' P''
    · cases h
  · split at h
    · rename_i hu
      split at h
      · rename_i x y h1 h2
        cases h
        obtain ⟨t, s, p⟩ := hF EX sc _ _ h1
        obtain ⟨t', s', p'⟩ := hF EX sc _ _ h2
        refine ⟨_, SimE.idx W.K s s', fun fl X f => ?_⟩
        have P := p fl X f
        have P' := p' fl X f
        obtain ⟨CX, k, rfl⟩ := f.all
        exact pe_ix ix_seq P P' (plain_ix hu)
      · cases h
    · cases h
  · exact good_call G (hF EX sc) h0
  · exact good_mth (hF EX sc) h0
  · obtain ⟨ti, g, tt, te, own, s, p⟩ := lc_parts (EX := EX) G hF hB h0
    refine ⟨_, s, fun fl X f => ?_⟩
    obtain ⟨q1, q2, q3, q4, q5, q6⟩ := p fl X f
    exact pe_lc f.calm f.nd q1 q2 q3 q4 q5 q6
  · cases h
end
end Dl
set_option maxHeartbeats 4000000
namespace Dl
open PySem PySem.Spec PyProof.Rows L2
section
variable {T : Tc} {W : Wd} {C : Cn} {EX : EXT} {sc : Scope} {F : Scope → Expr → Option E}
def plainOne : Expr → Bool
  | .UnaryOp .Not _ _ => false
  | .BoolOp _ _ _ => false
  | .IfExp _ _ _ _ => false
  | .Compare _ _ _ _ => false
  | _ => true
theorem test_plain {e : Expr} {env : Env} (h : plainOne e = true) : ∀ whole, isTrue e env whole = (do
    let v ← whole
    standAt e.pos
    holding [v] (truthy v)) := by
  intro whole
  cases e with
  | UnaryOp op a p => cases op <;> first | rfl | cases h
  | _ => first | rfl | cases h
theorem goodB_plain {e : Expr} {e' : E} (h : plainOne e = true) (hE : GoodE W C EX sc e e') : GoodB W C EX sc e e' := by
  obtain ⟨t, s, p⟩ := hE
  refine ⟨_, SimB.truth W.K s, fun fl X f => ⟨?_, fun op es pos z => ?_⟩⟩
  · have P := p fl X f
    obtain ⟨CX, k, rfl⟩ := f.all
    exact pt_truth P (test_plain h)
  · subst z
    cases h
theorem goodB1 (G : GkOk T W C) (hF : ∀ EX sc, GoodF W C EX sc (F sc)) (hB : ∀ EX sc, GoodFB W C EX sc (F sc)) : ∀ EX sc, GoodFB W C EX sc (trE1 T F sc) := by
  intro EX sc m e e' h hp
  by_cases hpl : plainOne e = true
  · exact goodB_plain hpl (goodE1 G hF hB EX sc e e' h)
  have h0 := h
  unfold trE1 at h
  split at h <;> first | exact absurd rfl hpl | skip
  · -- not
    obtain ⟨a, h1, rfl⟩ := Option.map_eq_some_iff.mp h
    cases m with
    | zero => unfold plainTest at hp; cases hp
    | succ m =>
      unfold plainTest at hp
      obtain ⟨t, s, p⟩ := hB EX sc _ _ _ h1 hp
      exact ⟨_, SimB.not s, fun fl X f => ⟨pt_not (p fl X f).1, fun op es pos z => by cases z⟩⟩
  · split at h
    · cases h
    · rename_i hm
      split at h
      · rename_i x y h1 h2
        cases h
        obtain ⟨t, s, p⟩ := hF EX sc _ _ h1
        obtain ⟨t', s', p'⟩ := hF EX sc _ _ h2
        refine ⟨_, SimB.cmp (sim_co W.K _) s s', fun fl X f => ?_⟩
        have P := p fl X f
        have P' := p' fl X f
        have ro := f.roof.data
        obtain ⟨CX, k, rfl⟩ := f.all
        exact ⟨pt_cmpR (or_co ro _) P P' (by simpa using hm), fun op es pos z => by cases z⟩
      · cases h
  · split at h
    · cases h
    · rename_i hm
      split at h
      · rename_i x y z h1 h2 h3
        cases h
        obtain ⟨t, s, p⟩ := hF EX sc _ _ h1
        obtain ⟨t', s', p'⟩ := hF EX sc _ _ h2
        obtain ⟨t'', s'', p''⟩ := hF EX sc _ _ h3
        refine ⟨_, SimB.chn (sim_co W.K _) (sim_co W.K _) s s' s'', fun fl X f => ?_⟩
        have P := p fl X f
        have P' := p' fl X f
        have P'' := p'' fl X f
        have ro := f.roof.data
        obtain ⟨CX, k, rfl⟩ := f.all
        exact ⟨pt_chain (or_co ro _) (or_co ro _) P P' P'' (by simpa using hm), fun op es pos z => by cases z⟩
      · cases h
  · rename_i op a pos
    cases m with
    | zero => unfold plainTest at hp; cases hp
    | succ m =>
      unfold plainTest at hp
      have hp := List.all_eq_true.mp hp a (by simp)
      obtain ⟨t, s, p⟩ := hB EX sc _ _ _ h hp
      refine ⟨t, s, fun fl X f => ?_⟩
      have P := (p fl X f).1
      have W1 : PW X (.BoolOp op [a] pos) t := by
        cases op
        · exact pw_and1 P
        · exact pw_or1 P
      exact ⟨W1.pt, fun op es pos z => by cases z; exact W1⟩
  · rename_i a b rest pos
    split at h
    · rename_i x y h1 h2
      cases h
      cases m with
      | zero => unfold plainTest at hp; cases hp
      | succ m =>
        unfold plainTest at hp
        have hp1 := List.all_eq_true.mp hp
        obtain ⟨t, s, p⟩ := hB EX sc _ _ _ h1 (hp1 a (by simp))
        obtain ⟨t', s', p'⟩ := hB EX sc (m + 1) _ _ h2 (by
          unfold plainTest
          exact List.all_eq_true.mpr fun z hz => hp1 z (List.mem_cons_of_mem _ hz))
        refine ⟨_, SimB.and s s', fun fl X f => ?_⟩
        have W1 := pw_and (p fl X f).1 ((p' fl X f).2 _ _ _ rfl)
        exact ⟨W1.pt, fun op es pos z => by cases z; exact W1⟩
    · cases h
  · rename_i a b rest pos
    split at h
    · rename_i x y h1 h2
      cases h
      cases m with
      | zero => unfold plainTest at hp; cases hp
      | succ m =>
        unfold plainTest at hp
        have hp1 := List.all_eq_true.mp hp
        obtain ⟨t, s, p⟩ := hB EX sc _ _ _ h1 (hp1 a (by simp))
        obtain ⟨t', s', p'⟩ := hB EX sc (m + 1) _ _ h2 (by
          unfold plainTest
          exact List.all_eq_true.mpr fun z hz => hp1 z (List.mem_cons_of_mem _ hz))
        refine ⟨_, SimB.or s s', fun fl X f => ?_⟩
        have W1 := pw_or (p fl X f).1 ((p' fl X f).2 _ _ _ rfl)
        exact ⟨W1.pt, fun op es pos z => by cases z; exact W1⟩
    · cases h
  · cases m with
    | zero => unfold plainTest at hp; cases hp
    | succ m => unfold plainTest at hp; cases hp
  · cases h
theorem good_tr (G : GkOk T W C) : ∀ n, (∀ EX sc, GoodF W C EX sc (trE T n sc)) ∧ ∀ EX sc, GoodFB W C EX sc (trE T n sc)
  | 0 => by
    refine ⟨fun EX sc e e' h => ?_, fun EX sc m e e' h => ?_⟩
    · unfold trE at h
      cases h
    · unfold trE at h
      cases h
  | n + 1 => by
    obtain ⟨h1, h2⟩ := good_tr G n
    exact ⟨fun EX sc e e' h => goodE1 G h1 h2 EX sc e e' h, fun EX sc m e e' h => goodB1 G h1 h2 EX sc m e e' h⟩
end
end Dl
set_option maxHeartbeats 1000000
namespace Dl
open PySem PySem.Spec PyProof.Rows L2
theorem sw_eq (ts vs : List Expr) (k k2 : Nat) (p p2 : Pos) (env : Env) : swappedStores [.Tuple ts k p] (.Tuple vs k2 p2) env =
    (if (!(ts.length == 2 || ts.length == 3) || vs.length != ts.length || bkOf env.scope != .function) = true then pure none else
    if vs.any isStar = true then pure none else
    if ((namesAt env.scope ts).length != ts.length || (namesAt env.scope ts).eraseDups.length != (namesAt env.scope ts).length) = true then pure none else
    if vs.all (foldedForSure 8) = true then pure none else
    if vs.all (constantsAlone 8) = true then unsupported "assign.tuple-of-constant-expressions:order-of-the-stores" else
    pure (some (namesAt env.scope ts))) := by
  unfold swappedStores
  rfl
theorem sw_ok {ts vs : List Expr} {k k2 : Nat} {p p2 : Pos} {env : Env} {r : Option (List Str)} (h : swOf env.scope ts vs = some r) : swappedStores [.Tuple ts k p] (.Tuple vs k2 p2) env = pure r := by
  rw [sw_eq]
  unfold swOf at h
  split at h
  · rename_i c
    rw [if_pos c]
    cases h
    rfl
  · rename_i c
    rw [if_neg c]
    split at h
    · rename_i c
      rw [if_pos c]
      cases h
      rfl
    · rename_i c
      rw [if_neg c]
      split at h
      · rename_i c
        rw [if_pos c]
        cases h
        rfl
      · rename_i c
        rw [if_neg c]
        split at h
        · rename_i c
          rw [if_pos c]
          cases h
          rfl
        · rename_i c
          rw [if_neg c]
          split at h
          · cases h
          · rename_i c
            rw [if_neg c]
            cases h
            rfl
def unTupV : Expr → Bool
  | .Tuple _ _ _ => false
  | _ => true
theorem sw_none {tg e : Expr} {env : Env} (h : unTup tg = true ∨ unTupV e = true) : swappedStores [tg] e env = pure none := by
  rcases h with h | h
  · cases tg <;> first | rfl | cases h
  · cases tg <;> first | rfl | (cases e <;> first | rfl | cases h)
theorem swaps_un {e : Expr} {t : Option Expr} {l : Nat} {env : Env} (h : unComp e = true) : swapsWith e t l env = pure false := by
  cases e <;> first | rfl | cases h
theorem swaps_lc {elt : Expr} {gs : List Comprehension} {scope : Scope} {pos py : Pos} {y : Str} {l : Nat} {env : Env} : swapsWith (.ListComp elt gs scope pos) (some (.Name y py)) l env = pure (swB env.scope y py pos scope) := by
  unfold swapsWith
  rfl
structure FamS (W : Wd) (sc : Scope) (EX : EXT) (X : Cx) : Prop where
  fam : Fam W sc (fun _ => true) EX X
  own : PassesOwn (model X.prog X.w) X.A X.env X.xe
section
variable {T : Tc} {W : Wd} {C : Cn} {EX : EXT} {sc : Scope}
def GoodS (W : Wd) (C : Cn) (EX : EXT) (sc : Scope) (s : Stmt) (s' : Dl.S) : Prop := ∃ t, SimS C EX t s' ∧ ∀ X, FamS W sc EX X → PS X s t
def GoodSs (W : Wd) (C : Cn) (EX : EXT) (sc : Scope) (s : List Stmt) (s' : Ss) : Prop := ∃ t, SimSs C EX t s' ∧ ∀ X, FamS W sc EX X → PSs X s t
theorem slots_ok {N : List Str} : ∀ {names : List Str} {l : List (Nat × Str)}, slotsOf N names = some l → l.map (·.2) = names ∧ ∀ p ∈ l, N[p.1]? = some p.2
  | [], _, h => by
    cases h
    exact ⟨rfl, by simp⟩
  | x :: r, l, h => by
    unfold slotsOf at h
    split at h
    · rename_i h1 h2
      cases h
      obtain ⟨k1, k2⟩ := slots_ok h2
      refine ⟨by rw [List.map_cons, k1], fun p hp => ?_⟩
      rcases List.mem_cons.mp hp with rfl | hp
      · exact slot_ix h1
      · exact k2 p hp
    · cases h
theorem good_asg (G : GkOk T W C) {tg e : Expr} {t : Dl.T} {e' : E} {F : Expr → Option E} (hF : GoodF W C EX sc F) (h1 : trTarget T F sc (fun _ => true) 9 tg = some t) (h2 : F e = some e') {pos : Pos}
    (hs : ∀ env : Env, env.scope = sc → swapsWithSole [tg] e pos.line env = pure false) (hw : ∀ env : Env, env.scope = sc → swappedStores [tg] e env = pure none) : GoodS W C EX sc (.Assign [tg] e pos) (.asg t e') := by
  obtain ⟨g, s, p⟩ := good_target G.nn hF h1
  obtain ⟨te, s', p'⟩ := hF _ _ h2
  have nt : unStar tg = true := by cases tg <;> first | rfl | (unfold trTarget at h1; cases h1)
  refine ⟨_, SimS.asg s' s, fun X f => ps_asg (p' _ X f.fam) (p X f.fam) (hs _ f.fam.scp) (hw _ f.fam.scp) ?_⟩
  rw [asg_ok nt]
  rfl
theorem good_assign (G : GkOk T W C) {n : Nat} {tg e : Expr} {s' : Dl.S} {pos : Pos} (h : trAssign T (trE T n sc) sc tg e = some s') : GoodS W C EX sc (.Assign [tg] e pos) s' := by
  have hF := (good_tr G n).1
  have hB := (good_tr G n).2
  unfold trAssign at h
  split at h
  · rename_i ts k1 p1 vs k2 p2
    split at h
    · rename_i names hsw
      split at h
      · rename_i l es hl hes
        split at h
        · rename_i hc
          cases h
          rw [Bool.and_eq_true, Bool.and_eq_true, decide_eq_true_eq, decide_eq_true_eq] at hc
          obtain ⟨⟨c1, c2⟩, c3⟩ := hc
          obtain ⟨k3, k4⟩ := slots_ok hl
          obtain ⟨ta, _, so, pa⟩ := goodL (hF EX sc) hes
          refine ⟨_, SimS.par so, fun X f => ps_parN f.fam.calm f.fam.nd (fun p hp => ⟨?_, ?_⟩) c1 c2 (pa _ X f.fam) ?_ rfl⟩
          · rw [f.fam.N, ← G.nn]
            exact k4 p hp
          · have := List.all_eq_true.mp c3 p hp
            rw [f.fam.scp]
            simpa using this
          · rw [k3]
            exact sw_ok (by rw [f.fam.scp]; exact hsw)
        · cases h
      · cases h
    · rename_i hsw
      split at h
      · rename_i t a h1 h2
        cases h
        exact good_asg G (hF EX sc) h1 h2 (fun _ _ => rfl) fun env he => sw_ok (by rw [he]; exact hsw)
      · cases h
    · cases h
  · rename_i x p
    split at h
    · rename_i t a h1 h2
      cases h
      by_cases hc : unComp e = true
      · exact good_asg G (hF EX sc) h1 h2 (fun _ _ => by unfold swapsWithSole; exact swaps_un hc) fun _ _ => sw_none (.inl rfl)
      · cases n with
        | zero => unfold trE at h2; cases h2
        | succ n =>
          have h2' : trE1 T (trE T n) sc e = some a := h2
          cases e with
          | ListComp elt gs scope pos' =>
            by_cases hb : swB sc x p pos' scope = true
            · have hx : sc.names.lookup x = some .local := by
                unfold swB at hb
                simp only [Bool.and_eq_true, beq_iff_eq] at hb
                exact hb.1.1.2
              match gs, h2' with
              | [⟨ctg, it, ifs, 0⟩], h2' =>
                obtain ⟨ti, g, tt, te, own, s, q⟩ := lc_parts (EX := EX) G (good_tr G n).1 (good_tr G n).2 h2'
                unfold trTarget at h1
                simp only [hx] at h1
                obtain ⟨i, hi, rfl⟩ := Option.map_eq_some_iff.mp h1
                refine ⟨_, SimS.asg s SimT.nm, fun X f => ?_⟩
                obtain ⟨q1, q2, q3, q4, q5, q6⟩ := q _ X f.fam
                refine ps_setLc f.fam.calm f.fam.nd ?_ (by rw [f.fam.scp]; exact hx) ?_ q1 q2 q3 q4 q5 q6
                · rw [f.fam.N, ← G.nn]
                  exact slot_ix hi
                · rw [swaps_lc, f.fam.scp, hb]
            · exact good_asg G (hF EX sc) h1 h2 (fun env he => by
                unfold swapsWithSole
                refine swaps_lc.trans ?_
                rw [he]
                simp only [Bool.not_eq_true] at hb
                rw [hb]) fun _ _ => sw_none (.inl rfl)
          | SetComp _ _ _ _ => unfold trE1 at h2'; cases h2'
          | DictComp _ _ _ _ _ => unfold trE1 at h2'; cases h2'
          | _ => exact absurd rfl hc
    · cases h
  · rename_i x1 x2
    split at h
    · rename_i hc
      split at h
      · rename_i t a h1 h2
        cases h
        refine good_asg G (hF EX sc) h1 h2 (fun _ _ => by unfold swapsWithSole; exact swaps_un hc) fun env he => sw_none ?_
        cases tg with
        | Tuple ts k p =>
          refine .inr ?_
          cases e with
          | Tuple vs k2 p2 =>
            exact (x2 _ _ _ _ _ _ rfl rfl).elim
          | _ => rfl
        | List es p => unfold trTarget at h1; cases h1
        | _ => exact .inl rfl
      · cases h
    · cases h
theorem plain_unset {F : Expr → Option E} {tg it : Expr} {i : I} (G : GkOk T W C) (hF : GoodF W C EX sc F) (h : trIter T F sc tg it = some i) : ∀ (env : Env) x, foldedSetIterable it env x = pure x := fun env x => set_ok' (good_iter G hF h).2
theorem goodS1 (G : GkOk T W C) {n : Nat} {Gs : List Stmt → Option Ss} (hG : ∀ ss ss', Gs ss = some ss' → GoodSs W C EX sc ss ss') {s : Stmt} {s' : Dl.S} (h : trS1 T Gs (trE T n sc) sc s = some s') : GoodS W C EX sc s s' := by
  have hF := (good_tr G n).1 EX sc
  have hB := (good_tr G n).2 EX sc
  unfold trS1 at h
  split at h
  · cases h
    exact ⟨_, SimS.pas, fun X f => ps_doc⟩
  · split at h
    · rename_i hc
      obtain ⟨a, h1, rfl⟩ := Option.map_eq_some_iff.mp h
      obtain ⟨t, s, p⟩ := hF _ _ h1
      exact ⟨_, SimS.expr s, fun X f => ps_expr (p _ X f.fam) (swaps_un hc)⟩
    · cases h
  · cases h
    exact ⟨_, SimS.pas, fun X f => ps_pass⟩
  · cases h
    exact ⟨_, SimS.brk, fun X f => ps_break⟩
  · cases h
    exact ⟨_, SimS.cnt, fun X f => ps_continue⟩
  · cases h
    exact ⟨_, SimS.retn, fun X f => ps_retN⟩
  · obtain ⟨a, h1, rfl⟩ := Option.map_eq_some_iff.mp h
    obtain ⟨t, s, p⟩ := hF _ _ h1
    exact ⟨_, SimS.ret s, fun X f => ps_ret (p _ X f.fam)⟩
  · split at h
    · rename_i hp
      split at h
      · rename_i x y z h1 h2 h3
        cases h
        obtain ⟨t, s, p⟩ := hB _ _ _ h1 hp
        obtain ⟨t', s', p'⟩ := hG _ _ h2
        obtain ⟨t'', s'', p''⟩ := hG _ _ h3
        exact ⟨_, SimS.ifs s s' s'', fun X f => ps_if (p _ X f.fam).1 (p' X f) (p'' X f)⟩
      · cases h
    · cases h
  · split at h
    · rename_i hp
      split at h
      · rename_i x y h1 h2
        cases h
        obtain ⟨t, s, p⟩ := hB _ _ _ h1 hp
        obtain ⟨t', s', p'⟩ := hG _ _ h2
        exact ⟨_, SimS.whl s s', fun X f => ps_while f.own (p _ X f.fam).1 (p' X f)⟩
      · cases h
    · cases h
  · split at h
    · rename_i i t y h1 h2 h3
      cases h
      obtain ⟨⟨ti, s1, p1⟩, us⟩ := good_iter G hF h1
      obtain ⟨g, s2, p2⟩ := good_target G.nn hF h2
      obtain ⟨tb, s3, p3⟩ := hG _ _ h3
      exact ⟨_, SimS.frs s1 s2 s3, fun X f => ps_for f.own f.fam.calm (p1 _ X f.fam) (p2 X f.fam) (p3 X f) fun x => set_ok' us⟩
    · cases h
  · exact good_assign G h
  · cases h
    exact ⟨tNever, fun g H0 S D P K R w k x => by simp only [wpS] at w, fun X f => ⟨fun _ _ _ _ _ _ h => False.elim h⟩⟩
  · rename_i x p op e pos
    have nm : ∀ {i : Nat}, trTarget T (trE T n sc) sc (fun _ => true) 9 (.Name x ⟨0, 0, 0, 0⟩) = some (.nm i) → T.N[i]? = some x ∧ L2.Loc sc x := fun {i} h1 => by
      unfold trTarget at h1
      split at h1
      · rename_i e2
        obtain ⟨j, hj, e3⟩ := Option.map_eq_some_iff.mp h1
        cases e3
        exact ⟨slot_ix hj, .inl e2⟩
      · rename_i e2
        split at h1
        · obtain ⟨j, hj, e3⟩ := Option.map_eq_some_iff.mp h1
          cases e3
          exact ⟨slot_ix hj, .inr e2⟩
        · cases h1
      · cases h1
    split at h
    · rename_i i a h1 h2
      cases h
      obtain ⟨k1, k2⟩ := nm h1
      obtain ⟨t, s, p⟩ := hF _ _ h2
      refine ⟨_, SimS.aug (.inl ⟨rfl, rfl⟩) s, fun X f => ps_aug f.fam.nd ?_ (by rw [f.fam.scp]; exact k2) (p _ X f.fam) ip_add (.inl (f.fam.fn _ rfl))⟩
      rw [f.fam.N, ← G.nn]
      exact k1
    · rename_i i a h1 h2
      cases h
      obtain ⟨k1, k2⟩ := nm h1
      obtain ⟨t, s, p⟩ := hF _ _ h2
      refine ⟨_, SimS.aug (.inr ⟨rfl, rfl⟩) s, fun X f => ps_aug f.fam.nd ?_ (by rw [f.fam.scp]; exact k2) (p _ X f.fam) ip_sub (.inl (f.fam.fn _ rfl))⟩
      rw [f.fam.N, ← G.nn]
      exact k1
    · cases h
  · cases h
theorem goodSs (G : GkOk T W C) : ∀ (n : Nat) {ss : List Stmt} {ss' : Ss}, trSs T n sc ss = some ss' → GoodSs W C EX sc ss ss'
  | 0, _, _, h => by unfold trSs at h; cases h
  | n + 1, [], _, h => by
    unfold trSs at h
    cases h
    exact ⟨_, SimSs.nil, fun _ _ => pss_nil⟩
  | n + 1, s :: ss, _, h => by
    unfold trSs at h
    split at h
    · rename_i a b h1 h2
      cases h
      obtain ⟨t, s1, p1⟩ := goodS1 (EX := EX) G (fun ss ss' h => goodSs G n h) h1
      obtain ⟨t', s2, p2⟩ := goodSs G n h2
      exact ⟨_, SimSs.cons s1 s2, fun X f => pss_cons (p1 X f) (p2 X f)⟩
    · cases h
end
theorem def_ok {T : Tc} {W : Wd} {C : Cn} {qual : Str} {st : Stmt} {f : Addr} {fd : FuncData} {ps : List Str} {body : Ss} {n : Nat} (G : GkOk T W C) (F : C8.Fun W.K qual qual st f fd) (S : FnScope T.N ps (C8.fnScope st)) (hb : trSs T n (C8.fnScope st) (C8.fnBody st) = some body)
    (hx : ∀ (X : Cx) (E : XK), X.stack = X.env :: X.outer → X.env.frame = some X.env.locals → X.ex = [] → (∃ (E1 : Value → Shared → Prop), X.xe = fun e s' => wpAny (model X.prog X.w) X.A (leaving X.env e) (fun _ s'' => W.CX X.outer X.H_0 X.s_0 E e s'') E1 s') → ∀ σ, PassesAt W.CX X σ E) :
    FnG W.P W.w W.K W.mg W.base W.CX (W.k + 1) f fd ps (toSp C.tb ps.length (wpFn C T.N.length body)) := by
  obtain ⟨oc, od, dV, kV, doc, pm, an, cdv, ct, osl, rfl, lk, hcd⟩ := F.ex
  refine fnG_of lk hcd S (fun vs H Q E h => h.1) fun A outer s H vs Q E hr h => ?_
  obtain ⟨t, s1, p⟩ := goodSs (EX := fun _ => E) G n hb
  refine ⟨t, p _ ⟨⟨?_, hr, rfl, S.nd, rfl, S.kind, fun _ _ => rfl, fun σ => hx _ E rfl rfl rfl ⟨_, rfl⟩ σ⟩, PassesOwn.leaving⟩, ?_⟩
  · show W = ⟨W.P, W.w, W.K, W.mg, W.base, W.CX, W.k, T.N⟩
    rw [G.nn]
  · exact promise s1 (fun _ _ _ _ h => h) h
end Dl
set_option maxHeartbeats 4000000
namespace Dl
open PySem PySem.Spec PyProof.Rows L2
theorem tru_mono {α : Type} {o : Option α} {P P' : α → Prop} (h : ∀ b, P b → P' b) : onK o P → onK o P' := fun ⟨a, e, p⟩ => ⟨a, e, h a p⟩
theorem resK_mono {r : RV} {m : Em} {P P' : D → Prop} (h : ∀ d, P d → P' d) : resK r m P → resK r m P' := by
  unfold resK
  cases res r m with
  | none => exact id
  | some d => exact h d
theorem binS_mono {o : Bo} {x y : D} {P P' : Bool → D → Prop} (h : ∀ b d, P b d → P' b d) : binS o x y P → binS o x y P' := by
  unfold binS
  split
  all_goals first | exact h _ _ | exact id | exact fun q => ⟨q.1, h _ _ q.2⟩ | exact fun q => ⟨q.1, q.2.1, h _ _ q.2.2⟩ | exact fun q => ⟨q.1, q.2.1, q.2.2.1, h _ _ q.2.2.2⟩ | exact fun q => ⟨q.1, q.2.1, q.2.2.1, q.2.2.2.1, h _ _ q.2.2.2.2⟩
theorem eqS_mono {x y : D} {P P' : Bool → Prop} (h : ∀ b, P b → P' b) (q : eqS x y P) : eqS x y P' := by
  unfold eqS at q ⊢
  split at q
  · exact h _ q
  · exact h _ q
  · exact h _ q
  · obtain ⟨p, r, q1, q2, q3, q4⟩ := q
    exact ⟨p, r, q1, q2, q3, h _ q4⟩
theorem inS_mono {x y : D} {P P' : Bool → Prop} (h : ∀ b, P b → P' b) (q : inS x y P) : inS x y P' := by
  unfold inS at q ⊢
  split at q
  · exact h _ q
  · obtain ⟨p, r, q1, q2, q3, q4⟩ := q
    exact ⟨p, r, q1, q2, q3, h _ q4⟩
  · obtain ⟨p, r, q1, q2, q3, q4⟩ := q
    exact ⟨p, r, q1, q2, q3, h _ q4⟩
  · exact q
theorem cmpS_mono {o : Co} {x y : D} {P P' : Bool → Prop} (h : ∀ b, P b → P' b) (q : cmpS o x y P) : cmpS o x y P' := by
  cases o with
  | eq => exact eqS_mono h q
  | ne => exact eqS_mono (fun b => h (!b)) q
  | isin => exact inS_mono h q
  | notin => exact inS_mono (fun b => h (!b)) q
  | is =>
    unfold cmpS at q ⊢
    dsimp only at q ⊢
    split at q
    · exact h _ q
    · exact ⟨q.1, h _ q.2⟩
  | isnot =>
    unfold cmpS at q ⊢
    dsimp only at q ⊢
    split at q
    · exact h _ q
    · exact ⟨q.1, h _ q.2⟩
  | _ =>
    unfold cmpS at q ⊢
    dsimp only at q ⊢
    split at q
    · exact h _ q
    · exact q
theorem slcS_mono {x : D} {a b : Option Int} {P P' : Bool → D → Prop} (h : ∀ b d, P b d → P' b d) (q : slcS x a b P) : slcS x a b P' := by
  unfold slcS at q ⊢
  split at q
  · exact h _ _ q
  · exact h _ _ q
  · exact ⟨q.1, h _ _ q.2⟩
  · exact q
theorem bltS_mono {f : Bf} {ds : List D} {P P' : Bool → D → Prop} (h : ∀ b d, P b d → P' b d) (q : bltS f ds P) : bltS f ds P' := by
  unfold bltS at q ⊢
  split at q
  all_goals first
    | exact h _ _ q
    | exact ⟨q.1, h _ _ q.2⟩
    | exact q
    | exact tru_mono (fun a q => h _ _ q) q
    | exact tru_mono (fun a q => ⟨q.1, fun m a b => h _ _ (q.2 m a b)⟩) q
    | exact tru_mono (fun a q => ⟨q.1, q.2.1, q.2.2.1, h _ _ q.2.2.2⟩) q
theorem escK_mono {r : RV} {m : Em} {P P' : D → Em → Prop} (h : ∀ d m, P d m → P' d m) (q : escK P r m) : escK P' r m := by
  unfold escK at q ⊢
  split at q
  · exact h _ _ q
  · split at q
    · exact h _ _ q
    · exact h _ _ q
    · exact q
theorem setK_mono {i : Nat} {r : RV} {m : Em} {P P' : Em → Prop} (h : ∀ m, P m → P' m) (q : setK i r m P) : setK i r m P' := by
  unfold setK at q ⊢
  split at q
  · exact q
  · unfold setK0 at q ⊢
    split at q
    · exact h _ q
    · exact h _ q
    · exact h _ q
    · split at q
      · rcases q with q | q
        · exact .share (h _ q)
        · exact .move (h _ q)
      · exact h _ q
      · exact q
theorem mthS_mono {f : Mf} {x : D} {ds : List D} {P P' : D → D → Prop} (h : ∀ a b, P a b → P' a b) (q : mthS f x ds P) : mthS f x ds P' := by
  unfold mthS at q ⊢
  split at q
  · exact ⟨q.1, h _ _ q.2⟩
  · exact tru_mono (fun a q => h _ _ q) q
  · obtain ⟨q1, q2, k, e, d, e2, q3⟩ := q
    exact ⟨q1, q2, k, e, d, e2, h _ _ q3⟩
  · exact ⟨q.1, h _ _ q.2⟩
  · exact h _ _ q
  · exact q
theorem mthK_mono {f : Mf} {i : Nat} {ds : List D} {m : Em} {P P' : RV → Em → Prop} (h : ∀ r m, P r m → P' r m) (q : mthK f i ds m P) : mthK f i ds m P' := by
  unfold mthK at q ⊢
  split at q
  · exact mthS_mono (fun a b => h _ _) q
  · exact q
theorem putK_mono {j : Nat} {y v : D} {m : Em} {P P' : Em → Prop} (h : ∀ m, P m → P' m) (q : putK j y v m P) : putK j y v m P' := by
  unfold putK at q ⊢
  split at q
  · unfold putS at q ⊢
    split at q
    · exact tru_mono (fun a q => h _ q) q
    · exact tru_mono (fun a q => h _ q) q
    · exact q
  · exact q
theorem tru2_mono {o : Option Bool} {A A' B B' : Prop} (h : A → A') (h' : B → B') : brK o A B → brK o A' B' := fun ⟨b, e, h1, h2⟩ => ⟨b, e, fun z => h (h1 z), fun z => h' (h2 z)⟩
theorem compK_mono {own : List Nat} {asg asg' : D → Em → (Em → Prop) → Prop} {tst tst' : Em → (Bool → Em → Prop) → Prop} {elt elt' : Em → (D → Em → Prop) → Prop}
    (ha : ∀ d m (P P' : Em → Prop), (∀ m, P m → P' m) → asg d m P → asg' d m P') (ht : ∀ m (P P' : Bool → Em → Prop), (∀ b m, P b m → P' b m) → tst m P → tst' m P') (he : ∀ m (P P' : D → Em → Prop), (∀ d m, P d m → P' d m) → elt m P → elt' m P') :
    ∀ (ds acc : List D) (m : Em) (Q Q' : List D → Em → Prop), (∀ a m, Q a m → Q' a m) → compK own asg tst elt ds acc m Q → compK own asg' tst' elt' ds acc m Q'
  | [], acc, m, Q, Q', h, q => h _ _ q
  | d :: ds, acc, m, Q, Q', h, q => by
    refine ha _ _ _ _ (fun m1 q => ht _ _ _ (fun b m2 q => ?_) q) q
    cases b with
    | true => exact he _ _ _ (fun v m3 q => ⟨q.1, compK_mono ha ht he ds _ _ Q Q' h q.2⟩) q
    | false => exact compK_mono ha ht he ds _ _ Q Q' h q
theorem escAll_mono : ∀ (rs : List RV) (m : Em) (P P' : List RV → Em → Prop), (∀ a m, P a m → P' a m) → escAll rs m P → escAll rs m P'
  | [], m, P, P', h, q => h _ _ q
  | .val fr d :: rs, m, P, P', h, q => escAll_mono rs m _ _ (fun a m q => h _ _ q) q
  | .loc i :: rs, m, P, P', h, q => escK_mono (fun d m q => escAll_mono rs m _ _ (fun a m q => h _ _ q) q) q
theorem storeAll_mono : ∀ (is : List Nat) (rs : List RV) (m : Em) (P P' : Em → Prop), (∀ m, P m → P' m) → storeAll is rs m P → storeAll is rs m P'
  | [], [], m, P, P', h, q => h _ q
  | [], _ :: _, m, P, P', h, q => q.elim
  | _ :: _, [], m, P, P', h, q => q.elim
  | i :: is, r :: rs, m, P, P', h, q => setK_mono (fun m q => storeAll_mono is rs m P P' h q) q
structure Po.Le (P P' : Po) : Prop where
  nx : ∀ m, P.nx m → P'.nx m
  rt : ∀ r m, P.rt r m → P'.rt r m
  bk : ∀ m, P.bk m → P'.bk m
  ct : ∀ m, P.ct m → P'.ct m
theorem forK_mono {asg asg' : D → Em → (Em → Prop) → Prop} {body body' : Em → Po → Prop} (ha : ∀ d m (P P' : Em → Prop), (∀ m, P m → P' m) → asg d m P → asg' d m P') (hb : ∀ m P P', Po.Le P P' → body m P → body' m P') :
    ∀ (ds : List D) (m : Em) (P P' : Po), Po.Le P P' → forK asg body ds m P → forK asg' body' ds m P'
  | [], m, P, P', h, q => h.nx _ q
  | d :: ds, m, P, P', h, q => ha _ _ _ _ (fun m1 q => hb m1 { P with nx := fun m2 => forK asg body ds m2 P, ct := fun m2 => forK asg body ds m2 P, bk := P.nx } { P' with nx := fun m2 => forK asg' body' ds m2 P', ct := fun m2 => forK asg' body' ds m2 P', bk := P'.nx }
      ⟨fun m q => forK_mono ha hb ds m P P' h q, h.rt, h.nx, fun m q => forK_mono ha hb ds m P P' h q⟩ q) q
section
variable {C : Cn} (hC : ∀ x s, C.fn x = some s → Mono s)
include hC
mutual
theorem wpE_mono : ∀ (e : E) (m : Em) (Q Q' : RV → Em → Prop) (K K' : XD), (∀ r m, Q r m → Q' r m) → (∀ c o m, K c o m → K' c o m) → wpE C e m Q K → wpE C e m Q' K'
  | .var i, m, Q, Q', K, K', h, k, q => by
    unfold wpE at q ⊢
    split at q <;> first | exact h _ _ q | exact q
  | .int i, m, Q, Q', K, K', h, k, q => by unfold wpE at q ⊢; exact h _ _ q
  | .bl i, m, Q, Q', K, K', h, k, q => by unfold wpE at q ⊢; exact h _ _ q
  | .non, m, Q, Q', K, K', h, k, q => by unfold wpE at q ⊢; exact h _ _ q
  | .str i, m, Q, Q', K, K', h, k, q => by unfold wpE at q ⊢; exact h _ _ q
  | .un .neg a, m, Q, Q', K, K', h, k, q => by
    unfold wpE at q ⊢
    refine wpE_mono a m _ _ K K' (fun r m1 q => resK_mono (fun d q => ?_) q) k q
    split at q <;> first | exact h _ _ q | exact q
  | .un .not a, m, Q, Q', K, K', h, k, q => by
    unfold wpE at q ⊢
    exact wpE_mono a m _ _ K K' (fun r m1 q => resK_mono (fun d q => tru_mono (fun b q => h _ _ q) q) q) k q
  | .bin o a b, m, Q, Q', K, K', h, k, q => by
    unfold wpE at q ⊢
    exact wpE_mono a m _ _ K K' (fun r m1 q => wpE_mono b m1 _ _ K K' (fun s m2 q => resK_mono (fun d q => resK_mono (fun e q => binS_mono (fun b d q => h _ _ q) q) q) q) k q) k q
  | .cmp o a b, m, Q, Q', K, K', h, k, q => by
    unfold wpE at q ⊢
    exact wpE_mono a m _ _ K K' (fun r m1 q => wpE_mono b m1 _ _ K K' (fun s m2 q => resK_mono (fun d q => resK_mono (fun e q => cmpS_mono (fun b q => h _ _ q) q) q) q) k q) k q
  | .chn o p a b c, m, Q, Q', K, K', h, k, q => by
    unfold wpE at q ⊢
    exact wpE_mono a m _ _ K K' (fun r m1 q => wpE_mono b m1 _ _ K K' (fun s m2 q => resK_mono (fun d q => resK_mono (fun e q => cmpS_mono (fun b q => tru2_mono (fun q => wpE_mono c m2 _ _ K K' (fun t m3 q => resK_mono (fun d q => resK_mono (fun e q => cmpS_mono (fun b q => h _ _ q) q) q) q) k q) (fun q => h _ _ q) q) q) q) q) k q) k q
  | .and a b, m, Q, Q', K, K', h, k, q => by
    unfold wpE at q ⊢
    exact wpE_mono a m _ _ K K' (fun r m1 q => resK_mono (fun d q => tru2_mono (fun q => wpE_mono b m1 _ _ K K' h k q) (fun q => h _ _ q) q) q) k q
  | .or a b, m, Q, Q', K, K', h, k, q => by
    unfold wpE at q ⊢
    exact wpE_mono a m _ _ K K' (fun r m1 q => resK_mono (fun d q => tru2_mono (fun q => h _ _ q) (fun q => wpE_mono b m1 _ _ K K' h k q) q) q) k q
  | .ite c a b, m, Q, Q', K, K', h, k, q => by
    unfold wpE at q ⊢
    exact wpE_mono c m _ _ K K' (fun r m1 q => resK_mono (fun d q => tru2_mono (fun q => wpE_mono a m1 _ _ K K' h k q) (fun q => wpE_mono b m1 _ _ K K' h k q) q) q) k q
  | .tup es, m, Q, Q', K, K', h, k, q => by
    unfold wpE at q ⊢
    exact wpXs_mono es m _ _ K K' (fun ds m q => h _ _ q) k q
  | .lst es, m, Q, Q', K, K', h, k, q => by
    unfold wpE at q ⊢
    exact wpXs_mono es m _ _ K K' (fun ds m q => h _ _ q) k q
  | .idx a i, m, Q, Q', K, K', h, k, q => by
    unfold wpE at q ⊢
    exact wpE_mono a m _ _ K K' (fun r m1 q => wpE_mono i m1 _ _ K K' (fun s m2 q => resK_mono (fun d q => resK_mono (fun e q => tru_mono (fun d q => h _ _ q) q) q) q) k q) k q
  | .slc a lo hi, m, Q, Q', K, K', h, k, q => by
    unfold wpE at q ⊢
    exact wpE_mono a m _ _ K K' (fun r m1 q => wpOe_mono lo m1 _ _ K K' (fun s m2 q => wpOe_mono hi m2 _ _ K K' (fun t m3 q => resK_mono (fun d q => slcS_mono (fun b d q => h _ _ q) q) q) k q) k q) k q
  | .call f es, m, Q, Q', K, K', h, k, q => by
    unfold wpE at q ⊢
    refine wpXs_mono es m _ _ K K' (fun ds m1 q => ?_) k q
    split at q
    · rename_i s e
      exact (hC f s e).mono ds _ _ _ _ (fun fr d q => h _ _ q) (fun c o q => k _ _ _ q) q
    · exact q
  | .blt f es, m, Q, Q', K, K', h, k, q => by
    unfold wpE at q ⊢
    refine wpOs_mono es m _ _ K K' (fun ds m1 q => ?_) k q
    split at q
    · exact bltS_mono (fun b d q => h _ _ q) q
    · exact q
  | .isi a cs, m, Q, Q', K, K', h, k, q => by
    unfold wpE at q ⊢
    exact wpE_mono a m _ _ K K' (fun r m1 q => resK_mono (fun d q => tru_mono (fun b q => h _ _ q) q) q) k q
  | .mth f o es, m, Q, Q', K, K', h, k, q => by
    unfold wpE at q ⊢
    refine wpE_mono o m _ _ K K' (fun r m1 q => ?_) k q
    split at q
    · exact ⟨q.1, wpXs_mono es m1 _ _ K K' (fun ds m2 q => mthK_mono h q) k q.2⟩
    · exact q
  | .att o f, m, Q, Q', K, K', h, k, q => by unfold wpE at q; exact q.elim
  | .cmpr own t it tst elt, m, Q, Q', K, K', h, k, q => by
    unfold wpE at q ⊢
    refine wpI_mono it m _ _ K K' (fun items js m1 ⟨q1, q2, q3⟩ => ⟨q1, q2, ?_⟩) k q
    exact compK_mono (fun d m P P' h q => wpT_mono t (.val false d) m P P' _ _ h (fun _ _ _ x => x) q) (fun m P P' h q => wpTest_mono tst m P P' _ _ h (fun _ _ _ x => x) q) (fun m P P' h q => wpE_mono elt m _ _ _ _ (fun r m q => escK_mono h q) (fun _ _ _ x => x) q) items [] m1 _ _ (fun a m q => h _ _ q) q3
theorem wpXs_mono : ∀ (es : Es) (m : Em) (Q Q' : List D → Em → Prop) (K K' : XD), (∀ r m, Q r m → Q' r m) → (∀ c o m, K c o m → K' c o m) → wpXs C es m Q K → wpXs C es m Q' K'
  | .nil, m, Q, Q', K, K', h, k, q => by unfold wpXs at q ⊢; exact h _ _ q
  | .cons e es, m, Q, Q', K, K', h, k, q => by
    unfold wpXs at q ⊢
    exact wpE_mono e m _ _ K K' (fun r m q => escK_mono (fun d m1 q => wpXs_mono es m1 _ _ K K' (fun ds m q => h _ _ q) k q) q) k q
theorem wpOs_mono : ∀ (es : Es) (m : Em) (Q Q' : List RV → Em → Prop) (K K' : XD), (∀ r m, Q r m → Q' r m) → (∀ c o m, K c o m → K' c o m) → wpOs C es m Q K → wpOs C es m Q' K'
  | .nil, m, Q, Q', K, K', h, k, q => by unfold wpOs at q ⊢; exact h _ _ q
  | .cons e es, m, Q, Q', K, K', h, k, q => by
    unfold wpOs at q ⊢
    exact wpE_mono e m _ _ K K' (fun r m1 q => wpOs_mono es m1 _ _ K K' (fun ds m q => h _ _ q) k q) k q
theorem wpOe_mono : ∀ (e : Oe) (m : Em) (Q Q' : Option Int → Em → Prop) (K K' : XD), (∀ r m, Q r m → Q' r m) → (∀ c o m, K c o m → K' c o m) → wpOe C e m Q K → wpOe C e m Q' K'
  | .none, m, Q, Q', K, K', h, k, q => by unfold wpOe at q ⊢; exact h _ _ q
  | .some e, m, Q, Q', K, K', h, k, q => by
    unfold wpOe at q ⊢
    refine wpE_mono e m _ _ K K' (fun r m1 q => resK_mono (fun d q => ?_) q) k q
    split at q <;> first | exact h _ _ q | exact q
theorem wpTest_mono : ∀ (e : Oe) (m : Em) (Q Q' : Bool → Em → Prop) (K K' : XD), (∀ r m, Q r m → Q' r m) → (∀ c o m, K c o m → K' c o m) → wpTest C e m Q K → wpTest C e m Q' K'
  | .none, m, Q, Q', K, K', h, k, q => by unfold wpTest at q ⊢; exact h _ _ q
  | .some e, m, Q, Q', K, K', h, k, q => by
    unfold wpTest at q ⊢
    exact wpE_mono e m _ _ K K' (fun r m1 q => resK_mono (fun d q => tru_mono (fun b q => h _ _ q) q) q) k q
theorem wpI_mono : ∀ (e : I) (m : Em) (Q Q' : List D → List Nat → Em → Prop) (K K' : XD), (∀ r j m, Q r j m → Q' r j m) → (∀ c o m, K c o m → K' c o m) → wpI C e m Q K → wpI C e m Q' K'
  | .seq e, m, Q, Q', K, K', h, k, q => by
    unfold wpI at q ⊢
    refine wpE_mono e m _ _ K K' (fun r m1 q => resK_mono (fun d q => ?_) q) k q
    split at q <;> first | exact h _ _ _ q | exact q
  | .rng es, m, Q, Q', K, K', h, k, q => by
    unfold wpI at q ⊢
    refine wpXs_mono es m _ _ K K' (fun ds m1 q => ?_) k q
    split at q
    · exact ⟨q.1, h _ _ _ q.2⟩
    · exact ⟨q.1, q.2.1, h _ _ _ q.2.2⟩
    · exact q
  | .zip a b, m, Q, Q', K, K', h, k, q => by
    unfold wpI at q ⊢
    refine wpE_mono a m _ _ K K' (fun r m1 q => wpE_mono b m1 _ _ K K' (fun s m2 q => resK_mono (fun d q => resK_mono (fun e q => ?_) q) q) k q) k q
    split at q <;> first | exact h _ _ _ q | exact q
  | .enm e, m, Q, Q', K, K', h, k, q => by
    unfold wpI at q ⊢
    refine wpE_mono e m _ _ K K' (fun r m1 q => resK_mono (fun d q => ?_) q) k q
    split at q <;> first | exact h _ _ _ q | exact q
theorem wpT_mono : ∀ (t : T) (r : RV) (m : Em) (Q Q' : Em → Prop) (K K' : XD), (∀ m, Q m → Q' m) → (∀ c o m, K c o m → K' c o m) → wpT C t r m Q K → wpT C t r m Q' K'
  | .nm i, r, m, Q, Q', K, K', h, k, q => by unfold wpT at q ⊢; exact setK_mono h q
  | .tp ts, r, m, Q, Q', K, K', h, k, q => by
    unfold wpT at q ⊢
    refine resK_mono (fun d q => ?_) q
    split at q
    · exact ⟨q.1, wpTs_mono ts _ m Q Q' K K' h k q.2⟩
    · exact ⟨q.1, wpTs_mono ts _ m Q Q' K K' h k q.2⟩
    · exact q
  | .sub o i, r, m, Q, Q', K, K', h, k, q => by
    unfold wpT at q ⊢
    refine escK_mono (fun d m0 q => wpE_mono o m0 _ _ K K' (fun r m1 q => ?_) k q) q
    split at q
    · exact wpE_mono i m1 _ _ K K' (fun s m2 q => resK_mono (fun y q => putK_mono h q) q) k q
    · exact q
theorem wpTs_mono : ∀ (t : Ts) (ds : List D) (m : Em) (Q Q' : Em → Prop) (K K' : XD), (∀ m, Q m → Q' m) → (∀ c o m, K c o m → K' c o m) → wpTs C t ds m Q K → wpTs C t ds m Q' K'
  | .nil, ds, m, Q, Q', K, K', h, k, q => by unfold wpTs at q ⊢; exact ⟨q.1, h _ q.2⟩
  | .cons t ts, ds, m, Q, Q', K, K', h, k, q => by
    unfold wpTs at q ⊢
    split at q
    · exact wpT_mono t _ m _ _ K K' (fun m1 q => wpTs_mono ts _ m1 Q Q' K K' h k q) k q
    · exact q
end
mutual
theorem wpS_mono : ∀ (s : S) (m : Em) (P P' : Po) (K K' : XD), Po.Le P P' → (∀ c o m, K c o m → K' c o m) → wpS C s m P K → wpS C s m P' K'
  | .asg t e, m, P, P', K, K', h, k, q => by
    unfold wpS at q ⊢
    exact wpE_mono hC e m _ _ K K' (fun r m1 q => wpT_mono hC t r m1 _ _ K K' h.nx k q) k q
  | .par is es, m, P, P', K, K', h, k, q => by
    unfold wpS at q ⊢
    exact wpOs_mono hC es m _ _ K K' (fun r m1 q => escAll_mono r m1 _ _ (fun a m q => storeAll_mono is a m _ _ h.nx q) q) k q
  | .aug i o e, m, P, P', K, K', h, k, q => by
    unfold wpS at q ⊢
    split at q
    · refine wpE_mono hC e m _ _ K K' (fun r m1 q => resK_mono (fun d q => ?_) q) k q
      split at q <;> first | exact h.nx _ q | exact q
    · exact q
  | .expr e, m, P, P', K, K', h, k, q => by
    unfold wpS at q ⊢
    exact wpE_mono hC e m _ _ K K' (fun r m1 q => h.nx _ q) k q
  | .ret e, m, P, P', K, K', h, k, q => by
    unfold wpS at q ⊢
    exact wpE_mono hC e m _ _ K K' h.rt k q
  | .retn, m, P, P', K, K', h, k, q => by
    unfold wpS at q ⊢
    exact h.rt _ _ q
  | .ifs c a b, m, P, P', K, K', h, k, q => by
    unfold wpS at q ⊢
    exact wpE_mono hC c m _ _ K K' (fun r m1 q => resK_mono (fun d q => tru2_mono (fun q => wpSs_mono a m1 P P' K K' h k q) (fun q => wpSs_mono b m1 P P' K K' h k q) q) q) k q
  | .frs t it body, m, P, P', K, K', h, k, q => by
    unfold wpS at q ⊢
    refine wpI_mono hC it m _ _ K K' (fun items js m1 ⟨q1, q2⟩ => ⟨q1, ?_⟩) k q
    exact forK_mono (asg := fun d m2 k => wpT C t (.val false d) m2 k fun c o m3 => K c o (unlock js m3)) (asg' := fun d m2 k => wpT C t (.val false d) m2 k fun c o m3 => K' c o (unlock js m3)) (body := fun m2 P2 => wpSs C body m2 P2 fun c o m3 => K c o (unlock js m3)) (body' := fun m2 P2 => wpSs C body m2 P2 fun c o m3 => K' c o (unlock js m3))
      (fun d m P P' h q => wpT_mono hC t (.val false d) m P P' _ _ h (fun _ _ _ x => k _ _ _ x) q) (fun m P P' h q => wpSs_mono body m P P' _ _ h (fun _ _ _ x => k _ _ _ x) q) items m1 { nx := fun m2 => P.nx (unlock js m2), rt := fun rv m2 => P.rt rv (unlock js m2) } { nx := fun m2 => P'.nx (unlock js m2), rt := fun rv m2 => P'.rt rv (unlock js m2) } ⟨fun m q => h.nx _ q, fun r m q => h.rt _ _ q, fun m q => q, fun m q => q⟩ q2
  | .whl c body, m, P, P', K, K', h, k, q => by
    unfold wpS at q ⊢
    obtain ⟨W, w0, st⟩ := q
    refine ⟨W, w0, fun n m1 w => ?_⟩
    exact wpE_mono hC c m1 _ _ K K' (fun r m1 q => resK_mono (fun d q => tru2_mono (fun q => wpSs_mono body _ { P with nx := fun m3 => ∃ n', n' < n ∧ W n' m3, ct := fun m3 => ∃ n', n' < n ∧ W n' m3, bk := P.nx } { P' with nx := fun m3 => ∃ n', n' < n ∧ W n' m3, ct := fun m3 => ∃ n', n' < n ∧ W n' m3, bk := P'.nx } K K' ⟨fun m q => q, h.rt, h.nx, fun m q => q⟩ k q) (fun q => h.nx _ q) q) q) k (st n m1 w)
  | .rse x es, m, P, P', K, K', h, k, q => by unfold wpS at q; exact q.elim
  | .pas, m, P, P', K, K', h, k, q => by unfold wpS at q ⊢; exact h.nx _ q
  | .brk, m, P, P', K, K', h, k, q => by unfold wpS at q ⊢; exact h.bk _ q
  | .cnt, m, P, P', K, K', h, k, q => by unfold wpS at q ⊢; exact h.ct _ q
theorem wpSs_mono : ∀ (s : Ss) (m : Em) (P P' : Po) (K K' : XD), Po.Le P P' → (∀ c o m, K c o m → K' c o m) → wpSs C s m P K → wpSs C s m P' K'
  | .nil, m, P, P', K, K', h, k, q => by unfold wpSs at q ⊢; exact h.nx _ q
  | .cons s ss, m, P, P', K, K', h, k, q => by
    unfold wpSs at q ⊢
    exact wpS_mono s m { P with nx := fun m1 => wpSs C ss m1 P K } { P' with nx := fun m1 => wpSs C ss m1 P' K' } K K' ⟨fun m1 q => wpSs_mono ss m1 P P' K K' h k q, h.rt, h.bk, h.ct⟩ k q
end
theorem wpFn_mono (n : Nat) (body : Ss) : Mono (wpFn C n body) where
  mono := fun ds Q Q' X X' h k q => by
    refine ⟨q.1, wpSs_mono hC body _ { nx := fun _ => Q false .non, rt := retK Q } { nx := fun _ => Q' false .non, rt := retK Q' } (fun c o _ => X c o) (fun c o _ => X' c o) ⟨fun m q => h _ _ q, fun r m q => ?_, fun m q => q, fun m q => q⟩ (fun c o m q => k c o q) q.2⟩
    have q : retK Q r m := q
    show retK Q' r m
    unfold retK at q ⊢
    split at q
    · exact h _ _ q
    · split at q <;> first | exact h _ _ q | exact ⟨q.1, h _ _ q.2⟩ | exact q
end
end Dl
set_option maxHeartbeats 4000000
namespace Dl
open PySem PySem.Spec PyProof.Rows L2
theorem def_okF {T : Tc} {W : Wd} {C : Cn} {x qual : Str} {params : Arguments} {stmts : List Stmt} {scope : Scope} {dvs : List V} {kws : List (Str × V)} {f : Addr} {fd : FuncData} {ps : List Str} {body : Ss} {n : Nat}
    (G : GkOk T W C) (F : FunD W.K x qual params stmts scope dvs kws f fd) (S : FnScope T.N ps scope) (hb : trSs T n scope stmts = some body) (hx : ∀ (X : Cx) (E : XK) (σ : L2.St), PassesAt W.CX X σ E) :
    FnG W.P W.w W.K W.mg W.base W.CX (W.k + 1) f fd ps (toSp C.tb ps.length (wpFn C T.N.length body)) := by
  obtain ⟨oc, od, dV, kV, doc, pm, an, cdv, ct, osl, rfl, lk, hcd, _, _⟩ := F.ex
  refine fnG_of lk hcd S (fun vs H Q E h => h.1) fun A outer s H vs Q E hr h => ?_
  obtain ⟨t, s1, p⟩ := goodSs (EX := fun _ => E) G n hb
  refine ⟨t, p _ ⟨⟨?_, hr, rfl, S.nd, rfl, S.kind, fun _ _ => rfl, fun σ => hx _ E σ⟩, PassesOwn.leaving⟩, ?_⟩
  · show W = ⟨W.P, W.w, W.K, W.mg, W.base, W.CX, W.k, T.N⟩
    rw [G.nn]
  · exact promise s1 (fun _ _ _ _ h => h) h
theorem FnG.imp {Pg : Program} {w : World} {K : PySem.W.Frag} {mg : Str → Option Value} {base : Heap} {CX : CXT} {k : Nat} {f : Addr} {fd : FuncData} {ps : List Str} {sp sp' : Sp} (F : FnG Pg w K mg base CX k f fd ps sp) (h : ∀ vs H Q E, sp' vs H Q E → sp vs H Q E) : FnG Pg w K mg base CX k f fd ps sp' :=
  ⟨fun vs H Q E q => F.len vs H Q E (h _ _ _ _ q), fun A outer s H args us vs Q E hr he hb hv hs => F.run A outer s H args us vs Q E hr he hb hv (h _ _ _ _ hs)⟩
theorem toSp_imp {B : Tb} {n : Nat} {s s' : FS} (h : ∀ ds Q X, s' ds Q X → s ds Q X) : ∀ vs H Q E, toSp B n s' vs H Q E → toSp B n s vs H Q E :=
  fun vs H Q E ⟨h1, g, F, ds, h2, h3, h4⟩ => ⟨h1, g, F, ds, h2, h3, h _ _ _ h4⟩
theorem law_callG {Pg : Program} {w : World} {K : PySem.W.Frag} {mg mb : Str → Option Value} {CX : CXT} {k : Nat} {fa a : Addr} {fd : FuncData} {x : Str} {sp : Sp} {s1 : Shared} {vs : List Value} {ns : List Int}
    (kin : K.In s1.heap) (glob : s1.heap.Ns mainGlobals mg) (blt : s1.heap.Ns builtinsNs mb) (boot : ∀ x : Str, x ≠ "__name__" → mb x = bootBuiltins x) (nolim : s1.heap.NoLimit) (nogen : s1.gens = #[])
    (ha : s1.heap.get? a = some { cls := .type "list", data := .seq vs.toArray }) (hi : IntsAre vs ns) (hl : ns.length ≤ sizeLine) (hr : Roof k callerA) (F : ∀ base : Heap, K.In base → base.Ns mainGlobals mg → FnG Pg w K mg base CX k fa fd [x] sp)
    (bind : ∀ (s : Shared) (u : Value), BindsTo s fd ⟨[u], []⟩ [(x, u)]) (hsp : ∀ H : Hp, Only H → SqL K H a (ns.map V.int) → sp [.ref a] H (fun v _ => v = .bl true) fun _ _ _ => False) (hCX : ∀ H e s', CX [] H s1 (fun _ _ _ => False) e s' → False) :
    codeAny (model Pg w) callerA (.call (.ref fa) ⟨[.ref a], []⟩) (fun r s' => r = .ok (.ret (.bool true)) ∧ OldK s1.heap s'.heap ∧ s'.os = s1.os ∧ AllBare s'.gens) s1 := by
  have go : ∀ H : Hp, Only H → SqL K H a (ns.map V.int) → HOk Pg w H s1.heap → (∀ b, H b ≠ none → b = a) → (H a ≠ none → K.lookup a = none) → codeAny (model Pg w) callerA (.call (.ref fa) ⟨[.ref a], []⟩) (fun r s' => r = .ok (.ret (.bool true)) ∧ OldK s1.heap s'.heap ∧ s'.os = s1.os ∧ AllBare s'.gens) s1 := by
    intro H only sq ok lone away
    have notDict : ∀ {b : Addr} {o : Obj} {es : Array DictEntry} {ep : Nat}, s1.heap.get? b = some o → o.data = .dict es ep → H b = none := fun {b o es ep} e d => by
      by_cases q : H b = none
      · exact q
      · obtain rfl := lone b q
        rw [ha] at e
        cases e
        cases (show Data.seq vs.toArray _ = Data.dict es ep from d)
    have names : ∀ {b : Addr} {m : Str → Option Value}, s1.heap.Ns b m → (hidT s1.heap H).Ns b m := fun ⟨o, es, ep, e, d, r⟩ => ⟨o, es, ep, hidT_get e (notDict e d), d, r⟩
    have kin2 : K.In (hidT s1.heap H) := fun b o e => hidT_get (kin b o e) (Classical.byContradiction fun q => by
      obtain rfl := lone b q
      have := away q
      rw [this] at e
      cases e)
    obtain ⟨ml, l1, l2⟩ := nolim
    have env : Env0 Pg w K mg (hidT s1.heap H) callerA [] s1 H := ⟨rfl, ⟨kin2, names glob, ⟨mb, names blt, boot⟩, ⟨ml, names l1, l2⟩⟩, fun b o e => of_hidT e, Nat.le_of_eq (hidT_size _ _), trivial, fun b hb => (by cases hb), ok, .of_eq nogen⟩
    refine codeAny_mono ((F _ kin2 (names glob)).run callerA [] s1 H ⟨[.ref a], []⟩ [.ref a] [.ref a] _ _ hr env (bind s1 (.ref a)) (.cons rfl .nil) (hsp H only sq)) fun res s' h => ?_
    match res, h with
    | .error e, h => exact (hCX H e s' h).elim
    | .ok (.ret u), ⟨v, H', os, bare, un, ok', rel, q⟩ =>
      obtain rfl : v = .bl true := q
      obtain rfl : u = Value.bool true := rel
      refine ⟨rfl, OldK.of_keep fun b o e => ?_, os, bare⟩
      by_cases q : H b = none
      · exact un.keep b o e q (fun z => by cases z) (fun z => by cases z)
      · rcases only b with z | ⟨ob, xs, z⟩
        · exact absurd z q
        · obtain ⟨e1, _⟩ := ok b _ z
          obtain ⟨e2, _⟩ := ok' b _ (un.frzs b ob _ z)
          rw [e] at e1
          cases e1
          exact e2
  have vals := vals_ints hi
  have lenV := hi.length
  by_cases hk : K.lookup a = none
  · have at_ : ∀ {b : Addr} {u : HO}, (if b = a then some (HO.frz { cls := .type "list", data := .seq vs.toArray } (.lst (ns.map V.int))) else none) = some u → b = a ∧ u = HO.frz { cls := .type "list", data := .seq vs.toArray } (.lst (ns.map V.int)) := fun {b u} e => by
      split at e
      · exact ⟨by assumption, (Option.some.inj e).symm⟩
      · cases e
    refine go (fun b => if b = a then some (.frz { cls := .type "list", data := .seq vs.toArray } (.lst (ns.map V.int))) else none) (fun b => ?_) (.inl (.inr ⟨{ cls := .type "list", data := .seq vs.toArray }, if_pos rfl⟩)) (fun b u z => ?_) (fun b z => ?_) fun _ => hk
    · by_cases hb : b = a
      · exact .inr ⟨_, _, if_pos hb⟩
      · exact .inl (if_neg hb)
    · obtain ⟨rfl, rfl⟩ := at_ z
      exact ⟨ha, by rw [List.length_map]; exact hl, vs, _, vals, ha⟩
    · exact Classical.byContradiction fun hb => z (if_neg hb)
  · obtain ⟨o, ho⟩ := Option.ne_none_iff_exists'.mp hk
    have e := kin a o ho
    rw [ha] at e
    cases e
    exact go (fun _ => none) (fun _ => .inl rfl) (.inr ⟨_, vs.toArray, _, ho, rfl, rfl, rfl, by rw [List.size_toArray, lenV]; exact hl, by simpa using vals⟩) (fun b u z => by cases (show (none : Option HO) = some u from z)) (fun b z => absurd rfl z) fun z => absurd rfl z
theorem walk_ofG {l : PySem.W.OpenLaw} {n k : Nat} {q : Program} {loose : List Str} {XP : (Str → Option Value) → Heap → Prop} {YP : World → Heap → Prop} {d : DefRec} {CX : CXT} {x : Str}
    (hn : l.most = some n) (hn2 : n ≤ sizeLine) (hdf : d.params.defaults = []) (hr : Roof k callerA)
    (F : ∀ (w : World) (mg : Str → Option Value) (fa : Addr) (h : Heap), YP w h → h.Ns mainGlobals mg → mg d.name = some (.ref fa) → ∃ (K : PySem.W.Frag) (fd : FuncData) (sp : Sp), K.In h ∧ (∀ (s : Shared) (u : Value), BindsTo s fd ⟨[u], []⟩ [(x, u)]) ∧
        (∀ (H : Hp) (a : Addr) (ns : List Int), ns.length ≤ n → Only H → SqL K H a (ns.map V.int) → sp [.ref a] H (fun v _ => v = .bl true) fun _ _ _ => False) ∧ ∀ base : Heap, K.In base → base.Ns mainGlobals mg → FnG l.prog w K mg base CX k fa fd [x] sp)
    (hCX : ∀ (H : Hp) (s : Shared) (e : Value) (s' : Shared), CX [] H s (fun _ _ _ => False) e s' → False) : PySem.W.WalkO q loose XP YP l.row.toRowW d [] (fun f vs => PySem.call f vs) :=
  Att.attach_call hn hdf fun w s0 s1 mg mb fa o pm cd doc a vs ns G Y ho hd hcd hmg hobj hints hlen hg => by
    obtain ⟨K, fd, sp, kin, bind, hsp, hF⟩ := F w mg fa _ Y G.T.g hmg
    exact law_callG kin G.T.g G.T.b G.T.builtins G.T.nolimit hg hobj hints (Nat.le_trans hlen hn2) hr hF bind (fun H only sq => hsp H a ns hlen only sq) fun H e s' => hCX H s1 e s'
end Dl
set_option maxHeartbeats 4000000
namespace Dl
open PySem PySem.Spec PyProof.Rows L2
def cDraw : FS := fun ds Q _ => ∃ many : Int, ds = [.hand, .int many] ∧ 0 < many ∧ many < 2 ^ 200 ∧ ∀ n, 0 ≤ n → n < many → Q false (.int n)
def handD (ca : Addr) (cells : List Int) (p q r c : Int) : D := .pin 0 [.pin ca (cells.map .int), .int p, .int q, .int r, .int c]
def handL (a ca : Addr) (cells : List Int) (p q r c : Int) : D := .pin a [.pin ca (cells.map .int), .int p, .int q, .int r, .int c]
def DrawOk (C : Cn) (b : Ss) : Prop := ∀ (a ca : Addr) (cells : List Int) (p q r c many : Int), (∀ x ∈ cells, 0 ≤ x) → 0 ≤ p → 0 ≤ q → 0 ≤ r → r < 2 ^ 40 → 0 ≤ c → 0 < many → many < 2 ^ 200 → cells.length ≤ 63 →
  wpSs C b [.ow (handL a ca cells p q r c), .sh (.int many), .un, .un, .un] { nx := fun _ => False, rt := fun rv m => ∃ n p' q' r' c' : Int, rv = .val false (.int n) ∧ 0 ≤ n ∧ n < many ∧ m[0]? = some (.ow (handL a ca cells p' q' r' c')) ∧ 0 ≤ p' ∧ 0 ≤ q' ∧ 0 ≤ r' ∧ r' < 2 ^ 40 ∧ 0 ≤ c' } fun _ _ _ => False
theorem ints_den {B : Tb} {g : Gh B} {F : Addr → Prop} {H : Hp} : ∀ (ns : List Int), DenL g F H (ns.map .int) (ns.map V.int)
  | [] => trivial
  | n :: ns => ⟨rfl, ints_den ns⟩
theorem den_ints {B : Tb} {g : Gh B} {F : Addr → Prop} {H : Hp} : ∀ {ns : List Int} {vs : List V}, DenL g F H (ns.map .int) vs → vs = ns.map V.int
  | [], [], _ => rfl
  | [], _ :: _, h => h.elim
  | _ :: _, [], h => h.elim
  | n :: ns, v :: vs, h => by
    rw [List.map_cons, den_ints h.2, show v = V.int n from h.1]
theorem draw_promise {C : Cn} {EX : EXT} {N : List Str} {b : Ss} {t : TS} {vs : List V} {H : Hp} {Q : VK} {E : XK} (hN : N.length = 5) (hs : SimSs C EX t b) (hb : DrawOk C b) (h : toSp C.tb 2 cDraw vs H Q E) :
    t { nx := fun _ H' => Q .non H', rt := Q } (L2.start N vs) H := by
  obtain ⟨hl, g, F, ds, hd, R, many, rfl, pos, mlt, w⟩ := h
  match vs, hd with
  | [v0, v1], hd =>
    obtain ⟨h0, h1, _⟩ := hd
    obtain ⟨a, ea, rfl⟩ := h0
    obtain rfl : v1 = .int many := h1
    obtain ⟨⟨ca, cells, p, q, r, c, e1, e2, ne, cpos, hp, hq, hr, hr2, hc, hlen⟩, nF, ⟨oa, eoa⟩, hca⟩ := R.hand a ea
    have nca : ca ≠ a := ne
    let g' : Gh C.tb := ⟨none⟩
    let H0' : Hp := fun b => if b = a then none else H b
    let m0 : Em := [.ow (handL a ca cells p q r c), .sh (.int many), .un, .un, .un]
    let S : Sta := ⟨fun x => F x ∨ x = ca, m0, L2.start N [.ref a, .int many], H⟩
    have st : L2.start N [V.ref a, V.int many] = [some (.ref a), some (.int many), none, none, none] := by
      unfold L2.start
      rw [hN]
      rfl
    have hS : S.σ = [some (.ref a), some (.int many), none, none, none] := st
    have here : ∀ {i : Nat} {d : D}, Hd m0 i d → i = 0 ∧ d = handL a ca cells p q r c := fun {i d} h => by
      match i, h with
      | 0, .inl h => exact ⟨rfl, by cases h; rfl⟩
      | 0, .inr h => cases h
      | 1, .inl h => cases h
      | 1, .inr h => cases h
      | 2, .inl h => cases h
      | 2, .inr h => cases h
      | 3, .inl h => cases h
      | 3, .inr h => cases h
      | 4, .inl h => cases h
      | 4, .inr h => cases h
      | i + 5, .inl h => simp [m0] at h
      | i + 5, .inr h => simp [m0] at h
    have R0 : Rep g' H0' S := by
      refine ⟨by rw [hS]; rfl, fun i d h => ?_, fun i d h => ?_, fun i j d e x h1 h2 _ _ => (here h1).1.trans (here h2).1.symm, fun b o _ e => ?_, fun b f => ?_, fun b e => by cases e⟩
      · have h : m0[i]? = some (.sh d) := h
        match i, h with
        | 0, h => cases h
        | 1, h =>
          cases h
          exact ⟨.int many, by rw [hS]; rfl, rfl⟩
        | 2, h => cases h
        | 3, h => cases h
        | 4, h => cases h
        | i + 5, h => simp [m0] at h
      · obtain ⟨rfl, rfl⟩ := here h
        exact ⟨a, by rw [hS]; rfl, rfl, fun z => z.elim nF fun z => nca z.symm, if_pos rfl, (by intro z; cases z), _, e1, ⟨rfl, .inr rfl, _, e2, ints_den cells⟩, rfl, rfl, rfl, rfl, trivial⟩
      · have e : (if b = a then none else H b) = some o := e
        split at e
        · cases e
        · exact e
      · rcases f with f | rfl
        · exact R.dom b f
        · exact ⟨_, e2⟩
    refine hs g' H0' S _ _ _ R0 (hb a ca cells p q r c many cpos hp hq hr hr2 hc pos mlt hlen) ⟨fun _ _ _ q => q.elim, fun S' v rv R' G o k => ?_, fun _ _ _ q => q, fun _ _ _ q => q⟩ fun _ _ _ _ _ _ _ _ q => q.elim
    obtain ⟨n, p', q', r', c', rfl, n1, n2, em, k1, k2, k3, k4, k5⟩ := k
    obtain rfl : v = .int n := o
    obtain ⟨a', s1, s2⟩ := R'.ow 0 _ (.inl em)
    obtain ⟨s0, j1, j2, j3, us, j4, j5⟩ := s2
    obtain rfl : a = a' := s0
    obtain ⟨hc1, hr5⟩ : ∃ us', us = .ref ca :: us' ∧ us' = [V.int p', .int q', .int r', .int c'] ∧ ∃ ws, S'.H ca = some (.lst ws) ∧ DenL g' S'.F S'.H (cells.map .int) ws := by
      match us, j5 with
      | u0 :: u1 :: u2 :: u3 :: u4 :: [], j5 =>
        obtain ⟨z0, z1, z2, z3, z4, _⟩ := j5
        obtain ⟨rfl, _, ws, y1, y2⟩ := z0
        obtain rfl : u1 = .int p' := z1
        obtain rfl : u2 = .int q' := z2
        obtain rfl : u3 = .int r' := z3
        obtain rfl : u4 = .int c' := z4
        exact ⟨_, rfl, rfl, ws, y1, y2⟩
    obtain ⟨rfl, rfl, ws, y1, y2⟩ := hr5
    have y3 := den_ints y2
    subst y3
    have keep : ∀ b o, g.ha ≠ some b → H b = some o → S'.H b = some o := fun b o nb e => by
      have nba : b ≠ a := fun z => nb (z ▸ ea)
      exact R'.keep b o (by intro z; cases z) (by show (if b = a then none else H b) = some o; rw [if_neg nba]; exact e)
    have ow0 : ∀ b, b ≠ a → ¬ Owns S b := fun b nb ⟨i, d, z1, z2⟩ => by
      obtain ⟨rfl, _⟩ := here (.inl z1)
      have z2 : S.σ[0]? = some (some (.ref b)) := z2
      rw [hS] at z2
      cases z2
      exact nb rfl
    have hh : HandAt S'.H a := ⟨ca, cells, p', q', r', c', j4, y1, nca, cpos, k1, k2, k3, k4, k5, hlen⟩
    let F2 : Addr → Prop := fun x => F x ∨ (S'.F x ∧ x ≠ ca)
    have nFa : ¬ F2 a := fun z => z.elim nF fun z => j1 z.1
    refine w n n1 n2 F2 S'.H (.int n) ⟨rfl, fun i d h => by simp at h, fun i d h => by rcases h with h | h <;> simp at h, fun i j d e x h => by rcases h with h | h <;> simp at h, keep, fun b f => ?_, fun b e => ?_⟩ ⟨fun b f => .inl f, fun b o e nb _ => keep b o nb e, fun b o e => ?_, fun b o e nf _ f2 => ?_, fun _ _ _ _ => noOwns0, fun _ _ _ _ => noHolds0, fun j d x h => by simp at h, fun b cb rr e q => ?_⟩ rfl
    · rcases f with f | f
      · exact R'.dom b (G.f b (.inl f))
      · exact R'.dom b f.1
    · rw [ea] at e
      cases e
      refine ⟨hh, nFa, ⟨oa, eoa⟩, fun cb rr e => ?_⟩
      rw [j4] at e
      cases e
      exact ⟨_, e2⟩
    · by_cases z : b = a
      · subst z
        exact ⟨_, j4⟩
      · by_cases z2 : g.ha = some b
        · rw [ea] at z2
          cases z2
          exact ⟨_, j4⟩
        · exact ⟨o, keep b o z2 e⟩
    · rcases f2 with f2 | f2
      · exact nf f2
      · by_cases z : b = a
        · subst z
          exact j1 f2.1
        · exact G.nofr b o e (fun y => y.elim nf fun y => f2.2 y) (ow0 b z) f2.1
    · rw [ea] at e
      cases e
      rw [j4] at q
      cases q
      exact ⟨_, e1⟩
end Dl
set_option maxHeartbeats 400000
namespace Dl
open PySem PySem.Spec PyProof.Rows L2
def Ss.drop : Nat → Ss → Ss
  | 0, s => s
  | _ + 1, .nil => .nil
  | n + 1, .cons _ s => s.drop n
local macro_rules | `(tactic| walk_at "s") => `(tactic| repeat (refine ⟨_, rfl, ?_⟩))
theorem atI_map {ns : List Int} {i : Int} {x : Int} (h : atI ns i = some x) : atI (ns.map D.int) i = some (.int x) := by
  unfold atI at h ⊢
  rw [List.length_map]
  cases e : ixN ns.length i with
  | none => rw [e] at h; cases h
  | some j =>
    rw [e] at h
    have h : ns[j]? = some x := h
    show (ns.map D.int)[j]? = _
    rw [List.getElem?_map, h]
    rfl
theorem atI_in {α : Type} {ns : List α} {i : Int} (h0 : 0 ≤ i) (h1 : i < ns.length) : ∃ x, x ∈ ns ∧ atI ns i = some x := by
  have hl : i.toNat < ns.length := by omega
  refine ⟨ns[i.toNat], List.getElem_mem hl, ?_⟩
  unfold atI ixN
  rw [if_pos h0, if_pos h1]
  exact List.getElem?_eq_getElem hl
def b__law_draw : Ss := (.cons (.ifs (.and (.cmp .eq (.idx (.var 0) (.int 2)) (.int 0)) (.cmp .lt (.idx (.var 0) (.int 1)) (.blt .len (.cons (.idx (.var 0) (.int 0)) .nil)))) (.cons (.asg (.nm 3) (.idx (.idx (.var 0) (.int 0)) (.idx (.var 0) (.int 1)))) (.cons (.asg (.sub (.var 0) (.int 1)) (.bin .add (.idx (.var 0) (.int 1)) (.int 1))) (.cons (.asg (.sub (.var 0) (.int 3)) (.bin .mod (.blt .int (.cons (.bin .add (.bin .add (.bin .mul (.idx (.var 0) (.int 3)) (.int 69621)) (.var 3)) (.int 29)) .nil)) (.int 2147483629))) (.cons (.ifs (.cmp .ge (.var 3) (.bin .pow (.int 10) (.int 18))) (.cons (.asg (.sub (.var 0) (.int 2)) (.var 3)) .nil) .nil) .nil)))) .nil) (.cons (.ifs (.cmp .gt (.idx (.var 0) (.int 2)) (.int 0)) (.cons (.asg (.nm 4) (.bin .mod (.blt .int (.cons (.idx (.var 0) (.int 2)) .nil)) (.var 1))) (.cons (.asg (.sub (.var 0) (.int 2)) (.bin .fdiv (.idx (.var 0) (.int 2)) (.var 1))) (.cons (.ret (.var 4)) .nil))) .nil) (.cons (.asg (.sub (.var 0) (.int 4)) (.bin .add (.idx (.var 0) (.int 4)) (.int 1))) (.cons (.asg (.nm 2) (.bin .mod (.blt .int (.cons (.bin .mul (.blt .int (.cons (.bin .add (.idx (.var 0) (.int 3)) (.bin .mul (.int 7919) (.idx (.var 0) (.int 4)))) .nil)) (.int 48271)) .nil)) (.int 2147483647))) (.cons (.asg (.nm 2) (.bin .mod (.blt .int (.cons (.bin .mul (.var 2) (.bin .add (.bin .fdiv (.var 2) (.int 1009)) (.int 69621))) .nil)) (.int 2147483647))) (.cons (.asg (.nm 2) (.bin .mod (.blt .int (.cons (.bin .mul (.var 2) (.bin .add (.bin .fdiv (.var 2) (.int 2003)) (.int 40692))) .nil)) (.int 2147483399))) (.cons (.ret (.bin .mod (.blt .int (.cons (.bin .fdiv (.var 2) (.int 16)) .nil)) (.var 1))) .nil)))))))
theorem big_ok {many : Int} (h0 : 0 < many) (h : many < 2 ^ 200) : many.natAbs < 2 ^ 9000 := by
  have h1 : many.natAbs < 2 ^ 200 := by omega
  exact Nat.lt_of_lt_of_le h1 (Nat.pow_le_pow_right (by decide) (by decide))
theorem mod_ok {x : Int} {m : Int} (h : 0 < m) (h2 : m < 2 ^ 40) : 0 ≤ x % m ∧ x % m < 2 ^ 40 := ⟨Int.emod_nonneg _ (by omega), Int.lt_trans (Int.emod_lt_of_pos _ h) h2⟩
theorem small_ok {x : Int} {n : Nat} (h0 : 0 ≤ x) (h : x < (n : Int)) : x.natAbs < n := by omega
theorem draw_ok (C : Cn) : DrawOk C b__law_draw := by
  intro a ca cells p q r c many cpos hp hq hr hr2 hc pos mlt hlen
  let P : Po := { nx := fun _ => False, rt := fun rv m => ∃ n p' q' r' c' : Int, rv = .val false (.int n) ∧ 0 ≤ n ∧ n < many ∧ m[0]? = some (.ow (handL a ca cells p' q' r' c')) ∧ 0 ≤ p' ∧ 0 ≤ q' ∧ 0 ≤ r' ∧ r' < 2 ^ 40 ∧ 0 ≤ c' }
  have tail : ∀ (p q r : Int) (s : Sl), 0 ≤ p → 0 ≤ q → 0 ≤ r → r < 2 ^ 40 → wpSs C (Ss.drop 1 b__law_draw) [.ow (handL a ca cells p q r c), .sh (.int many), .un, s, .un] P fun _ _ _ => False := by
    intro p q r s hp hq hr hr2
    walk_at "s"
    refine ⟨_, rfl, fun h => ?_, fun h => ?_⟩
    · walk_at "s"
      refine ⟨pos, ?_⟩
      walk_at "s"
      refine ⟨pos, big_ok pos mlt, ?_⟩
      walk_at "s"
      exact ⟨_, _, _, _, _, rfl, Int.emod_nonneg _ (by omega), Int.emod_lt_of_pos _ pos, rfl, hp, Int.ediv_nonneg hq (by omega), hr, hr2, hc⟩
    · walk_at "s"
      refine ⟨.inl (.inl (by decide)), ?_⟩
      refine ⟨.inl (.inr (by decide)), ?_⟩
      refine ⟨by decide, ?_⟩
      have k1 := mod_ok (x := (r + 7919 * (c + 1)) * 48271) (m := 2147483647) (by decide) (by decide)
      refine ⟨by decide, by decide, ?_⟩
      refine ⟨.inl (.inl (Nat.lt_trans (small_ok k1.1 k1.2) (by decide))), ?_⟩
      refine ⟨by decide, ?_⟩
      have k2 := mod_ok (x := (r + 7919 * (c + 1)) * 48271 % 2147483647 * ((r + 7919 * (c + 1)) * 48271 % 2147483647 / 1009 + 69621)) (m := 2147483647) (by decide) (by decide)
      refine ⟨by decide, by decide, ?_⟩
      refine ⟨.inl (.inl (Nat.lt_trans (small_ok k2.1 k2.2) (by decide))), ?_⟩
      refine ⟨by decide, ?_⟩
      refine ⟨by decide, by decide, ?_⟩
      refine ⟨pos, ?_⟩
      exact ⟨_, _, _, _, _, rfl, Int.emod_nonneg _ (by omega), Int.emod_lt_of_pos _ pos, rfl, hp, hq, hr, hr2, by omega⟩
  walk_at "s"
  refine ⟨_, rfl, fun h => ?_, fun h => ?_⟩
  · walk_at "s"
    refine ⟨_, rfl, fun h => ?_, fun h => ?_⟩
    · walk_at "s"
      have hlt : p < (cells.length : Int) := by
        have := of_decide_eq_true h
        rwa [List.length_map] at this
      obtain ⟨x, hx, ex⟩ := atI_in hp hlt
      have hx0 := cpos x hx
      refine ⟨.int x, atI_map ex, ?_⟩
      walk_at "s"
      refine ⟨.inl (.inr (by decide)), ?_⟩
      refine ⟨by decide, ?_⟩
      have k1 := mod_ok (x := r * 69621 + x + 29) (m := 2147483629) (by decide) (by decide)
      walk_at "s"
      refine ⟨by decide, by decide, by decide, ?_⟩
      refine ⟨_, rfl, fun h => ?_, fun h => ?_⟩
      · refine ⟨_, rfl, ?_⟩
        exact tail (p + 1) x _ _ (by omega) hx0 k1.1 k1.2
      · exact tail (p + 1) q _ _ (by omega) hq k1.1 k1.2
    · exact tail p q r .un hp hq hr hr2
  · refine ⟨_, rfl, fun h' => ?_, fun h' => ?_⟩
    · cases h.symm.trans h'
    · exact tail p q r .un hp hq hr hr2
end Dl
set_option maxHeartbeats 1000000
namespace Dl
open PySem PySem.Spec PyProof.Rows L2
def tHand (K : PySem.W.Frag) (k1 k2 : Int) : TS :=
  tSeq (tAsg (tLc (iSeqD K (tSl (rSlD K) (tVar 0) tNoPart (tPart (tC (.int 63))))) (gName 2) tYes (tCB rAbsD (tCons (tCB rInt1D (tCons (tVar 2) tNil)) tNil)) [2]) (gName 1))
    (tSeq (tRet (tLst (tCons (tVar 1) (tCons (tC (.int 0)) (tCons (tC (.int 0)) (tCons (tOp (rAddD K) (tC (.int k1)) (tOp (rMulD K) (tC (.int k2)) (tCB (rLenD K) (tCons (tVar 1) tNil)))) (tCons (tC (.int 0)) tNil))))))) tNext)
def spHand (K : PySem.W.Frag) : Sp := fun vs H Q _ => ∃ (a : Addr) (ns : List Int), vs = [.ref a] ∧ SqL K H a (ns.map V.int) ∧ ∀ (H' : Hp) (h : Addr), (∀ b o, H b = some o → H' b = some o) → HandAt H' h → Q (.ref h) H'
theorem hand_run {K : PySem.W.Frag} {k1 k2 : Int} (h1 : 0 ≤ k1) (h2 : 0 ≤ k2) (h3 : k1 < 2 ^ 20) (h4 : k2 < 2 ^ 20) {vs : List V} {H : Hp} {Q : VK} {E : XK} {D : Ends} (hrt : D.rt = Q) (h : spHand K vs H Q E) : tHand K k1 k2 D (L2.start ["script", "cells", "cell"] vs) H := by
  obtain ⟨a, ns, rfl, sq, q⟩ := h
  refine ⟨.ref a, rfl, ?_⟩
  refine ⟨63, rfl, ?_⟩
  refine .inl ⟨a, _, rfl, sq, fun p hp => ⟨p, rfl, .inl ⟨⟨_, .inl (.inl upd_same)⟩, fun L hL => ?_⟩⟩⟩
  obtain ⟨ms, cut, hlen⟩ : ∃ ms : List Int, cutV (ns.map V.int) none (some 63) = ms.map V.int ∧ ms.length ≤ 63 := by
    refine ⟨(ns.drop (HT.sIx (ns.map V.int).length 0 none)).take (HT.sIx (ns.map V.int).length (ns.map V.int).length (some 63) - HT.sIx (ns.map V.int).length 0 none), ?_, ?_⟩
    · unfold cutV
      rw [List.map_take, List.map_drop]
    · rw [List.length_take]
      have e := HT.sIx_nat (ns.map V.int).length (ns.map V.int).length 63
      rw [show (some 63 : Option Int) = some ((63 : Nat) : Int) from rfl, e]
      omega
  rw [cut] at hL ⊢
  let ab : Int → Int := fun x => if x < 0 then -x else x
  have lp : L ≠ p := fun z => by
    subst z
    rw [upd_same] at hL
    cases hL
  have base : ∀ b o, H b = some o → upd H p (.lst (ms.map V.int)) b = some o := fun b o e => by
    have nb : b ≠ p := fun z => by
      rw [z, hp] at e
      cases e
    rw [upd_ne nb]
    exact e
  refine lc_list (xs := ms.map V.int) (fun i H' => H' = upd (upd H p (.lst (ms.map V.int))) L (.lst ((ms.take i).map fun x => V.int (ab x)))) (by simp) (fun i H' _ e => ?_) (fun i x H' hx e => ?_) (fun H' e => ?_)
  · subst e
    refine .inl (.inl ?_)
    rw [upd_ne (Ne.symm lp)]
    exact upd_same
  · subst e
    rw [List.getElem?_map] at hx
    obtain ⟨n, hn, rfl⟩ := Option.map_eq_some_iff.mp hx
    refine ⟨rfl, ?_⟩
    unfold tYes
    dsimp only
    rw [if_pos rfl]
    refine ⟨.int n, rfl, .inl ⟨n, rfl, ⟨n, rfl, _, upd_same, ?_, ?_⟩⟩⟩
    · rw [List.length_map, List.length_take]
      have : sizeLine = 16777216 := sizeLine_eq
      omega
    · have e : ms.take (i + 1) = ms.take i ++ [n] := by
        rw [List.take_add_one, hn]
        rfl
      rw [e, List.map_append, L2.upd_upd]
      rfl
  · subst e
    rw [List.length_map, List.take_length]
    let H1 := upd (upd H p (.lst (ms.map V.int))) L (.lst (ms.map fun x => V.int (ab x)))
    have hL1 : H1 L = some (.lst (ms.map fun x => V.int (ab x))) := upd_same
    have keep1 : ∀ b o, H b = some o → H1 b = some o := fun b o e => by
      have nb : b ≠ L := fun z => by
        have := base b o e
        rw [z, hL] at this
        cases this
      show upd _ L _ b = some o
      rw [upd_ne nb]
      exact base b o e
    refine ⟨.ref L, rfl, .ref L, rfl, _, ms.length, rfl, .inl ⟨_, SqL.of hL1, (List.length_map _).symm⟩, .inl ⟨k2, _, rfl, rfl, .inl (small_of (n := 2 ^ 64) (by omega)), .inl ⟨k1, _, rfl, rfl, ⟨(by show 5 ≤ sizeLine; decide), fun h hh => ?_⟩⟩⟩⟩
    rw [hrt]
    have hh : H1 h = none := hh
    have nLh : L ≠ h := fun z => by
      rw [← z, hL1] at hh
      cases hh
    refine q _ h (fun b o e => ?_) ⟨L, ms.map ab, 0, 0, k1 + k2 * ms.length, 0, upd_same, ?_, nLh, fun x hx => ?_, by omega, by omega, ?_, ?_, by omega, by rw [List.length_map]; exact hlen⟩
    · have nb : b ≠ h := fun z => by
        have := keep1 b o e
        rw [z, hh] at this
        cases this
      exact (upd_ne nb).trans (keep1 b o e)
    · refine (upd_ne nLh).trans (hL1.trans ?_)
      rw [List.map_map]
      rfl
    · obtain ⟨y, _, rfl⟩ := List.mem_map.mp hx
      show 0 ≤ if y < 0 then -y else y
      split <;> omega
    · have := Int.mul_nonneg h2 (Int.natCast_nonneg ms.length)
      omega
    · have h5 : k2 * (ms.length : Int) ≤ 2 ^ 20 * 63 := Int.mul_le_mul (by omega) (by omega) (by omega) (by decide)
      omega
def spLaw (K : PySem.W.Frag) : Sp := fun vs H Q _ => ∃ (a : Addr) (ns : List Int), vs = [.ref a] ∧ SqL K H a (ns.map V.int) ∧ Only H ∧ ∀ H', Q (.bl true) H'
def LawOk (C : Cn) (n : Nat) (b : Ss) : Prop := wpSs C b (.un :: .sh .hand :: List.replicate (n - 2) .un) { nx := fun _ => False, rt := fun rv _ => rv = .val false (.bl true) } fun _ _ _ => False
theorem only_no {H : Hp} (h : Only H) {b : Addr} {o : HO} (e : H b = some o) : ∃ ob xs, o = .frz ob (.lst xs) := by
  rcases h b with z | ⟨ob, xs, z⟩
  · rw [z] at e
    cases e
  · rw [z] at e
    cases e
    exact ⟨ob, xs, rfl⟩
theorem law_run {C : Cn} {EX : EXT} {K : PySem.W.Frag} {N : List Str} {b : Ss} {tr : TS} (hN : 2 ≤ N.length) (hs : SimSs C EX tr b) (hb : LawOk C N.length b) {vs : List V} {H : Hp} {Q : VK} {E : XK} (h : spLaw K vs H Q E) :
    tSeq (tAsg (tCallS (spHand K) EX (tCons (tVar 0) tNil)) (gName 1)) tr { nx := fun _ H' => Q .non H', rt := Q } (L2.start N vs) H := by
  obtain ⟨a, ns, rfl, sq, only, q⟩ := h
  have st : L2.start N [V.ref a] = some (.ref a) :: none :: List.replicate (N.length - 2) none := by
    unfold L2.start
    have e : N.length - [V.ref a].length = (N.length - 2) + 1 := by
      show N.length - 1 = _
      omega
    rw [e, List.replicate_succ]
    rfl
  rw [st]
  refine ⟨.ref a, rfl, a, ns, rfl, sq, fun H' h keep hh => ?_⟩
  let g : Gh C.tb := ⟨some h⟩
  let m0 : Em := .un :: .sh .hand :: List.replicate (N.length - 2) .un
  let S : Sta := ⟨fun _ => False, m0, some (.ref a) :: some (.ref h) :: List.replicate (N.length - 2) none, H'⟩
  have none_ : ∀ (i : Nat) (d : D), ¬ Hd m0 i d := fun i d z => by
    match i, z with
    | 0, .inl z => cases z
    | 0, .inr z => cases z
    | 1, .inl z => cases z
    | 1, .inr z => cases z
    | i + 2, z =>
      have key : ∀ s, m0[i + 2]? = some s → s = .un := fun s e => by
        have e : (List.replicate (N.length - 2) Sl.un)[i]? = some s := e
        rw [List.getElem?_replicate] at e
        split at e
        · exact (Option.some.inj e).symm
        · cases e
      rcases z with z | z
      · cases key _ z
      · cases key _ z
  obtain ⟨ca, cells, p, q', r, c, e1, e2, e3, e4⟩ := id hh
  have R : Rep g H' S := by
    refine ⟨by show m0.length = _; simp [m0, S], fun i d z => ?_, fun i d z => (none_ i d z).elim, fun i j d e x z => (none_ i d z).elim, fun b o _ e => e, fun b f => f.elim, fun b e => ?_⟩
    · match i, z with
      | 0, z => cases z
      | 1, z =>
        cases z
        exact ⟨.ref h, rfl, h, rfl, rfl⟩
      | i + 2, z =>
        have z : (List.replicate (N.length - 2) Sl.un)[i]? = some (.sh d) := z
        rw [List.getElem?_replicate] at z
        split at z
        · cases z
        · cases z
    · cases e
      refine ⟨hh, fun f => f, ⟨_, e1⟩, fun cb rr e => ?_⟩
      have e : H' h = some (.lst (.ref cb :: rr)) := e
      rw [e1] at e
      cases e
      exact ⟨_, e2⟩
  refine hs g H' S _ _ _ R hb ⟨fun S' R' G z => z.elim, fun S' v rv R' G o z => ?_, fun S' R' G z => z, fun S' R' G z => z⟩ fun _ _ _ _ _ _ _ _ z => z.elim
  subst z
  obtain rfl : v = .bl true := o
  exact q _
theorem law_okF {T : Tc} {W : Wd} {C : Cn} {params : Arguments} {rest : List Stmt} {scope : Scope} {dvs : List V} {kws : List (Str × V)} {f fh : Addr} {fd fdh : FuncData} {psh : List Str} {b : Ss} {n : Nat} {p1 p2 p3 p4 p5 : Pos}
    (G : GkOk T W C) (F : FunD W.K "law" "law" params (.Assign [.Name "hand" p1] (.Call (.Name "_law_hand" p2) [.Name "script" p3] [] p4) p5 :: rest) scope dvs kws f fd) (S : FnScope T.N ["script"] scope)
    (FH : FnG W.P W.w W.K W.mg W.base W.CX W.k fh fdh psh (spHand W.K)) (hm : W.mg "_law_hand" = some (.ref fh)) (hk : PySem.W.keepIn W.K (.ref fh) = true) (hbd : Binds W.K fdh psh []) (n0 : T.N[0]? = some ("script" : Str)) (n1 : T.N[1]? = some ("hand" : Str))
    (s0 : scope.names.lookup ("script" : Str) = some .local ∨ scope.names.lookup ("script" : Str) = some .cell) (s1 : scope.names.lookup ("hand" : Str) = some .local ∨ scope.names.lookup ("hand" : Str) = some .cell) (s2 : scope.names.lookup ("_law_hand" : Str) = some .globalImplicit)
    (hb : trSs T n scope rest = some b) (hx : ∀ (X : Cx) (E : XK) (σ : L2.St), PassesAt W.CX X σ E) (ok : LawOk C T.N.length b) : FnG W.P W.w W.K W.mg W.base W.CX (W.k + 1) f fd ["script"] (spLaw W.K) := by
  obtain ⟨oc, od, dV, kV, doc, pm, an, cdv, ct, osl, rfl, lk, hcd, _, _⟩ := F.ex
  refine fnG_of lk hcd S (fun vs H Q E h => ?_) fun A outer s H vs Q E hr h => ?_
  · obtain ⟨a, ns, rfl, _⟩ := h
    rfl
  obtain ⟨t, s3, p⟩ := goodSs (EX := fun _ => E) G n hb
  have fam : FamS W scope (fun _ => E) (cxOf W.CX W.P W.w W.K W.mg W.base T.N "law" scope f cdv A outer s H E) := ⟨⟨by
    show W = ⟨W.P, W.w, W.K, W.mg, W.base, W.CX, W.k, T.N⟩
    rw [G.nn], hr, rfl, S.nd, rfl, S.kind, fun _ _ => rfl, fun σ => hx _ E σ⟩, PassesOwn.leaving⟩
  refine ⟨_, pss_cons (ps_asg (pe_callG FH hr s2 hm hk hbd (fun σ => hx _ E σ) (pa_cons (pe_var n0 (s0.imp id .inl)) pa_nil) (by decide) rfl rfl) (pg_name S.nd n1 s1)) (p _ fam), law_run ?_ s3 ok h⟩
  have := (List.getElem?_eq_some_iff.mp n1).1
  omega
end Dl
set_option maxHeartbeats 1000000
namespace Dl
open PySem PySem.Spec PyProof.Rows L2
theorem back_eq {m0 m : Em} {own : List Nat} (h : wipeE m own = wipeE m0 own) : backE m0 m own = m0 := by
  have hl : m0.length = m.length := by
    have := congrArg List.length h
    rw [wipeE_len, wipeE_len] at this
    exact this.symm
  apply List.ext_getElem?
  intro j
  by_cases hj : j ∈ own
  · exact backE_in hl hj
  · rw [backE_get hj, ← wipeE_get (m := m) hj, h, wipeE_get hj]
def Outs (R : D → Option D → Prop) : List D → List D → Prop
  | [], vs => vs = []
  | d :: ds, vs => (∃ v r, vs = v :: r ∧ R d (some v) ∧ Outs R ds r) ∨ (R d none ∧ Outs R ds vs)
theorem comp_outs {own : List Nat} {asg : D → Em → (Em → Prop) → Prop} {tst : Em → (Bool → Em → Prop) → Prop} {elt : Em → (D → Em → Prop) → Prop} (R : D → Option D → Prop) (m0 : Em) : ∀ (ds acc : List D) (m : Em) (Q : List D → Em → Prop), wipeE m own = m0 → acc.length + ds.length ≤ sizeLine →
    (∀ d ∈ ds, ∀ (K1 : D → Em → Prop) (K0 : Em → Prop), (∀ v m', wipeE m' own = m0 → R d (some v) → K1 v m') → (∀ m', wipeE m' own = m0 → R d none → K0 m') → asg d m0 fun m1 => tst m1 fun b m2 => if b = true then elt m2 K1 else K0 m2) →
    (∀ vs m', wipeE m' own = m0 → Outs R ds vs → Q (acc ++ vs) m') → compK own asg tst elt ds acc m Q
  | [], acc, m, Q, hm, _, _, fin => by
    have := fin [] m hm rfl
    rw [List.append_nil] at this
    exact this
  | d :: ds, acc, m, Q, hm, hl, step, fin => by
    have hl' : acc.length + 1 + ds.length ≤ sizeLine := by
      rw [List.length_cons] at hl
      omega
    show asg d (wipeE m own) fun m1 => tst m1 fun b m2 => if b = true then elt m2 (fun v m3 => acc.length < sizeLine ∧ compK own asg tst elt ds (acc ++ [v]) m3 Q) else compK own asg tst elt ds acc m2 Q
    rw [hm]
    refine step d (by simp) (fun v m3 => acc.length < sizeLine ∧ compK own asg tst elt ds (acc ++ [v]) m3 Q) (fun m2 => compK own asg tst elt ds acc m2 Q) (fun v m' h r => ⟨by omega, ?_⟩) (fun m' h r => ?_)
    · refine comp_outs R m0 ds (acc ++ [v]) m' Q h (by rw [List.length_append]; simpa using hl') (fun d hd => step d (List.mem_cons_of_mem _ hd)) fun vs m'' h' o => ?_
      rw [List.append_assoc]
      exact fin (v :: vs) m'' h' (.inl ⟨v, vs, rfl, r, o⟩)
    · exact comp_outs R m0 ds acc m' Q h (by omega) (fun d hd => step d (List.mem_cons_of_mem _ hd)) fun vs m'' h' o => fin vs m'' h' (.inr ⟨r, o⟩)
section
variable {own : List Nat} {asg : D → Em → (Em → Prop) → Prop} {tst : Em → (Bool → Em → Prop) → Prop} {elt : Em → (D → Em → Prop) → Prop} {items : List D} {js : List Nat} {m m1 : Em} {Q : RV → Em → Prop}
theorem cmp_ok (R : D → Option D → Prop) (no : noOw m1 own) (oa : owAt m js) (hn : items.length ≤ sizeLine)
    (step : ∀ d ∈ items, ∀ (K1 : D → Em → Prop) (K0 : Em → Prop), (∀ v m', wipeE m' own = wipeE m1 own → R d (some v) → K1 v m') → (∀ m', wipeE m' own = wipeE m1 own → R d none → K0 m') → asg d (wipeE m1 own) fun m1 => tst m1 fun b m2 => if b = true then elt m2 K1 else K0 m2)
    (fin : ∀ vs, Outs R items vs → Q (.val true (.lst vs)) (unlock js m1)) : cmpK own asg tst elt items js m m1 Q :=
  ⟨no, oa, comp_outs R (wipeE m1 own) items [] m1 _ rfl (by simpa using hn) step fun vs m' h o => by
    rw [back_eq h]
    exact fin vs o⟩
theorem outs_map {f : D → D} : ∀ {ds vs : List D}, Outs (fun d o => o = some (f d)) ds vs → vs = ds.map f
  | [], _, h => h
  | d :: ds, vs, h => by
    rcases h with ⟨v, r, rfl, e, o⟩ | ⟨e, _⟩
    · cases e
      rw [outs_map o]
      rfl
    · cases e
theorem outs_filter {f : D → D} {p : D → Bool} : ∀ {ds vs : List D}, Outs (fun d o => o = if p d = true then some (f d) else none) ds vs → vs = (ds.filter p).map f
  | [], _, h => h
  | d :: ds, vs, h => by
    rcases h with ⟨v, r, rfl, e, o⟩ | ⟨e, o⟩
    · by_cases z : p d = true
      · rw [if_pos z] at e
        cases e
        rw [outs_filter o, List.filter_cons_of_pos z]
        rfl
      · rw [if_neg z] at e
        cases e
    · by_cases z : p d = true
      · rw [if_pos z] at e
        cases e
      · rw [outs_filter o, List.filter_cons_of_neg z]
theorem cmp_map (f : D → D) (no : noOw m1 own) (oa : owAt m js) (hn : items.length ≤ sizeLine)
    (step : ∀ d ∈ items, ∀ (K1 : D → Em → Prop) (K0 : Em → Prop), (∀ m', wipeE m' own = wipeE m1 own → K1 (f d) m') → asg d (wipeE m1 own) fun m1 => tst m1 fun b m2 => if b = true then elt m2 K1 else K0 m2)
    (fin : Q (.val true (.lst (items.map f))) (unlock js m1)) : cmpK own asg tst elt items js m m1 Q :=
  cmp_ok (fun d o => o = some (f d)) no oa hn (fun d hd K1 K0 h1 _ => step d hd K1 K0 fun m' h => h1 _ m' h rfl) fun vs o => by
    rw [outs_map o]
    exact fin
theorem cmp_filter (f : D → D) (p : D → Bool) (no : noOw m1 own) (oa : owAt m js) (hn : items.length ≤ sizeLine)
    (step : ∀ d ∈ items, ∀ (K1 : D → Em → Prop) (K0 : Em → Prop), (p d = true → ∀ m', wipeE m' own = wipeE m1 own → K1 (f d) m') → (p d = false → ∀ m', wipeE m' own = wipeE m1 own → K0 m') → asg d (wipeE m1 own) fun m1 => tst m1 fun b m2 => if b = true then elt m2 K1 else K0 m2)
    (fin : Q (.val true (.lst ((items.filter p).map f))) (unlock js m1)) : cmpK own asg tst elt items js m m1 Q :=
  cmp_ok (fun d o => o = if p d = true then some (f d) else none) no oa hn (fun d hd K1 K0 h1 h2 => step d hd K1 K0 (fun z m' h => h1 _ m' h (by rw [if_pos z])) fun z m' h => h2 m' h (by rw [z]; rfl)) fun vs o => by
    rw [outs_filter o]
    exact fin
theorem comp_g {α : Type} (g : α → D) (p : α → Bool) (f : α → D) (m0 : Em) : ∀ (l : List α) (acc : List D) (m : Em) (Q : List D → Em → Prop), wipeE m own = m0 → acc.length + l.length ≤ sizeLine →
    (∀ a ∈ l, ∀ (K1 : D → Em → Prop) (K0 : Em → Prop), (p a = true → ∀ m', wipeE m' own = m0 → K1 (f a) m') → (p a = false → ∀ m', wipeE m' own = m0 → K0 m') → asg (g a) m0 fun m1 => tst m1 fun b m2 => if b = true then elt m2 K1 else K0 m2) →
    (∀ m', wipeE m' own = m0 → Q (acc ++ (l.filter p).map f) m') → compK own asg tst elt (l.map g) acc m Q
  | [], acc, m, Q, hm, _, _, fin => by
    have := fin m hm
    rw [List.filter_nil, List.map_nil, List.append_nil] at this
    exact this
  | a :: l, acc, m, Q, hm, hl, step, fin => by
    have hl' : acc.length + 1 + l.length ≤ sizeLine := by
      rw [List.length_cons] at hl
      omega
    show asg (g a) (wipeE m own) fun m1 => tst m1 fun b m2 => if b = true then elt m2 (fun v m3 => acc.length < sizeLine ∧ compK own asg tst elt (l.map g) (acc ++ [v]) m3 Q) else compK own asg tst elt (l.map g) acc m2 Q
    rw [hm]
    refine step a (by simp) (fun v m3 => acc.length < sizeLine ∧ compK own asg tst elt (l.map g) (acc ++ [v]) m3 Q) (fun m2 => compK own asg tst elt (l.map g) acc m2 Q) (fun z m' h => ⟨by omega, ?_⟩) (fun z m' h => ?_)
    · refine comp_g g p f m0 l (acc ++ [f a]) m' Q h (by rw [List.length_append]; simpa using hl') (fun a ha => step a (List.mem_cons_of_mem _ ha)) fun m'' h' => ?_
      rw [List.append_assoc]
      have := fin m'' h'
      rw [List.filter_cons_of_pos z] at this
      exact this
    · refine comp_g g p f m0 l acc m' Q h (by omega) (fun a ha => step a (List.mem_cons_of_mem _ ha)) fun m'' h' => ?_
      have := fin m'' h'
      rw [List.filter_cons_of_neg (by rw [z]; exact Bool.false_ne_true)] at this
      exact this
theorem cmp_gf {α : Type} (l : List α) (g : α → D) (p : α → Bool) (f : α → D) (hi : items = l.map g) (no : noOw m1 own) (oa : owAt m js) (hn : l.length ≤ sizeLine)
    (step : ∀ a ∈ l, ∀ (K1 : D → Em → Prop) (K0 : Em → Prop), (p a = true → ∀ m', wipeE m' own = wipeE m1 own → K1 (f a) m') → (p a = false → ∀ m', wipeE m' own = wipeE m1 own → K0 m') → asg (g a) (wipeE m1 own) fun m1 => tst m1 fun b m2 => if b = true then elt m2 K1 else K0 m2)
    (fin : Q (.val true (.lst ((l.filter p).map f))) (unlock js m1)) : cmpK own asg tst elt items js m m1 Q := by
  subst hi
  exact ⟨no, oa, comp_g g p f (wipeE m1 own) l [] m1 _ rfl (by simpa using hn) step fun m' h => by
    rw [back_eq h]
    exact fin⟩
theorem cmp_g {α : Type} (l : List α) (g : α → D) (f : α → D) (hi : items = l.map g) (no : noOw m1 own) (oa : owAt m js) (hn : l.length ≤ sizeLine)
    (step : ∀ a ∈ l, ∀ (K1 : D → Em → Prop) (K0 : Em → Prop), (∀ m', wipeE m' own = wipeE m1 own → K1 (f a) m') → asg (g a) (wipeE m1 own) fun m1 => tst m1 fun b m2 => if b = true then elt m2 K1 else K0 m2)
    (fin : Q (.val true (.lst (l.map f))) (unlock js m1)) : cmpK own asg tst elt items js m m1 Q :=
  cmp_gf l g (fun _ => true) f hi no oa hn (fun a ha K1 K0 h1 _ => step a ha K1 K0 (h1 rfl)) (by
    rw [List.filter_eq_self.mpr fun _ _ => rfl]
    exact fin)
theorem cmp_each (p : D → Prop) (no : noOw m1 own) (oa : owAt m js) (hn : items.length ≤ sizeLine)
    (step : ∀ d ∈ items, ∀ (K1 : D → Em → Prop) (K0 : Em → Prop), (∀ v m', wipeE m' own = wipeE m1 own → p v → K1 v m') → asg d (wipeE m1 own) fun m1 => tst m1 fun b m2 => if b = true then elt m2 K1 else K0 m2)
    (fin : ∀ vs : List D, vs.length = items.length → (∀ v ∈ vs, p v) → Q (.val true (.lst vs)) (unlock js m1)) : cmpK own asg tst elt items js m m1 Q :=
  cmp_ok (fun d o => ∃ v, o = some v ∧ p v) no oa hn (fun d hd K1 K0 h1 _ => step d hd K1 K0 fun v m' h z => h1 v m' h ⟨v, rfl, z⟩) fun vs o => by
    have key : ∀ {ds vs : List D}, Outs (fun d o => ∃ v, o = some v ∧ p v) ds vs → vs.length = ds.length ∧ ∀ v ∈ vs, p v := by
      intro ds
      induction ds with
      | nil =>
        intro vs h
        cases (show vs = [] from h)
        exact ⟨rfl, by simp⟩
      | cons d ds ih =>
        intro vs h
        rcases h with ⟨v, r, rfl, ⟨w, e, z⟩, o⟩ | ⟨⟨w, e, _⟩, _⟩
        · cases e
          obtain ⟨h1, h2⟩ := ih o
          refine ⟨by rw [List.length_cons, List.length_cons, h1], fun x hx => ?_⟩
          rcases List.mem_cons.mp hx with rfl | hx
          · exact z
          · exact h2 x hx
        · cases e
    exact fin vs (key o).1 (key o).2
theorem for_inv {body : Em → Po → Prop} (I : Nat → Em → Prop) (P : Po) : ∀ (ds : List D) (i : Nat) (m : Em), I i m →
    (∀ j d m2, ds[j]? = some d → I (i + j) m2 → ∀ P2 : Po, (∀ m3, I (i + j + 1) m3 → P2.nx m3) → (∀ m3, I (i + j + 1) m3 → P2.ct m3) → (∀ m3, P.nx m3 → P2.bk m3) → (∀ rv m3, P.rt rv m3 → P2.rt rv m3) → asg d m2 fun m3 => body m3 P2) →
    (∀ m2, I (i + ds.length) m2 → P.nx m2) → forK asg body ds m P
  | [], i, m, h, _, fin => fin m h
  | d :: ds, i, m, h, step, fin => by
    have go : ∀ m3, I (i + 1) m3 → forK asg body ds m3 P := fun m3 h3 => for_inv I P ds (i + 1) m3 h3 (fun j d m2 e h2 => by
      have := step (j + 1) d m2 (by simpa using e) (by rw [← Nat.add_assoc, Nat.add_right_comm]; exact h2)
      rw [show i + (j + 1) + 1 = i + 1 + j + 1 by omega] at this
      exact this) fun m2 h2 => fin m2 (by rw [List.length_cons, show i + (ds.length + 1) = i + 1 + ds.length by omega]; exact h2)
    exact step 0 d m rfl h { P with nx := fun m2 => forK asg body ds m2 P, ct := fun m2 => forK asg body ds m2 P, bk := P.nx } go go (fun _ z => z) fun _ _ z => z
theorem loop_ok {body : Em → Po → Prop} {P : Po} (I : Nat → Em → Prop) (oa : owAt m js) (h0 : I 0 m1)
    (step : ∀ i d m2, items[i]? = some d → I i m2 → ∀ P2 : Po, (∀ m3, I (i + 1) m3 → P2.nx m3) → (∀ m3, I (i + 1) m3 → P2.ct m3) → (∀ m3, P.nx (unlock js m3) → P2.bk m3) → (∀ rv m3, P.rt rv (unlock js m3) → P2.rt rv m3) → asg d m2 fun m3 => body m3 P2)
    (fin : ∀ m2, I items.length m2 → P.nx (unlock js m2)) : loopK asg body items js m m1 P :=
  ⟨oa, for_inv I _ items 0 m1 h0 (fun j d m2 e h2 => by
    rw [Nat.zero_add] at h2 ⊢
    exact step j d m2 e h2) fun m2 h2 => fin m2 (by rw [Nat.zero_add] at h2; exact h2)⟩
end
end Dl
set_option maxHeartbeats 4000000
namespace Dl
open PySem PySem.Spec PyProof.Rows L2
def Nm1 (K : PySem.W.Frag) (mg : Str → Option Value) (x : Str) (st : Stmt) : Prop := ∃ f fd, FunD K x x (defArgs st) (defBody st) (defScope st) [] [] f fd ∧ mg x = some (.ref f)
def Pr (W : Wd) (B : Tb) (k : Nat) (x : Str) (n : Nat) (s : FS) : Prop := ∃ f fd ps, FnG W.P W.w W.K W.mg W.base W.CX k f fd ps (toSp B n s) ∧ W.mg x = some (.ref f) ∧ PySem.W.keepIn W.K (.ref f) = true ∧ Binds W.K fd ps []
def Ent (W : Wd) (C : Cn) (x : Str) : GK → Prop
  | .fn i n => ∃ s, Pr W C.tb W.k x n s ∧ C.fn i = some s ∧ Mono s
  | .ci i => ∃ u, W.mg x = some u ∧ RelV (.int i) u
  | .cs i => ∃ u, W.mg x = some u ∧ RelV (.str i) u
  | _ => W.mg x = none
theorem ent_fn {W : Wd} {C : Cn} {x : Str} {i n k : Nat} {s : FS} (p : Pr W C.tb k x n s) (h : k ≤ W.k) (e : C.fn i = some s) (m : Mono s) : Ent W C x (.fn i n) := by
  obtain ⟨f, fd, ps, h1, h2, h3, h4⟩ := p
  exact ⟨s, ⟨f, fd, ps, h1.mono h, h2, h3, h4⟩, e, m⟩
def tyL : List (Str × String) := [("int", "int"), ("bool", "bool"), ("str", "str"), ("tuple", "tuple"), ("list", "list"), ("dict", "dict")]
theorem ty_boot : ∀ p ∈ tyL, bootBuiltins p.1 = some (.type p.2) ∧ knownTy p.2 = true ∧ p.1 ≠ "__name__" := by
  intro p hp
  simp only [tyL, List.mem_cons, List.not_mem_nil, or_false] at hp
  rcases hp with rfl | rfl | rfl | rfl | rfl | rfl
  · exact ⟨by kernel_rfl, by decide, by decide⟩
  · exact ⟨by kernel_rfl, by decide, by decide⟩
  · exact ⟨by kernel_rfl, by decide, by decide⟩
  · exact ⟨by kernel_rfl, by decide, by decide⟩
  · exact ⟨by kernel_rfl, by decide, by decide⟩
  · exact ⟨by kernel_rfl, by decide, by decide⟩
def tcOf (N : List Str) (L : List (Str × GK)) (tys : List Str) : Tc := ⟨N, fun x => L.lookup x, fun x => if tys.contains x = true then tyL.lookup x else none⟩
theorem gk_of {W : Wd} {C : Cn} {L : List (Str × GK)} {tys : List Str} (e0 : ∀ (X : Cx) (σ : L2.St), PassesAt W.CX X σ fun _ _ _ => False) (h : ∀ p ∈ L, Ent W C p.1 p.2) (ht : ∀ x ∈ tys, W.mg x = none) : GkOk (tcOf W.N L tys) W C := by
  have key : ∀ {x : Str} {g : GK}, L.lookup x = some g → Ent W C x g := fun {x g} e => h _ (PySem.mem_of_lookup e)
  refine ⟨e0, rfl, fun x i n e => ?_, fun x i e => key e, fun x i e => key e, fun x b e => key e, fun x e => key e, fun x e => key e, fun x e => key e, fun x e => key e, fun x n e => ?_⟩
  · obtain ⟨s, ⟨f, fd, ps, h1, h2, h3, h4⟩, h5, h6⟩ := key e
    exact ⟨f, fd, ps, s, h1, h2, h3, h4, h5, h6⟩
  · have e : (if tys.contains x = true then tyL.lookup x else none) = some n := e
    split at e
    · rename_i hc
      obtain ⟨t1, t2, t3⟩ := ty_boot _ (PySem.mem_of_lookup e)
      exact ⟨ht x (by simpa using hc), t1, t2, t3⟩
    · cases e
theorem pr_of {W : Wd} {C : Cn} {L : List (Str × GK)} {tys : List Str} {x : Str} {st : Stmt} {ps : List Str} {body : Ss} {n m : Nat} {c : FS} (G : GkOk (tcOf W.N L tys) W C) (F : Nm1 W.K W.mg x st) (S : FnScope W.N ps (defScope st)) (hb : trSs (tcOf W.N L tys) n (defScope st) (defBody st) = some body)
    (bind : ∀ (kV doc pm : Value) (an : Option Addr) (cdv ct : Value) (us : List Value), us.length = ps.length → bindArgs (PySem.W.fnOf x x (defArgs st) (defBody st) (defScope st) .none kV doc pm an cdv ct) ⟨us, []⟩ = pure (ps.zip us))
    (hx : ∀ (X : Cx) (E : XK) (σ : L2.St), PassesAt W.CX X σ E) (hm : ps.length = m) (ok : ∀ ds Q X, c ds Q X → wpFn C W.N.length body ds Q X) : Pr W C.tb (W.k + 1) x m c := by
  obtain ⟨f, fd, h1, h2⟩ := F
  subst hm
  exact ⟨f, fd, ps, (def_okF G h1 S hb hx).imp (toSp_imp ok), h2, h1.kp, h1.bindsN bind⟩
theorem pr_draw {W : Wd} {C : Cn} {L : List (Str × GK)} {tys : List Str} {st : Stmt} {body : Ss} {n : Nat} (G : GkOk (tcOf W.N L tys) W C) (F : Nm1 W.K W.mg "_law_draw" st) (S : FnScope W.N ["hand", "many"] (defScope st)) (hN : W.N.length = 5) (hb : trSs (tcOf W.N L tys) n (defScope st) (defBody st) = some body)
    (bind : ∀ (kV doc pm : Value) (an : Option Addr) (cdv ct : Value) (us : List Value), us.length = 2 → bindArgs (PySem.W.fnOf "_law_draw" "_law_draw" (defArgs st) (defBody st) (defScope st) .none kV doc pm an cdv ct) ⟨us, []⟩ = pure ((["hand", "many"] : List Str).zip us))
    (hx : ∀ (X : Cx) (E : XK) (σ : L2.St), PassesAt W.CX X σ E) (ok : DrawOk C body) : Pr W C.tb (W.k + 1) "_law_draw" 2 cDraw := by
  obtain ⟨f, fd, h1, h2⟩ := F
  refine ⟨f, fd, ["hand", "many"], ?_, h2, h1.kp, h1.bindsN bind⟩
  obtain ⟨oc, od, dV, kV, doc, pm, an, cdv, ct, osl, rfl, lk, hcd, _, _⟩ := h1.ex
  refine fnG_of lk hcd S (fun vs H Q E h => h.1) fun A outer s H vs Q E hr h => ?_
  obtain ⟨t, s1, p⟩ := goodSs (EX := fun _ => E) G n hb
  exact ⟨t, p _ ⟨⟨rfl, hr, rfl, S.nd, rfl, S.kind, fun _ _ => rfl, fun σ => hx _ E σ⟩, PassesOwn.leaving⟩, draw_promise hN s1 ok h⟩
end Dl
set_option maxHeartbeats 4000000
namespace Dl
open PySem PySem.Spec PyProof.Rows L2
def handOf (N : List Str) (sc : Scope) : List Stmt → Option (Int × Int)
  | [.Assign [.Name y p1] (.ListComp (.Call (.Name f1 p2) [.Call (.Name f2 p3) [.Name c1 p4] [] p5] [] p6) [⟨.Name c2 p7, .Subscript (.Name x p8) (.Slice none (some (.Constant (.int n) j p9)) none p10) p11, [], 0⟩] scope p12) p13,
     .Return (some (.List [.Name y2 q1, .Constant (.int z1) j1 q2, .Constant (.int z2) j2 q3, .BinOp (.Constant (.int k1) j3 q4) .Add (.BinOp (.Constant (.int k2) j4 q5) .Mult (.Call (.Name f3 q6) [.Name y3 q7] [] q8) q9) q10, .Constant (.int z3) j5 q11] q12)) q13] =>
    if ((y == "cells" && y2 == "cells" && y3 == "cells" && f1 == "abs" && f2 == "int" && f3 == "len" && c1 == "cell" && c2 == "cell" && x == "script" && n == 63 && z1 == 0 && z2 == 0 && z3 == 0)
      && (sc.names.lookup ("cells" : Str) == some .local && sc.names.lookup ("script" : Str) == some .local && isGl sc "len" && isGl (relS scope sc) "abs" && isGl (relS scope sc) "int" && (relS scope sc).names.lookup ("cell" : Str) == some .local)
      && swB sc y p1 p12 scope && blkC N sc scope (ownOf N scope.names) && (ownOf N scope.names == ([("cell", 2)] : List (Str × Nat)))) = true then some (k1, k2) else none
  | _ => none
theorem hand_walk {W : Wd} {sc : Scope} {ss : List Stmt} {k1 k2 : Int} {EX : EXT} (hN : W.N = (["script", "cells", "cell"] : List Str)) (h : handOf W.N sc ss = some (k1, k2)) (ma : W.mg "abs" = none) (mi : W.mg "int" = none) (ml : W.mg "len" = none) {X : Cx} (f : FamS W sc EX X) : PSs X ss (tHand W.K k1 k2) := by
  have hK := f.fam.K
  unfold handOf at h
  split at h
  · split at h
    · rename_i hc
      cases h
      simp only [Bool.and_eq_true, beq_iff_eq] at hc
      obtain ⟨⟨⟨⟨hc, hs⟩, hsw⟩, hb⟩, ho⟩ := hc
      obtain ⟨⟨⟨⟨⟨⟨⟨⟨⟨⟨⟨⟨rfl, rfl⟩, rfl⟩, rfl⟩, rfl⟩, rfl⟩, rfl⟩, rfl⟩, rfl⟩, rfl⟩, rfl⟩, rfl⟩, rfl⟩ := hc
      obtain ⟨⟨⟨⟨⟨s1, s2⟩, s3⟩, s4⟩, s5⟩, s6⟩ := hs
      have own := blkOk_by hb
      have nd := f.fam.nd
      have Nn : X.N = (["script", "cells", "cell"] : List Str) := by rw [f.fam.N, hN]
      have hm := f.fam.mg
      have sc' : X.env.scope = sc := f.fam.scp
      have e0 : X.N[0]? = some ("script" : Str) := by rw [Nn]; rfl
      have e1 : X.N[1]? = some ("cells" : Str) := by rw [Nn]; rfl
      have e2 : X.N[2]? = some ("cell" : Str) := by rw [Nn]; rfl
      have gl : ∀ {x : Str}, isGl sc x = true → Gl X x := fun h => (f.fam.gl h).1
      have gb : ∀ {x : Str} {scope : Scope}, isGl (relS scope sc) x = true → ∀ (s : Shared) (H : Hp) (Cc : Addr) (cl : List (Str × Addr)) (fp : List Addr), Gl (X.blk s H scope (compEnvC scope cl Cc X.env) fp) x := fun {x scope} h s H Cc cl fp => by
        unfold isGl at h
        rw [Bool.and_eq_true, Bool.not_eq_true', beq_iff_eq] at h
        show (relabel scope X.env).names.lookup x = _
        rw [rel_eq, sc']
        exact h.1
      have lb : ∀ {x : Str} {scope : Scope} {k : NameKind}, (relS scope sc).names.lookup x = some k → ∀ (s : Shared) (H : Hp) (Cc : Addr) (cl : List (Str × Addr)) (fp : List Addr), (X.blk s H scope (compEnvC scope cl Cc X.env) fp).env.scope.names.lookup x = some k := fun {x scope k} h s H Cc cl fp => by
        show (relabel scope X.env).names.lookup x = _
        rw [rel_eq, sc']
        exact h
      rw [← hK]
      unfold tHand
      refine pss_cons ?_ (pss_cons (ps_ret (pe_lst (pa_cons (pe_var (i := 1) e1 (.inl (by rw [sc']; exact s1))) (pa_cons pe_int (pa_cons pe_int (pa_cons (pe_op or_add pe_int (pe_op or_mul pe_int (pe_callB call_len (gl s3) (by rw [hm]; exact ml) (by kernel_rfl) (pa_cons (pe_var (i := 1) e1 (.inl (by rw [sc']; exact s1))) pa_nil)))) (pa_cons pe_int pa_nil))))))) pss_nil)
      exact ps_setLc (X := X) (i := 1) (own := ([("cell", 2)] : List (Str × Nat))) f.fam.calm nd e1 (by rw [sc']; exact s1) (swaps_lc.trans (by rw [sc', hsw])) (pi_seqD (pe_slice sl_any (pe_var (i := 0) e0 (.inl (by rw [sc']; exact s2))) po_none (po_some pe_int))) (by rw [sc', f.fam.N, ← ho]; exact own)
        (fun s H Cc cl fp => pg_name (i := 2) nd e2 (.inl (lb s6 s H Cc cl fp)) (.inr (lb s6 s H Cc cl fp))) (fun s H Cc cl fp => pts_nil)
        (fun s H Cc cl fp => pe_callB call_abs (gb s4 s H Cc cl fp) (by show X.mg _ = _; rw [hm]; exact ma) (by kernel_rfl) (pa_cons (pe_callTy call_int1 (gb s5 s H Cc cl fp) (by show X.mg _ = _; rw [hm]; exact mi) (by kernel_rfl) (pa_cons (pe_var (i := 2) e2 (.inl (lb s6 s H Cc cl fp))) pa_nil)) pa_nil))
    · cases h
  · cases h
def PrHand (W : Wd) (k : Nat) : Prop := ∃ f fd, FnG W.P W.w W.K W.mg W.base W.CX k f fd ["script"] (spHand W.K) ∧ W.mg "_law_hand" = some (.ref f) ∧ PySem.W.keepIn W.K (.ref f) = true ∧ Binds W.K fd ["script"] []
theorem pr_hand {W : Wd} {st : Stmt} {k1 k2 : Int} (F : Nm1 W.K W.mg "_law_hand" st) (hN : W.N = (["script", "cells", "cell"] : List Str)) (S : FnScope W.N ["script"] (defScope st)) (h : handOf W.N (defScope st) (defBody st) = some (k1, k2)) (ma : W.mg "abs" = none) (mi : W.mg "int" = none) (ml : W.mg "len" = none)
    (h1 : 0 ≤ k1) (h2 : 0 ≤ k2) (h3 : k1 < 2 ^ 20) (h4 : k2 < 2 ^ 20)
    (bind : ∀ (kV doc pm : Value) (an : Option Addr) (cdv ct : Value) (us : List Value), us.length = 1 → bindArgs (PySem.W.fnOf "_law_hand" "_law_hand" (defArgs st) (defBody st) (defScope st) .none kV doc pm an cdv ct) ⟨us, []⟩ = pure ((["script"] : List Str).zip us))
    (hx : ∀ (X : Cx) (E : XK) (σ : L2.St), PassesAt W.CX X σ E) : PrHand W (W.k + 1) := by
  obtain ⟨f, fd, F1, F2⟩ := F
  refine ⟨f, fd, ?_, F2, F1.kp, F1.bindsN bind⟩
  obtain ⟨oc, od, dV, kV, doc, pm, an, cdv, ct, osl, rfl, lk, hcd, _, _⟩ := F1.ex
  refine fnG_of lk hcd S (fun vs H Q E h => ?_) fun A outer s H vs Q E hr h' => ?_
  · obtain ⟨a, ns, rfl, _⟩ := h
    rfl
  have fam : FamS W (defScope st) (fun _ => E) (cxOf W.CX W.P W.w W.K W.mg W.base W.N "_law_hand" (defScope st) f cdv A outer s H E) := ⟨⟨rfl, hr, rfl, S.nd, rfl, S.kind, fun _ _ => rfl, fun σ => hx _ E σ⟩, PassesOwn.leaving⟩
  refine ⟨_, hand_walk hN h ma mi ml fam, ?_⟩
  rw [hN]
  exact hand_run h1 h2 h3 h4 rfl h'
def lawOf (sc : Scope) : List Stmt → Option (List Stmt)
  | .Assign [.Name y p1] (.Call (.Name f p2) [.Name x p3] [] p4) p5 :: rest => if (y == "hand" && f == "_law_hand" && x == "script" && (sc.names.lookup ("script" : Str) == some .local || sc.names.lookup ("script" : Str) == some .cell) && (sc.names.lookup ("hand" : Str) == some .local || sc.names.lookup ("hand" : Str) == some .cell) && sc.names.lookup ("_law_hand" : Str) == some .globalImplicit) = true then some rest else none
  | _ => none
theorem pr_law {W : Wd} {C : Cn} {L : List (Str × GK)} {tys : List Str} {st : Stmt} {rest : List Stmt} {body : Ss} {n : Nat} (G : GkOk (tcOf W.N L tys) W C) {f : Addr} {fd : FuncData} (F1 : FunD W.K "law" "law" (defArgs st) (defBody st) (defScope st) [] [] f fd) (S : FnScope W.N ["script"] (defScope st)) (hl : lawOf (defScope st) (defBody st) = some rest)
    (n0 : W.N[0]? = some ("script" : Str)) (n1 : W.N[1]? = some ("hand" : Str)) (PH : PrHand W W.k) (hb : trSs (tcOf W.N L tys) n (defScope st) rest = some body)
    (hx : ∀ (X : Cx) (E : XK) (σ : L2.St), PassesAt W.CX X σ E) (ok : LawOk C W.N.length body) : FnG W.P W.w W.K W.mg W.base W.CX (W.k + 1) f fd ["script"] (spLaw W.K) := by
  obtain ⟨fh, fdh, P1, P2, P3, P4⟩ := PH
  generalize defBody st = b at hl F1
  generalize defScope st = sc at *
  unfold lawOf at hl
  split at hl
  · split at hl
    · rename_i hc
      cases hl
      simp only [Bool.and_eq_true, Bool.or_eq_true, beq_iff_eq] at hc
      obtain ⟨⟨⟨⟨⟨rfl, rfl⟩, rfl⟩, s0⟩, s1⟩, s2⟩ := hc
      exact law_okF (T := tcOf W.N L tys) G F1 S P1 P2 P3 P4 n0 n1 s0 s1 s2 hb hx ok
    · cases hl
  · cases hl
theorem ents_nil {W : Wd} {C : Cn} : ∀ p ∈ ([] : List (Str × GK)), Ent W C p.1 p.2 := fun p h => by cases h
theorem ents_cons {W : Wd} {C : Cn} {x : Str} {g : GK} {L : List (Str × GK)} (h : Ent W C x g) (t : ∀ p ∈ L, Ent W C p.1 p.2) : ∀ p ∈ (x, g) :: L, Ent W C p.1 p.2 := fun p hp => by
  rcases List.mem_cons.mp hp with rfl | hp
  · exact h
  · exact t p hp
theorem tys_nil {W : Wd} : ∀ x ∈ ([] : List Str), W.mg x = none := fun p h => by cases h
theorem tys_cons {W : Wd} {x : Str} {L : List Str} (h : W.mg x = none) (t : ∀ x ∈ L, W.mg x = none) : ∀ y ∈ x :: L, W.mg y = none := fun p hp => by
  rcases List.mem_cons.mp hp with rfl | hp
  · exact h
  · exact t p hp
theorem pr_no {W : Wd} {B : Tb} {k : Nat} {x : Str} {st : Stmt} {ps : List Str} {m : Nat} {c : FS} (F : Nm1 W.K W.mg x st) (hm : ps.length = m)
    (bind : ∀ (kV doc pm : Value) (an : Option Addr) (cdv ct : Value) (us : List Value), us.length = ps.length → bindArgs (PySem.W.fnOf x x (defArgs st) (defBody st) (defScope st) .none kV doc pm an cdv ct) ⟨us, []⟩ = pure (ps.zip us))
    (no : ∀ ds Q X, ¬ c ds Q X) : Pr W B k x m c := by
  obtain ⟨f, fd, h1, h2⟩ := F
  subst hm
  exact ⟨f, fd, ps, ⟨fun vs H Q E h => h.1, fun A outer s H args us vs Q E hr he hb hv h => by
    obtain ⟨_, g, F, ds, _, _, z⟩ := h
    exact (no _ _ _ z).elim⟩, h2, h1.kp, h1.bindsN bind⟩
theorem prHand_mono {W W' : Wd} {j k : Nat} (h : PrHand W j) (l : j ≤ k) (e : (W'.P, W'.w, W'.K, W'.mg) = (W.P, W.w, W.K, W.mg) := by rfl) (e2 : W'.base = W.base := by rfl) (e3 : W'.CX = W.CX := by rfl) : PrHand W' k := by
  obtain ⟨f, fd, h1, h2⟩ := h
  cases W
  cases W'
  simp only [Prod.mk.injEq] at e
  obtain ⟨rfl, rfl, rfl, rfl⟩ := e
  cases e2
  cases e3
  exact ⟨f, fd, h1.mono l, h2⟩
theorem end_of {P : Program} {w : World} {K : PySem.W.Frag} {mg : Str → Option Value} {fa : Addr} {h : Heap} {k : Nat} {n : Nat} {st : Stmt} (KX : K.In h) (hmg : mg ("law" : Str) = some (.ref fa)) (F : Nm1 K mg "law" st)
    (bind : ∀ (kV doc pm : Value) (an : Option Addr) (cdv ct : Value) (us : List Value), us.length = 1 → bindArgs (PySem.W.fnOf "law" "law" (defArgs st) (defBody st) (defScope st) .none kV doc pm an cdv ct) ⟨us, []⟩ = pure ((["script"] : List Str).zip us))
    (q : ∀ (base : Heap) (f : Addr) (fd : FuncData), FunD K "law" "law" (defArgs st) (defBody st) (defScope st) [] [] f fd → FnG P w K mg base CX0 k f fd ["script"] (spLaw K)) :
    ∃ (K : PySem.W.Frag) (fd : FuncData) (sp : Sp), K.In h ∧ (∀ (s : Shared) (u : Value), BindsTo s fd ⟨[u], []⟩ [("script", u)]) ∧ (∀ (H : Hp) (a : Addr) (ns : List Int), ns.length ≤ n → Only H → SqL K H a (ns.map V.int) → sp [.ref a] H (fun v _ => v = .bl true) fun _ _ _ => False) ∧
      ∀ base : Heap, K.In base → base.Ns mainGlobals mg → FnG P w K mg base CX0 k fa fd ["script"] sp := by
  obtain ⟨f, fd, F1, F2⟩ := F
  have e := hmg.symm.trans F2
  cases e
  have b := FunD.bindsA (ps := ["script"]) F1 bind
  exact ⟨K, fd, spLaw K, KX, fun s v => b s [v] rfl, fun H a ns _ o hS => ⟨a, ns, rfl, hS, o, fun _ => rfl⟩, fun base _ _ => q base _ fd F1⟩
end Dl
set_option maxHeartbeats 1000000
namespace Dl
open PySem PySem.Spec PyProof.Rows L2
def lkF : List (Nat × FS) → Nat → Option FS
  | [], _ => none
  | (j, s) :: r, i => match Nat.beq j i with
    | true => some s
    | false => lkF r i
def tupI (ns : List Int) : D := .tup (ns.map .int)
def dot (a b : List Int) : Int := (List.zipWith (· * ·) a b).sum
def Sm (x : Int) : Prop := x.natAbs < 2 ^ 400
theorem intsOf_map : ∀ ns : List Int, intsOf (ns.map .int) = some ns
  | [] => rfl
  | n :: ns => by
    show (intsOf (ns.map .int)).map (n :: ·) = _
    rw [intsOf_map ns]
    rfl
theorem boolsOf_map : ∀ ns : List Bool, boolsOf (ns.map .bl) = some ns
  | [] => rfl
  | n :: ns => by
    show (boolsOf (ns.map .bl)).map (n :: ·) = _
    rw [boolsOf_map ns]
    rfl
theorem mul_ok {i j : Int} (hi : Sm i) (hj : Sm j) : mulOk i j :=
  .inr ⟨Nat.lt_of_lt_of_le hi (Nat.pow_le_pow_right (by decide) (by decide)), Nat.lt_of_lt_of_le hj (Nat.pow_le_pow_right (by decide) (by decide))⟩
theorem size1000 {n : Nat} (h : n ≤ 1000) : n ≤ sizeLine := by
  have : sizeLine = 16777216 := sizeLine_eq
  omega
theorem zip_ints : ∀ (a b : List Int), zipD (a.map .int) (b.map .int) = (List.zip a b).map fun p => .tup [.int p.1, .int p.2]
  | [], _ => by simp [zipD]
  | _ :: _, [] => by simp [zipD]
  | x :: a, y :: b => by
    show _ :: zipD (a.map .int) (b.map .int) = _
    rw [zip_ints a b]
    rfl
theorem all_true : ∀ (n : Nat), (List.replicate n true).all id = true
  | 0 => rfl
  | n + 1 => by
    rw [List.replicate_succ, List.all_cons, all_true n]
    rfl
theorem map_bl {α : Type} (b : Bool) : ∀ l : List α, (l.map fun _ => D.bl b) = (List.replicate l.length b).map .bl
  | [] => rfl
  | _ :: l => by
    rw [List.map_cons, map_bl b l]
    rfl
theorem atI_zero {α : Type} (x : α) (xs : List α) : atI (x :: xs) 0 = some x := by
  unfold atI ixN
  rw [if_pos (Int.le_refl 0), if_pos (by rw [List.length_cons]; omega)]
  rfl
theorem pair_len (x y : D) : (([x, y] : List D).length : Int) = 2 := rfl
theorem rng_map (lo hi : Int) : rangeD lo hi = (List.range (hi - lo).toNat).map fun (k : Nat) => D.int (lo + (k : Int)) := rfl
theorem b62_ok {i : Int} (h1 : -1000000 ≤ i) (h2 : i ≤ 1000000) : b62 i := by
  unfold b62
  omega
theorem ite_both {b : Bool} {A B : Prop} (h1 : b = true → A) (h2 : b = false → B) : if b = true then A else B := by
  cases b with
  | true => exact h1 rfl
  | false => exact h2 rfl
theorem perm_map {α : Type} (f : α → D) : ∀ {xs ys : List D}, xs.Perm ys → ∀ l : List α, ys = l.map f → ∃ l' : List α, l'.Perm l ∧ xs = l'.map f := by
  intro xs ys h
  induction h with
  | nil =>
    intro l e
    exact ⟨l, .refl _, e⟩
  | cons x h ih =>
    intro l e
    match l, e with
    | [], e => cases e
    | a :: l, e =>
      rw [List.map_cons] at e
      injection e with e1 e2
      obtain ⟨l', h1, e3⟩ := ih l e2
      exact ⟨a :: l', h1.cons a, by rw [List.map_cons, e1, e3]⟩
  | swap x y l1 =>
    intro l e
    match l, e with
    | [], e => cases e
    | [a], e => cases e
    | a :: b :: l, e =>
      rw [List.map_cons, List.map_cons] at e
      injection e with e1 e2
      injection e2 with e2 e3
      exact ⟨b :: a :: l, .swap _ _ _, by rw [List.map_cons, List.map_cons, e1, e2, e3]⟩
  | trans h1 h2 ih1 ih2 =>
    intro l e
    obtain ⟨l2, p2, e2⟩ := ih2 l e
    obtain ⟨l1, p1, e1⟩ := ih1 l2 e2
    exact ⟨l1, p1.trans p2, e1⟩
theorem sum_nn : ∀ {l : List Int}, (∀ x ∈ l, 0 ≤ x) → 0 ≤ l.sum
  | [], _ => by simp
  | x :: l, h => by
    rw [List.sum_cons]
    have h1 := h x (by simp)
    have h2 := sum_nn (l := l) fun y hy => h y (List.mem_cons_of_mem _ hy)
    omega
theorem sum_perm {a b : List Int} (h : a.Perm b) : a.sum = b.sum := by
  induction h with
  | nil => rfl
  | cons x _ ih => rw [List.sum_cons, List.sum_cons, ih]
  | swap x y l => rw [List.sum_cons, List.sum_cons, List.sum_cons, List.sum_cons]; omega
  | trans _ _ h1 h2 => exact h1.trans h2
theorem ixN_in {n : Nat} {i : Int} (h0 : 0 ≤ i) (h1 : i < n) : ixN n i = some i.toNat := by
  unfold ixN
  rw [if_pos h0, if_pos h1]
theorem map_set (l : List Int) (i : Nat) (y : Int) : (l.map D.int).set i (.int y) = (l.set i y).map .int := by
  rw [List.map_set]
theorem rep_flat {α : Type} (x : α) : ∀ k : Nat, (List.replicate k [x]).flatten = List.replicate k x
  | 0 => rfl
  | k + 1 => by
    rw [List.replicate_succ, List.flatten_cons, rep_flat x k]
    rfl
theorem mem_set {l : List Int} {i : Nat} {y x : Int} (h : x ∈ l.set i y) : x = y ∨ x ∈ l := by
  rcases List.mem_or_eq_of_mem_set h with h | h
  · exact .inr h
  · exact .inl h
theorem ints_of {p : Int → Prop} : ∀ {vs : List D}, (∀ v ∈ vs, ∃ x : Int, v = .int x ∧ p x) → ∃ ns : List Int, vs = ns.map .int ∧ ∀ x ∈ ns, p x
  | [], _ => ⟨[], rfl, by simp⟩
  | v :: vs, h => by
    obtain ⟨x, rfl, hx⟩ := h v (by simp)
    obtain ⟨ns, rfl, hn⟩ := ints_of (vs := vs) fun w hw => h w (List.mem_cons_of_mem _ hw)
    exact ⟨x :: ns, rfl, fun y hy => (List.mem_cons.mp hy).elim (fun e => e ▸ hx) (hn y)⟩
def Ss.get : Nat → Ss → S
  | _, .nil => .pas
  | 0, .cons s _ => s
  | n + 1, .cons _ ss => Ss.get n ss
def S.body : S → Ss
  | .frs _ _ b => b
  | .whl _ b => b
  | .ifs _ a _ => a
  | _ => .nil
theorem atI_mapg {α : Type} (f : α → D) {l : List α} {i : Int} {x : α} (h : atI l i = some x) : atI (l.map f) i = some (f x) := by
  unfold atI at h ⊢
  rw [List.length_map]
  cases e : ixN l.length i with
  | none => rw [e] at h; cases h
  | some j =>
    rw [e] at h
    have h : l[j]? = some x := h
    show (l.map f)[j]? = _
    rw [List.getElem?_map, h]
    rfl

theorem zip_fst {x y : Int} {a b : List Int} (h : (x, y) ∈ List.zip a b) : x ∈ a ∧ y ∈ b := List.of_mem_zip h
theorem zip_dot : ∀ (a b : List Int), ((List.zip a b).map fun p => D.int (p.1 * p.2)) = (List.zipWith (· * ·) a b).map .int
  | [], _ => by simp
  | _ :: _, [] => by simp
  | x :: a, y :: b => by
    rw [List.zip_cons_cons, List.map_cons, zip_dot a b]
    rfl
theorem enum_map : ∀ (l : List D) (n : Nat), enumD n l = (List.range l.length).map fun k => .tup [.int ((n + k : Nat) : Int), l.getD k .non]
  | [], _ => rfl
  | x :: l, n => by
    show D.tup [.int (n : Nat), x] :: enumD (n + 1) l = _
    rw [enum_map l (n + 1), List.length_cons, List.range_succ_eq_map, List.map_cons, List.map_map]
    refine congr (congrArg List.cons ?_) ?_
    · rfl
    · apply List.map_congr_left
      intro k _
      show _ = D.tup [.int ((n + (k + 1) : Nat) : Int), (x :: l).getD (k + 1) .non]
      rw [show n + 1 + k = n + (k + 1) by omega]
      rfl
def pyTup (ns : List Int) : PyData := .tuple (ns.map .int)
theorem pyAll_map {α : Type} {f : α → D} {g : α → PyData} (h : ∀ a, D.py (f a) = some (g a)) : ∀ l : List α, pyAll (l.map f) = some (l.map g)
  | [] => rfl
  | a :: l => by
    rw [List.map_cons, List.map_cons]
    unfold pyAll
    rw [h a, pyAll_map h l]
theorem py_tup (ns : List Int) : D.py (tupI ns) = some (pyTup ns) := by
  show (pyAll (ns.map .int)).map PyData.tuple = _
  rw [pyAll_map (g := PyData.int) fun _ => rfl]
  rfl
theorem log_of {x : Int} (h : Sm x) : x.natAbs.log2 < 400 := by
  by_cases z : x.natAbs = 0
  · rw [z]
    decide
  · exact (Nat.log2_lt z).mpr h
theorem show_all {α : Type} {g : α → PyData} : ∀ {l : List α}, (∀ a ∈ l, (g a).showable = true) → PyData.showableAll (l.map g) = true
  | [], _ => rfl
  | a :: l, h => by
    rw [List.map_cons]
    unfold PyData.showableAll
    rw [h a (by simp), show_all fun b hb => h b (List.mem_cons_of_mem _ hb)]
    rfl
theorem depth_all {α : Type} {g : α → PyData} {k : Nat} : ∀ {l : List α}, (∀ a ∈ l, (g a).depth ≤ k) → PyData.depthAll (l.map g) ≤ k
  | [], _ => Nat.zero_le _
  | a :: l, h => by
    rw [List.map_cons]
    unfold PyData.depthAll
    exact Nat.max_le.mpr ⟨h a (by simp), depth_all fun b hb => h b (List.mem_cons_of_mem _ hb)⟩
theorem bulk_all {α : Type} {g : α → PyData} {k : Nat} : ∀ {l : List α}, (∀ a ∈ l, (g a).bulk ≤ k) → PyData.bulkAll (l.map g) ≤ l.length * (k + 1)
  | [], _ => Nat.zero_le _
  | a :: l, h => by
    rw [List.map_cons]
    unfold PyData.bulkAll
    have h1 := h a (by simp)
    have h2 := bulk_all (l := l) fun b hb => h b (List.mem_cons_of_mem _ hb)
    rw [List.length_cons, Nat.add_mul, Nat.one_mul]
    omega
theorem short_all {α : Type} {g : α → PyData} {k : Nat} : ∀ {l : List α}, (∀ a ∈ l, (g a).leavesShort k = true) → PyData.leavesShortAll k (l.map g) = true
  | [], _ => rfl
  | a :: l, h => by
    rw [List.map_cons]
    unfold PyData.leavesShortAll
    rw [h a (by simp), short_all fun b hb => h b (List.mem_cons_of_mem _ hb)]
    rfl
theorem int_short {x : Int} (h : Sm x) : (PyData.int x).leavesShort 408 = true := by
  unfold PyData.leavesShort
  have h1 := int_text_length_le (a := x) (k := 400) (by decide) (log_of h)
  have h2 : (PyData.int x).shown.length = (toString x).length := by
    show (Str.ofString (toString x)).length = _
    exact PySem.ofString_length _
  exact decide_eq_true (by omega)
theorem int_show {x : Int} (h : Sm x) : (PyData.int x).showable = true := by
  unfold PyData.showable
  exact decide_eq_true (Nat.lt_trans (log_of h) (by decide))
structure Shw (d : D) (p : PyData) : Prop where
  py : D.py d = some p
  sh : p.showable = true
  dp : p.depth ≤ 1000
  sz : p.shown.length ≤ sizeLine
theorem shw_of {d : D} {p : PyData} (h1 : D.py d = some p) (h2 : p.showable = true) (h3 : p.depth ≤ 1000) (h4 : p.leavesShort 408 = true) (h5 : p.bulk ≤ 10000) : Shw d p := ⟨h1, h2, h3, by
  have h := PyData.shown_le_bulk 408 (by decide) p h4
  have : sizeLine = 16777216 := sizeLine_eq
  have h6 : (408 + 2) * p.bulk ≤ (408 + 2) * 10000 := Nat.mul_le_mul_left _ h5
  omega⟩
theorem tup_facts {ns : List Int} (h : ∀ x ∈ ns, Sm x) : (pyTup ns).showable = true ∧ (pyTup ns).depth ≤ 1 ∧ (pyTup ns).leavesShort 408 = true ∧ (pyTup ns).bulk ≤ ns.length := by
  unfold pyTup
  refine ⟨?_, ?_, ?_, ?_⟩
  · unfold PyData.showable
    exact show_all fun x hx => int_show (h x hx)
  · unfold PyData.depth
    have := depth_all (g := PyData.int) (k := 0) (l := ns) fun x _ => Nat.le_refl _
    omega
  · unfold PyData.leavesShort
    exact short_all fun x hx => int_short (h x hx)
  · unfold PyData.bulk
    have := bulk_all (g := PyData.int) (k := 0) (l := ns) fun x _ => Nat.le_refl _
    omega
theorem shw_tup {ns : List Int} (h : ∀ x ∈ ns, Sm x) (hl : ns.length ≤ 1000) : Shw (tupI ns) (pyTup ns) := by
  obtain ⟨h1, h2, h3, h4⟩ := tup_facts h
  exact shw_of (py_tup ns) h1 (by omega) h3 (by omega)
theorem seq_in {n : Int} {l : Nat} (h0 : 0 ≤ n) (h1 : n < l) : seqIndex? n l = some n.toNat := by
  unfold seqIndex?
  have h : ¬ n < 0 := by omega
  simp [h, h0, h1]
theorem erase_perm : ∀ {l : List D} {k : Nat} {d : D}, l[k]? = some d → (d :: l.eraseIdx k).Perm l
  | [], _, _, h => by simp at h
  | x :: l, 0, d, h => by
    simp at h
    subst h
    exact .refl _
  | x :: l, k + 1, d, h => by
    have := erase_perm (l := l) (k := k) (d := d) (by simpa using h)
    exact (List.Perm.swap _ _ _).trans (this.cons x)
theorem zip_self : ∀ ns : List Int, zipD (ns.map .int) (ns.map .int) = ns.map fun i => .tup [.int i, .int i]
  | [] => rfl
  | n :: ns => by
    show _ :: zipD (ns.map .int) (ns.map .int) = _
    rw [zip_self ns]
    rfl
theorem max_in : ∀ {l : List Int}, l ≠ [] → ∃ m, m ∈ l ∧ ∀ y ∈ l, y ≤ m
  | [], h => absurd rfl h
  | [x], _ => ⟨x, by simp, by simp⟩
  | x :: y :: l, _ => by
    obtain ⟨m, h1, h2⟩ := max_in (l := y :: l) (by simp)
    by_cases z : x ≤ m
    · exact ⟨m, List.mem_cons_of_mem _ h1, fun w hw => (List.mem_cons.mp hw).elim (fun e => e ▸ z) (h2 w)⟩
    · exact ⟨x, by simp, fun w hw => (List.mem_cons.mp hw).elim (fun e => e ▸ Int.le_refl _) fun hw => by have := h2 w hw; omega⟩
theorem max_one {l : List Int} {m m' : Int} (h1 : m ∈ l) (h2 : ∀ y ∈ l, y ≤ m) (h3 : m' ∈ l) (h4 : ∀ y ∈ l, y ≤ m') : m' = m := Int.le_antisymm (h2 m' h3) (h4 m h1)
theorem dot_le {A B : Nat} : ∀ (a b : List Int), (∀ x ∈ a, x.natAbs ≤ A) → (∀ y ∈ b, y.natAbs ≤ B) → (dot a b).natAbs ≤ a.length * (A * B)
  | [], _, _, _ => by simp [dot]
  | _ :: _, [], _, _ => by simp [dot]
  | x :: a, y :: b, h1, h2 => by
    have ih := dot_le (A := A) (B := B) a b (fun z hz => h1 z (List.mem_cons_of_mem _ hz)) fun z hz => h2 z (List.mem_cons_of_mem _ hz)
    have e : dot (x :: a) (y :: b) = x * y + dot a b := by
      unfold dot
      rw [List.zipWith_cons_cons, List.sum_cons]
    have m : (x * y).natAbs ≤ A * B := by
      rw [Int.natAbs_mul]
      exact Nat.mul_le_mul (h1 x (by simp)) (h2 y (by simp))
    rw [e, List.length_cons, Nat.add_mul, Nat.one_mul]
    have := Int.natAbs_add_le (x * y) (dot a b)
    omega
theorem cut_map {α : Type} (f : α → D) (l : List α) (a b : Option Int) : ∃ l' : List α, Dl.cutD (l.map f) a b = l'.map f ∧ l'.length ≤ l.length ∧ ∀ x ∈ l', x ∈ l := by
  refine ⟨(l.drop (HT.sIx (l.map f).length 0 a)).take (HT.sIx (l.map f).length (l.map f).length b - HT.sIx (l.map f).length 0 a), ?_, ?_, fun x hx => List.mem_of_mem_drop (List.mem_of_mem_take hx)⟩
  · unfold Dl.cutD
    rw [List.map_take, List.map_drop]
  · rw [List.length_take, List.length_drop]
    omega
theorem cut_one {α : Type} (f : α → D) (l : List α) : ∃ l' : List α, Dl.cutD (l.map f) (some 1) none = l'.map f ∧ l'.length ≤ l.length - 1 ∧ ∀ x ∈ l', x ∈ l := by
  refine ⟨(l.drop (HT.sIx (l.map f).length 0 (some 1))).take (HT.sIx (l.map f).length (l.map f).length none - HT.sIx (l.map f).length 0 (some 1)), ?_, ?_, fun x hx => List.mem_of_mem_drop (List.mem_of_mem_take hx)⟩
  · unfold Dl.cutD
    rw [List.map_take, List.map_drop]
  · have e : HT.sIx (l.map f).length 0 (some 1) = min 1 (l.map f).length := HT.sIx_nat (l.map f).length 0 1
    rw [List.length_take, List.length_drop, e, List.length_map]
    omega
theorem list_of {α : Type} {f : α → D} {p : α → Prop} : ∀ {vs : List D}, (∀ v ∈ vs, ∃ a, v = f a ∧ p a) → ∃ l : List α, vs = l.map f ∧ ∀ a ∈ l, p a
  | [], _ => ⟨[], rfl, by simp⟩
  | v :: vs, h => by
    obtain ⟨a, rfl, ha⟩ := h v (by simp)
    obtain ⟨l, rfl, hl⟩ := list_of (vs := vs) fun w hw => h w (List.mem_cons_of_mem _ hw)
    exact ⟨a :: l, rfl, fun b hb => (List.mem_cons.mp hb).elim (fun e => e ▸ ha) (hl b)⟩
theorem dot_zero : ∀ (a : List Int) (n : Nat), dot a (List.replicate n 0) = 0
  | [], _ => by simp [dot]
  | x :: a, 0 => by simp [dot]
  | x :: a, n + 1 => by
    have ih := dot_zero a n
    unfold dot at ih ⊢
    rw [List.replicate_succ, List.zipWith_cons_cons, List.sum_cons, ih, Int.mul_zero]
    rfl
theorem rep_tup (x : Int) (n : Nat) : D.tup (List.replicate ((n : Int).toNat) [D.int x]).flatten = tupI (List.replicate n x) := by
  unfold tupI
  rw [rep_flat, List.map_replicate, Int.toNat_natCast]
def add (a b : List Int) : List Int := List.zipWith (· + ·) a b
theorem add_len (a b : List Int) (h : a.length = b.length) : (add a b).length = a.length := by
  unfold add
  rw [List.length_zipWith, h, Nat.min_self]
theorem add_assoc' : ∀ a b c : List Int, add (add a b) c = add a (add b c)
  | [], b, c => by simp [add]
  | _ :: _, [], c => by simp [add]
  | _ :: _, _ :: _, [] => by simp [add]
  | x :: a, y :: b, z :: c => by
    have ih := add_assoc' a b c
    unfold add at ih ⊢
    rw [List.zipWith_cons_cons, List.zipWith_cons_cons, List.zipWith_cons_cons, List.zipWith_cons_cons, ih, Int.add_assoc]
theorem add_zero' : ∀ a : List Int, add a (List.replicate a.length 0) = a
  | [] => rfl
  | x :: a => by
    have ih := add_zero' a
    unfold add at ih ⊢
    rw [List.length_cons, List.replicate_succ, List.zipWith_cons_cons, ih, Int.add_zero]
theorem add_back : ∀ a b : List Int, a.length = b.length → add (add a b) (b.map fun x => 0 - x) = a
  | [], _, _ => by simp [add]
  | x :: a, [], h => by cases h
  | x :: a, y :: b, h => by
    have ih := add_back a b (by simpa using h)
    unfold add at ih ⊢
    rw [List.zipWith_cons_cons, List.map_cons, List.zipWith_cons_cons, ih]
    congr 1
    omega
theorem add_map {f g h : Int → Int} (H : ∀ x y, f x + g y = h (x + y)) : ∀ a b : List Int, add (a.map f) (b.map g) = (add a b).map h
  | [], _ => by simp [add]
  | _ :: _, [] => by simp [add]
  | x :: a, y :: b => by
    have ih := add_map H a b
    unfold add at ih ⊢
    rw [List.map_cons, List.map_cons, List.zipWith_cons_cons, List.zipWith_cons_cons, List.map_cons, ih, H]
theorem add_le {A B : Nat} : ∀ (a b : List Int), (∀ x ∈ a, x.natAbs ≤ A) → (∀ y ∈ b, y.natAbs ≤ B) → ∀ z ∈ add a b, z.natAbs ≤ A + B
  | [], _, _, _, z, hz => by simp [add] at hz
  | _ :: _, [], _, _, z, hz => by simp [add] at hz
  | x :: a, y :: b, ha, hb, z, hz => by
    have hz : z ∈ (x + y) :: add a b := hz
    rcases List.mem_cons.mp hz with rfl | hz
    · have h1 := ha x (by simp)
      have h2 := hb y (by simp)
      omega
    · exact add_le a b (fun x h => ha x (List.mem_cons_of_mem _ h)) (fun x h => hb x (List.mem_cons_of_mem _ h)) z hz
theorem zip_add : ∀ (a b : List Int), ((List.zip a b).map fun p => D.int (p.1 + p.2)) = (add a b).map .int
  | [], _ => by simp [add]
  | _ :: _, [] => by simp [add]
  | x :: a, y :: b => by
    rw [List.zip_cons_cons, List.map_cons, zip_add a b]
    rfl
def mx : List Int → Int
  | [] => 0
  | [x] => x
  | x :: y :: r => if mx (y :: r) ≤ x then x else mx (y :: r)
theorem mx_in : ∀ {l : List Int}, l ≠ [] → mx l ∈ l
  | [], h => absurd rfl h
  | [x], _ => by simp [mx]
  | x :: y :: r, _ => by
    unfold mx
    split
    · simp
    · exact List.mem_cons_of_mem _ (mx_in (by simp))
theorem mx_le : ∀ {l : List Int} {y : Int}, y ∈ l → y ≤ mx l
  | [x], y, h => by
    have : y = x := by simpa using h
    rw [this]
    exact Int.le_refl _
  | x :: z :: r, y, h => by
    unfold mx
    rcases List.mem_cons.mp h with rfl | h
    · split <;> omega
    · have := mx_le (l := z :: r) h
      split <;> omega
theorem mx_eq {l : List Int} {m : Int} (h1 : m ∈ l) (h2 : ∀ y ∈ l, y ≤ m) : m = mx l :=
  max_one (mx_in (fun z => by rw [z] at h1; simp at h1)) (fun _ h => mx_le h) h1 h2
theorem rng0 (n : Nat) : rangeD 0 (n : Int) = (List.range n).map fun (k : Nat) => D.int (k : Int) := by
  unfold rangeD
  rw [show ((n : Int) - 0).toNat = n by omega]
  apply List.map_congr_left
  intro k _
  rw [Int.zero_add]
theorem tup_ints (f : Int → Int) (l : List Int) : D.tup (l.map fun x => D.int (f x)) = tupI (l.map f) := by
  unfold tupI
  rw [List.map_map]
  rfl
theorem rep_list (x : Int) (n : Nat) : D.lst (List.replicate ((n : Int).toNat) [D.int x]).flatten = .lst ((List.replicate n x).map .int) := by
  rw [rep_flat, List.map_replicate, Int.toNat_natCast]
theorem mo_ex {α : Sort _} {P P' : α → Prop} (h : ∀ x, P x → P' x) : (∃ x, P x) → ∃ x, P' x := fun ⟨x, p⟩ => ⟨x, h x p⟩
theorem mo_all {α : Sort _} {P P' : α → Prop} (h : ∀ x, P x → P' x) : (∀ x, P x) → ∀ x, P' x := fun p x => h x (p x)
theorem mo_and {A B B' : Prop} (h : B → B') : A ∧ B → A ∧ B' := fun ⟨a, b⟩ => ⟨a, h b⟩
theorem mo_and2 {A A' B B' : Prop} (g : A → A') (h : B → B') : A ∧ B → A' ∧ B' := fun ⟨a, b⟩ => ⟨g a, h b⟩
theorem mo_or {A A' B B' : Prop} (g : A → A') (h : B → B') : A ∨ B → A' ∨ B' := fun p => p.elim (fun a => .inl (g a)) fun b => .inr (h b)
def mn (l : List Int) : Int := -(mx (l.map fun x => -x))
theorem mn_in {l : List Int} (h : l ≠ []) : mn l ∈ l := by
  unfold mn
  obtain ⟨x, hx, e⟩ := List.mem_map.mp (mx_in (l := l.map fun x => -x) (by simpa using h))
  rw [← e, Int.neg_neg]
  exact hx
theorem mn_le {l : List Int} {y : Int} (h : y ∈ l) : mn l ≤ y := by
  unfold mn
  have := mx_le (l := l.map fun x => -x) (List.mem_map.mpr ⟨y, h, rfl⟩)
  omega
theorem mn_eq {l : List Int} {m : Int} (h1 : m ∈ l) (h2 : ∀ y ∈ l, m ≤ y) : m = mn l := by
  have e : l ≠ [] := fun z => by rw [z] at h1; simp at h1
  have a := h2 _ (mn_in e)
  have b := mn_le h1
  omega
def scl (c : Int) (d : List Int) : List Int := d.map fun x => x * c
theorem dot_scl (c : Int) : ∀ p d : List Int, dot p (scl c d) = c * dot p d
  | [], _ => by simp [dot]
  | _ :: _, [] => by simp [dot, scl]
  | x :: p, y :: d => by
    have ih := dot_scl c p d
    unfold dot scl at ih ⊢
    rw [List.map_cons, List.zipWith_cons_cons, List.zipWith_cons_cons, List.sum_cons, List.sum_cons, ih, Int.mul_add, ← Int.mul_assoc, Int.mul_comm (x * y) c]
theorem add_scl (a : Int) : ∀ d : List Int, add (scl a d) d = scl (a + 1) d
  | [] => rfl
  | x :: d => by
    have ih := add_scl a d
    unfold add scl at ih ⊢
    rw [List.map_cons, List.zipWith_cons_cons, ih, List.map_cons, Int.mul_add, Int.mul_one]
theorem scl_scl (a b : Int) (d : List Int) : scl a (scl b d) = scl (b * a) d := by
  unfold scl
  rw [List.map_map]
  apply List.map_congr_left
  intro x _
  exact Int.mul_assoc _ _ _
theorem scl_len (a : Int) (d : List Int) : (scl a d).length = d.length := by
  unfold scl
  rw [List.length_map]
theorem dot_ones : ∀ (p : List Int) (n : Nat), p.length = n → dot p (List.replicate n 1) = p.sum
  | [], n, _ => by simp [dot]
  | x :: p, 0, h => by cases h
  | x :: p, n + 1, h => by
    have ih := dot_ones p n (by simpa using h)
    unfold dot at ih ⊢
    rw [List.replicate_succ, List.zipWith_cons_cons, List.sum_cons, List.sum_cons, ih, Int.mul_one]
def unit1 (n o : Nat) : List Int := (List.range n).map fun k => if k = o then 1 else 0
theorem dot_unit_go : ∀ (p : List Int) (s o : Nat), s ≤ o → dot p ((List.range' s p.length).map fun k => if k = o then (1 : Int) else 0) = (p[o - s]?).getD 0
  | [], s, o, _ => by simp [dot]
  | x :: p, s, o, h => by
    rw [List.length_cons, List.range'_succ, List.map_cons]
    have e : dot (x :: p) ((if s = o then (1 : Int) else 0) :: (List.range' (s + 1) p.length).map fun k => if k = o then (1 : Int) else 0) = x * (if s = o then (1 : Int) else 0) + dot p ((List.range' (s + 1) p.length).map fun k => if k = o then (1 : Int) else 0) := by
      unfold dot
      rw [List.zipWith_cons_cons, List.sum_cons]
    rw [e]
    by_cases z : s = o
    · subst z
      rw [if_pos rfl, Nat.sub_self]
      have e2 : dot p ((List.range' (s + 1) p.length).map fun k => if k = s then (1 : Int) else 0) = 0 := by
        have e3 : ((List.range' (s + 1) p.length).map fun k => if k = s then (1 : Int) else 0) = List.replicate p.length 0 := by
          rw [List.eq_replicate_iff]
          refine ⟨by simp, fun b hb => ?_⟩
          obtain ⟨k, hk, rfl⟩ := List.mem_map.mp hb
          have := (List.mem_range'_1.mp hk).1
          rw [if_neg (by omega)]
        rw [e3]
        exact dot_zero p _
      rw [e2, Int.mul_one, Int.add_zero]
      rfl
    · rw [if_neg z, Int.mul_zero, Int.zero_add, dot_unit_go p (s + 1) o (by omega)]
      rw [show o - s = (o - (s + 1)) + 1 by omega, List.getElem?_cons_succ]
theorem dot_unit {p : List Int} {n : Nat} (h : p.length = n) (o : Nat) : dot p (unit1 n o) = (p[o]?).getD 0 := by
  have := dot_unit_go p 0 o (Nat.zero_le _)
  rw [Nat.sub_zero, ← List.range_eq_range', h] at this
  exact this
theorem unit1_len (n o : Nat) : (unit1 n o).length = n := by simp [unit1]
theorem ints_len {ns : List Int} : (ns.map D.int).length = ns.length := List.length_map _
theorem dot_add : ∀ p a b : List Int, a.length = b.length → dot p (add a b) = dot p a + dot p b
  | [], _, _, _ => by simp [dot]
  | _ :: _, [], b, h => by
    have : b = [] := List.length_eq_zero_iff.mp h.symm
    subst this
    simp [dot, add]
  | _ :: _, _ :: _, [], h => by cases h
  | x :: p, y :: a, z :: b, h => by
    have ih := dot_add p a b (by simpa using h)
    unfold dot add at ih ⊢
    rw [List.zipWith_cons_cons, List.zipWith_cons_cons, List.zipWith_cons_cons, List.zipWith_cons_cons, List.sum_cons, List.sum_cons, List.sum_cons, ih, Int.mul_add]
    omega
theorem dot_aff (u T : Int) : ∀ p b : List Int, p.length = b.length → dot p (b.map fun x => u * x - T) = u * dot p b - T * p.sum
  | [], _, _ => by simp [dot]
  | _ :: _, [], h => by cases h
  | x :: p, y :: b, h => by
    have ih := dot_aff u T p b (by simpa using h)
    unfold dot at ih ⊢
    rw [List.map_cons, List.zipWith_cons_cons, List.zipWith_cons_cons, List.sum_cons, List.sum_cons, List.sum_cons, ih, Int.mul_sub, Int.mul_add, Int.mul_add, Int.mul_left_comm x u y, Int.mul_comm x T]
    omega
theorem dot_ge {m : Int} : ∀ p b : List Int, p.length = b.length → (∀ x ∈ p, 0 ≤ x) → (∀ y ∈ b, m ≤ y) → m * p.sum ≤ dot p b
  | [], _, _, _, _ => by simp [dot]
  | _ :: _, [], h, _, _ => by cases h
  | x :: p, y :: b, h, hp, hb => by
    have ih := dot_ge p b (by simpa using h) (fun z hz => hp z (List.mem_cons_of_mem _ hz)) fun z hz => hb z (List.mem_cons_of_mem _ hz)
    have h1 : x * m ≤ x * y := Int.mul_le_mul_of_nonneg_left (hb y (by simp)) (hp x (by simp))
    unfold dot at ih ⊢
    rw [List.zipWith_cons_cons, List.sum_cons, List.sum_cons, Int.mul_add, Int.mul_comm m x]
    omega
def pyLst (ns : List Int) : PyData := .list (ns.map .int)
theorem py_lst (ns : List Int) : D.py (.lst (ns.map .int)) = some (pyLst ns) := by
  show (pyAll (ns.map .int)).map PyData.list = _
  rw [pyAll_map (g := PyData.int) fun _ => rfl]
  rfl
theorem tup_depth (ns : List Int) : (pyTup ns).depth ≤ 1 := by
  unfold pyTup PyData.depth
  have := depth_all (g := PyData.int) (k := 0) (l := ns) fun x _ => Nat.le_refl _
  omega
theorem lst_depth (ns : List Int) : (pyLst ns).depth ≤ 1 := by
  unfold pyLst PyData.depth
  have := depth_all (g := PyData.int) (k := 0) (l := ns) fun x _ => Nat.le_refl _
  omega
theorem eqv_tup (ns : List Int) : PyData.eqv (pyTup ns) (pyTup ns) = true := PySem.SeqAt.eqv_refl_plain _ (D.plain _ _ (py_tup ns))
theorem eqv_lst (ns : List Int) : PyData.eqv (pyLst ns) (pyLst ns) = true := PySem.SeqAt.eqv_refl_plain _ (D.plain _ _ (py_lst ns))
theorem tup_dp (ns : List Int) : (pyTup ns).depth ≤ 1000 := Nat.le_trans (tup_depth ns) (by decide)
theorem lst_dp (ns : List Int) : (pyLst ns).depth ≤ 1000 := Nat.le_trans (lst_depth ns) (by decide)
end Dl
set_option maxHeartbeats 1000000
namespace Lw
open PySem PySem.Spec PyProof.Rows L2 Dl
local macro_rules | `(tactic| walk_at "s") => `(tactic| repeat (refine ⟨_, rfl, ?_⟩))
def SI (d : D) : Prop := (∃ i, d = .int i) ∨ d = .non
def cSame0 : FS := fun ds Q _ => ∃ d, ds = [d, d] ∧ SI d ∧ Q false (.bl true)
def cSame : FS := fun ds Q _ => ∃ d, ds = [d, d] ∧ (SI d ∨ ∃ xs, d = .tup xs ∧ xs.length ≤ 1000 ∧ ∀ x ∈ xs, SI x) ∧ Q false (.bl true)

def piD (p : List Int × Int) : D := .tup [tupI p.1, .int p.2]
def costD (u : Int) (ps : List (List Int × Int)) : D := .tup [.int u, .tup (ps.map piD)]
structure GC (n : Nat) (u : Int) (ps : List (List Int × Int)) : Prop where
  n2 : 2 ≤ n
  n4 : n ≤ 4
  u0 : 0 < u
  ne : ps ≠ []
  len : ps.length ≤ 1000
  each : ∀ p ∈ ps, p.1.length = n ∧ (∀ x ∈ p.1, Sm x) ∧ Sm p.2
structure GS (n : Nat) (s : List Int) : Prop where
  len : s.length = n
  sm : ∀ x ∈ s, Sm x
def hts (ps : List (List Int × Int)) (s : List Int) : List Int := ps.map fun p => dot p.1 s - p.2
def cIsInt : FS := fun ds Q _ => ∃ i, ds = [.int i] ∧ Q false (.bl true)
def cIsNum : FS := fun ds Q _ => ∃ i, ds = [.int i] ∧ Q false (.bl (decide (0 ≤ i)))
def cAreInts : FS := fun ds Q _ => ∃ ns k, ds = [tupI ns, .int k] ∧ ns.length ≤ 1000 ∧ Q false (.bl (decide ((ns.length : Int) = k)))
def isPairB : D → Bool
  | .tup xs => decide ((xs.length : Int) = 2)
  | _ => false
def cIsPair : FS := fun ds Q _ => ∃ d, ds = [d] ∧ (tyOf d).isSome = true ∧ Q false (.bl (isPairB d))
def cAt : FS := fun ds Q _ => ∃ a b, ds = [tupI a, tupI b] ∧ a.length ≤ 1000 ∧ (∀ x ∈ a, Sm x) ∧ (∀ x ∈ b, Sm x) ∧ Q false (.int (dot a b))
def cIsPiece : FS := fun ds Q _ => ∃ p k, ds = [piD p, .int k] ∧ p.1.length ≤ 1000 ∧ Q false (.bl (decide ((p.1.length : Int) = k)))
def cIsCost : FS := fun ds Q _ => ∃ n u ps, ds = [costD u ps] ∧ GC n u ps ∧ Q false (.bl true)
def cChkCost : FS := fun ds Q _ => ∃ n u ps, ds = [costD u ps] ∧ GC n u ps ∧ Q false .non
def cOutc : FS := fun ds Q _ => ∃ n u ps, ds = [costD u ps] ∧ GC n u ps ∧ Q false (.int (n : Nat))
def cChkSh : FS := fun ds Q _ => ∃ n u ps s, ds = [costD u ps, tupI s] ∧ GC n u ps ∧ GS n s ∧ Q false .non
def cHts : FS := fun ds Q _ => ∃ n u ps s, ds = [costD u ps, tupI s] ∧ GC n u ps ∧ GS n s ∧ Q true (.lst ((hts ps s).map .int))
def cReached : FS := fun ds Q _ => ∃ n u ps s, ds = [costD u ps, tupI s] ∧ GC n u ps ∧ GS n s ∧ ∀ m, m ∈ hts ps s → (∀ y ∈ hts ps s, y ≤ m) → Q false (.int m)
def placesAt (l : List Int) (m : Int) : List Int := ((List.range l.length).filter fun i => decide (l[i]? = some m)).map fun (i : Nat) => (i : Int)
def cPieces : FS := fun ds Q _ => ∃ n u ps s, ds = [costD u ps, tupI s] ∧ GC n u ps ∧ GS n s ∧ ∀ m, m ∈ hts ps s → (∀ y ∈ hts ps s, y ≤ m) → Q false (tupI (placesAt (hts ps s) m))

def cAny : FS := fun ds Q _ => ∃ xs, (ds = [.hand, .lst xs] ∨ ds = [.hand, .tup xs]) ∧ xs ≠ [] ∧ xs.length ≤ 1000000 ∧ ∀ d ∈ xs, Q false d
def cMixed : FS := fun ds Q _ => ∃ xs, (ds = [.hand, .lst xs] ∨ ds = [.hand, .tup xs]) ∧ xs.length ≤ 1000000 ∧ ∀ ys : List D, ys.Perm xs → Q true (.lst ys)
def cInteger : FS := fun ds Q _ => ds = [.hand] ∧ ∀ n : Int, n.natAbs < 10 ^ 19 → Q false (.int n)
def cMix : FS := fun ds Q _ => ∃ (k : Nat) (u : Int), ds = [.hand, .int k, .int u] ∧ 2 ≤ k ∧ k ≤ 4 ∧ 0 < u ∧ u ≤ 10 ^ 18 ∧ ∀ ns : List Int, ns.length = k → (∀ x ∈ ns, 0 ≤ x ∧ x ≤ u) → ns.sum = u → Q false (tupI ns)
def cPaid : FS := cAt
def cPrices : FS := fun ds Q _ => ∃ (k : Nat) (u kind : Int), ds = [.hand, .int k, .int u, .int kind] ∧ 2 ≤ k ∧ k ≤ 4 ∧ 0 < u ∧ u ≤ 10 ^ 18 ∧ ∀ ns : List Int, ns.length = k → (∀ x ∈ ns, x.natAbs ≤ 10 ^ 20) → (kind = 0 → (∀ x ∈ ns, 0 ≤ x) ∧ ns.sum = u) → Q false (tupI ns)
def cShares : FS := fun ds Q _ => ∃ (k : Nat), ds = [.hand, .int k] ∧ 2 ≤ k ∧ k ≤ 4 ∧ ∀ ns : List Int, ns.length = k → (∀ x ∈ ns, x.natAbs < 10 ^ 19) → Q false (tupI ns)
def cCost : FS := fun ds Q _ => ∃ kinds : List Int, ds = [.hand, .lst (kinds.map .int)] ∧ kinds ≠ [] ∧ kinds.length ≤ 1000 ∧ ∀ (n : Nat) (u : Int) (ps : List (List Int × Int)), GC n u ps → ((∀ x ∈ kinds, x = 0) → ∀ p ∈ ps, (∀ x ∈ p.1, 0 ≤ x) ∧ p.1.sum = u) → u ≤ 10 ^ 18 → ps.length ≤ 18 → (∀ p ∈ ps, (∀ x ∈ p.1, x.natAbs ≤ 10 ^ 20) ∧ p.2.natAbs ≤ 10 ^ 20) → Q false (costD u ps)
structure GD (n : Nat) (u : Int) (ps : List (List Int × Int)) : Prop where
  gc : GC n u ps
  u1 : u ≤ 10 ^ 18
  each : ∀ p ∈ ps, (∀ x ∈ p.1, x.natAbs ≤ 10 ^ 20) ∧ p.2.natAbs ≤ 10 ^ 50

def topC (ps : List (List Int × Int)) (s : List Int) : Int := mx (hts ps s)
def gainL (u : Int) (ps : List (List Int × Int)) (out b : List Int) : List Int := b.map fun x => u * x - (topC ps (add out b) - topC ps out)
def cSummed : FS := fun ds Q _ => ∃ a b, ds = [tupI a, tupI b] ∧ a.length ≤ 1000 ∧ Q false (tupI (add a b))
def cGained : FS := fun ds Q _ => ∃ n u ps a b, ds = [costD u ps, tupI a, tupI b] ∧ GC n u ps ∧ Sm u ∧ GS n a ∧ GS n b ∧ GS n (add a b) ∧ Q false (tupI (gainL u ps a b))
def cLawAt : FS := fun ds Q _ => ∃ n u ps s, ds = [costD u ps, tupI s] ∧ GC n u ps ∧ GS n s ∧ Q false (.int (topC ps s))

def lowsOf (ps : List (List Int × Int)) : List Int := ps.map (·.2)
def sumsOf (ps : List (List Int × Int)) : List Int := ps.map fun p => p.1.sum
def farC (ps : List (List Int × Int)) : Int := 2 + mx (lowsOf ps) - mn (lowsOf ps)
def mixB (u : Int) (p : List Int × Int) : Bool := decide (0 ≤ mn p.1) && decide (p.1.sum = u)
def mixesB (u : Int) (ps : List (List Int × Int)) : Bool := ps.all (mixB u)
def cFar : FS := fun ds Q _ => ∃ n u ps, ds = [costD u ps] ∧ GC n u ps ∧ Q false (.int (farC ps))
def cMult : FS := fun ds Q _ => ∃ a t, ds = [tupI a, .int t] ∧ a.length ≤ 1000 ∧ (∀ x ∈ a, Sm x) ∧ Sm t ∧ Q false (tupI (scl t a))
structure SureOk (n : Nat) (u : Int) (ps : List (List Int × Int)) (a b : List Int) : Prop where
  ga : GS n a
  gb : GS n b
  gab : GS n (add a b)
  pos : ∀ x ∈ gainL u ps a b, 0 < x
def LowOk (ps : List (List Int × Int)) : Prop := ∀ p ∈ ps, p.2.natAbs ≤ 2 ^ 390
def cSure : FS := fun ds Q _ => ∃ n u ps, ds = [costD u ps] ∧ GC n u ps ∧ Sm u ∧ LowOk ps ∧ (mixesB u ps = true → Q false .non) ∧ (mixesB u ps = false → ∀ a b, SureOk n u ps a b → Q false (.tup [tupI a, tupI b]))
def posB (l : List Int) : Bool := l.all fun x => decide (0 < x)
def cIsSure : FS := fun ds Q _ => ∃ n u ps, GC n u ps ∧ Sm u ∧ ((∃ a b, ds = [costD u ps, .tup [tupI a, tupI b]] ∧ GS n a ∧ GS n b ∧ GS n (add a b) ∧ Q false (.bl (posB (gainL u ps a b)))) ∨ (ds = [costD u ps, .non] ∧ Q false (.bl false)))
def cAreMixes : FS := fun ds Q _ => ∃ n u ps, ds = [costD u ps] ∧ GC n u ps ∧ Q false (.bl (mixesB u ps))

structure GB (n : Nat) (u : Int) (ps : List (List Int × Int)) : Prop where
  gc : GC n u ps
  u1 : u ≤ 10 ^ 18
  each : ∀ p ∈ ps, (∀ x ∈ p.1, x.natAbs ≤ 10 ^ 20) ∧ p.2.natAbs ≤ 10 ^ 20
structure GT (n : Nat) (s : List Int) : Prop where
  len : s.length = n
  sm : ∀ x ∈ s, x.natAbs ≤ 10 ^ 21

def lowsU (u : Int) (ps : List (List Int × Int)) (o : Nat) : List Int := (ps.filter fun p => decide (p.1[o]? = some u)).map (·.2)
def begC (ps : List (List Int × Int)) (n : Nat) : Int := topC ps (List.replicate n 0)
def lossD (u : Int) (ps : List (List Int × Int)) (n o : Nat) : D := if (lowsU u ps o).isEmpty = true then .non else .int (begC ps n + mn (lowsU u ps o))
def lossesL (u : Int) (ps : List (List Int × Int)) (n : Nat) (k : Nat) : List D := (List.range k).map (lossD u ps n)
def cLosses : FS := fun ds Q _ => ∃ n u ps, ds = [costD u ps] ∧ GC n u ps ∧ Sm u ∧ LowOk ps ∧ mixesB u ps = true ∧ Q false (.tup (lossesL u ps n n))
def cDue77 : FS := fun ds Q _ => ∃ n u ps, ds = [costD u ps] ∧ GC n u ps ∧ Q false (.tup (lossesL u ps n n))
def cEnded : FS := fun ds Q _ => ∃ n u ps, ds = [.hand, costD u ps] ∧ GB n u ps ∧ mixesB u ps = true ∧ ps.length ≤ 18 ∧ ∀ ps', GB n u ps' → mixesB u ps' = true → Q false (costD u ps')
def cFar77 : FS := fun ds Q _ => ∃ n u ps o oi c, ds = [costD u ps, .int oi, .int c] ∧ oi = ((o : Nat) : Int) ∧ GB n u ps ∧ c.natAbs ≤ 10 ^ 60 ∧ Q false (tupI (scl (mx (lowsOf ps) - mn (lowsOf ps) + c) (unit1 n o)))
def cRight77 : FS := fun ds Q _ => ∃ n u ps, ds = [.hand, costD u ps] ∧ GB n u ps ∧ mixesB u ps = true ∧ Q false (.bl true)

def cNo : FS := fun _ _ _ => False
def FL (s : FS) : List (Nat × FS) := [(0, cIsInt), (1, cIsNum), (2, cAreInts), (3, cIsPair), (4, cAt), (30, cSummed), (38, cMult), (5, cIsPiece), (6, cIsCost), (7, cChkCost), (8, cOutc), (9, cChkSh), (10, cHts), (11, cReached), (31, cGained), (32, cGained), (39, cFar), (40, cSure), (49, cLosses), (15, cDraw), (16, cAny), (17, cMixed), (18, cInteger), (19, cMix), (20, cPrices), (21, cAt), (22, cShares), (23, cCost), (24, s), (33, cLawAt), (34, cSummed), (35, cGained), (25, cDue77), (50, cEnded), (51, cFar77), (26, cRight77)]
def Cs (s : FS) : Cn := ⟨⟨fun _ => none, fun _ => none⟩, lkF (FL s)⟩
def C : Cn := Cs cSame
def b_is_integer : Ss := (.cons (.ret (.and (.isi (.var 0) [.ty "int"]) (.un .not (.isi (.var 0) [.ty "bool"])))) .nil)
def b_is_number : Ss := (.cons (.ret (.and (.call 0 (.cons (.var 0) .nil)) (.cmp .ge (.var 0) (.int 0)))) .nil)
def b_are_integers : Ss := (.cons (.ret (.and (.isi (.var 0) [.ty "tuple"]) (.and (.cmp .eq (.blt .len (.cons (.var 0) .nil)) (.var 1)) (.blt .all (.cons (.cmpr [2] (.nm 2) (.seq (.var 0)) .none (.call 0 (.cons (.var 2) .nil))) .nil))))) .nil)
def b_is_pair : Ss := (.cons (.ret (.and (.isi (.var 0) [.ty "tuple"]) (.cmp .eq (.blt .len (.cons (.var 0) .nil)) (.int 2)))) .nil)
def b_at : Ss := (.cons (.ret (.blt .sum (.cons (.cmpr [2, 3] (.tp (.cons (.nm 2) (.cons (.nm 3) .nil))) (.zip (.var 0) (.var 1)) .none (.bin .mul (.var 2) (.var 3))) .nil))) .nil)
def b_summed : Ss := (.cons (.ret (.blt .tuple (.cons (.cmpr [2, 3] (.tp (.cons (.nm 2) (.cons (.nm 3) .nil))) (.zip (.var 0) (.var 1)) .none (.bin .add (.var 2) (.var 3))) .nil))) .nil)
def b_multiplied : Ss := (.cons (.ret (.blt .tuple (.cons (.cmpr [2] (.nm 2) (.seq (.var 0)) .none (.bin .mul (.var 2) (.var 1))) .nil))) .nil)
def b_is_piece : Ss := (.cons (.ret (.and (.call 3 (.cons (.var 0) .nil)) (.and (.call 2 (.cons (.idx (.var 0) (.int 0)) (.cons (.var 1) .nil))) (.call 0 (.cons (.idx (.var 0) (.int 1)) .nil))))) .nil)
def b_is_cost : Ss := (.cons (.ifs (.or (.un .not (.call 3 (.cons (.var 0) .nil))) (.or (.un .not (.call 1 (.cons (.idx (.var 0) (.int 0)) .nil))) (.cmp .eq (.idx (.var 0) (.int 0)) (.int 0)))) (.cons (.ret (.bl false)) .nil) .nil) (.cons (.asg (.nm 1) (.idx (.var 0) (.int 1))) (.cons (.ifs (.or (.un .not (.isi (.var 1) [.ty "tuple"])) (.un .not (.chn .le .le (.int 1) (.blt .len (.cons (.var 1) .nil)) (.int 1000)))) (.cons (.ret (.bl false)) .nil) .nil) (.cons (.ret (.blt .any (.cons (.cmpr [2] (.nm 2) (.rng (.cons (.int 2) (.cons (.bin .add (.int 4) (.int 1)) .nil))) .none (.blt .all (.cons (.cmpr [3] (.nm 3) (.seq (.var 1)) .none (.call 5 (.cons (.var 3) (.cons (.var 2) .nil)))) .nil))) .nil))) .nil))))
def b_check_cost : Ss := (.cons (.ifs (.un .not (.call 6 (.cons (.var 0) .nil))) (.cons (.rse "NoCost" .nil) .nil) .nil) .nil)
def b_outcomes_of : Ss := (.cons (.ret (.blt .len (.cons (.idx (.idx (.idx (.var 0) (.int 1)) (.int 0)) (.int 0)) .nil))) .nil)
def b_check_shares : Ss := (.cons (.ifs (.un .not (.call 2 (.cons (.var 1) (.cons (.call 8 (.cons (.var 0) .nil)) .nil)))) (.cons (.rse "NoShares" .nil) .nil) .nil) .nil)
def b_heights : Ss := (.cons (.ret (.cmpr [2, 3] (.tp (.cons (.nm 2) (.cons (.nm 3) .nil))) (.seq (.idx (.var 0) (.int 1))) .none (.bin .sub (.call 4 (.cons (.var 2) (.cons (.var 1) .nil))) (.var 3)))) .nil)
def b_reached : Ss := (.cons (.ret (.blt .max (.cons (.call 10 (.cons (.var 0) (.cons (.var 1) .nil))) .nil))) .nil)
def b_gained : Ss := (.cons (.asg (.nm 3) (.bin .sub (.call 11 (.cons (.var 0) (.cons (.call 30 (.cons (.var 1) (.cons (.var 2) .nil))) .nil))) (.call 11 (.cons (.var 0) (.cons (.var 1) .nil))))) (.cons (.ret (.blt .tuple (.cons (.cmpr [4] (.nm 4) (.seq (.var 2)) .none (.bin .sub (.bin .mul (.idx (.var 0) (.int 0)) (.var 4)) (.var 3))) .nil))) .nil))
def b_gain : Ss := (.cons (.expr (.call 7 (.cons (.var 0) .nil))) (.cons (.expr (.call 9 (.cons (.var 0) (.cons (.var 1) .nil)))) (.cons (.expr (.call 9 (.cons (.var 0) (.cons (.var 2) .nil)))) (.cons (.ret (.call 31 (.cons (.var 0) (.cons (.var 1) (.cons (.var 2) .nil))))) .nil))))
def b_far : Ss := (.cons (.asg (.nm 1) (.cmpr [2, 3] (.tp (.cons (.nm 2) (.cons (.nm 3) .nil))) (.seq (.idx (.var 0) (.int 1))) .none (.var 3))) (.cons (.ret (.bin .sub (.bin .add (.int 2) (.blt .max (.cons (.var 1) .nil))) (.blt .min (.cons (.var 1) .nil)))) .nil))
def b_sure : Ss := (.cons (.expr (.call 7 (.cons (.var 0) .nil))) (.cons (.par [4, 5] (.cons (.call 8 (.cons (.var 0) .nil)) (.cons (.call 39 (.cons (.var 0) .nil)) .nil))) (.cons (.asg (.nm 1) (.bin .mul (.tup (.cons (.int 1) .nil)) (.var 4))) (.cons (.asg (.nm 2) (.cmpr [7, 8] (.tp (.cons (.nm 7) (.cons (.nm 8) .nil))) (.seq (.idx (.var 0) (.int 1))) .none (.blt .sum (.cons (.var 7) .nil)))) (.cons (.ifs (.cmp .lt (.blt .min (.cons (.var 2) .nil)) (.idx (.var 0) (.int 0))) (.cons (.ret (.tup (.cons (.call 38 (.cons (.var 1) (.cons (.bin .sub (.int 0) (.var 5)) .nil))) (.cons (.var 1) .nil)))) .nil) .nil) (.cons (.ifs (.cmp .gt (.blt .max (.cons (.var 2) .nil)) (.idx (.var 0) (.int 0))) (.cons (.ret (.tup (.cons (.call 38 (.cons (.var 1) (.cons (.var 5) .nil))) (.cons (.call 38 (.cons (.var 1) (.cons (.un .neg (.int 1)) .nil))) .nil)))) .nil) .nil) (.cons (.frs (.nm 3) (.rng (.cons (.var 4) .nil)) (.cons (.ifs (.cmp .lt (.blt .min (.cons (.cmpr [7, 8] (.tp (.cons (.nm 7) (.cons (.nm 8) .nil))) (.seq (.idx (.var 0) (.int 1))) .none (.idx (.var 7) (.var 3))) .nil)) (.int 0)) (.cons (.asg (.nm 6) (.blt .tuple (.cons (.cmpr [9] (.nm 9) (.rng (.cons (.var 4) .nil)) .none (.blt .int (.cons (.cmp .eq (.var 9) (.var 3)) .nil))) .nil))) (.cons (.ret (.tup (.cons (.call 38 (.cons (.var 6) (.cons (.bin .sub (.int 0) (.var 5)) .nil))) (.cons (.var 6) .nil)))) .nil)) .nil) .nil)) (.cons (.ret .non) .nil))))))))
def b_losses : Ss := (.cons (.ifs (.cmp .isnot (.call 40 (.cons (.var 0) .nil)) .non) (.cons (.rse "Sure" .nil) .nil) .nil) (.cons (.par [3, 4] (.cons (.call 8 (.cons (.var 0) .nil)) (.cons (.lst .nil) .nil))) (.cons (.asg (.nm 1) (.call 11 (.cons (.var 0) (.cons (.bin .mul (.tup (.cons (.int 0) .nil)) (.var 3)) .nil)))) (.cons (.frs (.nm 2) (.rng (.cons (.var 3) .nil)) (.cons (.asg (.nm 5) (.cmpr [6, 7] (.tp (.cons (.nm 6) (.cons (.nm 7) .nil))) (.seq (.idx (.var 0) (.int 1))) (.some (.cmp .eq (.idx (.var 6) (.var 2)) (.idx (.var 0) (.int 0)))) (.var 7))) (.cons (.expr (.mth .append (.var 4) (.cons (.ite (.cmp .gt (.blt .len (.cons (.var 5) .nil)) (.int 0)) (.bin .add (.var 1) (.blt .min (.cons (.var 5) .nil))) .non) .nil))) .nil))) (.cons (.ret (.blt .tuple (.cons (.var 4) .nil))) .nil)))))
def b__law_draw : Ss := (.cons (.ifs (.and (.cmp .eq (.idx (.var 0) (.int 2)) (.int 0)) (.cmp .lt (.idx (.var 0) (.int 1)) (.blt .len (.cons (.idx (.var 0) (.int 0)) .nil)))) (.cons (.asg (.nm 3) (.idx (.idx (.var 0) (.int 0)) (.idx (.var 0) (.int 1)))) (.cons (.asg (.sub (.var 0) (.int 1)) (.bin .add (.idx (.var 0) (.int 1)) (.int 1))) (.cons (.asg (.sub (.var 0) (.int 3)) (.bin .mod (.blt .int (.cons (.bin .add (.bin .add (.bin .mul (.idx (.var 0) (.int 3)) (.int 69621)) (.var 3)) (.int 29)) .nil)) (.int 2147483629))) (.cons (.ifs (.cmp .ge (.var 3) (.bin .pow (.int 10) (.int 18))) (.cons (.asg (.sub (.var 0) (.int 2)) (.var 3)) .nil) .nil) .nil)))) .nil) (.cons (.ifs (.cmp .gt (.idx (.var 0) (.int 2)) (.int 0)) (.cons (.asg (.nm 4) (.bin .mod (.blt .int (.cons (.idx (.var 0) (.int 2)) .nil)) (.var 1))) (.cons (.asg (.sub (.var 0) (.int 2)) (.bin .fdiv (.idx (.var 0) (.int 2)) (.var 1))) (.cons (.ret (.var 4)) .nil))) .nil) (.cons (.asg (.sub (.var 0) (.int 4)) (.bin .add (.idx (.var 0) (.int 4)) (.int 1))) (.cons (.asg (.nm 2) (.bin .mod (.blt .int (.cons (.bin .mul (.blt .int (.cons (.bin .add (.idx (.var 0) (.int 3)) (.bin .mul (.int 7919) (.idx (.var 0) (.int 4)))) .nil)) (.int 48271)) .nil)) (.int 2147483647))) (.cons (.asg (.nm 2) (.bin .mod (.blt .int (.cons (.bin .mul (.var 2) (.bin .add (.bin .fdiv (.var 2) (.int 1009)) (.int 69621))) .nil)) (.int 2147483647))) (.cons (.asg (.nm 2) (.bin .mod (.blt .int (.cons (.bin .mul (.var 2) (.bin .add (.bin .fdiv (.var 2) (.int 2003)) (.int 40692))) .nil)) (.int 2147483399))) (.cons (.ret (.bin .mod (.blt .int (.cons (.bin .fdiv (.var 2) (.int 16)) .nil)) (.var 1))) .nil)))))))
def b__law_any : Ss := (.cons (.ret (.idx (.var 1) (.call 15 (.cons (.var 0) (.cons (.blt .len (.cons (.var 1) .nil)) .nil))))) .nil)
def b__law_mixed : Ss := (.cons (.par [2, 3] (.cons (.blt .list (.cons (.var 1) .nil)) (.cons (.lst .nil) .nil))) (.cons (.whl (.cmp .gt (.blt .len (.cons (.var 2) .nil)) (.int 0)) (.cons (.expr (.mth .append (.var 3) (.cons (.mth .pop (.var 2) (.cons (.call 15 (.cons (.var 0) (.cons (.blt .len (.cons (.var 2) .nil)) .nil))) .nil)) .nil))) .nil)) (.cons (.ret (.var 3)) .nil)))
def b__law_integer : Ss := (.cons (.asg (.nm 1) (.call 15 (.cons (.var 0) (.cons (.int 9) .nil)))) (.cons (.ifs (.cmp .eq (.var 1) (.int 8)) (.cons (.asg (.nm 3) (.bin .sub (.bin .add (.bin .mul (.bin .add (.int 1) (.call 15 (.cons (.var 0) (.cons (.int 9) .nil)))) (.call 16 (.cons (.var 0) (.cons (.lst (.cons (.bin .pow (.int 10) (.int 5)) (.cons (.bin .pow (.int 10) (.int 11)) (.cons (.bin .pow (.int 10) (.int 18)) .nil)))) .nil)))) (.call 15 (.cons (.var 0) (.cons (.int 7) .nil)))) (.int 3))) (.cons (.ret (.ite (.cmp .eq (.call 15 (.cons (.var 0) (.cons (.int 2) .nil))) (.int 0)) (.var 3) (.bin .sub (.int 0) (.var 3)))) .nil)) .nil) (.cons (.asg (.nm 2) (.ite (.cmp .lt (.var 1) (.int 3)) (.int 2) (.ite (.cmp .lt (.var 1) (.int 6)) (.int 9) (.int 99)))) (.cons (.ret (.bin .sub (.call 15 (.cons (.var 0) (.cons (.bin .add (.bin .mul (.int 2) (.var 2)) (.int 1)) .nil))) (.var 2))) .nil))))
def b__law_mix : Ss := (.cons (.par [4, 5] (.cons (.var 2) (.cons (.lst .nil) .nil))) (.cons (.frs (.nm 3) (.rng (.cons (.bin .sub (.var 1) (.int 1)) .nil)) (.cons (.expr (.mth .append (.var 5) (.cons (.call 16 (.cons (.var 0) (.cons (.lst (.cons (.int 0) (.cons (.var 4) (.cons (.call 15 (.cons (.var 0) (.cons (.bin .add (.var 4) (.int 1)) .nil))) (.cons (.call 15 (.cons (.var 0) (.cons (.bin .add (.var 4) (.int 1)) .nil))) .nil))))) .nil))) .nil))) (.cons (.asg (.nm 4) (.bin .sub (.var 4) (.idx (.var 5) (.un .neg (.int 1))))) .nil))) (.cons (.ret (.blt .tuple (.cons (.call 17 (.cons (.var 0) (.cons (.bin .add (.var 5) (.lst (.cons (.var 4) .nil))) .nil))) .nil))) .nil)))
def b__law_prices : Ss := (.cons (.par [4, 5] (.cons (.blt .list (.cons (.call 19 (.cons (.var 0) (.cons (.var 1) (.cons (.var 2) .nil)))) .nil)) (.cons (.call 15 (.cons (.var 0) (.cons (.var 1) .nil))) .nil))) (.cons (.ifs (.cmp .eq (.var 3) (.int 1)) (.cons (.asg (.sub (.var 4) (.var 5)) (.bin .add (.idx (.var 4) (.var 5)) (.call 16 (.cons (.var 0) (.cons (.lst (.cons (.int 1) (.cons (.un .neg (.int 1)) (.cons (.int 2) (.cons (.un .neg (.int 2)) (.cons (.var 2) .nil)))))) .nil))))) .nil) .nil) (.cons (.ifs (.cmp .eq (.var 3) (.int 2)) (.cons (.asg (.nm 6) (.bin .add (.bin .add (.idx (.var 4) (.var 5)) (.int 1)) (.call 15 (.cons (.var 0) (.cons (.int 3) .nil))))) (.cons (.asg (.nm 7) (.bin .mod (.blt .int (.cons (.bin .add (.bin .add (.var 5) (.int 1)) (.call 15 (.cons (.var 0) (.cons (.bin .sub (.var 1) (.int 1)) .nil)))) .nil)) (.var 1))) (.cons (.asg (.tp (.cons (.sub (.var 4) (.var 5)) (.cons (.sub (.var 4) (.var 7)) .nil))) (.tup (.cons (.bin .sub (.idx (.var 4) (.var 5)) (.var 6)) (.cons (.bin .add (.idx (.var 4) (.var 7)) (.var 6)) .nil)))) .nil))) .nil) (.cons (.ifs (.cmp .eq (.var 3) (.int 3)) (.cons (.asg (.nm 4) (.cmpr [8] (.nm 8) (.rng (.cons (.var 1) .nil)) .none (.call 18 (.cons (.var 0) .nil)))) .nil) .nil) (.cons (.ret (.blt .tuple (.cons (.var 4) .nil))) .nil)))))
def b__law_paid : Ss := (.cons (.ret (.blt .sum (.cons (.cmpr [2, 3] (.tp (.cons (.nm 2) (.cons (.nm 3) .nil))) (.zip (.var 0) (.var 1)) .none (.bin .mul (.var 2) (.var 3))) .nil))) .nil)
def b__law_shares : Ss := (.cons (.par [2, 3] (.cons (.call 15 (.cons (.var 0) (.cons (.int 7) .nil))) (.cons (.bin .mul (.lst (.cons (.int 0) .nil)) (.var 1)) .nil))) (.cons (.ifs (.cmp .eq (.var 2) (.int 1)) (.cons (.asg (.sub (.var 3) (.call 15 (.cons (.var 0) (.cons (.var 1) .nil)))) (.call 18 (.cons (.var 0) .nil))) .nil) .nil) (.cons (.ifs (.cmp .eq (.var 2) (.int 2)) (.cons (.asg (.nm 3) (.bin .mul (.lst (.cons (.call 18 (.cons (.var 0) .nil)) .nil)) (.var 1))) .nil) .nil) (.cons (.ifs (.cmp .isin (.var 2) (.tup (.cons (.int 3) (.cons (.int 4) .nil)))) (.cons (.asg (.nm 3) (.cmpr [4] (.nm 4) (.rng (.cons (.var 1) .nil)) .none (.bin .sub (.call 15 (.cons (.var 0) (.cons (.int 9) .nil))) (.int 4)))) .nil) .nil) (.cons (.ifs (.cmp .gt (.var 2) (.int 4)) (.cons (.asg (.nm 3) (.cmpr [4] (.nm 4) (.rng (.cons (.var 1) .nil)) .none (.call 18 (.cons (.var 0) .nil)))) .nil) .nil) (.cons (.ret (.blt .tuple (.cons (.var 3) .nil))) .nil))))))
def b__law_cost : Ss := (.cons (.par [4, 5] (.cons (.bin .add (.int 2) (.call 15 (.cons (.var 0) (.cons (.int 3) .nil)))) (.cons (.call 16 (.cons (.var 0) (.cons (.lst (.cons (.int 1) (.cons (.int 1) (.cons (.int 2) (.cons (.int 3) (.cons (.int 5) (.cons (.int 10) (.cons (.int 97) (.cons (.int 1000) (.cons (.bin .pow (.int 10) (.int 9)) (.cons (.bin .pow (.int 10) (.int 18)) .nil))))))))))) .nil))) .nil))) (.cons (.par [2, 6, 7] (.cons (.call 22 (.cons (.var 0) (.cons (.var 4) .nil))) (.cons (.call 15 (.cons (.var 0) (.cons (.int 3) .nil))) (.cons (.lst .nil) .nil)))) (.cons (.asg (.nm 2) (.ite (.cmp .lt (.blt .max (.cons (.cmpr [10] (.nm 10) (.seq (.var 2)) .none (.blt .abs (.cons (.var 10) .nil))) .nil)) (.int 100)) (.var 2) (.bin .mul (.tup (.cons (.int 1) .nil)) (.var 4)))) (.cons (.frs (.nm 3) (.rng (.cons (.call 16 (.cons (.var 0) (.cons (.lst (.cons (.int 1) (.cons (.int 1) (.cons (.int 2) (.cons (.int 2) (.cons (.int 3) (.cons (.int 4) (.cons (.int 6) (.cons (.int 9) .nil))))))))) .nil))) .nil)) (.cons (.asg (.nm 8) (.call 20 (.cons (.var 0) (.cons (.var 4) (.cons (.var 5) (.cons (.call 16 (.cons (.var 0) (.cons (.var 1) .nil))) .nil)))))) (.cons (.asg (.nm 9) (.ite (.cmp .eq (.var 6) (.int 0)) (.call 18 (.cons (.var 0) .nil)) (.bin .add (.call 21 (.cons (.var 8) (.cons (.var 2) .nil))) (.bin .mul (.var 6) (.bin .fdiv (.call 15 (.cons (.var 0) (.cons (.int 3) .nil))) (.int 2)))))) (.cons (.asg (.nm 9) (.ite (.cmp .lt (.blt .abs (.cons (.var 9) .nil)) (.bin .pow (.int 10) (.int 19))) (.var 9) (.call 15 (.cons (.var 0) (.cons (.int 9) .nil))))) (.cons (.expr (.mth .append (.var 7) (.cons (.tup (.cons (.var 8) (.cons (.var 9) .nil))) .nil))) (.cons (.ifs (.cmp .eq (.call 15 (.cons (.var 0) (.cons (.int 6) .nil))) (.int 0)) (.cons (.expr (.mth .append (.var 7) (.cons (.call 16 (.cons (.var 0) (.cons (.lst (.cons (.idx (.var 7) (.int 0)) (.cons (.tup (.cons (.var 8) (.cons (.bin .add (.var 9) (.int 1)) .nil))) (.cons (.tup (.cons (.var 8) (.cons (.bin .sub (.var 9) (.int 1)) .nil))) .nil)))) .nil))) .nil))) .nil) .nil) .nil)))))) (.cons (.ret (.tup (.cons (.var 5) (.cons (.blt .tuple (.cons (.call 17 (.cons (.var 0) (.cons (.var 7) .nil))) .nil)) .nil)))) .nil)))))
def b__law_same : Ss := (.cons (.ifs (.or (.isi (.var 1) [.ty "tuple"]) (.isi (.var 1) [.ty "list"])) (.cons (.ifs (.or (.cmp .ne (.isi (.var 0) [.ty "tuple"]) (.isi (.var 1) [.ty "tuple"])) (.cmp .ne (.isi (.var 0) [.ty "list"]) (.isi (.var 1) [.ty "list"]))) (.cons (.ret (.bl false)) .nil) .nil) (.cons (.ret (.and (.cmp .eq (.blt .len (.cons (.var 0) .nil)) (.blt .len (.cons (.var 1) .nil))) (.blt .all (.cons (.cmpr [2, 3] (.tp (.cons (.nm 2) (.cons (.nm 3) .nil))) (.zip (.var 0) (.var 1)) .none (.call 24 (.cons (.var 2) (.cons (.var 3) .nil)))) .nil)))) .nil)) .nil) (.cons (.ifs (.or (.cmp .is (.var 1) .non) (.un .not (.isi (.var 0) [.ty "int"]))) (.cons (.ret (.and (.cmp .is (.var 1) .non) (.cmp .is (.var 0) .non))) .nil) .nil) (.cons (.ret (.and (.cmp .eq (.isi (.var 0) [.ty "bool"]) (.isi (.var 1) [.ty "bool"])) (.cmp .eq (.var 0) (.var 1)))) .nil)))
def b__law_at : Ss := (.cons (.ret (.blt .max (.cons (.cmpr [2, 3] (.tp (.cons (.nm 2) (.cons (.nm 3) .nil))) (.seq (.idx (.var 0) (.int 1))) .none (.bin .sub (.call 21 (.cons (.var 2) (.cons (.var 1) .nil))) (.var 3))) .nil))) .nil)
def b__law_added : Ss := (.cons (.ret (.blt .tuple (.cons (.cmpr [2, 3] (.tp (.cons (.nm 2) (.cons (.nm 3) .nil))) (.zip (.var 0) (.var 1)) .none (.bin .add (.var 2) (.var 3))) .nil))) .nil)
def b__law_gain : Ss := (.cons (.asg (.nm 3) (.bin .sub (.call 33 (.cons (.var 0) (.cons (.call 34 (.cons (.var 1) (.cons (.var 2) .nil))) .nil))) (.call 33 (.cons (.var 0) (.cons (.var 1) .nil))))) (.cons (.ret (.blt .tuple (.cons (.cmpr [4] (.nm 4) (.seq (.var 2)) .none (.bin .sub (.bin .mul (.idx (.var 0) (.int 0)) (.var 4)) (.var 3))) .nil))) .nil))
def b__law_due : Ss := (.cons (.par [2, 3] (.cons (.blt .len (.cons (.idx (.idx (.idx (.var 0) (.int 1)) (.int 0)) (.int 0)) .nil)) (.cons (.lst .nil) .nil))) (.cons (.frs (.nm 1) (.rng (.cons (.var 2) .nil)) (.cons (.asg (.nm 4) (.cmpr [5, 6] (.tp (.cons (.nm 5) (.cons (.nm 6) .nil))) (.seq (.idx (.var 0) (.int 1))) (.some (.cmp .eq (.idx (.var 5) (.var 1)) (.idx (.var 0) (.int 0)))) (.var 6))) (.cons (.expr (.mth .append (.var 3) (.cons (.ite (.cmp .gt (.blt .len (.cons (.var 4) .nil)) (.int 0)) (.bin .add (.call 33 (.cons (.var 0) (.cons (.bin .mul (.tup (.cons (.int 0) .nil)) (.var 2)) .nil))) (.blt .min (.cons (.var 4) .nil))) .non) .nil))) .nil))) (.cons (.ret (.blt .tuple (.cons (.var 3) .nil))) .nil)))
def b__law_ended : Ss := (.cons (.par [3, 4] (.cons (.blt .len (.cons (.idx (.idx (.idx (.var 1) (.int 1)) (.int 0)) (.int 0)) .nil)) (.cons (.blt .list (.cons (.idx (.var 1) (.int 1)) .nil)) .nil))) (.cons (.frs (.nm 2) (.rng (.cons (.var 3) .nil)) (.cons (.asg (.nm 5) (.blt .tuple (.cons (.cmpr [8] (.nm 8) (.rng (.cons (.var 3) .nil)) .none (.bin .mul (.idx (.var 1) (.int 0)) (.blt .int (.cons (.cmp .eq (.var 2) (.var 8)) .nil)))) .nil))) (.cons (.asg (.nm 6) (.call 15 (.cons (.var 0) (.cons (.int 4) .nil)))) (.cons (.ifs (.and (.cmp .eq (.var 6) (.int 0)) (.cmp .gt (.blt .len (.cons (.var 4) .nil)) (.int 1))) (.cons (.asg (.nm 7) (.cmpr [9] (.nm 9) (.seq (.var 4)) (.some (.cmp .ne (.idx (.var 9) (.int 0)) (.var 5))) (.var 9))) (.cons (.asg (.nm 4) (.ite (.cmp .gt (.blt .len (.cons (.var 7) .nil)) (.int 0)) (.var 7) (.var 4))) .nil)) .nil) (.cons (.ifs (.cmp .gt (.var 6) (.int 1)) (.cons (.expr (.mth .append (.var 4) (.cons (.tup (.cons (.var 5) (.cons (.call 18 (.cons (.var 0) .nil)) .nil))) .nil))) .nil) .nil) (.cons (.ifs (.cmp .eq (.var 6) (.int 3)) (.cons (.expr (.mth .append (.var 4) (.cons (.tup (.cons (.var 5) (.cons (.call 18 (.cons (.var 0) .nil)) .nil))) .nil))) .nil) .nil) .nil)))))) (.cons (.ret (.tup (.cons (.idx (.var 1) (.int 0)) (.cons (.blt .tuple (.cons (.call 17 (.cons (.var 0) (.cons (.var 4) .nil))) .nil)) .nil)))) .nil)))
def b__law_far : Ss := (.cons (.asg (.nm 3) (.bin .sub (.blt .max (.cons (.cmpr [5, 6] (.tp (.cons (.nm 5) (.cons (.nm 6) .nil))) (.seq (.idx (.var 0) (.int 1))) .none (.var 6)) .nil)) (.blt .min (.cons (.cmpr [5, 6] (.tp (.cons (.nm 5) (.cons (.nm 6) .nil))) (.seq (.idx (.var 0) (.int 1))) .none (.var 6)) .nil)))) (.cons (.ret (.blt .tuple (.cons (.cmpr [4] (.nm 4) (.rng (.cons (.blt .len (.cons (.idx (.idx (.idx (.var 0) (.int 1)) (.int 0)) (.int 0)) .nil)) .nil)) .none (.bin .mul (.bin .add (.var 3) (.var 2)) (.blt .int (.cons (.cmp .eq (.var 1) (.var 4)) .nil)))) .nil))) .nil))
def b__law_is_right : Ss := (.cons (.asg (.tp (.cons (.nm 4) (.cons (.nm 5) .nil))) (.tup (.cons (.blt .len (.cons (.idx (.idx (.idx (.var 1) (.int 1)) (.int 0)) (.int 0)) .nil)) (.cons (.call 25 (.cons (.var 1) .nil)) .nil)))) (.cons (.par [6, 7] (.cons (.bin .mul (.tup (.cons (.int 0) .nil)) (.var 4)) (.cons (.blt .repr (.cons (.var 1) .nil)) .nil))) (.cons (.ifs (.or (.un .not (.call 24 (.cons (.call 49 (.cons (.var 1) .nil)) (.cons (.var 5) .nil)))) (.or (.un .not (.call 24 (.cons (.call 49 (.cons (.var 1) .nil)) (.cons (.var 5) .nil)))) (.cmp .ne (.blt .repr (.cons (.var 1) .nil)) (.var 7)))) (.cons (.ret (.bl false)) .nil) .nil) (.cons (.frs (.nm 2) (.rng (.cons (.var 4) .nil)) (.cons (.asg (.nm 8) (.bin .add (.bin .add (.blt .abs (.cons (.call 33 (.cons (.var 1) (.cons (.var 6) .nil))) .nil)) (.blt .max (.cons (.cmpr [9, 10] (.tp (.cons (.nm 9) (.cons (.nm 10) .nil))) (.seq (.idx (.var 1) (.int 1))) .none (.blt .abs (.cons (.var 10) .nil))) .nil))) (.call 15 (.cons (.var 0) (.cons (.bin .pow (.int 10) (.int 6)) .nil))))) (.cons (.ifs (.and (.cmp .isnot (.idx (.var 5) (.var 2)) .non) (.cmp .ne (.idx (.call 32 (.cons (.var 1) (.cons (.var 6) (.cons (.call 51 (.cons (.var 1) (.cons (.var 2) (.cons (.int 0) .nil)))) .nil)))) (.var 2)) (.idx (.var 5) (.var 2)))) (.cons (.ret (.bl false)) .nil) .nil) (.cons (.ifs (.and (.cmp .is (.idx (.var 5) (.var 2)) .non) (.cmp .le (.idx (.call 32 (.cons (.var 1) (.cons (.var 6) (.cons (.call 51 (.cons (.var 1) (.cons (.var 2) (.cons (.bin .add (.var 8) (.int 1)) .nil)))) .nil)))) (.var 2)) (.var 8))) (.cons (.ret (.bl false)) .nil) .nil) .nil)))) (.cons (.frs (.nm 3) (.rng (.cons (.int 4) .nil)) (.cons (.asg (.nm 8) (.call 32 (.cons (.var 1) (.cons (.var 6) (.cons (.call 22 (.cons (.var 0) (.cons (.var 4) .nil))) .nil))))) (.cons (.ifs (.blt .any (.cons (.cmpr [2] (.nm 2) (.rng (.cons (.var 4) .nil)) .none (.and (.cmp .isnot (.idx (.var 5) (.var 2)) .non) (.cmp .gt (.idx (.var 8) (.var 2)) (.idx (.var 5) (.var 2))))) .nil)) (.cons (.ret (.bl false)) .nil) .nil) .nil))) (.cons (.ret (.bl true)) .nil))))))
def b_law : Ss := (.cons (.frs (.nm 2) (.rng (.cons (.int 6) .nil)) (.cons (.asg (.nm 3) (.call 23 (.cons (.var 1) (.cons (.lst (.cons (.int 0) .nil)) .nil)))) (.cons (.ifs (.or (.un .not (.call 26 (.cons (.var 1) (.cons (.var 3) .nil)))) (.un .not (.call 26 (.cons (.var 1) (.cons (.call 50 (.cons (.var 1) (.cons (.var 3) .nil))) .nil))))) (.cons (.ret (.bl false)) .nil) .nil) .nil))) (.cons (.ret (.bl true)) .nil))
theorem same_si {s : FS} (d : D) (h : SI d) (Q X) (q : Q false (.bl true)) : wpFn (Cs s) 4 b__law_same [d, d] Q X := by
  rcases h with ⟨i, rfl⟩ | rfl
  · refine ⟨Nat.le_of_ble_eq_true rfl, ?_⟩
    refine ⟨_, rfl, _, rfl, fun h => (by cases h), fun _ => ?_⟩
    refine ⟨_, rfl, _, rfl, fun h => (by cases h), fun _ => ?_⟩
    refine ⟨rfl, _, rfl, fun h => (by cases h), fun _ => ?_⟩
    refine ⟨_, rfl, _, rfl, _, rfl, fun h => (by cases h), fun _ => ?_⟩
    refine ⟨_, rfl, _, rfl, _, rfl, fun _ => ?_, fun h => (by cases h)⟩
    show Q false (.bl (decide (i = i)))
    rw [decide_eq_true rfl]
    exact q
  · refine ⟨Nat.le_of_ble_eq_true rfl, ?_⟩
    refine ⟨_, rfl, _, rfl, fun h => (by cases h), fun _ => ?_⟩
    refine ⟨_, rfl, _, rfl, fun h => (by cases h), fun _ => ?_⟩
    refine ⟨rfl, _, rfl, fun _ => ?_, fun h => (by cases h)⟩
    refine ⟨_, rfl, fun _ => ?_, fun h => (by cases h)⟩
    exact ⟨rfl, _, rfl, fun _ => ⟨rfl, q⟩, fun h => (by cases h)⟩
theorem ok_same0 {s : FS} (ds Q X) (h : cSame0 ds Q X) : wpFn (Cs s) 4 b__law_same ds Q X := by
  obtain ⟨d, rfl, hd, q⟩ := h
  exact same_si d hd Q X q
theorem zip_selfD : ∀ xs : List D, zipD xs xs = xs.map fun d => .tup [d, d]
  | [] => rfl
  | x :: xs => by
    show _ :: zipD xs xs = _
    rw [zip_selfD xs]
    rfl
theorem mapD_bl (b : Bool) (l : List D) : (l.map fun _ => D.bl b) = (List.replicate l.length b).map .bl := map_bl b l
theorem ok_same (ds Q X) (h : cSame ds Q X) : wpFn (Cs cSame0) 4 b__law_same ds Q X := by
  obtain ⟨d, rfl, hd | ⟨xs, rfl, hl, hx⟩, q⟩ := h
  · exact same_si d hd Q X q
  · refine ⟨Nat.le_of_ble_eq_true rfl, ?_⟩
    refine ⟨_, rfl, _, rfl, fun _ => ?_, fun h => (by cases h)⟩
    refine ⟨_, rfl, fun _ => ?_, fun h => (by cases h)⟩
    refine ⟨_, rfl, _, rfl, _, rfl, fun h => (by cases h), fun _ => ?_⟩
    refine ⟨_, rfl, _, rfl, _, rfl, fun h => (by cases h), fun _ => ?_⟩
    refine ⟨_, rfl, fun _ => ?_, fun h => ?_⟩
    · refine cmp_g xs _ (fun _ => .bl true) (zip_selfD xs) ⟨trivial, trivial, trivial⟩ trivial (size1000 hl) (fun d hd K1 K0 hk => ⟨rfl, rfl, d, rfl, hx d hd, hk _ rfl⟩) ?_
      refine ⟨_, by rw [map_bl]; exact boolsOf_map _, ?_⟩
      rw [all_true]
      exact q
    · have h := of_decide_eq_false h
      exact absurd rfl h

theorem mem_hts {ps : List (List Int × Int)} {s : List Int} (h : ps ≠ []) : hts ps s ≠ [] := by
  unfold hts
  simpa using h
theorem replB : ∀ (n : Nat) (l : List (List Int × Int)), n = l.length → (l.map fun _ => D.bl true) = (List.replicate n true).map .bl := fun n l h => by
  rw [map_bl, h]
theorem ok_is_integer (ds Q X) (h : cIsInt ds Q X) : wpFn C 1 b_is_integer ds Q X := by
  obtain ⟨i, rfl, q⟩ := h
  refine ⟨Nat.le_of_ble_eq_true rfl, ?_⟩
  walk_at "s"
  refine ⟨_, rfl, fun _ => ?_, fun h => by cases h⟩
  exact ⟨_, rfl, _, rfl, q⟩
theorem ok_is_number (ds Q X) (h : cIsNum ds Q X) : wpFn C 1 b_is_number ds Q X := by
  obtain ⟨i, rfl, q⟩ := h
  refine ⟨Nat.le_of_ble_eq_true rfl, ?_⟩
  refine ⟨i, rfl, ?_⟩
  exact ⟨_, rfl, fun _ => q, fun h => by cases h⟩
theorem ok_are_integers (ds Q X) (h : cAreInts ds Q X) : wpFn C 3 b_are_integers ds Q X := by
  obtain ⟨ns, k, rfl, hl, q⟩ := h
  refine ⟨Nat.le_of_ble_eq_true rfl, ?_⟩
  walk_at "s"
  refine ⟨_, rfl, fun _ => ?_, fun h => by cases h⟩
  refine ⟨_, rfl, fun h => ?_, fun h => ?_⟩
  · refine cmp_g ns .int (fun _ => .bl true) rfl ⟨trivial, trivial⟩ trivial (size1000 hl) (fun i _ K1 K0 hk => ⟨i, rfl, hk _ rfl⟩) ?_
    refine ⟨_, by rw [map_bl]; exact boolsOf_map _, ?_⟩
    rw [List.length_map] at h
    rw [all_true]
    rw [h] at q
    exact q
  · rw [List.length_map] at h ⊢
    exact q
theorem ok_is_pair (ds Q X) (h : cIsPair ds Q X) : wpFn C 1 b_is_pair ds Q X := by
  obtain ⟨d, rfl, ht, q⟩ := h
  refine ⟨Nat.le_of_ble_eq_true rfl, ?_⟩
  cases d with
  | tup xs => exact ⟨_, rfl, _, rfl, fun _ => q, fun h => (by cases h)⟩
  | non => exact ⟨_, rfl, _, rfl, fun h => (by cases h), fun _ => q⟩
  | bl b => exact ⟨_, rfl, _, rfl, fun h => (by cases h), fun _ => q⟩
  | int i => exact ⟨_, rfl, _, rfl, fun h => (by cases h), fun _ => q⟩
  | str s => exact ⟨_, rfl, _, rfl, fun h => (by cases h), fun _ => q⟩
  | lst xs => exact ⟨_, rfl, _, rfl, fun h => (by cases h), fun _ => q⟩
  | dic ks vs => exact ⟨_, rfl, _, rfl, fun h => (by cases h), fun _ => q⟩
  | _ => cases ht
theorem ok_at (ds Q X) (h : cAt ds Q X) : wpFn C 4 b_at ds Q X := by
  obtain ⟨a, b, rfl, hl, ha, hb, q⟩ := h
  refine ⟨Nat.le_of_ble_eq_true rfl, ?_⟩
  refine cmp_g (List.zip a b) _ (fun p => .int (p.1 * p.2)) (zip_ints a b) ⟨trivial, trivial, trivial⟩ trivial ?_ (fun p hp K1 K0 hk => ?_) ?_
  · rw [List.length_zip]
    exact size1000 (Nat.le_trans (Nat.min_le_left _ _) hl)
  · obtain ⟨x, y⟩ := p
    obtain ⟨h1, h2⟩ := zip_fst hp
    exact ⟨rfl, rfl, mul_ok (ha x h1) (hb y h2), hk _ rfl⟩
  · exact ⟨_, by rw [zip_dot]; exact intsOf_map _, q⟩
theorem ok_is_piece (ds Q X) (h : cIsPiece ds Q X) : wpFn C 2 b_is_piece ds Q X := by
  obtain ⟨p, k, rfl, hl, q⟩ := h
  refine ⟨Nat.le_of_ble_eq_true rfl, ?_⟩
  refine ⟨_, rfl, rfl, ?_⟩
  refine ⟨_, rfl, fun _ => ?_, fun h => by cases h⟩
  walk_at "s"
  refine ⟨p.1, k, rfl, hl, ?_⟩
  refine ⟨_, rfl, fun h => ?_, fun h => ?_⟩
  · refine ⟨_, rfl, p.2, rfl, ?_⟩
    rw [h] at q
    exact q
  · exact q
theorem ok_is_cost (ds Q X) (h : cIsCost ds Q X) : wpFn C 4 b_is_cost ds Q X := by
  obtain ⟨n, u, ps, rfl, g, q⟩ := h
  have u0 := g.u0
  have n2 := g.n2
  have n4 := g.n4
  have ne := g.ne
  have gl := g.len
  refine ⟨Nat.le_of_ble_eq_true rfl, ?_⟩
  have tail : wpSs C (Ss.drop 1 b_is_cost) [.sh (costD u ps), .un, .un, .un] { nx := fun _ => Q false .non, rt := retK Q } fun c o _ => X c o := by
    have tail2 : wpSs C (Ss.drop 3 b_is_cost) [.sh (costD u ps), .sh (.tup (ps.map piD)), .un, .un] { nx := fun _ => Q false .non, rt := retK Q } fun c o _ => X c o := by
      refine ⟨b62_ok (by decide) (by decide), b62_ok (by decide) (by decide), ?_⟩
      refine cmp_g (List.range 3) (fun (k : Nat) => .int (2 + (k : Int))) (fun k => .bl (decide ((n : Int) = 2 + (k : Int)))) rfl ⟨trivial, trivial⟩ trivial (by decide) (fun k _ K1 K0 hk => ?_) ?_
      · refine cmp_g ps piD (fun _ => .bl (decide ((n : Int) = 2 + (k : Int)))) rfl ⟨trivial, trivial⟩ trivial (size1000 gl) (fun p hp K1 K0 hk => ?_) ?_
        · refine ⟨p, _, rfl, by rw [(g.each p hp).1]; omega, ?_⟩
          rw [(g.each p hp).1]
          exact hk _ rfl
        · refine ⟨_, by rw [map_bl]; exact boolsOf_map _, ?_⟩
          have e : (List.replicate ps.length (decide ((n : Int) = 2 + (k : Int)))).all id = decide ((n : Int) = 2 + (k : Int)) := by
            cases ps with
            | nil => exact absurd rfl ne
            | cons p r =>
              cases decide ((n : Int) = 2 + (k : Int)) with
              | true => exact all_true _
              | false =>
                rw [List.length_cons, List.replicate_succ, List.all_cons]
                rfl
          rw [e]
          exact hk _ rfl
      · refine ⟨[decide ((n : Int) = 2 + (0 : Nat)), decide ((n : Int) = 2 + (1 : Nat)), decide ((n : Int) = 2 + (2 : Nat))], rfl, ?_⟩
        have e : [decide ((n : Int) = 2 + (0 : Nat)), decide ((n : Int) = 2 + (1 : Nat)), decide ((n : Int) = 2 + (2 : Nat))].any id = true := by
          have h3 : n = 2 ∨ n = 3 ∨ n = 4 := by omega
          rcases h3 with rfl | rfl | rfl <;> rfl
        rw [e]
        exact q
    walk_at "s"
    refine ⟨_, rfl, fun h => (by cases h), fun _ => ?_⟩
    refine ⟨_, rfl, fun h => ?_, fun h => ?_⟩
    · refine ⟨_, rfl, _, rfl, fun h' => ?_, fun _ => tail2⟩
      rw [List.length_map] at h'
      have : (ps.length : Int) ≤ 1000 := by omega
      rw [decide_eq_true this] at h'
      cases h'
    · rw [List.length_map] at h
      have h1 := of_decide_eq_false h
      have : 0 < ps.length := List.length_pos_iff.mpr ne
      omega
  refine ⟨_, rfl, rfl, ?_⟩
  refine ⟨_, rfl, _, rfl, fun h => (by cases h), fun _ => ?_⟩
  walk_at "s"
  refine ⟨_, rfl, fun h => ?_, fun _ => ?_⟩
  · have : decide (0 ≤ u) = true := decide_eq_true (by omega)
    rw [this] at h
    cases h
  · walk_at "s"
    refine ⟨_, rfl, fun h => ?_, fun _ => tail⟩
    have := of_decide_eq_true h
    omega
theorem ok_check_cost (ds Q X) (h : cChkCost ds Q X) : wpFn C 1 b_check_cost ds Q X := by
  obtain ⟨n, u, ps, rfl, g, q⟩ := h
  refine ⟨Nat.le_of_ble_eq_true rfl, ?_⟩
  refine ⟨n, u, ps, rfl, g, ?_⟩
  exact ⟨_, rfl, _, rfl, fun h => (by cases h), fun _ => q⟩
theorem ok_outcomes_of (ds Q X) (h : cOutc ds Q X) : wpFn C 1 b_outcomes_of ds Q X := by
  obtain ⟨n, u, ps, rfl, g, q⟩ := h
  refine ⟨Nat.le_of_ble_eq_true rfl, ?_⟩
  match ps, g with
  | [], g => exact absurd rfl g.ne
  | p :: r, g =>
    refine ⟨_, rfl, _, atI_zero _ _, _, rfl, ?_⟩
    have e := (g.each p (by simp)).1
    show Q false (.int (((p.1.map D.int).length : Nat) : Int))
    rw [List.length_map, e]
    exact q
theorem ok_check_shares (ds Q X) (h : cChkSh ds Q X) : wpFn C 2 b_check_shares ds Q X := by
  obtain ⟨n, u, ps, s, rfl, g, gs, q⟩ := h
  have n4 := g.n4
  refine ⟨Nat.le_of_ble_eq_true rfl, ?_⟩
  refine ⟨n, u, ps, rfl, g, ?_⟩
  refine ⟨s, _, rfl, by rw [gs.len]; omega, ?_⟩
  rw [gs.len]
  exact ⟨_, rfl, _, rfl, fun h => (by rw [decide_eq_true rfl] at h; cases h), fun _ => q⟩
theorem ok_heights (ds Q X) (h : cHts ds Q X) : wpFn C 4 b_heights ds Q X := by
  obtain ⟨n, u, ps, s, rfl, g, gs, q⟩ := h
  refine ⟨Nat.le_of_ble_eq_true rfl, ?_⟩
  refine ⟨_, rfl, ?_⟩
  refine cmp_g ps piD (fun p => .int (dot p.1 s - p.2)) rfl ⟨trivial, trivial, trivial⟩ trivial (size1000 g.len) (fun p hp K1 K0 hk => ?_) ?_
  · obtain ⟨e1, e2, e3⟩ := g.each p hp
    have n4 := g.n4
    exact ⟨rfl, rfl, p.1, s, rfl, by omega, e2, gs.sm, hk _ rfl⟩
  · have e : (hts ps s).map D.int = ps.map fun p => D.int (dot p.1 s - p.2) := by
      unfold hts
      rw [List.map_map]
      rfl
    rw [e] at q
    exact q
theorem ok_reached (ds Q X) (h : cReached ds Q X) : wpFn C 2 b_reached ds Q X := by
  obtain ⟨n, u, ps, s, rfl, g, gs, q⟩ := h
  refine ⟨Nat.le_of_ble_eq_true rfl, ?_⟩
  refine ⟨n, u, ps, s, rfl, g, gs, ?_⟩
  exact ⟨_, intsOf_map _, mem_hts g.ne, q⟩
def pyPi (p : List Int × Int) : PyData := .tuple [pyTup p.1, .int p.2]
def pyCost (u : Int) (ps : List (List Int × Int)) : PyData := .tuple [.int u, .tuple (ps.map pyPi)]
theorem py_pi (p : List Int × Int) : D.py (piD p) = some (pyPi p) := by
  show (pyAll [tupI p.1, .int p.2]).map PyData.tuple = _
  have e : pyAll [tupI p.1, .int p.2] = some [pyTup p.1, .int p.2] := by
    unfold pyAll
    rw [py_tup]
    rfl
  rw [e]
  rfl
theorem py_cost (u : Int) (ps : List (List Int × Int)) : D.py (costD u ps) = some (pyCost u ps) := by
  show (pyAll [.int u, .tup (ps.map piD)]).map PyData.tuple = _
  have e1 : D.py (.tup (ps.map piD)) = some (.tuple (ps.map pyPi)) := by
    show (pyAll (ps.map piD)).map PyData.tuple = _
    rw [pyAll_map py_pi]
    rfl
  have e : pyAll [.int u, .tup (ps.map piD)] = some [.int u, .tuple (ps.map pyPi)] := by
    unfold pyAll
    rw [show D.py (.int u) = some (.int u) from rfl]
    unfold pyAll
    rw [e1]
    rfl
  rw [e]
  rfl
theorem shw_cost {n : Nat} {u : Int} {ps : List (List Int × Int)} (g : GC n u ps) (hu : Sm u) : Shw (costD u ps) (pyCost u ps) := by
  have n4 := g.n4
  have gl := g.len
  have each : ∀ p ∈ ps, (pyPi p).showable = true ∧ (pyPi p).depth ≤ 2 ∧ (pyPi p).leavesShort 408 = true ∧ (pyPi p).bulk ≤ 6 := fun p hp => by
    obtain ⟨e1, e2, e3⟩ := g.each p hp
    obtain ⟨h1, h2, h3, h4⟩ := tup_facts e2
    unfold pyPi
    refine ⟨?_, ?_, ?_, ?_⟩
    · unfold PyData.showable PyData.showableAll PyData.showableAll PyData.showableAll
      rw [h1, int_show e3]
      rfl
    · unfold PyData.depth PyData.depthAll PyData.depthAll PyData.depthAll
      have : (PyData.int p.2).depth = 0 := rfl
      omega
    · unfold PyData.leavesShort PyData.leavesShortAll PyData.leavesShortAll PyData.leavesShortAll
      rw [h3, int_short e3]
      rfl
    · unfold PyData.bulk PyData.bulkAll PyData.bulkAll PyData.bulkAll
      have : (PyData.int p.2).bulk = 0 := rfl
      omega
  refine shw_of (py_cost u ps) ?_ ?_ ?_ ?_
  · unfold pyCost PyData.showable PyData.showableAll PyData.showableAll PyData.showableAll
    have : (PyData.tuple (ps.map pyPi)).showable = true := by
      unfold PyData.showable
      exact show_all fun p hp => (each p hp).1
    rw [this, int_show hu]
    rfl
  · unfold pyCost PyData.depth PyData.depthAll PyData.depthAll PyData.depthAll
    have e : (PyData.tuple (ps.map pyPi)).depth ≤ 3 := by
      unfold PyData.depth
      have := depth_all (g := pyPi) (k := 2) (l := ps) fun p hp => (each p hp).2.1
      omega
    have : (PyData.int u).depth = 0 := rfl
    omega
  · unfold pyCost PyData.leavesShort PyData.leavesShortAll PyData.leavesShortAll PyData.leavesShortAll
    have : (PyData.tuple (ps.map pyPi)).leavesShort 408 = true := by
      unfold PyData.leavesShort
      exact short_all fun p hp => (each p hp).2.2.1
    rw [this, int_short hu]
    rfl
  · unfold pyCost PyData.bulk PyData.bulkAll PyData.bulkAll PyData.bulkAll
    have e : (PyData.tuple (ps.map pyPi)).bulk ≤ ps.length * 7 := by
      unfold PyData.bulk
      exact bulk_all (g := pyPi) (k := 6) (l := ps) fun p hp => (each p hp).2.2.2
    have : (PyData.int u).bulk = 0 := rfl
    omega

theorem ok_any (ds Q X) (h : cAny ds Q X) : wpFn C 2 b__law_any ds Q X := by
  obtain ⟨xs, e, ne, hl, q⟩ := h
  have p : (0 : Int) < xs.length := by
    have := List.length_pos_iff.mpr ne
    omega
  rcases e with rfl | rfl
  · refine ⟨Nat.le_of_ble_eq_true rfl, ?_⟩
    refine ⟨_, rfl, p, by omega, fun n h0 h1 => ?_⟩
    obtain ⟨d, hd, e⟩ := atI_in h0 h1
    exact ⟨d, e, q d hd⟩
  · refine ⟨Nat.le_of_ble_eq_true rfl, ?_⟩
    refine ⟨_, rfl, p, by omega, fun n h0 h1 => ?_⟩
    obtain ⟨d, hd, e⟩ := atI_in h0 h1
    exact ⟨d, e, q d hd⟩
theorem ok_mixed (ds Q X) (h : cMixed ds Q X) : wpFn C 4 b__law_mixed ds Q X := by
  obtain ⟨xs, e, hl, q⟩ := h
  have loop : ∀ (a b : Sl), wpSs C (Ss.drop 1 b__law_mixed) [.sh .hand, a, .ow (.lst xs), .ow (.lst [])] { nx := fun _ => Q false .non, rt := retK Q } fun c o _ => X c o := by
    intro a b
    refine ⟨fun n m => ∃ l f, m = [.sh .hand, a, .ow (.lst l), .ow (.lst f)] ∧ (f ++ l).Perm xs ∧ n = l.length, ⟨_, xs, [], rfl, .refl _, rfl⟩, ?_⟩
    rintro n m ⟨l, f, rfl, hp, rfl⟩
    have len := hp.length_eq
    rw [List.length_append] at len
    refine ⟨_, rfl, fun h => ?_, fun h => ?_⟩
    · have h := of_decide_eq_true h
      refine ⟨trivial, trivial, _, rfl, h, by omega, fun n h0 h1 => ?_⟩
      have hk : n.toNat < l.length := by omega
      refine ⟨by omega, by omega, _, seq_in h0 h1, l[n.toNat], List.getElem?_eq_getElem hk, ?_⟩
      refine ⟨by have := size1000 (n := 1000) (Nat.le_refl _); have e : sizeLine = 16777216 := sizeLine_eq; omega, ?_⟩
      refine ⟨(l.eraseIdx n.toNat).length, ?_, l.eraseIdx n.toNat, f ++ [l[n.toNat]], rfl, ?_, rfl⟩
      · rw [List.length_eraseIdx_of_lt hk]
        omega
      · rw [List.append_assoc]
        exact ((erase_perm (List.getElem?_eq_getElem hk)).append_left f).trans hp
    · have h := of_decide_eq_false h
      have : l = [] := List.length_eq_zero_iff.mp (by omega)
      subst this
      rw [List.append_nil] at hp
      exact ⟨rfl, q f hp⟩
  rcases e with rfl | rfl
  · exact ⟨Nat.le_of_ble_eq_true rfl, loop _ .un⟩
  · exact ⟨Nat.le_of_ble_eq_true rfl, loop _ .un⟩
theorem ok_integer (ds Q X) (h : cInteger ds Q X) : wpFn C 4 b__law_integer ds Q X := by
  obtain ⟨rfl, q⟩ := h
  refine ⟨Nat.le_of_ble_eq_true rfl, ?_⟩
  refine ⟨9, rfl, by decide, by decide, fun k k0 k1 => ?_⟩
  refine ⟨_, rfl, fun h => ?_, fun h => ?_⟩
  · refine ⟨9, rfl, by decide, by decide, fun a a0 a1 => ?_⟩
    refine ⟨by decide, by decide, by decide, by decide, by decide, by decide, by decide, by decide, by decide, ?_⟩
    refine ⟨_, .inl rfl, by simp, Nat.le_of_ble_eq_true rfl, fun d hd => ?_⟩
    obtain ⟨w, rfl, w0, w1⟩ : ∃ w : Int, d = .int w ∧ 0 ≤ w ∧ w ≤ 10 ^ 18 := by
      simp only [List.mem_cons, List.not_mem_nil, or_false] at hd
      rcases hd with rfl | rfl | rfl
      · exact ⟨_, rfl, by decide, by decide⟩
      · exact ⟨_, rfl, by decide, by decide⟩
      · exact ⟨_, rfl, by decide, by decide⟩
    refine ⟨.inl (.inl (by omega)), 7, rfl, by decide, by decide, fun b b0 b1 => ?_⟩
    have p1 : (1 + a) * w ≤ 9 * 10 ^ 18 := Int.mul_le_mul (by omega) w1 w0 (by decide)
    have p0 : 0 ≤ (1 + a) * w := Int.mul_nonneg (by omega) w0
    refine ⟨2, rfl, by decide, by decide, fun c c0 c1 => ?_⟩
    refine ⟨_, rfl, fun _ => ?_, fun _ => ?_⟩
    · exact q _ (by omega)
    · exact q _ (by omega)
  · have last : ∀ (w : Int), 0 ≤ w → w ≤ 99 → wpSs C (Ss.drop 3 b__law_integer) [.sh .hand, .sh (.int k), .sh (.int w), .un] { nx := fun _ => Q false .non, rt := retK Q } fun c o _ => X c o := fun w w0 w1 => by
      refine ⟨.inl (.inl (by decide)), _, rfl, by omega, by omega, fun n n0 n1 => ?_⟩
      exact q _ (by omega)
    refine ⟨_, rfl, fun _ => last 2 (by decide) (by decide), fun _ => ?_⟩
    exact ⟨_, rfl, fun _ => last 9 (by decide) (by decide), fun _ => last 99 (by decide) (by decide)⟩
theorem ok_mix (ds Q X) (h : cMix ds Q X) : wpFn C 6 b__law_mix ds Q X := by
  obtain ⟨k, u, rfl, k2, k4, u0, u1, q⟩ := h
  have sz : sizeLine = 16777216 := sizeLine_eq
  refine ⟨Nat.le_of_ble_eq_true rfl, ?_⟩
  refine ⟨b62_ok (by omega) (by omega), ?_⟩
  refine loop_ok (fun i m => ∃ (l : Int) (f : List Int) (s : Sl), m = [.sh .hand, .sh (.int k), .sh (.int u), s, .sh (.int l), .ow (.lst (f.map .int))] ∧ f.length = i ∧ (∀ x ∈ f, 0 ≤ x ∧ x ≤ u) ∧ 0 ≤ l ∧ f.sum + l = u) trivial ⟨u, [], .un, rfl, rfl, by simp, by omega, by simp⟩ ?_ ?_
  · rintro i d m2 hi ⟨l, f, s, rfl, hf, hx, hl, hsum⟩ P2 n1 n2 n3 n4
    have il : i < k := by
      obtain ⟨_, h⟩ := range_get hi
      omega
    have lu : l ≤ u := by
      have : 0 ≤ f.sum := sum_nn fun x h => (hx x h).1
      omega
    refine ⟨trivial, _, rfl, by omega, by omega, fun a a0 a1 => ⟨_, rfl, by omega, by omega, fun b b0 b1 => ?_⟩⟩
    refine ⟨_, .inl rfl, by simp, Nat.le_of_ble_eq_true rfl, fun d hd => ?_⟩
    obtain ⟨w, rfl, w0, w1⟩ : ∃ w : Int, d = .int w ∧ 0 ≤ w ∧ w ≤ l := by
      simp only [List.mem_cons, List.not_mem_nil, or_false] at hd
      rcases hd with rfl | rfl | rfl | rfl
      · exact ⟨_, rfl, by omega, hl⟩
      · exact ⟨_, rfl, hl, by omega⟩
      · exact ⟨_, rfl, a0, by omega⟩
      · exact ⟨_, rfl, b0, by omega⟩
    refine ⟨by rw [List.length_map]; omega, .int w, atI_last _ _, ?_⟩
    refine n1 _ ⟨l - w, f ++ [w], _, by rw [List.map_append]; rfl, by rw [List.length_append, hf]; rfl, fun x hxm => ?_, by omega, by rw [List.sum_append]; simp; omega⟩
    rcases List.mem_append.mp hxm with hxm | hxm
    · exact hx x hxm
    · have : x = w := by simpa using hxm
      subst this
      exact ⟨w0, by omega⟩
  · rintro m2 ⟨l, f, s, rfl, hf, hx, hl, hsum⟩
    have lu : l ≤ u := by
      have : 0 ≤ f.sum := sum_nn fun x h => (hx x h).1
      omega
    rw [range_len] at hf
    have hf : f.length = k - 1 := by omega
    refine ⟨by rw [List.length_map]; show f.length + 1 ≤ _; omega, ?_⟩
    refine ⟨_, .inl rfl, by rw [List.length_append, List.length_map]; show f.length + 1 ≤ _; omega, fun ys hp => ?_⟩
    obtain ⟨ns, hp2, rfl⟩ := perm_map D.int hp (f ++ [l]) (by rw [List.map_append]; rfl)
    refine q ns (by rw [hp2.length_eq, List.length_append, hf]; show k - 1 + 1 = k; omega) (fun x hxm => ?_) (by rw [sum_perm hp2, List.sum_append]; simp; omega)
    rcases List.mem_append.mp (hp2.mem_iff.mp hxm) with hxm | hxm
    · exact hx x hxm
    · have : x = l := by simpa using hxm
      subst this
      exact ⟨hl, lu⟩
theorem ok_paid (ds Q X) (h : cAt ds Q X) : wpFn C 4 b__law_paid ds Q X := ok_at ds Q X h
theorem ok_prices (ds Q X) (h : cPrices ds Q X) : wpFn C 9 b__law_prices ds Q X := by
  obtain ⟨k, u, kind, rfl, k2, k4, u0, u1, q⟩ := h
  have sz : sizeLine = 16777216 := sizeLine_eq
  let P : Po := { nx := fun _ => Q false .non, rt := retK Q }
  let Good : List Int → Prop := fun ns => ns.length = k ∧ (∀ x ∈ ns, x.natAbs ≤ 10 ^ 20) ∧ (kind = 0 → (∀ x ∈ ns, 0 ≤ x) ∧ ns.sum = u)
  have t4 : ∀ (ns : List Int) (a b c d : Sl), Good ns → wpSs C (Ss.drop 4 b__law_prices) [.sh .hand, .sh (.int k), .sh (.int u), .sh (.int kind), .ow (.lst (ns.map .int)), a, b, c, d] P fun c o _ => X c o := fun ns a b c d g => q ns g.1 g.2.1 g.2.2
  have t3 : ∀ (ns : List Int) (a b c : Sl), Good ns → wpSs C (Ss.drop 3 b__law_prices) [.sh .hand, .sh (.int k), .sh (.int u), .sh (.int kind), .ow (.lst (ns.map .int)), a, b, c, .un] P fun c o _ => X c o := fun ns a b c g => by
    refine ⟨_, rfl, fun h => ?_, fun _ => t4 ns a b c .un g⟩
    have hk := of_decide_eq_true h
    refine ⟨b62_ok (by omega) (by omega), ?_⟩
    refine cmp_each (fun v => ∃ x : Int, v = .int x ∧ x.natAbs < 10 ^ 19) ⟨trivial, trivial⟩ trivial (by rw [range_len]; omega) (fun d hd K1 K0 hk => ?_) fun vs hl hv => ?_
    · obtain ⟨i, _, rfl⟩ := List.mem_map.mp hd
      exact ⟨rfl, fun n hn => hk _ _ rfl ⟨n, rfl, hn⟩⟩
    · obtain ⟨ns', rfl, hn⟩ := ints_of hv
      rw [List.length_map, range_len] at hl
      exact t4 ns' a b c .un ⟨by omega, fun x hx => by have := hn x hx; omega, fun z => by omega⟩
  have t2 : ∀ (ns : List Int) (sp : Int), 0 ≤ sp → sp < k → (∀ x ∈ ns, x.natAbs ≤ 2 * 10 ^ 18 ∧ (kind = 2 → x.natAbs ≤ 10 ^ 18)) → Good ns → wpSs C (Ss.drop 2 b__law_prices) [.sh .hand, .sh (.int k), .sh (.int u), .sh (.int kind), .ow (.lst (ns.map .int)), .sh (.int sp), .un, .un, .un] P fun c o _ => X c o := fun ns sp sp0 sp1 hb g => by
    refine ⟨_, rfl, fun h => ?_, fun _ => t3 ns _ _ _ g⟩
    have hk := of_decide_eq_true h
    obtain ⟨x, hx, ex⟩ := atI_in (ns := ns) sp0 (by rw [g.1]; exact sp1)
    refine ⟨_, atI_map ex, 3, rfl, by decide, by decide, fun a a0 a1 => ?_⟩
    refine ⟨_, rfl, by omega, by omega, fun b b0 b1 => ?_⟩
    refine ⟨by omega, ?_⟩
    have o0 : 0 ≤ (sp + 1 + b) % (k : Int) := Int.emod_nonneg _ (by omega)
    have o1 : (sp + 1 + b) % (k : Int) < k := Int.emod_lt_of_pos _ (by omega)
    obtain ⟨y, hy, ey⟩ := atI_in (ns := ns) o0 (by rw [g.1]; exact o1)
    refine ⟨_, atI_map ex, _, atI_map ey, rfl, ?_⟩
    refine ⟨sp.toNat, ixN_in sp0 (by rw [List.length_map, g.1]; exact sp1), ?_⟩
    refine ⟨((sp + 1 + b) % (k : Int)).toNat, ixN_in o0 (by rw [List.length_set, List.length_map, g.1]; exact o1), rfl, ?_⟩
    have e1 : (((ns.map D.int).set sp.toNat (.int (x - (x + 1 + a)))).set ((sp + 1 + b) % (k : Int)).toNat (.int (y + (x + 1 + a)))) = ((ns.set sp.toNat (x - (x + 1 + a))).set ((sp + 1 + b) % (k : Int)).toNat (y + (x + 1 + a))).map .int := by
      rw [map_set, map_set]
    rw [e1]
    have bx := (hb x hx).2 hk
    have bY := (hb y hy).2 hk
    refine t3 _ _ _ _ ⟨by rw [List.length_set, List.length_set, g.1], fun z hz => ?_, fun z => by omega⟩
    rcases mem_set hz with rfl | hz
    · omega
    · rcases mem_set hz with rfl | hz
      · omega
      · exact g.2.1 z hz
  refine ⟨Nat.le_of_ble_eq_true rfl, ?_⟩
  refine ⟨k, u, rfl, k2, k4, u0, u1, fun ns hl hx hs => ?_⟩
  refine ⟨_, rfl, by omega, by omega, fun sp sp0 sp1 => ?_⟩
  have g : Good ns := ⟨hl, fun x h => by have := hx x h; omega, fun _ => ⟨fun x h => (hx x h).1, hs⟩⟩
  refine ⟨_, rfl, fun h => ?_, fun _ => t2 ns sp sp0 sp1 (fun x h => ⟨by have := hx x h; omega, fun _ => by have := hx x h; omega⟩) g⟩
  have hk := of_decide_eq_true h
  obtain ⟨x, hxm, ex⟩ := atI_in (ns := ns) sp0 (by rw [hl]; exact sp1)
  have bx := hx x hxm
  refine ⟨_, atI_map ex, _, .inl rfl, by simp, Nat.le_of_ble_eq_true rfl, fun d hd => ?_⟩
  obtain ⟨w, rfl, w0⟩ : ∃ w : Int, d = .int w ∧ w.natAbs ≤ 10 ^ 18 := by
    simp only [List.mem_cons, List.not_mem_nil, or_false] at hd
    rcases hd with rfl | rfl | rfl | rfl | rfl
    · exact ⟨_, rfl, by decide⟩
    · exact ⟨_, rfl, by decide⟩
    · exact ⟨_, rfl, by decide⟩
    · exact ⟨_, rfl, by decide⟩
    · exact ⟨_, rfl, by omega⟩
  refine ⟨sp.toNat, ixN_in sp0 (by rw [List.length_map, hl]; exact sp1), ?_⟩
  have e1 : (ns.map D.int).set sp.toNat (.int (x + w)) = (ns.set sp.toNat (x + w)).map .int := map_set _ _ _
  rw [e1]
  have bb : ∀ z ∈ ns.set sp.toNat (x + w), z.natAbs ≤ 2 * 10 ^ 18 := fun z hz => by
    rcases mem_set hz with rfl | hz
    · omega
    · have := hx z hz
      omega
  exact t2 _ sp sp0 sp1 (fun z hz => ⟨bb z hz, fun _ => by omega⟩) ⟨by rw [List.length_set, hl], fun z hz => by have := bb z hz; omega, fun z => by omega⟩
theorem ok_shares (ds Q X) (h : cShares ds Q X) : wpFn C 5 b__law_shares ds Q X := by
  obtain ⟨k, rfl, k2, k4, q⟩ := h
  have sz : sizeLine = 16777216 := sizeLine_eq
  let P : Po := { nx := fun _ => Q false .non, rt := retK Q }
  let Good : List Int → Prop := fun ns => ns.length = k ∧ ∀ x ∈ ns, x.natAbs < 10 ^ 19
  have t5 : ∀ (d : Int) (ns : List Int) (a : Sl), Good ns → wpSs C (Ss.drop 5 b__law_shares) [.sh .hand, .sh (.int k), .sh (.int d), .ow (.lst (ns.map .int)), a] P fun c o _ => X c o := fun d ns a g => q ns g.1 g.2
  have t4 : ∀ (d : Int) (ns : List Int) (a : Sl), a = .un → Good ns → wpSs C (Ss.drop 4 b__law_shares) [.sh .hand, .sh (.int k), .sh (.int d), .ow (.lst (ns.map .int)), a] P fun c o _ => X c o := fun d ns a ea g => by
    subst ea
    refine ⟨_, rfl, fun h => ?_, fun _ => t5 d ns .un g⟩
    refine ⟨b62_ok (by omega) (by omega), ?_⟩
    refine cmp_each (fun v => ∃ x : Int, v = .int x ∧ x.natAbs < 10 ^ 19) ⟨trivial, trivial⟩ trivial (by rw [range_len]; omega) (fun d hd K1 K0 hk => ?_) fun vs hl hv => ?_
    · obtain ⟨i, _, rfl⟩ := List.mem_map.mp hd
      exact ⟨rfl, fun n hn => hk _ _ rfl ⟨n, rfl, hn⟩⟩
    · obtain ⟨ns', rfl, hn⟩ := ints_of hv
      rw [List.length_map, range_len] at hl
      exact t5 d ns' .un ⟨by omega, hn⟩
  have t3 : ∀ (d : Int) (ns : List Int), Good ns → wpSs C (Ss.drop 3 b__law_shares) [.sh .hand, .sh (.int k), .sh (.int d), .ow (.lst (ns.map .int)), .un] P fun c o _ => X c o := fun d ns g => by
    refine ⟨_, _, rfl, rfl, Nat.le_of_ble_eq_true rfl, _, rfl, fun h => ?_, fun _ => t4 d ns .un rfl g⟩
    refine ⟨b62_ok (by omega) (by omega), ?_⟩
    refine cmp_each (fun v => ∃ x : Int, v = .int x ∧ x.natAbs < 10 ^ 19) ⟨trivial, trivial⟩ trivial (by rw [range_len]; omega) (fun d hd K1 K0 hk => ?_) fun vs hl hv => ?_
    · obtain ⟨i, _, rfl⟩ := List.mem_map.mp hd
      exact ⟨9, rfl, by decide, by decide, fun n n0 n1 => hk _ _ rfl ⟨n - 4, rfl, by omega⟩⟩
    · obtain ⟨ns', rfl, hn⟩ := ints_of hv
      rw [List.length_map, range_len] at hl
      exact t4 d ns' .un rfl ⟨by omega, hn⟩
  have rep : ∀ x : Int, (List.replicate ((k : Int).toNat) [D.int x]).flatten = (List.replicate k x).map .int := fun x => by
    rw [rep_flat, List.map_replicate, Int.toNat_natCast]
  have goodRep : ∀ x : Int, x.natAbs < 10 ^ 19 → Good (List.replicate k x) := fun x hx => ⟨List.length_replicate, fun y hy => by rw [(List.mem_replicate.mp hy).2]; exact hx⟩
  have t2 : ∀ (d : Int) (ns : List Int), Good ns → wpSs C (Ss.drop 2 b__law_shares) [.sh .hand, .sh (.int k), .sh (.int d), .ow (.lst (ns.map .int)), .un] P fun c o _ => X c o := fun d ns g => by
    refine ⟨_, rfl, fun h => ?_, fun _ => t3 d ns g⟩
    refine ⟨rfl, fun n hn => ⟨by omega, by omega, by show 1 * _ ≤ _; omega, ?_⟩⟩
    rw [rep]
    exact t3 d _ (goodRep n hn)
  refine ⟨Nat.le_of_ble_eq_true rfl, ?_⟩
  refine ⟨7, rfl, by decide, by decide, fun d d0 d1 => ⟨by omega, by omega, by show 1 * _ ≤ _; omega, ?_⟩⟩
  rw [rep]
  have g0 := goodRep 0 (by decide)
  refine ⟨_, rfl, fun h => ?_, fun _ => t2 d _ g0⟩
  refine ⟨rfl, fun x hx => ⟨_, rfl, by omega, by omega, fun i i0 i1 => ?_⟩⟩
  refine ⟨i.toNat, ixN_in i0 (by rw [List.length_map, g0.1]; exact i1), ?_⟩
  rw [map_set]
  exact t2 d _ ⟨by rw [List.length_set, g0.1], fun y hy => by
    rcases mem_set hy with rfl | hy
    · exact hx
    · exact g0.2 y hy⟩
theorem ok_cost (ds Q X) (h : cCost ds Q X) : wpFn C 11 b__law_cost ds Q X := by
  obtain ⟨kinds, rfl, kne, klen, q⟩ := h
  have sz : sizeLine = 16777216 := sizeLine_eq
  let P : Po := { nx := fun _ => Q false .non, rt := retK Q }
  let Z : Prop := ∀ x ∈ kinds, x = 0
  let PG : Nat → Int → List Int × Int → Prop := fun n u p => p.1.length = n ∧ (∀ x ∈ p.1, x.natAbs ≤ 10 ^ 20) ∧ p.2.natAbs ≤ 10 ^ 20 ∧ (Z → (∀ x ∈ p.1, 0 ≤ x) ∧ p.1.sum = u)
  have t3 : ∀ (n : Nat) (u : Int) (pt : List Int) (st : Int), 2 ≤ n → n ≤ 4 → 0 < u → u ≤ 10 ^ 18 → pt.length = n → (∀ x ∈ pt, x.natAbs < 10 ^ 19) → 0 ≤ st → st < 3 →
      wpSs C (Ss.drop 3 b__law_cost) [.sh .hand, .sh (.lst (kinds.map .int)), .sh (tupI pt), .un, .sh (.int n), .sh (.int u), .sh (.int st), .ow (.lst []), .un, .un, .un] P fun c o _ => X c o := by
    intro n u pt st n2 n4 u0 u1 hpt hpx st0 st1
    refine ⟨_, .inl rfl, by simp, Nat.le_of_ble_eq_true rfl, fun d hd => ?_⟩
    obtain ⟨t, rfl, t1, t9⟩ : ∃ t : Int, d = .int t ∧ 1 ≤ t ∧ t ≤ 9 := by
      simp only [List.mem_cons, List.not_mem_nil, or_false] at hd
      rcases hd with rfl | rfl | rfl | rfl | rfl | rfl | rfl | rfl <;> exact ⟨_, rfl, by decide, by decide⟩
    refine ⟨b62_ok (by omega) (by omega), ?_⟩
    refine loop_ok (fun i m => ∃ (ps : List (List Int × Int)) (a b c : Sl), m = [.sh .hand, .sh (.lst (kinds.map .int)), .sh (tupI pt), a, .sh (.int n), .sh (.int u), .sh (.int st), .ow (.lst (ps.map piD)), b, c, .un] ∧ ps.length ≤ 2 * i ∧ (i ≠ 0 → ps ≠ []) ∧ ∀ p ∈ ps, PG n u p) trivial ⟨[], .un, .un, .un, rfl, by simp, by simp, by simp⟩ ?_ ?_
    · rintro i d m2 hi ⟨ps, a, b, c, rfl, pl, pn, pg⟩ P2 n1 n2' n3 n4'
      have il : i < 9 := by
        obtain ⟨_, h⟩ := range_get hi
        omega
      have last : ∀ (ti : D) (pr : List Int) (l : Int), PG n u (pr, l) → l.natAbs < 10 ^ 19 → wpSs C (Ss.drop 3 (S.body (Ss.get 3 b__law_cost))) [.sh .hand, .sh (.lst (kinds.map .int)), .sh (tupI pt), .sh ti, .sh (.int n), .sh (.int u), .sh (.int st), .ow (.lst (ps.map piD)), .sh (tupI pr), .sh (.int l), .un] P2 fun c o _ => X c o := by
        intro ti pr l g lb
        refine ⟨trivial, by rw [List.length_map]; omega, ?_⟩
        have e1 : ps.map piD ++ [.tup [tupI pr, .int l]] = (ps ++ [(pr, l)]).map piD := by
          rw [List.map_append]
          rfl
        rw [e1]
        have g1 : ∀ p ∈ ps ++ [(pr, l)], PG n u p := fun p hp => by
          rcases List.mem_append.mp hp with hp | hp
          · exact pg p hp
          · have : p = (pr, l) := by simpa using hp
            rw [this]
            exact g
        refine ⟨6, rfl, by decide, by decide, fun e e0 e1 => ?_⟩
        refine ⟨_, rfl, fun h => ?_, fun _ => ?_⟩
        · obtain ⟨p0, hp0, ep0⟩ := atI_in (ns := ps ++ [(pr, l)]) (i := 0) (by decide) (by rw [List.length_append]; show (0 : Int) < ((ps.length + 1 : Nat) : Int); omega)
          refine ⟨trivial, _, atI_mapg piD ep0, _, .inl rfl, by simp, Nat.le_of_ble_eq_true rfl, fun d hd => ?_⟩
          obtain ⟨p, rfl, gp⟩ : ∃ p, d = piD p ∧ PG n u p := by
            simp only [List.mem_cons, List.not_mem_nil, or_false] at hd
            rcases hd with rfl | rfl | rfl
            · exact ⟨p0, rfl, g1 p0 hp0⟩
            · exact ⟨(pr, l + 1), rfl, g.1, g.2.1, (by show (l + 1).natAbs ≤ _; omega), g.2.2.2⟩
            · exact ⟨(pr, l - 1), rfl, g.1, g.2.1, (by show (l - 1).natAbs ≤ _; omega), g.2.2.2⟩
          refine ⟨by rw [List.length_map, List.length_append]; show ps.length + 1 < _; omega, ?_⟩
          have e2 : (ps ++ [(pr, l)]).map piD ++ [piD p] = (ps ++ [(pr, l)] ++ [p]).map piD := by
            rw [List.map_append (l₁ := ps ++ [(pr, l)])]
            rfl
          rw [e2]
          refine n1 _ ⟨ps ++ [(pr, l)] ++ [p], _, _, _, rfl, by rw [List.length_append, List.length_append]; show ps.length + 1 + 1 ≤ _; omega, fun _ => by simp, fun x hx => ?_⟩
          rcases List.mem_append.mp hx with hx | hx
          · exact g1 x hx
          · have : x = p := by simpa using hx
            rw [this]
            exact gp
        · exact n1 _ ⟨ps ++ [(pr, l)], _, _, _, rfl, by rw [List.length_append]; show ps.length + 1 ≤ _; omega, fun _ => by simp, g1⟩
      have mid : ∀ (ti : D) (pr : List Int) (l : Int), pr.length = n → (∀ x ∈ pr, x.natAbs ≤ 10 ^ 20) → (Z → (∀ x ∈ pr, 0 ≤ x) ∧ pr.sum = u) → wpSs C (Ss.drop 2 (S.body (Ss.get 3 b__law_cost))) [.sh .hand, .sh (.lst (kinds.map .int)), .sh (tupI pt), .sh ti, .sh (.int n), .sh (.int u), .sh (.int st), .ow (.lst (ps.map piD)), .sh (tupI pr), .sh (.int l), .un] P2 fun c o _ => X c o := by
        intro ti pr l h1 h2 h3
        refine ⟨by decide, by decide, by decide, ?_⟩
        refine ⟨_, rfl, fun h => ?_, fun _ => ?_⟩
        · have h := of_decide_eq_true h
          have lb : l.natAbs < 10 ^ 19 := by
            have h : (if l < 0 then -l else l) < (10 : Int) ^ 19 := h
            split at h <;> omega
          exact last ti pr l ⟨h1, h2, by show l.natAbs ≤ _; omega, h3⟩ lb
        · refine ⟨9, rfl, by decide, by decide, fun e e0 e1 => ?_⟩
          exact last ti pr e ⟨h1, h2, by show e.natAbs ≤ _; omega, h3⟩ (by omega)
      refine ⟨_, .inl rfl, by simpa using kne, by rw [List.length_map]; omega, fun dk hk => ?_⟩
      obtain ⟨kind, hkm, rfl⟩ := List.mem_map.mp hk
      refine ⟨n, u, kind, rfl, n2, n4, u0, u1, fun pr h1 h2 h3 => ?_⟩
      have hz : Z → (∀ x ∈ pr, 0 ≤ x) ∧ pr.sum = u := fun z => h3 (z kind hkm)
      refine ⟨_, rfl, fun _ => ⟨rfl, fun l hl => mid d pr l h1 h2 hz⟩, fun _ => ?_⟩
      refine ⟨pr, pt, rfl, by omega, fun x hx => ?_, fun x hx => ?_, ?_⟩
      · exact Nat.lt_of_le_of_lt (h2 x hx) (by decide)
      · exact Nat.lt_trans (hpx x hx) (by decide)
      · refine ⟨3, rfl, by decide, by decide, fun e e0 e1 => ?_⟩
        exact ⟨by decide, by decide, .inl (.inl (by omega)), mid d pr _ h1 h2 hz⟩
    · rintro m2 ⟨ps, a, b, c, rfl, pl, pn, pg⟩
      rw [range_len] at pl pn
      refine ⟨_, .inl rfl, by rw [List.length_map]; omega, fun ys hp => ?_⟩
      obtain ⟨ps', hp2, rfl⟩ := perm_map piD hp ps rfl
      have pg' : ∀ p ∈ ps', PG n u p := fun p hp => pg p (hp2.mem_iff.mp hp)
      have l' := hp2.length_eq
      refine q n u ps' ⟨n2, n4, u0, fun z => ?_, by omega, fun p hp => ?_⟩ (fun z p hp => (pg' p hp).2.2.2 z) u1 (by omega) fun p hp => ⟨(pg' p hp).2.1, (pg' p hp).2.2.1⟩
      · rw [z] at l'
        exact pn (by omega) (List.length_eq_zero_iff.mp l'.symm)
      · obtain ⟨h1, h2, h3, _⟩ := pg' p hp
        exact ⟨h1, fun x hx => Nat.lt_of_le_of_lt (h2 x hx) (by decide), Nat.lt_of_le_of_lt h3 (by decide)⟩
  refine ⟨Nat.le_of_ble_eq_true rfl, ?_⟩
  have t1 : ∀ (n : Nat) (u : Int), 2 ≤ n → n ≤ 4 → 0 < u → u ≤ 10 ^ 18 → wpSs C (Ss.drop 1 b__law_cost) [.sh .hand, .sh (.lst (kinds.map .int)), .un, .un, .sh (.int n), .sh (.int u), .un, .un, .un, .un, .un] P fun c o _ => X c o := by
    intro n u n2 n4 u0 u1
    refine ⟨n, rfl, n2, n4, fun pt hl hx => ?_⟩
    refine ⟨3, rfl, by decide, by decide, fun st st0 st1 => ?_⟩
    refine cmp_g pt .int (fun x => .int (if x < 0 then -x else x)) rfl ⟨trivial, trivial⟩ trivial (by omega) (fun x hxm K1 K0 hk => hk _ rfl) ?_
    refine ⟨pt.map fun x => if x < 0 then -x else x, by rw [← intsOf_map, List.map_map]; rfl, fun z => ?_, fun m _ _ => ?_⟩
    · have : pt = [] := by simpa using z
      rw [this] at hl
      simp at hl
      omega
    · refine ⟨_, rfl, fun _ => t3 n u pt st n2 n4 u0 u1 hl hx st0 st1, fun _ => ?_⟩
      refine ⟨by simp, by omega, by omega, Nat.le_of_ble_eq_true rfl, ?_⟩
      have e : (List.replicate ((n : Int).toNat) [D.int 1]).flatten = (List.replicate n (1 : Int)).map .int := by
        rw [rep_flat, List.map_replicate, Int.toNat_natCast]
      rw [e]
      exact t3 n u (List.replicate n 1) st n2 n4 u0 u1 List.length_replicate (fun y hy => by rw [(List.mem_replicate.mp hy).2]; decide) st0 st1
  refine ⟨3, rfl, by decide, by decide, fun a a0 a1 => ?_⟩
  refine ⟨by decide, by decide, by decide, by decide, by decide, by decide, ?_⟩
  refine ⟨_, .inl rfl, by simp, Nat.le_of_ble_eq_true rfl, fun d hd => ?_⟩
  obtain ⟨w, rfl, w0, w1⟩ : ∃ w : Int, d = .int w ∧ 0 < w ∧ w ≤ 10 ^ 18 := by
    simp only [List.mem_cons, List.not_mem_nil, or_false] at hd
    rcases hd with rfl | rfl | rfl | rfl | rfl | rfl | rfl | rfl | rfl | rfl <;> exact ⟨_, rfl, by decide, by decide⟩
  have h := t1 (2 + a).toNat w (by omega) (by omega) w0 w1
  have e : (((2 + a).toNat : Nat) : Int) = 2 + a := by omega
  rw [e] at h
  exact h
theorem same_int {s : FS} (i : Int) (Q X) (q : Q false (.bl true)) : wpFn (Cs s) 4 b__law_same [.int i, .int i] Q X := by
  refine ⟨Nat.le_of_ble_eq_true rfl, ?_⟩
  refine ⟨_, rfl, _, rfl, fun h => (by cases h), fun _ => ?_⟩
  refine ⟨_, rfl, _, rfl, fun h => (by cases h), fun _ => ?_⟩
  refine ⟨rfl, _, rfl, fun h => (by cases h), fun _ => ?_⟩
  refine ⟨_, rfl, _, rfl, _, rfl, fun h => (by cases h), fun _ => ?_⟩
  refine ⟨_, rfl, _, rfl, _, rfl, fun _ => ?_, fun h => (by cases h)⟩
  show Q false (.bl (decide (i = i)))
  rw [decide_eq_true rfl]
  exact q
theorem top_eq {ps : List (List Int × Int)} {s : List Int} {m : Int} (h1 : m ∈ hts ps s) (h2 : ∀ y ∈ hts ps s, y ≤ m) : m = topC ps s := mx_eq h1 h2
theorem first_piece {n : Nat} {u : Int} {ps : List (List Int × Int)} (g : GC n u ps) : ∃ p : List Int × Int, atI (ps.map piD) 0 = some (piD p) ∧ (p.1.map D.int).length = n := by
  match ps, g with
  | [], g => exact absurd rfl g.ne
  | p :: r, g =>
    exact ⟨p, atI_zero _ _, by rw [List.length_map]; exact (g.each p (by simp)).1⟩
theorem ok_summed (ds Q X) (h : cSummed ds Q X) : wpFn C 4 b_summed ds Q X := by
  obtain ⟨a, b, rfl, hl, q⟩ := h
  refine ⟨Nat.le_of_ble_eq_true rfl, ?_⟩
  refine cmp_g (List.zip a b) _ (fun p => .int (p.1 + p.2)) (zip_ints a b) ⟨trivial, trivial, trivial⟩ trivial ?_ (fun p hp K1 K0 hk => ?_) ?_
  · rw [List.length_zip]
    exact size1000 (Nat.le_trans (Nat.min_le_left _ _) hl)
  · obtain ⟨x, y⟩ := p
    exact ⟨rfl, rfl, hk _ rfl⟩
  · unfold tupI at q
    rw [← zip_add] at q
    exact q
theorem ok_added (ds Q X) (h : cSummed ds Q X) : wpFn C 4 b__law_added ds Q X := by
  obtain ⟨a, b, rfl, hl, q⟩ := h
  refine ⟨Nat.le_of_ble_eq_true rfl, ?_⟩
  refine cmp_g (List.zip a b) _ (fun p => .int (p.1 + p.2)) (zip_ints a b) ⟨trivial, trivial, trivial⟩ trivial ?_ (fun p hp K1 K0 hk => ?_) ?_
  · rw [List.length_zip]
    exact size1000 (Nat.le_trans (Nat.min_le_left _ _) hl)
  · obtain ⟨x, y⟩ := p
    exact ⟨rfl, rfl, hk _ rfl⟩
  · unfold tupI at q
    rw [← zip_add] at q
    exact q
theorem ok_gained (ds Q X) (h : cGained ds Q X) : wpFn C 5 b_gained ds Q X := by
  obtain ⟨n, u, ps, a, b, rfl, g, hu, ga, gb, gab, q⟩ := h
  have n4 := g.n4
  refine ⟨Nat.le_of_ble_eq_true rfl, ?_⟩
  refine ⟨a, b, rfl, by rw [ga.len]; omega, ?_⟩
  refine ⟨n, u, ps, _, rfl, g, gab, fun m1 h1 h1' => ?_⟩
  refine ⟨n, u, ps, _, rfl, g, ga, fun m2 h2 h2' => ?_⟩
  obtain rfl := top_eq h1 h1'
  obtain rfl := top_eq h2 h2'
  refine cmp_g b .int (fun x => .int (u * x - (topC ps (add a b) - topC ps a))) rfl ⟨trivial, trivial⟩ trivial (by rw [gb.len]; exact size1000 (by omega)) (fun x hx K1 K0 hk => ?_) ?_
  · exact ⟨_, rfl, mul_ok hu (gb.sm x hx), hk _ rfl⟩
  · unfold gainL at q
    rw [← tup_ints] at q
    exact q
theorem ok_gain (ds Q X) (h : cGained ds Q X) : wpFn C 3 b_gain ds Q X := by
  obtain ⟨n, u, ps, a, b, rfl, g, hu, ga, gb, gab, q⟩ := h
  refine ⟨Nat.le_of_ble_eq_true rfl, ?_⟩
  exact ⟨n, u, ps, rfl, g, n, u, ps, a, rfl, g, ga, n, u, ps, b, rfl, g, gb, n, u, ps, a, b, rfl, g, hu, ga, gb, gab, q⟩
theorem ok_lawat (ds Q X) (h : cLawAt ds Q X) : wpFn C 4 b__law_at ds Q X := by
  obtain ⟨n, u, ps, s, rfl, g, gs, q⟩ := h
  refine ⟨Nat.le_of_ble_eq_true rfl, ?_⟩
  refine ⟨_, rfl, ?_⟩
  refine cmp_g ps piD (fun p => .int (dot p.1 s - p.2)) rfl ⟨trivial, trivial, trivial⟩ trivial (size1000 g.len) (fun p hp K1 K0 hk => ?_) ?_
  · obtain ⟨e1, e2, e3⟩ := g.each p hp
    have n4 := g.n4
    exact ⟨rfl, rfl, p.1, s, rfl, by omega, e2, gs.sm, hk _ rfl⟩
  · have e : (hts ps s).map D.int = ps.map fun p => D.int (dot p.1 s - p.2) := by
      unfold hts
      rw [List.map_map]
      rfl
    refine ⟨hts ps s, by rw [← e]; exact intsOf_map _, mem_hts g.ne, fun m h1 h2 => ?_⟩
    obtain rfl := top_eq h1 h2
    exact q
theorem ok_lawgain (ds Q X) (h : cGained ds Q X) : wpFn C 5 b__law_gain ds Q X := by
  obtain ⟨n, u, ps, a, b, rfl, g, hu, ga, gb, gab, q⟩ := h
  have n4 := g.n4
  refine ⟨Nat.le_of_ble_eq_true rfl, ?_⟩
  refine ⟨a, b, rfl, by rw [ga.len]; omega, ?_⟩
  refine ⟨n, u, ps, _, rfl, g, gab, ?_⟩
  refine ⟨n, u, ps, _, rfl, g, ga, ?_⟩
  refine cmp_g b .int (fun x => .int (u * x - (topC ps (add a b) - topC ps a))) rfl ⟨trivial, trivial⟩ trivial (by rw [gb.len]; exact size1000 (by omega)) (fun x hx K1 K0 hk => ?_) ?_
  · exact ⟨_, rfl, mul_ok hu (gb.sm x hx), hk _ rfl⟩
  · unfold gainL at q
    rw [← tup_ints] at q
    exact q
theorem gainL_len (u : Int) (ps : List (List Int × Int)) (a b : List Int) : (gainL u ps a b).length = b.length := by
  unfold gainL
  rw [List.length_map]
theorem gainL_zero (u : Int) (ps : List (List Int × Int)) (a : List Int) : gainL u ps a (List.replicate a.length 0) = List.replicate a.length 0 := by
  unfold gainL
  rw [add_zero', List.map_replicate]
  congr 1
  omega
theorem gainL_add (u : Int) (ps : List (List Int × Int)) (a b c : List Int) : add (gainL u ps a b) (gainL u ps (add a b) c) = gainL u ps a (add b c) := by
  unfold gainL
  rw [← add_assoc']
  exact add_map (fun x y => by rw [Int.mul_add]; omega) b c
theorem gainL_back (u : Int) (ps : List (List Int × Int)) (a b : List Int) (h : a.length = b.length) : gainL u ps (add a b) (b.map fun x => 0 - x) = (gainL u ps a b).map fun x => 0 - x := by
  unfold gainL
  rw [add_back a b h, List.map_map, List.map_map]
  apply List.map_congr_left
  intro x _
  show u * (0 - x) - _ = 0 - (u * x - _)
  rw [Int.mul_sub, Int.mul_zero]
  omega
theorem gs_of {n k : Nat} {s : List Int} (hl : s.length = n) (h : ∀ x ∈ s, x.natAbs ≤ k * 10 ^ 19) (hk : k ≤ 1000) : GS n s := ⟨hl, fun x hx => by
  have h1 := h x hx
  have h2 : k * 10 ^ 19 ≤ 1000 * 10 ^ 19 := Nat.mul_le_mul_right _ hk
  have h3 : 1000 * 10 ^ 19 < 2 ^ 400 := by decide
  show x.natAbs < 2 ^ 400
  omega⟩
theorem gs_zero (n : Nat) : GS n (List.replicate n 0) := ⟨List.length_replicate, fun x hx => by rw [(List.mem_replicate.mp hx).2]; exact (by decide : (0 : Int).natAbs < 2 ^ 400)⟩

theorem ok_mult (ds Q X) (h : cMult ds Q X) : wpFn C 3 b_multiplied ds Q X := by
  obtain ⟨a, t, rfl, hl, ha, ht, q⟩ := h
  refine ⟨Nat.le_of_ble_eq_true rfl, ?_⟩
  refine cmp_g a .int (fun x => .int (x * t)) rfl ⟨trivial, trivial⟩ trivial (size1000 hl) (fun x hx K1 K0 hk => ⟨mul_ok (ha x hx) ht, hk _ rfl⟩) ?_
  unfold scl at q
  rw [← tup_ints] at q
  exact q
theorem lows_ints (ps : List (List Int × Int)) : intsOf (ps.map fun p => D.int p.2) = some (lowsOf ps) := by
  rw [← intsOf_map (lowsOf ps)]
  unfold lowsOf
  rw [List.map_map]
  rfl
theorem sums_ints (ps : List (List Int × Int)) : intsOf (ps.map fun p => D.int p.1.sum) = some (sumsOf ps) := by
  rw [← intsOf_map (sumsOf ps)]
  unfold sumsOf
  rw [List.map_map]
  rfl
theorem lows_ne {ps : List (List Int × Int)} (h : ps ≠ []) : lowsOf ps ≠ [] := by
  unfold lowsOf
  simpa using h
theorem sums_ne {ps : List (List Int × Int)} (h : ps ≠ []) : sumsOf ps ≠ [] := by
  unfold sumsOf
  simpa using h
theorem ok_far (ds Q X) (h : cFar ds Q X) : wpFn C 4 b_far ds Q X := by
  obtain ⟨n, u, ps, rfl, g, q⟩ := h
  refine ⟨Nat.le_of_ble_eq_true rfl, ?_⟩
  refine ⟨_, rfl, ?_⟩
  refine cmp_g ps piD (fun p => .int p.2) rfl ⟨trivial, trivial, trivial⟩ trivial (size1000 g.len) (fun p hp K1 K0 hk => ⟨rfl, rfl, hk _ rfl⟩) ?_
  refine ⟨_, lows_ints ps, lows_ne g.ne, fun m1 h1 h1' => ?_⟩
  refine ⟨_, lows_ints ps, lows_ne g.ne, fun m2 h2 h2' => ?_⟩
  obtain rfl := mx_eq h1 h1'
  obtain rfl := mn_eq h2 h2'
  exact q
theorem sure_core {ps : List (List Int × Int)} (ne : ps ≠ []) {d : List Int} {m : Int} {p0 : List Int × Int} (h0 : p0 ∈ ps) (e0 : dot p0.1 d = m) (hm : ∀ p ∈ ps, m ≤ dot p.1 d) :
    topC ps (add (scl (0 - farC ps) d) d) - topC ps (scl (0 - farC ps) d) ≤ m := by
  rw [add_scl]
  have hF : ∀ p ∈ ps, ∀ q ∈ ps, p.2 - q.2 ≤ farC ps - 2 := fun p hp q hq => by
    have h1 : p.2 ≤ mx (lowsOf ps) := mx_le (List.mem_map.mpr ⟨p, hp, rfl⟩)
    have h2 : mn (lowsOf ps) ≤ q.2 := mn_le (List.mem_map.mpr ⟨q, hq, rfl⟩)
    unfold farC
    omega
  have hts_in : ∀ c, ∀ p ∈ ps, c * dot p.1 d - p.2 ∈ hts ps (scl c d) := fun c p hp => List.mem_map.mpr ⟨p, hp, by rw [dot_scl]⟩
  obtain ⟨q, hq, e⟩ := List.mem_map.mp (mx_in (mem_hts (s := scl (0 - farC ps + 1) d) ne))
  rw [dot_scl] at e
  have e1 : topC ps (scl (0 - farC ps + 1) d) = (0 - farC ps + 1) * dot q.1 d - q.2 := e.symm
  have l1 := mx_le (hts_in (0 - farC ps) q hq)
  have l2 := mx_le (hts_in (0 - farC ps + 1) p0 h0)
  have e2 : topC ps (scl (0 - farC ps) d) = mx (hts ps (scl (0 - farC ps) d)) := rfl
  have e3 : topC ps (scl (0 - farC ps + 1) d) = mx (hts ps (scl (0 - farC ps + 1) d)) := rfl
  rw [e0] at l2
  have k0 := hm q hq
  have k1 := hF p0 h0 q hq
  have k2 := hF p0 h0 p0 h0
  have d1 : (0 - farC ps + 1) * dot q.1 d = (0 - farC ps) * dot q.1 d + dot q.1 d := by rw [Int.add_mul, Int.one_mul]
  have eq : dot q.1 d = m := by
    by_cases z : dot q.1 d = m
    · exact z
    · exfalso
      have k3 : 1 ≤ dot q.1 d - m := by omega
      have k4 : (farC ps - 1) * 1 ≤ (farC ps - 1) * (dot q.1 d - m) := Int.mul_le_mul_of_nonneg_left k3 (by omega)
      have k5 : (farC ps - 1) * (dot q.1 d - m) = (0 - farC ps + 1) * m - (0 - farC ps + 1) * dot q.1 d := by
        rw [Int.mul_sub]
        have a1 : (0 - farC ps + 1) = -(farC ps - 1) := by omega
        rw [a1, Int.neg_mul, Int.neg_mul]
        omega
      omega
  omega
theorem far_le {ps : List (List Int × Int)} (ne : ps ≠ []) (h : LowOk ps) : 0 ≤ farC ps ∧ farC ps ≤ 2 ^ 392 := by
  obtain ⟨p, hp, e1⟩ := List.mem_map.mp (mx_in (lows_ne ne))
  obtain ⟨q, hq, e2⟩ := List.mem_map.mp (mn_in (lows_ne ne))
  have a1 := h p hp
  have a2 := h q hq
  have a3 : q.2 ≤ mx (lowsOf ps) := mx_le (List.mem_map.mpr ⟨q, hq, rfl⟩)
  have e1 : p.2 = mx (lowsOf ps) := e1
  have e2 : q.2 = mn (lowsOf ps) := e2
  have b0 : (2 : Int) ^ 392 = 4 * 2 ^ 390 := by decide
  have b1 : (2 : Nat) ^ 390 = ((2 : Int) ^ 390).toNat := by decide
  have b2 : 0 < (2 : Int) ^ 390 := by decide
  unfold farC
  generalize (2 : Int) ^ 392 = A at *
  generalize (2 : Int) ^ 390 = B at *
  generalize (2 : Nat) ^ 390 = B' at *
  omega
theorem gain_pos {u m T : Int} {b : List Int} (h : T ≤ m) (hb : ∀ x ∈ b, m < u * x) : ∀ x ∈ b.map (fun x => u * x - T), 0 < x := fun x hx => by
  obtain ⟨y, hy, rfl⟩ := List.mem_map.mp hx
  have := hb y hy
  omega
theorem gs_scl {n : Nat} {c : Int} {d : List Int} (hl : d.length = n) (hd : ∀ x ∈ d, x = 0 ∨ x = 1 ∨ x = -1) (h0 : -(2 ^ 393) ≤ c) (h1 : c ≤ 2 ^ 393) : GS n (scl c d) := ⟨by rw [scl_len, hl], fun x hx => by
  obtain ⟨y, hy, rfl⟩ := List.mem_map.mp hx
  have b1 : (2 : Nat) ^ 400 = ((2 : Int) ^ 400).toNat := by decide
  have b2 : (2 : Int) ^ 400 = 128 * 2 ^ 393 := by decide
  have b3 : 0 < (2 : Int) ^ 393 := by decide
  show (y * c).natAbs < 2 ^ 400
  rcases hd y hy with rfl | rfl | rfl
  · rw [Int.zero_mul]
    exact (by decide : (0 : Int).natAbs < 2 ^ 400)
  · rw [Int.one_mul]
    generalize (2 : Nat) ^ 400 = A at *
    generalize (2 : Int) ^ 400 = B at *
    generalize (2 : Int) ^ 393 = E at *
    omega
  · rw [Int.neg_mul, Int.one_mul]
    generalize (2 : Nat) ^ 400 = A at *
    generalize (2 : Int) ^ 400 = B at *
    generalize (2 : Int) ^ 393 = E at *
    omega⟩
theorem sure_ok {n : Nat} {u : Int} {ps : List (List Int × Int)} (g : GC n u ps) (lo : LowOk ps) {d : List Int} {m : Int} (hl : d.length = n) (hd : ∀ x ∈ d, x = 0 ∨ x = 1 ∨ x = -1) {p0 : List Int × Int} (h0 : p0 ∈ ps) (e0 : dot p0.1 d = m) (hm : ∀ p ∈ ps, m ≤ dot p.1 d) (hb : ∀ x ∈ d, m < u * x) :
    SureOk n u ps (scl (0 - farC ps) d) d := by
  obtain ⟨f0, f1⟩ := far_le g.ne lo
  have b1 : (2 : Int) ^ 393 = 2 * 2 ^ 392 := by decide
  have b2 : 1 ≤ (2 : Int) ^ 392 := by decide
  refine ⟨gs_scl hl hd ?_ ?_, ?_, ?_, ?_⟩
  · generalize (2 : Int) ^ 393 = A at *
    generalize (2 : Int) ^ 392 = B at *
    omega
  · generalize (2 : Int) ^ 393 = A at *
    generalize (2 : Int) ^ 392 = B at *
    omega
  · have := gs_scl (c := 1) hl hd (by decide) (by decide)
    have e : scl 1 d = d := by
      unfold scl
      rw [List.map_congr_left (g := id) fun x _ => Int.mul_one x, List.map_id]
    rw [e] at this
    exact this
  · rw [add_scl]
    refine gs_scl hl hd ?_ ?_
    · generalize (2 : Int) ^ 393 = A at *
      generalize (2 : Int) ^ 392 = B at *
      omega
    · generalize (2 : Int) ^ 393 = A at *
      generalize (2 : Int) ^ 392 = B at *
      omega
  · exact gain_pos (sure_core g.ne h0 e0 hm) hb
theorem mixes_of {u : Int} {ps : List (List Int × Int)} (h : ∀ p ∈ ps, (∀ x ∈ p.1, 0 ≤ x) ∧ p.1.sum = u) : (∀ p ∈ ps, p.1 ≠ []) → mixesB u ps = true := fun ne => by
  unfold mixesB
  rw [List.all_eq_true]
  intro p hp
  obtain ⟨h1, h2⟩ := h p hp
  unfold mixB
  rw [Bool.and_eq_true]
  exact ⟨decide_eq_true (h1 _ (mn_in (ne p hp))), decide_eq_true h2⟩
theorem mixes_to {u : Int} {ps : List (List Int × Int)} (h : mixesB u ps = true) : ∀ p ∈ ps, (∀ x ∈ p.1, 0 ≤ x) ∧ p.1.sum = u := fun p hp => by
  unfold mixesB at h
  rw [List.all_eq_true] at h
  have := h p hp
  unfold mixB at this
  rw [Bool.and_eq_true] at this
  have h1 := of_decide_eq_true this.1
  exact ⟨fun x hx => Int.le_trans h1 (mn_le hx), of_decide_eq_true this.2⟩
theorem gc_ne {n : Nat} {u : Int} {ps : List (List Int × Int)} (g : GC n u ps) : ∀ p ∈ ps, p.1 ≠ [] := fun p hp z => by
  have := (g.each p hp).1
  have n2 := g.n2
  rw [z] at this
  simp at this
  omega
theorem not_mixes {u : Int} {ps : List (List Int × Int)} {p : List Int × Int} (hp : p ∈ ps) (h : p.1.sum ≠ u ∨ ∃ x ∈ p.1, x < 0) : mixesB u ps = false := by
  cases z : mixesB u ps with
  | false => rfl
  | true =>
    obtain ⟨h1, h2⟩ := mixes_to z p hp
    rcases h with h | ⟨x, hx, h⟩
    · exact absurd h2 h
    · have := h1 x hx
      omega
theorem unit_ints (n o : Nat) : D.tup ((List.range n).map fun (k : Nat) => D.int (if decide ((k : Int) = 0 + (o : Int)) = true then 1 else 0)) = tupI (unit1 n o) := by
  unfold tupI unit1
  rw [List.map_map]
  congr 1
  apply List.map_congr_left
  intro k _
  show D.int (if decide ((k : Int) = 0 + (o : Int)) = true then 1 else 0) = D.int (if k = o then 1 else 0)
  congr 1
  by_cases z : k = o
  · rw [if_pos z, if_pos (decide_eq_true (by omega))]
  · rw [if_neg z, if_neg (by rw [decide_eq_true_eq]; omega)]
theorem ok_sure (ds Q X) (h : cSure ds Q X) : wpFn C 10 b_sure ds Q X := by
  obtain ⟨n, u, ps, rfl, g, hu, lo, q1, q2⟩ := h
  have n2 := g.n2
  have n4 := g.n4
  have ne := g.ne
  have sz : sizeLine = 16777216 := sizeLine_eq
  have sm1 : ∀ x ∈ List.replicate n (1 : Int), Sm x := fun x hx => by
    rw [(List.mem_replicate.mp hx).2]
    exact (by decide : (1 : Int).natAbs < 2 ^ 400)
  have farSm : Sm (farC ps) ∧ Sm (0 - farC ps) := by
    obtain ⟨f0, f1⟩ := far_le ne lo
    have b1 : (2 : Nat) ^ 400 = ((2 : Int) ^ 400).toNat := by decide
    have b2 : (2 : Int) ^ 400 = 256 * 2 ^ 392 := by decide
    have b3 : 0 < (2 : Int) ^ 392 := by decide
    unfold Sm
    generalize (2 : Nat) ^ 400 = A at *
    generalize (2 : Int) ^ 400 = B at *
    generalize (2 : Int) ^ 392 = E at *
    omega
  refine ⟨Nat.le_of_ble_eq_true rfl, ?_⟩
  refine ⟨n, u, ps, rfl, g, ?_⟩
  refine ⟨n, u, ps, rfl, g, ?_⟩
  refine ⟨n, u, ps, rfl, g, ?_⟩
  refine ⟨by simp, by omega, by omega, Nat.le_of_ble_eq_true rfl, ?_⟩
  rw [rep_tup]
  refine ⟨_, rfl, ?_⟩
  refine cmp_g ps piD (fun p => .int p.1.sum) rfl ⟨trivial, trivial, trivial⟩ trivial (size1000 g.len) (fun p hp K1 K0 hk => ⟨rfl, rfl, p.1, intsOf_map _, hk _ rfl⟩) ?_
  refine ⟨_, sums_ints ps, sums_ne ne, fun m1 h1 h1' => ?_⟩
  refine ⟨_, rfl, ?_⟩
  refine ⟨_, rfl, fun h => ?_, fun h => ?_⟩
  · have h := of_decide_eq_true h
    obtain ⟨p0, hp0, e0⟩ := List.mem_map.mp h1
    refine ⟨List.replicate n 1, 0 - farC ps, rfl, by rw [List.length_replicate]; omega, sm1, farSm.2, ?_⟩
    refine q2 (not_mixes hp0 (.inl (by omega))) _ _ (sure_ok g lo (d := List.replicate n 1) (m := m1) List.length_replicate (fun x hx => .inr (.inl (List.mem_replicate.mp hx).2)) hp0 (by rw [dot_ones p0.1 n (g.each p0 hp0).1]; exact e0) (fun p hp => ?_) fun x hx => ?_)
    · rw [dot_ones p.1 n (g.each p hp).1]
      exact h1' _ (List.mem_map.mpr ⟨p, hp, rfl⟩)
    · rw [(List.mem_replicate.mp hx).2, Int.mul_one]
      exact h
  have lo1 : ∀ p ∈ ps, u ≤ p.1.sum := fun p hp => by
    have h := of_decide_eq_false h
    have := h1' _ (List.mem_map.mpr ⟨p, hp, rfl⟩)
    omega
  refine ⟨_, sums_ints ps, sums_ne ne, fun m2 h2 h2' => ?_⟩
  refine ⟨_, rfl, ?_⟩
  refine ⟨_, rfl, fun h => ?_, fun h => ?_⟩
  · have h := of_decide_eq_true h
    obtain ⟨p0, hp0, e0⟩ := List.mem_map.mp h2
    refine ⟨List.replicate n 1, farC ps, rfl, by rw [List.length_replicate]; omega, sm1, farSm.1, ?_⟩
    refine ⟨List.replicate n 1, -1, rfl, by rw [List.length_replicate]; omega, sm1, (by decide : (-1 : Int).natAbs < 2 ^ 400), ?_⟩
    have e1 : scl (farC ps) (List.replicate n 1) = scl (0 - farC ps) (scl (-1) (List.replicate n 1)) := by
      rw [scl_scl]
      congr 1
      omega
    have d1 : ∀ p ∈ ps, dot p.1 (scl (-1) (List.replicate n 1)) = -p.1.sum := fun p hp => by
      rw [dot_scl, dot_ones p.1 n (g.each p hp).1]
      omega
    have mem1 : ∀ x ∈ scl (-1) (List.replicate n 1), x = -1 := fun x hx => by
      obtain ⟨y, hy, rfl⟩ := List.mem_map.mp hx
      rw [(List.mem_replicate.mp hy).2]
      rfl
    have S := sure_ok g lo (d := scl (-1) (List.replicate n 1)) (m := -m2) (by rw [scl_len, List.length_replicate]) (fun x hx => .inr (.inr (mem1 x hx))) hp0 (by rw [d1 p0 hp0, e0]) (fun p hp => by
      rw [d1 p hp]
      have := h2' _ (List.mem_map.mpr ⟨p, hp, rfl⟩)
      omega) fun x hx => by
      rw [mem1 x hx]
      omega
    rw [← e1] at S
    exact q2 (not_mixes hp0 (.inl (by omega))) _ _ S
  have all1 : ∀ p ∈ ps, p.1.sum = u := fun p hp => by
    have h := of_decide_eq_false h
    have h3 := h2' _ (List.mem_map.mpr ⟨p, hp, rfl⟩)
    have h4 := lo1 p hp
    omega
  refine ⟨b62_ok (by omega) (by omega), ?_⟩
  refine loop_ok (fun i m => (∃ (a : Sl), m = [.sh (costD u ps), .sh (tupI (List.replicate n 1)), .ow (.lst (ps.map fun p => .int p.1.sum)), a, .sh (.int (n : Nat)), .sh (.int (farC ps)), .un, .un, .un, .un]) ∧ ∀ p ∈ ps, ∀ k < i, ∀ x, p.1[k]? = some x → 0 ≤ x) trivial ⟨⟨.un, rfl⟩, fun p hp k hk => absurd hk (Nat.not_lt_zero k)⟩ ?_ ?_
  · rintro i d m2 hi ⟨⟨a, rfl⟩, hinv⟩ P2 n1 n2' n3 n4'
    obtain ⟨rfl, il⟩ := range_get hi
    have iln : i < n := by omega
    have got : ∀ p ∈ ps, ∃ x, p.1[i]? = some x := fun p hp => ⟨_, List.getElem?_eq_getElem (by rw [(g.each p hp).1]; exact iln)⟩
    refine ⟨_, rfl, ?_⟩
    refine cmp_g ps piD (fun p => .int ((p.1[i]?).getD 0)) rfl ⟨trivial, trivial, trivial⟩ trivial (size1000 g.len) (fun p hp K1 K0 hk => ?_) ?_
    · obtain ⟨x, ex⟩ := got p hp
      refine ⟨rfl, rfl, .int x, ?_, ?_⟩
      · rw [Int.zero_add]
        exact atI_map (L2.atI_nat ex)
      · rw [ex] at hk
        exact hk _ rfl
    refine ⟨ps.map fun p => (p.1[i]?).getD 0, by rw [← intsOf_map, List.map_map]; rfl, by simpa using ne, fun m3 h3 h3' => ?_⟩
    obtain ⟨p0, hp0, e0⟩ := List.mem_map.mp h3
    refine ⟨_, rfl, fun h => ?_, fun h => ?_⟩
    · have h := of_decide_eq_true h
      have t6 : wpSs C (Ss.drop 1 (S.body (Ss.get 0 (S.body (Ss.get 6 b_sure))))) [.sh (costD u ps), .sh (tupI (List.replicate n 1)), .ow (.lst (ps.map fun p => .int p.1.sum)), .sh (.int (0 + (i : Int))), .sh (.int (n : Nat)), .sh (.int (farC ps)), .sh (tupI (unit1 n i)), .un, .un, .un] P2 fun c o m3 => X c o := by
        have u1 : ∀ x ∈ unit1 n i, x = 0 ∨ x = 1 := fun x hx => by
          obtain ⟨k, _, rfl⟩ := List.mem_map.mp hx
          split
          · exact .inr rfl
          · exact .inl rfl
        refine ⟨unit1 n i, 0 - farC ps, rfl, by rw [unit1_len]; omega, fun x hx => ?_, farSm.2, ?_⟩
        · rcases u1 x hx with rfl | rfl
          · exact (by decide : (0 : Int).natAbs < 2 ^ 400)
          · exact (by decide : (1 : Int).natAbs < 2 ^ 400)
        have du : ∀ p ∈ ps, dot p.1 (unit1 n i) = (p.1[i]?).getD 0 := fun p hp => dot_unit (g.each p hp).1 i
        obtain ⟨x0, ex0⟩ := got p0 hp0
        have S := sure_ok g lo (d := unit1 n i) (m := m3) (unit1_len n i) (fun x hx => (u1 x hx).elim .inl fun z => .inr (.inl z)) hp0 (by rw [du p0 hp0]; exact e0) (fun p hp => by
          rw [du p hp]
          exact h3' _ (List.mem_map.mpr ⟨p, hp, rfl⟩)) fun x hx => by
          have u0 := g.u0
          rcases u1 x hx with rfl | rfl
          · rw [Int.mul_zero]
            exact h
          · rw [Int.mul_one]
            omega
        refine n4' _ _ (q2 (not_mixes hp0 (.inr ⟨x0, List.mem_of_getElem? ex0, ?_⟩)) _ _ S)
        rw [ex0] at e0
        have e0 : x0 = m3 := e0
        rw [e0]
        exact h
      refine ⟨b62_ok (by omega) (by omega), ?_⟩
      refine cmp_g (List.range n) (fun (k : Nat) => .int (k : Int)) (fun k => .int (if decide ((k : Int) = 0 + (i : Int)) = true then 1 else 0)) (rng0 n) ⟨trivial, trivial⟩ trivial (by rw [List.length_range]; omega) (fun k hk K1 K0 h1 => h1 _ rfl) ?_
      · rw [← unit_ints] at t6
        exact t6
    · have h := of_decide_eq_false h
      refine n1 _ ⟨⟨_, rfl⟩, fun p hp k hk x ex => ?_⟩
      by_cases z : k < i
      · exact hinv p hp k z x ex
      · have z : k = i := by omega
        subst z
        have := h3' _ (List.mem_map.mpr ⟨p, hp, rfl⟩)
        rw [ex] at this
        have : m3 ≤ x := this
        omega
  · rintro m2 ⟨⟨a, rfl⟩, hinv⟩
    rw [range_len] at hinv
    refine q1 (mixes_of (fun p hp => ⟨fun x hx => ?_, all1 p hp⟩) (gc_ne g))
    obtain ⟨k, hk⟩ := List.getElem?_of_mem hx
    refine hinv p hp k ?_ x hk
    have := (List.getElem?_eq_some_iff.mp hk).1
    rw [(g.each p hp).1] at this
    omega
theorem all_dec (f : Int → Bool) : ∀ l : List Int, ((l.map fun x => D.bl (f x))) = (l.map f).map D.bl := fun l => by
  rw [List.map_map]
  rfl
theorem GB.hu {n : Nat} {u : Int} {ps : List (List Int × Int)} (g : GB n u ps) : Sm u := by
  have h0 := g.gc.u0
  have h1 := g.u1
  have : u.natAbs ≤ 10 ^ 18 := by omega
  exact Nat.lt_of_le_of_lt this (by decide)
theorem GB.low {n : Nat} {u : Int} {ps : List (List Int × Int)} (g : GB n u ps) : LowOk ps := fun p hp => Nat.le_trans (g.each p hp).2 (by decide)
theorem GT.gs {n : Nat} {s : List Int} (g : GT n s) : GS n s := ⟨g.len, fun x hx => Nat.lt_of_le_of_lt (g.sm x hx) (by decide)⟩
theorem GT.add {n : Nat} {a b : List Int} (ga : GT n a) (gb : GT n b) : GS n (add a b) := ⟨by rw [add_len a b (ga.len.trans gb.len.symm), ga.len], fun x hx => Nat.lt_of_le_of_lt (add_le a b ga.sm gb.sm x hx) (by decide)⟩
theorem hts_le {n : Nat} {u : Int} {ps : List (List Int × Int)} (g : GB n u ps) {s : List Int} {B : Nat} (hs : ∀ x ∈ s, x.natAbs ≤ B) {m : Int} (hm : m ∈ hts ps s) : m.natAbs ≤ 4 * (10 ^ 20 * B) + 10 ^ 20 := by
  obtain ⟨p, hp, rfl⟩ := List.mem_map.mp hm
  obtain ⟨e1, e2⟩ := g.each p hp
  have h := dot_le p.1 s e1 hs
  have n4 := g.gc.n4
  have hl : p.1.length * (10 ^ 20 * B) ≤ 4 * (10 ^ 20 * B) := Nat.mul_le_mul_right _ (by rw [(g.gc.each p hp).1]; exact n4)
  show (dot p.1 s - p.2).natAbs ≤ _
  generalize p.1.length * (10 ^ 20 * B) = A at *
  generalize 4 * (10 ^ 20 * B) = A' at *
  omega
theorem gain_le {n : Nat} {u : Int} {ps : List (List Int × Int)} (g : GB n u ps) {a b : List Int} (ga : GT n a) (gb : GT n b) : ∀ x ∈ gainL u ps a b, x.natAbs ≤ 10 ^ 44 := fun x hx => by
  obtain ⟨y, hy, rfl⟩ := List.mem_map.mp hx
  have h1 := hts_le g (add_le a b ga.sm gb.sm) (mx_in (mem_hts (s := add a b) g.gc.ne))
  have h2 := hts_le g ga.sm (mx_in (mem_hts (s := a) g.gc.ne))
  have u0 := g.gc.u0
  have u1 := g.u1
  have h3 : (u * y).natAbs ≤ 10 ^ 18 * 10 ^ 21 := by
    rw [Int.natAbs_mul]
    exact Nat.mul_le_mul (by omega) (gb.sm y hy)
  show (u * y - (mx (hts ps (add a b)) - mx (hts ps a))).natAbs ≤ _
  omega
theorem gain_len {n : Nat} {u : Int} {ps : List (List Int × Int)} {a b : List Int} (gb : b.length = n) : (gainL u ps a b).length = n := by rw [gainL_len, gb]
theorem barred_dot {n : Nat} {u : Int} {ps : List (List Int × Int)} (g : GC n u ps) (mx' : mixesB u ps = true) {a b : List Int} (la : a.length = n) (lb : b.length = n) {p : List Int × Int} (hp : p ∈ ps) (hr : dot p.1 a - p.2 = topC ps a) : dot p.1 (gainL u ps a b) ≤ 0 := by
  have u0 := g.u0
  have e1 := (g.each p hp).1
  obtain ⟨_, hs⟩ := mixes_to mx' p hp
  unfold gainL
  rw [dot_aff _ _ p.1 b (by rw [e1, lb]), hs]
  have h1 : dot p.1 (add a b) - p.2 ≤ topC ps (add a b) := mx_le (List.mem_map.mpr ⟨p, hp, rfl⟩)
  rw [dot_add p.1 a b (by rw [la, lb])] at h1
  have h2 : dot p.1 b ≤ topC ps (add a b) - topC ps a := by omega
  have h3 : dot p.1 b * u ≤ (topC ps (add a b) - topC ps a) * u := Int.mul_le_mul_of_nonneg_right h2 (by omega)
  rw [Int.mul_comm u]
  omega
theorem barred_min {n : Nat} {u : Int} {ps : List (List Int × Int)} (g : GC n u ps) (mx' : mixesB u ps = true) {a b : List Int} (la : a.length = n) (lb : b.length = n) : mn (gainL u ps a b) ≤ 0 := by
  have u0 := g.u0
  obtain ⟨p, hp, hr⟩ := List.mem_map.mp (mx_in (mem_hts (s := a) g.ne))
  have h1 := barred_dot g mx' la lb hp hr
  obtain ⟨h2, h3⟩ := mixes_to mx' p hp
  have h4 := dot_ge p.1 (gainL u ps a b) (by rw [gainL_len, lb, (g.each p hp).1]) h2 fun y hy => mn_le hy
  rw [h3] at h4
  by_cases z : mn (gainL u ps a b) ≤ 0
  · exact z
  · have h5 : 1 * u ≤ mn (gainL u ps a b) * u := Int.mul_le_mul_of_nonneg_right (by omega) (by omega)
    omega
theorem not_pos {l : List Int} (ne : l ≠ []) (h : mn l ≤ 0) : posB l = false := by
  cases z : posB l with
  | false => rfl
  | true =>
    unfold posB at z
    rw [List.all_eq_true] at z
    have := of_decide_eq_true (z _ (mn_in ne))
    omega
theorem gain_each {n : Nat} {u : Int} {ps : List (List Int × Int)} (g : GC n u ps) (mx' : mixesB u ps = true) {a : List Int} (la : a.length = n) (c : Int) : gainL u ps a (List.replicate n c) = List.replicate n 0 := by
  have key : ∀ p ∈ ps, dot p.1 (add a (List.replicate n c)) - p.2 = dot p.1 a - p.2 + c * u := fun p hp => by
    obtain ⟨_, hs⟩ := mixes_to mx' p hp
    have e : List.replicate n c = scl c (List.replicate n 1) := by
      unfold scl
      rw [List.map_replicate, Int.one_mul]
    rw [dot_add p.1 a _ (by rw [la, List.length_replicate]), e, dot_scl, dot_ones p.1 n (g.each p hp).1, hs]
    omega
  have e : topC ps (add a (List.replicate n c)) = topC ps a + c * u := by
    symm
    refine mx_eq ?_ fun y hy => ?_
    · obtain ⟨p, hp, hr⟩ := List.mem_map.mp (mx_in (mem_hts (s := a) g.ne))
      refine List.mem_map.mpr ⟨p, hp, ?_⟩
      rw [key p hp]
      have hr : dot p.1 a - p.2 = topC ps a := hr
      omega
    · obtain ⟨p, hp, rfl⟩ := List.mem_map.mp hy
      have h1 : dot p.1 a - p.2 ≤ topC ps a := mx_le (List.mem_map.mpr ⟨p, hp, rfl⟩)
      rw [key p hp]
      omega
  unfold gainL
  rw [e, List.map_replicate]
  congr 1
  rw [Int.mul_comm]
  omega
theorem places_mem {l : List Int} {m x : Int} (h : x ∈ placesAt l m) : ∃ k : Nat, x = (k : Int) ∧ l[k]? = some m := by
  obtain ⟨k, hk, rfl⟩ := List.mem_map.mp h
  obtain ⟨_, h2⟩ := List.mem_filter.mp hk
  exact ⟨k, rfl, of_decide_eq_true h2⟩
theorem places_len (l : List Int) (m : Int) : (placesAt l m).length ≤ l.length := by
  unfold placesAt
  rw [List.length_map]
  have := List.length_filter_le (fun i => decide (l[i]? = some m)) (List.range l.length)
  rw [List.length_range] at this
  exact this

theorem loss_si (u : Int) (ps : List (List Int × Int)) (n o : Nat) : SI (lossD u ps n o) := by
  unfold lossD
  split
  · exact .inr rfl
  · exact .inl ⟨_, rfl⟩
theorem losses_si {u : Int} {ps : List (List Int × Int)} {n k : Nat} : ∀ x ∈ lossesL u ps n k, SI x := fun x hx => by
  obtain ⟨o, _, rfl⟩ := List.mem_map.mp hx
  exact loss_si u ps n o
theorem losses_len (u : Int) (ps : List (List Int × Int)) (n k : Nat) : (lossesL u ps n k).length = k := by simp [lossesL]
theorem losses_get {u : Int} {ps : List (List Int × Int)} {n k o : Nat} (h : o < k) : (lossesL u ps n k)[o]? = some (lossD u ps n o) := by
  unfold lossesL
  rw [List.getElem?_map, List.getElem?_range h]
  rfl
theorem losses_succ (u : Int) (ps : List (List Int × Int)) (n k : Nat) : lossesL u ps n k ++ [lossD u ps n k] = lossesL u ps n (k + 1) := by
  unfold lossesL
  rw [List.range_succ, List.map_append]
  rfl
theorem lowsU_ints (u : Int) (ps : List (List Int × Int)) (o : Nat) : intsOf (((ps.filter fun p => decide (p.1[o]? = some u))).map fun p => D.int p.2) = some (lowsU u ps o) := by
  rw [← intsOf_map (lowsU u ps o)]
  unfold lowsU
  rw [List.map_map]
  rfl
theorem lowsU_len {u : Int} {ps : List (List Int × Int)} {o : Nat} : ((((ps.filter fun p => decide (p.1[o]? = some u))).map fun p => D.int p.2).length = (lowsU u ps o).length) := by
  unfold lowsU
  rw [List.length_map, List.length_map]
theorem loss_some {u : Int} {ps : List (List Int × Int)} {n o : Nat} (h : 0 < (lowsU u ps o).length) : lossD u ps n o = .int (begC ps n + mn (lowsU u ps o)) := by
  unfold lossD
  rw [if_neg]
  intro z
  rw [List.isEmpty_iff] at z
  rw [z] at h
  cases h
theorem loss_none {u : Int} {ps : List (List Int × Int)} {n o : Nat} (h : ¬ 0 < (lowsU u ps o).length) : lossD u ps n o = .non := by
  unfold lossD
  rw [if_pos]
  rw [List.isEmpty_iff]
  exact List.length_eq_zero_iff.mp (by omega)
theorem ok_losses (ds Q X) (h : cLosses ds Q X) : wpFn C 8 b_losses ds Q X := by
  obtain ⟨n, u, ps, rfl, g, hu, lo, mx', q⟩ := h
  have n2 := g.n2
  have n4 := g.n4
  have sz : sizeLine = 16777216 := sizeLine_eq
  refine ⟨Nat.le_of_ble_eq_true rfl, ?_⟩
  refine ⟨n, u, ps, rfl, g, hu, lo, fun _ => ?_, fun z => by rw [mx'] at z; cases z⟩
  refine ⟨rfl, _, rfl, fun h => (by cases h), fun _ => ?_⟩
  refine ⟨n, u, ps, rfl, g, ?_⟩
  refine ⟨by simp, by omega, by omega, Nat.le_of_ble_eq_true rfl, ?_⟩
  rw [rep_tup]
  refine ⟨n, u, ps, _, rfl, g, gs_zero n, fun m h1 h2 => ?_⟩
  obtain rfl := top_eq h1 h2
  refine ⟨b62_ok (by omega) (by omega), ?_⟩
  refine loop_ok (fun i m => ∃ (a b : Sl), m = [.sh (costD u ps), .sh (.int (begC ps n)), a, .sh (.int (n : Nat)), .ow (.lst (lossesL u ps n i)), b, .un, .un]) trivial ⟨.un, .un, rfl⟩ ?_ ?_
  · rintro i d m2 hi ⟨a, b, rfl⟩ P2 n1 n2' n3 n4'
    obtain ⟨rfl, il⟩ := range_get hi
    have iln : i < n := by omega
    refine ⟨_, rfl, ?_⟩
    refine cmp_gf ps piD (fun p => decide (p.1[i]? = some u)) (fun p => .int p.2) rfl ⟨trivial, trivial, trivial⟩ trivial (size1000 g.len) (fun p hp K1 K0 h1 h2 => ?_) ?_
    · obtain ⟨x, ex⟩ : ∃ x, p.1[i]? = some x := ⟨_, List.getElem?_eq_getElem (by rw [(g.each p hp).1]; exact iln)⟩
      refine ⟨rfl, rfl, .int x, ?_, ?_⟩
      · rw [Int.zero_add]
        exact atI_map (L2.atI_nat ex)
      refine ⟨_, rfl, ?_⟩
      refine ⟨_, rfl, ?_⟩
      refine ite_both (fun h => ?_) (fun h => ?_)
      · have h := of_decide_eq_true h
        exact h1 (by rw [ex, h]; exact decide_eq_true rfl) _ rfl
      · have h := of_decide_eq_false h
        exact h2 (by rw [ex]; exact decide_eq_false fun z => h (Option.some.inj z)) _ rfl
    refine ⟨trivial, _, rfl, fun h => ?_, fun h => ?_⟩
    · have h := of_decide_eq_true h
      rw [lowsU_len] at h
      refine ⟨_, lowsU_ints u ps i, fun z => by rw [z] at h; exact absurd h (by decide), fun m h1 h2 => ?_⟩
      obtain rfl := mn_eq h1 h2
      refine ⟨by rw [losses_len]; omega, ?_⟩
      have e : D.int (begC ps n + mn (lowsU u ps i)) = lossD u ps n i := (loss_some (by omega)).symm
      exact n1 _ ⟨_, _, by rw [← losses_succ, ← e]; rfl⟩
    · have h := of_decide_eq_false h
      rw [lowsU_len] at h
      refine ⟨by rw [losses_len]; omega, ?_⟩
      have e : D.non = lossD u ps n i := (loss_none (by omega)).symm
      exact n1 _ ⟨_, _, by rw [← losses_succ, ← e]; rfl⟩
  · rintro m2 ⟨a, b, rfl⟩
    rw [range_len]
    have e : ((n : Int) - 0).toNat = n := by omega
    rw [← e] at q
    exact q

theorem ok_due77 (ds Q X) (h : cDue77 ds Q X) : wpFn C 7 b__law_due ds Q X := by
  obtain ⟨n, u, ps, rfl, g, q⟩ := h
  have n2 := g.n2
  have n4 := g.n4
  have sz : sizeLine = 16777216 := sizeLine_eq
  refine ⟨Nat.le_of_ble_eq_true rfl, ?_⟩
  have t1 : wpSs C (Ss.drop 1 b__law_due) [.sh (costD u ps), .un, .sh (.int (n : Nat)), .ow (.lst []), .un, .un, .un] { nx := fun _ => Q false .non, rt := retK Q } fun c o _ => X c o := by
    refine ⟨b62_ok (by omega) (by omega), ?_⟩
    refine loop_ok (fun i m => ∃ (a b : Sl), m = [.sh (costD u ps), a, .sh (.int (n : Nat)), .ow (.lst (lossesL u ps n i)), b, .un, .un]) trivial ⟨.un, .un, rfl⟩ ?_ ?_
    · rintro i d m2 hi ⟨a, b, rfl⟩ P2 n1 n2' n3 n4'
      obtain ⟨rfl, il⟩ := range_get hi
      have iln : i < n := by omega
      refine ⟨_, rfl, ?_⟩
      refine cmp_gf ps piD (fun p => decide (p.1[i]? = some u)) (fun p => .int p.2) rfl ⟨trivial, trivial, trivial⟩ trivial (size1000 g.len) (fun p hp K1 K0 h1 h2 => ?_) ?_
      · obtain ⟨x, ex⟩ : ∃ x, p.1[i]? = some x := ⟨_, List.getElem?_eq_getElem (by rw [(g.each p hp).1]; exact iln)⟩
        refine ⟨rfl, rfl, .int x, ?_, ?_⟩
        · rw [Int.zero_add]
          exact atI_map (L2.atI_nat ex)
        refine ⟨_, rfl, ?_⟩
        refine ⟨_, rfl, ?_⟩
        refine ite_both (fun h => ?_) (fun h => ?_)
        · have h := of_decide_eq_true h
          exact h1 (by rw [ex, h]; exact decide_eq_true rfl) _ rfl
        · have h := of_decide_eq_false h
          exact h2 (by rw [ex]; exact decide_eq_false fun z => h (Option.some.inj z)) _ rfl
      refine ⟨trivial, _, rfl, fun h => ?_, fun h => ?_⟩
      · have h := of_decide_eq_true h
        rw [lowsU_len] at h
        refine ⟨by simp, by omega, by omega, Nat.le_of_ble_eq_true rfl, ?_⟩
        rw [rep_tup]
        refine ⟨n, u, ps, _, rfl, g, gs_zero n, ?_⟩
        refine ⟨_, lowsU_ints u ps i, fun z => by rw [z] at h; exact absurd h (by decide), fun m h1 h2 => ?_⟩
        obtain rfl := mn_eq h1 h2
        refine ⟨by rw [losses_len]; omega, ?_⟩
        have e : D.int (begC ps n + mn (lowsU u ps i)) = lossD u ps n i := (loss_some (by omega)).symm
        exact n1 _ ⟨_, _, by rw [← losses_succ, ← e]; rfl⟩
      · have h := of_decide_eq_false h
        rw [lowsU_len] at h
        refine ⟨by rw [losses_len]; omega, ?_⟩
        have e : D.non = lossD u ps n i := (loss_none (by omega)).symm
        exact n1 _ ⟨_, _, by rw [← losses_succ, ← e]; rfl⟩
    · rintro m2 ⟨a, b, rfl⟩
      rw [range_len]
      have e : ((n : Int) - 0).toNat = n := by omega
      rw [← e] at q
      exact q
  obtain ⟨p, hp, e⟩ := first_piece g
  refine ⟨_, rfl, _, hp, _, rfl, ?_⟩
  rw [← e] at t1
  exact t1
theorem unit_sum (u : Int) {n o : Nat} (h : o < n) : ((List.range n).map fun k => if k = o then u else 0).sum = u ∧ ∀ x ∈ ((List.range n).map fun k => if k = o then u else 0), x = u ∨ x = 0 := by
  constructor
  · have key : ∀ (l s : Nat), s ≤ o → o < s + l → ((List.range' s l).map fun k => if k = o then u else 0).sum = u := by
      intro l
      induction l with
      | zero => intro s h1 h2; omega
      | succ l ih =>
        intro s h1 h2
        rw [List.range'_succ, List.map_cons, List.sum_cons]
        by_cases z : s = o
        · subst z
          rw [if_pos rfl]
          have e : ((List.range' (s + 1) l).map fun k => if k = s then u else 0) = List.replicate l 0 := by
            rw [List.eq_replicate_iff]
            refine ⟨by simp, fun b hb => ?_⟩
            obtain ⟨k, hk, rfl⟩ := List.mem_map.mp hb
            have := (List.mem_range'_1.mp hk).1
            rw [if_neg (by omega)]
          rw [e]
          have e2 : (List.replicate l (0 : Int)).sum = 0 := by
            clear ih h1 h2 e
            induction l with
            | zero => rfl
            | succ l ih => rw [List.replicate_succ, List.sum_cons, ih]; rfl
          rw [e2]
          omega
        · rw [if_neg z, ih (s + 1) (by omega) (by omega)]
          omega
    have := key n 0 (Nat.zero_le _) (by omega)
    rw [← List.range_eq_range'] at this
    exact this
  · intro x hx
    obtain ⟨k, _, rfl⟩ := List.mem_map.mp hx
    split
    · exact .inl rfl
    · exact .inr rfl
def PM (n : Nat) (u : Int) (p : List Int × Int) : Prop := p.1.length = n ∧ (∀ x ∈ p.1, x.natAbs ≤ 10 ^ 20) ∧ p.2.natAbs ≤ 10 ^ 20 ∧ (∀ x ∈ p.1, 0 ≤ x) ∧ p.1.sum = u
theorem pm_of {n : Nat} {u : Int} {ps : List (List Int × Int)} (g : GB n u ps) (mx' : mixesB u ps = true) : ∀ p ∈ ps, PM n u p := fun p hp => by
  obtain ⟨h1, h2⟩ := mixes_to mx' p hp
  exact ⟨(g.gc.each p hp).1, (g.each p hp).1, (g.each p hp).2, h1, h2⟩
theorem pm_to {n : Nat} {u : Int} {ps : List (List Int × Int)} (n2 : 2 ≤ n) (n4 : n ≤ 4) (u0 : 0 < u) (u1 : u ≤ 10 ^ 18) (ne : ps ≠ []) (hl : ps.length ≤ 1000) (h : ∀ p ∈ ps, PM n u p) : GB n u ps ∧ mixesB u ps = true := by
  have gc : GC n u ps := ⟨n2, n4, u0, ne, hl, fun p hp => ⟨(h p hp).1, fun x hx => Nat.lt_of_le_of_lt ((h p hp).2.1 x hx) (by decide), Nat.lt_of_le_of_lt (h p hp).2.2.1 (by decide)⟩⟩
  exact ⟨⟨gc, u1, fun p hp => ⟨(h p hp).2.1, (h p hp).2.2.1⟩⟩, mixes_of (fun p hp => (h p hp).2.2.2) (gc_ne gc)⟩
theorem ok_ended (ds Q X) (h : cEnded ds Q X) : wpFn C 10 b__law_ended ds Q X := by
  obtain ⟨n, u, ps, rfl, g, mx', pl, q⟩ := h
  have n2 := g.gc.n2
  have n4 := g.gc.n4
  have u0 := g.gc.u0
  have u1 := g.u1
  have hu := g.hu
  have sz : sizeLine = 16777216 := sizeLine_eq
  refine ⟨Nat.le_of_ble_eq_true rfl, ?_⟩
  have t1 : wpSs C (Ss.drop 1 b__law_ended) [.sh .hand, .sh (costD u ps), .un, .sh (.int (n : Nat)), .ow (.lst (ps.map piD)), .un, .un, .un, .un, .un] { nx := fun _ => Q false .non, rt := retK Q } fun c o _ => X c o := by
    refine ⟨b62_ok (by omega) (by omega), ?_⟩
    refine loop_ok (fun i m => ∃ (qs : List (List Int × Int)) (a b c d : Sl), m = [.sh .hand, .sh (costD u ps), a, .sh (.int (n : Nat)), .ow (.lst (qs.map piD)), b, c, d, .un, .un] ∧ qs ≠ [] ∧ qs.length ≤ 18 + 2 * i ∧ ∀ p ∈ qs, PM n u p) trivial ⟨ps, .un, .un, .un, .un, rfl, g.gc.ne, pl, pm_of g mx'⟩ ?_ ?_
    · rintro i d m2 hi ⟨qs, a, b, c, d', rfl, qne, ql, qp⟩ P2 n1 n2' n3 n4'
      obtain ⟨rfl, il⟩ := range_get hi
      have iln : i < n := by omega
      let en : List Int := (List.range n).map fun k => if k = i then u else 0
      have enl : en.length = n := by simp [en]
      obtain ⟨es, em⟩ := unit_sum u iln
      have pmE : ∀ w : Int, w.natAbs < 10 ^ 19 → PM n u (en, w) := fun w hw => ⟨enl, fun x hx => by rcases em x hx with rfl | rfl <;> omega, by show w.natAbs ≤ _; omega, fun x hx => by rcases em x hx with rfl | rfl <;> omega, es⟩
      have t4 : ∀ (k : Int) (rs : List (List Int × Int)) (d' : Sl), rs ≠ [] → rs.length ≤ 19 + 2 * i → (∀ p ∈ rs, PM n u p) → wpSs C (Ss.drop 4 (S.body (Ss.get 1 b__law_ended))) [.sh .hand, .sh (costD u ps), .sh (.int (0 + (i : Int))), .sh (.int (n : Nat)), .ow (.lst (rs.map piD)), .sh (tupI en), .sh (.int k), d', .un, .un] P2 fun c o m3 => X c o := by
        intro k rs d' rne rl rp
        refine ⟨_, rfl, fun h => ?_, fun h => n1 _ ⟨rs, _, _, _, _, rfl, rne, by omega, rp⟩⟩
        refine ⟨trivial, rfl, fun w hw => ?_⟩
        refine ⟨by rw [List.length_map]; omega, ?_⟩
        refine n1 _ ⟨rs ++ [(en, w)], _, _, _, _, by rw [List.map_append]; rfl, by simp, by rw [List.length_append]; show rs.length + 1 ≤ _; omega, fun p hp => ?_⟩
        rcases List.mem_append.mp hp with hp | hp
        · exact rp p hp
        · have : p = (en, w) := by simpa using hp
          rw [this]
          exact pmE w hw
      have t3 : ∀ (k : Int) (rs : List (List Int × Int)) (d' : Sl), rs ≠ [] → rs.length ≤ 18 + 2 * i → (∀ p ∈ rs, PM n u p) → wpSs C (Ss.drop 3 (S.body (Ss.get 1 b__law_ended))) [.sh .hand, .sh (costD u ps), .sh (.int (0 + (i : Int))), .sh (.int (n : Nat)), .ow (.lst (rs.map piD)), .sh (tupI en), .sh (.int k), d', .un, .un] P2 fun c o m3 => X c o := by
        intro k rs d' rne rl rp
        refine ⟨_, rfl, fun h => ?_, fun h => t4 k rs d' rne (by omega) rp⟩
        refine ⟨trivial, rfl, fun w hw => ?_⟩
        refine ⟨by rw [List.length_map]; omega, ?_⟩
        have F := t4 k (rs ++ [(en, w)]) d' (by simp) (by rw [List.length_append]; show rs.length + 1 ≤ _; omega) (fun p hp => by
          rcases List.mem_append.mp hp with hp | hp
          · exact rp p hp
          · have : p = (en, w) := by simpa using hp
            rw [this]
            exact pmE w hw)
        rw [List.map_append] at F
        exact F
      have t1 : wpSs C (Ss.drop 1 (S.body (Ss.get 1 b__law_ended))) [.sh .hand, .sh (costD u ps), .sh (.int (0 + (i : Int))), .sh (.int (n : Nat)), .ow (.lst (qs.map piD)), .sh (tupI en), c, d', .un, .un] P2 fun c o m3 => X c o := by
        refine ⟨4, rfl, by decide, by decide, fun k k0 k1 => ?_⟩
        refine ⟨_, rfl, fun h => ?_, fun h => ?_⟩
        · refine ⟨_, rfl, fun h' => ?_, fun h' => t3 k qs d' qne ql qp⟩
          refine cmp_gf qs piD (fun p => !PyData.eqv (pyTup p.1) (pyTup en)) piD rfl ⟨trivial, trivial⟩ ⟨trivial, trivial⟩ (by omega) (fun p hp K1 K0 h1 h2 => ?_) ?_
          · refine ⟨_, rfl, _, _, py_tup _, py_tup _, tup_dp _, ?_⟩
            refine ⟨_, rfl, ?_⟩
            exact ite_both (fun h => h1 h _ rfl) (fun h => h2 h _ rfl)
          refine ⟨_, rfl, fun h2 => ?_, fun h2 => ?_⟩
          · have h2 := of_decide_eq_true h2
            rw [List.length_map] at h2
            refine .move (t3 k (qs.filter fun p => !PyData.eqv (pyTup p.1) (pyTup en)) .un (fun z => by rw [z] at h2; exact absurd h2 (by decide)) (Nat.le_trans (List.length_filter_le _ _) ql) fun p hp => qp p ((List.mem_filter.mp hp).1))
          · exact .move (t3 k qs _ qne ql qp)
        · refine ⟨_, rfl, fun h' => ?_, fun _ => t3 k qs d' qne ql qp⟩
          rw [h] at h'
          cases h'
      refine ⟨b62_ok (by omega) (by omega), ?_⟩
      refine cmp_g (List.range n) (fun (k : Nat) => .int (k : Int)) (fun k => .int (u * (if decide (0 + (i : Int) = (k : Int)) = true then 1 else 0))) (rng0 n) ⟨trivial, trivial⟩ trivial (by rw [List.length_range]; omega) (fun k hk K1 K0 h1 => ?_) ?_
      · refine ⟨_, rfl, mul_ok hu ?_, h1 _ rfl⟩
        split
        · exact (by decide : (1 : Int).natAbs < 2 ^ 400)
        · exact (by decide : (0 : Int).natAbs < 2 ^ 400)
      · have e : D.tup ((List.range n).map fun (k : Nat) => D.int (u * (if decide (0 + (i : Int) = (k : Int)) = true then 1 else 0))) = tupI en := by
          unfold tupI en
          rw [List.map_map]
          congr 1
          apply List.map_congr_left
          intro k _
          show D.int (u * (if decide (0 + (i : Int) = (k : Int)) = true then 1 else 0)) = D.int (if k = i then u else 0)
          congr 1
          by_cases z : k = i
          · rw [if_pos z, if_pos (decide_eq_true (by omega)), Int.mul_one]
          · rw [if_neg z, if_neg (by rw [decide_eq_true_eq]; omega), Int.mul_zero]
        rw [← e] at t1
        exact t1
    · rintro m2 ⟨qs, a, b, c, d', rfl, qne, ql, qp⟩
      rw [range_len] at ql
      have ql : qs.length ≤ 30 := by omega
      refine ⟨_, rfl, ?_⟩
      refine ⟨_, .inl rfl, by rw [List.length_map]; omega, fun ys hy => ?_⟩
      obtain ⟨l', pm, rfl⟩ := perm_map piD hy qs rfl
      obtain ⟨g', mx''⟩ := pm_to (ps := l') n2 n4 u0 u1 (fun z => by rw [z] at pm; exact qne (List.nil_perm.mp pm)) (by rw [pm.length_eq]; omega) fun p hp => qp p (pm.mem_iff.mp hp)
      exact q l' g' mx''
  obtain ⟨p, hp, e⟩ := first_piece g.gc
  refine ⟨_, rfl, _, hp, _, rfl, ?_⟩
  refine ⟨_, rfl, ?_⟩
  rw [← e] at t1
  exact t1
theorem ok_far77 (ds Q X) (h : cFar77 ds Q X) : wpFn C 7 b__law_far ds Q X := by
  obtain ⟨n, u, ps, o, oi, c, rfl, rfl, g, hc, q⟩ := h
  have n2 := g.gc.n2
  have n4 := g.gc.n4
  have sz : sizeLine = 16777216 := sizeLine_eq
  refine ⟨Nat.le_of_ble_eq_true rfl, ?_⟩
  refine ⟨_, rfl, ?_⟩
  refine cmp_g ps piD (fun p => .int p.2) rfl ⟨trivial, trivial, trivial⟩ trivial (size1000 g.gc.len) (fun p hp K1 K0 hk => ⟨rfl, rfl, hk _ rfl⟩) ?_
  refine ⟨_, lows_ints ps, lows_ne g.gc.ne, fun m1 h1 h1' => ?_⟩
  refine ⟨_, rfl, ?_⟩
  refine cmp_g ps piD (fun p => .int p.2) rfl ⟨trivial, trivial, trivial⟩ trivial (size1000 g.gc.len) (fun p hp K1 K0 hk => ⟨rfl, rfl, hk _ rfl⟩) ?_
  refine ⟨_, lows_ints ps, lows_ne g.gc.ne, fun m2 h2 h2' => ?_⟩
  obtain rfl := mx_eq h1 h1'
  obtain rfl := mn_eq h2 h2'
  have sm : Sm (mx (lowsOf ps) - mn (lowsOf ps) + c) := by
    obtain ⟨p, hp, e1⟩ := List.mem_map.mp h1
    obtain ⟨p', hp', e2⟩ := List.mem_map.mp h2
    have a1 := (g.each p hp).2
    have a2 := (g.each p' hp').2
    have e1 : p.2 = mx (lowsOf ps) := e1
    have e2 : p'.2 = mn (lowsOf ps) := e2
    refine Nat.lt_of_le_of_lt (m := 10 ^ 61) ?_ (by decide)
    omega
  obtain ⟨p, hp, e⟩ := first_piece g.gc
  refine ⟨_, rfl, _, hp, _, rfl, ?_⟩
  refine ⟨b62_ok (by rw [e]; omega) (by rw [e]; omega), ?_⟩
  refine cmp_g (List.range n) (fun (k : Nat) => .int (k : Int)) (fun k => .int ((mx (lowsOf ps) - mn (lowsOf ps) + c) * (if decide ((o : Int) = (k : Int)) = true then 1 else 0))) (by rw [e]; exact rng0 n) ⟨trivial, trivial⟩ trivial (by rw [List.length_range]; omega) (fun k hk K1 K0 h1 => ?_) ?_
  · refine ⟨mul_ok sm ?_, h1 _ rfl⟩
    split
    · exact (by decide : (1 : Int).natAbs < 2 ^ 400)
    · exact (by decide : (0 : Int).natAbs < 2 ^ 400)
  · have e : D.tup ((List.range n).map fun (k : Nat) => D.int ((mx (lowsOf ps) - mn (lowsOf ps) + c) * (if decide ((o : Int) = (k : Int)) = true then 1 else 0))) = tupI (scl (mx (lowsOf ps) - mn (lowsOf ps) + c) (unit1 n o)) := by
      unfold tupI scl unit1
      rw [List.map_map, List.map_map]
      congr 1
      apply List.map_congr_left
      intro k _
      show D.int _ = D.int ((if k = o then 1 else 0) * _)
      congr 1
      rw [Int.mul_comm]
      by_cases z : k = o
      · rw [if_pos z, if_pos (decide_eq_true (by omega))]
      · rw [if_neg z, if_neg (by rw [decide_eq_true_eq]; omega)]
    rw [← e] at q
    exact q
theorem le_sum : ∀ {p : List Int} {x : Int}, (∀ y ∈ p, 0 ≤ y) → x ∈ p → x ≤ p.sum
  | a :: p, x, h, hx => by
    rw [List.sum_cons]
    have h0 := h a (by simp)
    have h1 : 0 ≤ p.sum := sum_nn fun y hy => h y (List.mem_cons_of_mem _ hy)
    rcases List.mem_cons.mp hx with rfl | hx
    · omega
    · have := le_sum (p := p) (fun y hy => h y (List.mem_cons_of_mem _ hy)) hx
      omega
theorem dot_no : ∀ {p s : List Int}, (∀ y ∈ p, 0 ≤ y) → p.sum = 0 → dot p s = 0
  | [], _, _, _ => by simp [dot]
  | _ :: _, [], _, _ => by simp [dot]
  | a :: p, b :: s, h, hs => by
    rw [List.sum_cons] at hs
    have h0 := h a (by simp)
    have h1 : 0 ≤ p.sum := sum_nn fun y hy => h y (List.mem_cons_of_mem _ hy)
    have ih := dot_no (p := p) (s := s) (fun y hy => h y (List.mem_cons_of_mem _ hy)) (by omega)
    have a0 : a = 0 := by omega
    subst a0
    unfold dot at ih ⊢
    rw [List.zipWith_cons_cons, List.sum_cons, ih, Int.zero_mul]
    rfl
theorem dot_only {u : Int} : ∀ {p s : List Int} {o : Nat} {x : Int}, (∀ y ∈ p, 0 ≤ y) → p.sum = u → p[o]? = some u → s[o]? = some x → dot p s = u * x
  | [], _, _, _, _, _, h, _ => by simp at h
  | _ :: _, [], _, _, _, _, _, h => by simp at h
  | a :: p, b :: s, 0, x, h, hs, e, e' => by
    rw [List.sum_cons] at hs
    have e : a = u := by simpa using e
    have e' : b = x := by simpa using e'
    subst e e'
    have := dot_no (p := p) (s := s) (fun y hy => h y (List.mem_cons_of_mem _ hy)) (by omega)
    unfold dot at this ⊢
    rw [List.zipWith_cons_cons, List.sum_cons, this, Int.add_zero]
  | a :: p, b :: s, o + 1, x, h, hs, e, e' => by
    rw [List.sum_cons] at hs
    have hp : ∀ y ∈ p, 0 ≤ y := fun y hy => h y (List.mem_cons_of_mem _ hy)
    have e : p[o]? = some u := by simpa using e
    have e' : s[o]? = some x := by simpa using e'
    have h0 := h a (by simp)
    have h1 := le_sum hp (List.mem_of_getElem? e)
    have a0 : a = 0 := by omega
    subst a0
    have ih := dot_only (u := u) hp (by omega) e e'
    unfold dot at ih ⊢
    rw [List.zipWith_cons_cons, List.sum_cons, ih, Int.zero_mul, Int.zero_add]
theorem beg_eq {n : Nat} {u : Int} {ps : List (List Int × Int)} (g : GC n u ps) : begC ps n = - mn (lowsOf ps) := by
  symm
  refine mx_eq ?_ fun y hy => ?_
  · obtain ⟨p, hp, e⟩ := List.mem_map.mp (mn_in (lows_ne g.ne))
    refine List.mem_map.mpr ⟨p, hp, ?_⟩
    rw [dot_zero]
    have e : p.2 = mn (lowsOf ps) := e
    omega
  · obtain ⟨p, hp, rfl⟩ := List.mem_map.mp hy
    rw [dot_zero]
    have : mn (lowsOf ps) ≤ p.2 := mn_le (List.mem_map.mpr ⟨p, hp, rfl⟩)
    omega
theorem gain_get {u : Int} {ps : List (List Int × Int)} {a b : List Int} {o : Nat} {x : Int} (h : b[o]? = some x) : (gainL u ps a b)[o]? = some (u * x - (topC ps (add a b) - topC ps a)) := by
  unfold gainL
  rw [List.getElem?_map, h]
  rfl
theorem zero_add' {n : Nat} {s : List Int} (h : s.length = n) : add (List.replicate n 0) s = s := by
  subst h
  induction s with
  | nil => rfl
  | cons x s ih =>
    unfold add at ih ⊢
    rw [List.length_cons, List.replicate_succ, List.zipWith_cons_cons, ih, Int.zero_add]
theorem lowsU_in {u : Int} {ps : List (List Int × Int)} {o : Nat} {y : Int} : y ∈ lowsU u ps o ↔ ∃ p ∈ ps, p.1[o]? = some u ∧ p.2 = y := by
  unfold lowsU
  constructor
  · intro h
    obtain ⟨p, hp, e⟩ := List.mem_map.mp h
    obtain ⟨h1, h2⟩ := List.mem_filter.mp hp
    exact ⟨p, h1, of_decide_eq_true h2, e⟩
  · rintro ⟨p, hp, e1, e2⟩
    exact List.mem_map.mpr ⟨p, List.mem_filter.mpr ⟨hp, decide_eq_true e1⟩, e2⟩
section
variable {n : Nat} {u : Int} {ps : List (List Int × Int)}
theorem loss_bound (g : GC n u ps) (mx' : mixesB u ps = true) {o : Nat} {s : List Int} (hl : s.length = n) {x : Int} (hx : s[o]? = some x) (h : 0 < (lowsU u ps o).length) :
    u * x - (topC ps (add (List.replicate n 0) s) - topC ps (List.replicate n 0)) ≤ begC ps n + mn (lowsU u ps o) := by
  have ne : lowsU u ps o ≠ [] := fun z => by rw [z] at h; exact absurd h (by decide)
  obtain ⟨p, hp, e1, e2⟩ := lowsU_in.mp (mn_in ne)
  obtain ⟨h1, h2⟩ := mixes_to mx' p hp
  have h3 : dot p.1 s - p.2 ≤ topC ps s := mx_le (List.mem_map.mpr ⟨p, hp, rfl⟩)
  rw [dot_only h1 h2 e1 hx] at h3
  rw [zero_add' hl]
  show u * x - (topC ps s - begC ps n) ≤ _
  omega
theorem loss_reach (g : GC n u ps) (mx' : mixesB u ps = true) {o : Nat} (ho : o < n) (h : 0 < (lowsU u ps o).length) :
    u * (mx (lowsOf ps) - mn (lowsOf ps)) - (topC ps (add (List.replicate n 0) (scl (mx (lowsOf ps) - mn (lowsOf ps)) (unit1 n o))) - topC ps (List.replicate n 0)) = begC ps n + mn (lowsU u ps o) := by
  have u0 := g.u0
  have ne : lowsU u ps o ≠ [] := fun z => by rw [z] at h; exact absurd h (by decide)
  obtain ⟨p, hp, e1, e2⟩ := lowsU_in.mp (mn_in ne)
  rw [zero_add' (by rw [scl_len, unit1_len])]
  have du : ∀ q ∈ ps, ∀ c : Int, dot q.1 (scl c (unit1 n o)) = c * (q.1[o]?).getD 0 := fun q hq c => by rw [dot_scl, dot_unit (g.each q hq).1]
  have lo : ∀ q ∈ ps, mn (lowsOf ps) ≤ q.2 ∧ q.2 ≤ mx (lowsOf ps) := fun q hq => ⟨mn_le (List.mem_map.mpr ⟨q, hq, rfl⟩), mx_le (List.mem_map.mpr ⟨q, hq, rfl⟩)⟩
  have e : topC ps (scl (mx (lowsOf ps) - mn (lowsOf ps)) (unit1 n o)) = (mx (lowsOf ps) - mn (lowsOf ps)) * u - mn (lowsU u ps o) := by
    symm
    refine mx_eq (List.mem_map.mpr ⟨p, hp, ?_⟩) fun y hy => ?_
    · rw [du p hp, e1, e2]
      rfl
    · obtain ⟨q, hq, rfl⟩ := List.mem_map.mp hy
      rw [du q hq]
      have lq := lo q hq
      have lp := lo p hp
      obtain ⟨h1, h2⟩ := mixes_to mx' q hq
      have ex : q.1[o]? = some (q.1[o]'(by rw [(g.each q hq).1]; exact ho)) := List.getElem?_eq_getElem _
      rw [ex]
      show (mx (lowsOf ps) - mn (lowsOf ps)) * q.1[o]'_ - q.2 ≤ _
      have h3 := le_sum h1 (List.mem_of_getElem? ex)
      rw [h2] at h3
      by_cases z : q.1[o]'(by rw [(g.each q hq).1]; exact ho) = u
      · rw [z]
        have : mn (lowsU u ps o) ≤ q.2 := mn_le (lowsU_in.mpr ⟨q, hq, by rw [ex, z], rfl⟩)
        omega
      · have h4 : (mx (lowsOf ps) - mn (lowsOf ps)) * q.1[o]'(by rw [(g.each q hq).1]; exact ho) ≤ (mx (lowsOf ps) - mn (lowsOf ps)) * (u - 1) := Int.mul_le_mul_of_nonneg_left (by omega) (by omega)
        rw [Int.mul_sub, Int.mul_one] at h4
        omega
  rw [e]
  show u * _ - (_ - begC ps n) = _
  rw [Int.mul_comm u]
  omega
theorem loss_far (g : GC n u ps) (mx' : mixesB u ps = true) {o : Nat} (ho : o < n) (h : ¬ 0 < (lowsU u ps o).length) {t : Int} (t0 : 0 ≤ t) :
    t < u * (mx (lowsOf ps) - mn (lowsOf ps) + (t + 1)) - (topC ps (add (List.replicate n 0) (scl (mx (lowsOf ps) - mn (lowsOf ps) + (t + 1)) (unit1 n o))) - topC ps (List.replicate n 0)) := by
  have u0 := g.u0
  rw [zero_add' (by rw [scl_len, unit1_len])]
  have du : ∀ q ∈ ps, ∀ c : Int, dot q.1 (scl c (unit1 n o)) = c * (q.1[o]?).getD 0 := fun q hq c => by rw [dot_scl, dot_unit (g.each q hq).1]
  have lo : ∀ q ∈ ps, mn (lowsOf ps) ≤ q.2 ∧ q.2 ≤ mx (lowsOf ps) := fun q hq => ⟨mn_le (List.mem_map.mpr ⟨q, hq, rfl⟩), mx_le (List.mem_map.mpr ⟨q, hq, rfl⟩)⟩
  obtain ⟨q, hq, e⟩ := List.mem_map.mp (mx_in (mem_hts (s := scl (mx (lowsOf ps) - mn (lowsOf ps) + (t + 1)) (unit1 n o)) g.ne))
  have e : dot q.1 (scl (mx (lowsOf ps) - mn (lowsOf ps) + (t + 1)) (unit1 n o)) - q.2 = topC ps (scl (mx (lowsOf ps) - mn (lowsOf ps) + (t + 1)) (unit1 n o)) := e
  rw [← e, du q hq]
  have b := beg_eq g
  obtain ⟨h1, h2⟩ := mixes_to mx' q hq
  have ex : q.1[o]? = some (q.1[o]'(by rw [(g.each q hq).1]; exact ho)) := List.getElem?_eq_getElem _
  rw [ex]
  show t < _ - ((mx (lowsOf ps) - mn (lowsOf ps) + (t + 1)) * q.1[o]'_ - q.2 - begC ps n)
  have h3 := le_sum h1 (List.mem_of_getElem? ex)
  rw [h2] at h3
  have lq := lo q hq
  have z : q.1[o]'(by rw [(g.each q hq).1]; exact ho) ≠ u := fun z => h (List.length_pos_of_mem (lowsU_in.mpr ⟨q, hq, by rw [ex, z], rfl⟩))
  have h4 : (mx (lowsOf ps) - mn (lowsOf ps) + (t + 1)) * q.1[o]'(by rw [(g.each q hq).1]; exact ho) ≤ (mx (lowsOf ps) - mn (lowsOf ps) + (t + 1)) * (u - 1) := Int.mul_le_mul_of_nonneg_left (by omega) (by omega)
  rw [Int.mul_sub, Int.mul_one] at h4
  rw [Int.mul_comm u]
  omega
end
theorem gs_far {n : Nat} {u : Int} {ps : List (List Int × Int)} (g : GB n u ps) {c : Int} (o : Nat) (hc : c.natAbs ≤ 10 ^ 60) : GS n (scl (mx (lowsOf ps) - mn (lowsOf ps) + c) (unit1 n o)) ∧ GS n (add (List.replicate n 0) (scl (mx (lowsOf ps) - mn (lowsOf ps) + c) (unit1 n o))) := by
  have key : GS n (scl (mx (lowsOf ps) - mn (lowsOf ps) + c) (unit1 n o)) := by
    obtain ⟨p, hp, e1⟩ := List.mem_map.mp (mx_in (lows_ne g.gc.ne))
    obtain ⟨p', hp', e2⟩ := List.mem_map.mp (mn_in (lows_ne g.gc.ne))
    have a1 := (g.each p hp).2
    have a2 := (g.each p' hp').2
    have e1 : p.2 = mx (lowsOf ps) := e1
    have e2 : p'.2 = mn (lowsOf ps) := e2
    refine gs_scl (unit1_len n o) (fun x hx => ?_) (Int.le_trans (b := -(10 ^ 61)) (by decide) (by omega)) (Int.le_trans (b := 10 ^ 61) (by omega) (by decide))
    obtain ⟨k, _, rfl⟩ := List.mem_map.mp hx
    split
    · exact .inr (.inl rfl)
    · exact .inl rfl
  exact ⟨key, by rw [zero_add' (by rw [scl_len, unit1_len])]; exact key⟩
theorem unit_get {n o : Nat} (h : o < n) (c : Int) : (scl c (unit1 n o))[o]? = some c := by
  unfold scl unit1
  rw [List.getElem?_map, List.getElem?_map, List.getElem?_range h]
  show some ((if o = o then 1 else 0) * c) = _
  rw [if_pos rfl, Int.one_mul]
theorem abs_int (i : Int) : (if i < 0 then -i else i) = (i.natAbs : Int) := by
  split <;> omega
theorem any_rep : ∀ n : Nat, (List.replicate n false).any id = false
  | 0 => rfl
  | n + 1 => by
    rw [List.replicate_succ, List.any_cons, any_rep n]
    rfl
theorem labs_ints (ps : List (List Int × Int)) : intsOf (ps.map fun p => D.int (if p.2 < 0 then -p.2 else p.2)) = some (ps.map fun p => (if p.2 < 0 then -p.2 else p.2)) := by
  rw [← intsOf_map (ps.map _), List.map_map]
  rfl
theorem ok_right77 (ds Q X) (h : cRight77 ds Q X) : wpFn C 11 b__law_is_right ds Q X := by
  obtain ⟨n, u, ps, rfl, g, mx', q⟩ := h
  have n2 := g.gc.n2
  have n4 := g.gc.n4
  have u0 := g.gc.u0
  have hu := g.hu
  have sz : sizeLine = 16777216 := sizeLine_eq
  have shw := shw_cost g.gc hu
  let due : D := .tup (lossesL u ps n n)
  have dueGet : ∀ {o : Nat}, o < n → atI (lossesL u ps n n) (o : Int) = some (lossD u ps n o) := fun h => L2.atI_nat (losses_get h)
  have z0 := gs_zero n
  have fin : ∀ (a b : Sl), (a = .un ∨ ∃ d, a = .sh d) → wpSs C (Ss.drop 4 b__law_is_right) [.sh .hand, .sh (costD u ps), a, .un, .sh (.int (n : Nat)), .sh due, .sh (tupI (List.replicate n 0)), .sh (.str (pyCost u ps).shown), b, .un, .un] { nx := fun _ => Q false .non, rt := retK Q } fun c o _ => X c o := by
    intro a b ha
    refine ⟨b62_ok (by decide) (by decide), ?_⟩
    refine loop_ok (fun i m => ∃ (c d : Sl), m = [.sh .hand, .sh (costD u ps), a, c, .sh (.int (n : Nat)), .sh due, .sh (tupI (List.replicate n 0)), .sh (.str (pyCost u ps).shown), d, .un, .un]) trivial ⟨.un, b, rfl⟩ ?_ ?_
    · rintro i d m2 hi ⟨c, e, rfl⟩ P2 n1 n2' n3 n4'
      refine ⟨n, rfl, n2, n4, fun s sl sx => ?_⟩
      have gs : GS n s := ⟨sl, fun x hx => Nat.lt_trans (sx x hx) (by decide)⟩
      refine ⟨n, u, ps, List.replicate n 0, s, rfl, g.gc, hu, z0, gs, by rw [zero_add' sl]; exact gs, ?_⟩
      refine ⟨b62_ok (by omega) (by omega), ?_⟩
      refine cmp_g (List.range n) (fun (k : Nat) => .int (k : Int)) (fun _ => .bl false) (rng0 n) ⟨by rcases ha with rfl | ⟨d, rfl⟩ <;> trivial, trivial⟩ trivial (by rw [List.length_range]; omega) (fun k hk K1 K0 h1 => ?_) ?_
      · have hk := List.mem_range.mp hk
        have e := dueGet hk
        by_cases h : 0 < (lowsU u ps k).length
        · rw [loss_some h] at e
          obtain ⟨x, ex⟩ : ∃ x, s[k]? = some x := ⟨_, List.getElem?_eq_getElem (by rw [sl]; exact hk)⟩
          refine ⟨_, e, rfl, _, rfl, fun _ => ?_, fun h => (by cases h)⟩
          refine ⟨_, atI_map (L2.atI_nat (gain_get ex)), _, e, ?_⟩
          have b := loss_bound g.gc mx' sl ex h
          have hk2 : ∀ (b : Bool) (m' : Em), b = false → wipeE m' [2] = wipeE _ [2] → K1 (.bl b) m' := fun b m' e h => by rw [e]; exact h1 m' h
          exact hk2 _ _ (decide_eq_false (by omega)) rfl
        · rw [loss_none h] at e
          exact ⟨_, e, rfl, _, rfl, fun h => (by cases h), fun _ => h1 _ rfl⟩
      · refine ⟨_, by rw [map_bl]; exact boolsOf_map _, ?_⟩
        rw [any_rep]
        exact ⟨_, rfl, fun h => (by cases h), fun _ => n1 _ ⟨_, _, rfl⟩⟩
    · rintro m2 ⟨c, d, rfl⟩
      exact q
  have t1 : wpSs C (Ss.drop 1 b__law_is_right) [.sh .hand, .sh (costD u ps), .un, .un, .sh (.int (n : Nat)), .sh due, .un, .un, .un, .un, .un] { nx := fun _ => Q false .non, rt := retK Q } fun c o _ => X c o := by
    refine ⟨by simp, by omega, by omega, Nat.le_of_ble_eq_true rfl, ?_⟩
    rw [rep_tup]
    refine ⟨_, shw.py, shw.sh, shw.dp, shw.sz, ?_⟩
    refine ⟨n, u, ps, rfl, g.gc, hu, g.low, mx', ?_⟩
    refine ⟨_, rfl, .inr ⟨_, rfl, by rw [losses_len]; omega, losses_si⟩, ?_⟩
    refine ⟨_, rfl, _, rfl, fun h => (by cases h), fun _ => ?_⟩
    refine ⟨n, u, ps, rfl, g.gc, hu, g.low, mx', ?_⟩
    refine ⟨_, rfl, .inr ⟨_, rfl, by rw [losses_len]; omega, losses_si⟩, ?_⟩
    refine ⟨_, rfl, _, rfl, fun h => (by cases h), fun _ => ?_⟩
    refine ⟨_, shw.py, shw.sh, shw.dp, shw.sz, ?_⟩
    refine ⟨_, rfl, fun h => (by rw [decide_eq_true rfl] at h; cases h), fun _ => ?_⟩
    refine ⟨b62_ok (by omega) (by omega), ?_⟩
    refine loop_ok (fun i m => ∃ (a b : Sl), m = [.sh .hand, .sh (costD u ps), a, .un, .sh (.int (n : Nat)), .sh due, .sh (tupI (List.replicate n 0)), .sh (.str (pyCost u ps).shown), b, .un, .un] ∧ (a = .un ∨ ∃ d, a = .sh d)) trivial ⟨.un, .un, rfl, .inl rfl⟩ ?_ ?_
    · rintro i d m2 hi ⟨a, b, rfl, _⟩ P2 n1 n2' n3 n4'
      obtain ⟨rfl, il⟩ := range_get hi
      have iln : i < n := by omega
      refine ⟨n, u, ps, _, rfl, g.gc, z0, ?_⟩
      refine ⟨_, rfl, ?_⟩
      refine cmp_g ps piD (fun p => .int (if p.2 < 0 then -p.2 else p.2)) rfl ⟨trivial, trivial, trivial⟩ trivial (size1000 g.gc.len) (fun p hp K1 K0 hk => ⟨rfl, rfl, hk _ rfl⟩) ?_
      refine ⟨_, labs_ints ps, by simpa using g.gc.ne, fun m h1 h2 => ?_⟩
      refine ⟨by decide, by decide, by decide, ?_⟩
      refine ⟨_, rfl, by decide, by decide, fun k k0 k1 => ?_⟩
      have m0 : 0 ≤ m ∧ m ≤ 10 ^ 20 := by
        obtain ⟨p, hp, rfl⟩ := List.mem_map.mp h1
        have := (g.each p hp).2
        split <;> omega
      have b0 := hts_le g (B := 0) (s := List.replicate n 0) (fun x hx => by rw [(List.mem_replicate.mp hx).2]; exact Nat.le_refl _) (mx_in (mem_hts g.gc.ne))
      have b0 : (topC ps (List.replicate n 0)).natAbs ≤ 4 * (10 ^ 20 * 0) + 10 ^ 20 := b0
      have k1 : k < 10 ^ 6 := k1
      obtain ⟨t, ht, t0, tb⟩ : ∃ t : Int, (if topC ps (List.replicate n 0) < 0 then -topC ps (List.replicate n 0) else topC ps (List.replicate n 0)) + m + k = t ∧ 0 ≤ t ∧ t ≤ 10 ^ 50 := ⟨_, rfl, by split <;> omega, by split <;> omega⟩
      have body : wpSs C (Ss.drop 1 (S.body (Ss.get 3 b__law_is_right))) [.sh .hand, .sh (costD u ps), .sh (.int (0 + (i : Int))), .un, .sh (.int (n : Nat)), .sh due, .sh (tupI (List.replicate n 0)), .sh (.str (pyCost u ps).shown), .sh (.int t), .un, .un] P2 fun c o m3 => X c o := by
        have e := dueGet iln
        have e' : atI (lossesL u ps n n) (0 + (i : Int)) = some (lossD u ps n i) := by rw [Int.zero_add]; exact e
        by_cases h : 0 < (lowsU u ps i).length
        · rw [loss_some h] at e'
          refine ⟨_, e', rfl, _, rfl, fun _ => ?_, fun h => (by cases h)⟩
          refine ⟨n, u, ps, i, _, 0, rfl, Int.zero_add _, g, by decide, ?_⟩
          refine ⟨n, u, ps, List.replicate n 0, _, rfl, g.gc, hu, z0, (gs_far g i (by decide)).1, (gs_far g i (by decide)).2, ?_⟩
          refine ⟨_, by rw [Int.zero_add]; exact atI_map (L2.atI_nat (gain_get (unit_get iln _))), _, e', ?_⟩
          refine ⟨_, rfl, fun h' => ?_, fun _ => ?_⟩
          · have r := loss_reach g.gc mx' iln h
            rw [Int.add_zero, decide_eq_true r] at h'
            cases h'
          · refine ⟨_, e', rfl, _, rfl, fun h => (by cases h), fun _ => ?_⟩
            exact ⟨_, rfl, fun h => (by cases h), fun _ => n1 _ ⟨_, _, rfl, .inr ⟨_, rfl⟩⟩⟩
        · rw [loss_none h] at e'
          refine ⟨_, e', rfl, _, rfl, fun h => (by cases h), fun _ => ?_⟩
          refine ⟨_, rfl, fun h => (by cases h), fun _ => ?_⟩
          refine ⟨_, e', rfl, _, rfl, fun _ => ?_, fun h => (by cases h)⟩
          refine ⟨n, u, ps, i, _, t + 1, rfl, Int.zero_add _, g, by omega, ?_⟩
          refine ⟨n, u, ps, List.replicate n 0, _, rfl, g.gc, hu, z0, (gs_far g i (by omega)).1, (gs_far g i (by omega)).2, ?_⟩
          refine ⟨_, by rw [Int.zero_add]; exact atI_map (L2.atI_nat (gain_get (unit_get iln _))), ?_⟩
          refine ⟨_, rfl, fun h' => ?_, fun _ => n1 _ ⟨_, _, rfl, .inr ⟨_, rfl⟩⟩⟩
          have r := loss_far g.gc mx' iln h t0
          have h' := of_decide_eq_true h'
          omega
      rw [← ht] at body
      exact body
    · rintro m2 ⟨a, b, rfl, ha⟩
      exact fin a b ha
  obtain ⟨p, hp, e⟩ := first_piece g.gc
  refine ⟨Nat.le_of_ble_eq_true rfl, ?_⟩
  refine ⟨_, rfl, _, hp, _, rfl, ?_⟩
  refine ⟨n, u, ps, rfl, g.gc, rfl, rfl, ?_⟩
  rw [← e] at t1
  exact t1
theorem law_ok : LawOk C 4 b_law := by
  refine ⟨b62_ok (by decide) (by decide), ?_⟩
  refine loop_ok (fun i m => ∃ (a b : Sl), m = [.un, .sh .hand, a, b]) trivial ⟨.un, .un, rfl⟩ ?_ ?_
  · rintro i d m2 hi ⟨a, b, rfl⟩ P2 n1 n2 n3 n4'
    obtain ⟨rfl, il⟩ := range_get hi
    refine ⟨[0], rfl, by simp, Nat.le_of_ble_eq_true rfl, fun n u ps gc hmix u1 pl each => ?_⟩
    have g : GB n u ps := ⟨gc, u1, each⟩
    have mx' : mixesB u ps = true := mixes_of (hmix (by simp)) (gc_ne gc)
    refine ⟨n, u, ps, rfl, g, mx', ?_⟩
    refine ⟨_, rfl, _, rfl, fun h => (by cases h), fun _ => ?_⟩
    refine ⟨n, u, ps, rfl, g, mx', pl, fun ps' g' mx'' => ?_⟩
    refine ⟨n, u, ps', rfl, g', mx'', ?_⟩
    exact ⟨_, rfl, _, rfl, fun h => (by cases h), fun _ => n1 _ ⟨_, _, rfl⟩⟩
  · rintro m2 ⟨a, b, rfl⟩
    rfl

end Lw
set_option maxHeartbeats 0
namespace Hd
open PySem PySem.Spec PyProof.Rows L2
def top (i : Nat) : Stmt := PySem.Challenge.pw_paidasks_k77_whole_losses.main.body.getD i (.Pass ⟨0, 0, 0, 0⟩)

abbrev s_is_integer : Stmt := top 1
def d_is_integer : He.DefD := ⟨("is_integer", none), "is_integer", "is_integer", defArgs s_is_integer, defBody s_is_integer, defScope s_is_integer, [], []⟩
abbrev s_is_number : Stmt := top 2
def d_is_number : He.DefD := ⟨("is_number", none), "is_number", "is_number", defArgs s_is_number, defBody s_is_number, defScope s_is_number, [], []⟩
abbrev s_are_integers : Stmt := top 3
def d_are_integers : He.DefD := ⟨("are_integers", none), "are_integers", "are_integers", defArgs s_are_integers, defBody s_are_integers, defScope s_are_integers, [], []⟩
abbrev s_is_pair : Stmt := top 4
def d_is_pair : He.DefD := ⟨("is_pair", none), "is_pair", "is_pair", defArgs s_is_pair, defBody s_is_pair, defScope s_is_pair, [], []⟩
abbrev s_at : Stmt := top 11
def d_at : He.DefD := ⟨("at", none), "at", "at", defArgs s_at, defBody s_at, defScope s_at, [], []⟩
abbrev s_summed : Stmt := top 12
def d_summed : He.DefD := ⟨("summed", none), "summed", "summed", defArgs s_summed, defBody s_summed, defScope s_summed, [], []⟩
abbrev s_multiplied : Stmt := top 13
def d_multiplied : He.DefD := ⟨("multiplied", none), "multiplied", "multiplied", defArgs s_multiplied, defBody s_multiplied, defScope s_multiplied, [], []⟩
abbrev s_is_piece : Stmt := top 18
def d_is_piece : He.DefD := ⟨("is_piece", none), "is_piece", "is_piece", defArgs s_is_piece, defBody s_is_piece, defScope s_is_piece, [], []⟩
abbrev s_is_cost : Stmt := top 19
def d_is_cost : He.DefD := ⟨("is_cost", none), "is_cost", "is_cost", defArgs s_is_cost, defBody s_is_cost, defScope s_is_cost, [], []⟩
abbrev s_check_cost : Stmt := top 20
def d_check_cost : He.DefD := ⟨("check_cost", none), "check_cost", "check_cost", defArgs s_check_cost, defBody s_check_cost, defScope s_check_cost, [], []⟩
abbrev s_outcomes_of : Stmt := top 21
def d_outcomes_of : He.DefD := ⟨("outcomes_of", none), "outcomes_of", "outcomes_of", defArgs s_outcomes_of, defBody s_outcomes_of, defScope s_outcomes_of, [], []⟩
abbrev s_check_shares : Stmt := top 22
def d_check_shares : He.DefD := ⟨("check_shares", none), "check_shares", "check_shares", defArgs s_check_shares, defBody s_check_shares, defScope s_check_shares, [], []⟩
abbrev s_heights : Stmt := top 23
def d_heights : He.DefD := ⟨("heights", none), "heights", "heights", defArgs s_heights, defBody s_heights, defScope s_heights, [], []⟩
abbrev s_reached : Stmt := top 24
def d_reached : He.DefD := ⟨("reached", none), "reached", "reached", defArgs s_reached, defBody s_reached, defScope s_reached, [], []⟩
abbrev s_gained : Stmt := top 25
def d_gained : He.DefD := ⟨("gained", none), "gained", "gained", defArgs s_gained, defBody s_gained, defScope s_gained, [], []⟩
abbrev s_gain : Stmt := top 26
def d_gain : He.DefD := ⟨("gain", none), "gain", "gain", defArgs s_gain, defBody s_gain, defScope s_gain, [], []⟩
abbrev s_far : Stmt := top 27
def d_far : He.DefD := ⟨("far", none), "far", "far", defArgs s_far, defBody s_far, defScope s_far, [], []⟩
abbrev s_sure : Stmt := top 28
def d_sure : He.DefD := ⟨("sure", none), "sure", "sure", defArgs s_sure, defBody s_sure, defScope s_sure, [], []⟩
abbrev s_losses : Stmt := top 29
def d_losses : He.DefD := ⟨("losses", none), "losses", "losses", defArgs s_losses, defBody s_losses, defScope s_losses, [], []⟩
abbrev s__law_hand : Stmt := top 31
def d__law_hand : He.DefD := ⟨("_law_hand", none), "_law_hand", "_law_hand", defArgs s__law_hand, defBody s__law_hand, defScope s__law_hand, [], []⟩
abbrev s__law_draw : Stmt := top 32
def d__law_draw : He.DefD := ⟨("_law_draw", none), "_law_draw", "_law_draw", defArgs s__law_draw, defBody s__law_draw, defScope s__law_draw, [], []⟩
abbrev s__law_any : Stmt := top 33
def d__law_any : He.DefD := ⟨("_law_any", none), "_law_any", "_law_any", defArgs s__law_any, defBody s__law_any, defScope s__law_any, [], []⟩
abbrev s__law_mixed : Stmt := top 34
def d__law_mixed : He.DefD := ⟨("_law_mixed", none), "_law_mixed", "_law_mixed", defArgs s__law_mixed, defBody s__law_mixed, defScope s__law_mixed, [], []⟩
abbrev s__law_integer : Stmt := top 35
def d__law_integer : He.DefD := ⟨("_law_integer", none), "_law_integer", "_law_integer", defArgs s__law_integer, defBody s__law_integer, defScope s__law_integer, [], []⟩
abbrev s__law_mix : Stmt := top 36
def d__law_mix : He.DefD := ⟨("_law_mix", none), "_law_mix", "_law_mix", defArgs s__law_mix, defBody s__law_mix, defScope s__law_mix, [], []⟩
abbrev s__law_prices : Stmt := top 37
def d__law_prices : He.DefD := ⟨("_law_prices", none), "_law_prices", "_law_prices", defArgs s__law_prices, defBody s__law_prices, defScope s__law_prices, [], []⟩
abbrev s__law_paid : Stmt := top 38
def d__law_paid : He.DefD := ⟨("_law_paid", none), "_law_paid", "_law_paid", defArgs s__law_paid, defBody s__law_paid, defScope s__law_paid, [], []⟩
abbrev s__law_shares : Stmt := top 39
def d__law_shares : He.DefD := ⟨("_law_shares", none), "_law_shares", "_law_shares", defArgs s__law_shares, defBody s__law_shares, defScope s__law_shares, [], []⟩
abbrev s__law_cost : Stmt := top 40
def d__law_cost : He.DefD := ⟨("_law_cost", none), "_law_cost", "_law_cost", defArgs s__law_cost, defBody s__law_cost, defScope s__law_cost, [], []⟩
abbrev s__law_same : Stmt := top 41
def d__law_same : He.DefD := ⟨("_law_same", none), "_law_same", "_law_same", defArgs s__law_same, defBody s__law_same, defScope s__law_same, [], []⟩
abbrev s__law_at : Stmt := top 42
def d__law_at : He.DefD := ⟨("_law_at", none), "_law_at", "_law_at", defArgs s__law_at, defBody s__law_at, defScope s__law_at, [], []⟩
abbrev s__law_added : Stmt := top 43
def d__law_added : He.DefD := ⟨("_law_added", none), "_law_added", "_law_added", defArgs s__law_added, defBody s__law_added, defScope s__law_added, [], []⟩
abbrev s__law_gain : Stmt := top 44
def d__law_gain : He.DefD := ⟨("_law_gain", none), "_law_gain", "_law_gain", defArgs s__law_gain, defBody s__law_gain, defScope s__law_gain, [], []⟩
abbrev s__law_due : Stmt := top 45
def d__law_due : He.DefD := ⟨("_law_due", none), "_law_due", "_law_due", defArgs s__law_due, defBody s__law_due, defScope s__law_due, [], []⟩
abbrev s__law_ended : Stmt := top 46
def d__law_ended : He.DefD := ⟨("_law_ended", none), "_law_ended", "_law_ended", defArgs s__law_ended, defBody s__law_ended, defScope s__law_ended, [], []⟩
abbrev s__law_far : Stmt := top 47
def d__law_far : He.DefD := ⟨("_law_far", none), "_law_far", "_law_far", defArgs s__law_far, defBody s__law_far, defScope s__law_far, [], []⟩
abbrev s__law_is_right : Stmt := top 48
def d__law_is_right : He.DefD := ⟨("_law_is_right", none), "_law_is_right", "_law_is_right", defArgs s__law_is_right, defBody s__law_is_right, defScope s__law_is_right, [], []⟩
abbrev s_law : Stmt := top 49
def d_law : He.DefD := ⟨("law", none), "law", "law", defArgs s_law, defBody s_law, defScope s_law, [], []⟩
def fn0 : List He.DefD := [d_is_integer, d_is_number, d_are_integers, d_is_pair, d_at, d_summed, d_multiplied, d_is_piece, d_is_cost, d_check_cost, d_outcomes_of, d_check_shares, d_heights, d_reached, d_gained, d_gain, d_far, d_sure, d_losses, d__law_hand]
def fn1 : List He.DefD := [d__law_draw, d__law_any, d__law_mixed, d__law_integer, d__law_mix, d__law_prices, d__law_paid, d__law_shares, d__law_cost, d__law_same, d__law_at, d__law_added, d__law_gain, d__law_due, d__law_ended, d__law_far, d__law_is_right, d_law]
def fn : List He.DefD := fn0 ++ fn1
def fa0 : List He.Fa := [.glo "is_integer", .glo "is_number", .glo "are_integers", .glo "is_pair", .glo "at", .glo "summed", .glo "multiplied", .glo "is_piece", .glo "is_cost", .glo "check_cost", .glo "outcomes_of", .glo "check_shares", .glo "heights", .glo "reached", .glo "gained", .glo "gain", .glo "far", .glo "sure", .glo "losses", .glo "_law_hand"]
def fa1 : List He.Fa := [.glo "_law_draw", .glo "_law_any", .glo "_law_mixed", .glo "_law_integer", .glo "_law_mix", .glo "_law_prices", .glo "_law_paid", .glo "_law_shares", .glo "_law_cost", .glo "_law_same", .glo "_law_at", .glo "_law_added", .glo "_law_gain", .glo "_law_due", .glo "_law_ended", .glo "_law_far", .glo "_law_is_right", .glo "law", .free "ValueError", .free "abs"]
def fa2 : List He.Fa := [.free "all", .free "any", .free "bool", .free "int", .free "isinstance", .free "len", .free "list", .free "max", .free "min", .free "range", .free "repr", .free "sum", .free "tuple", .free "zip", .int "LEAST_OUTCOMES" (2), .int "MOST_OUTCOMES" (4), .int "MOST_PIECES" (1000), .exc "AskError", .glo "AskError", .exc "NoCost"]
def fa3 : List He.Fa := [.glo "NoCost", .exc "NoShares", .glo "NoShares", .exc "Sure", .glo "Sure"]
def fa : List He.Fa := fa0 ++ fa1 ++ fa2 ++ fa3
def loose0 : List PySem.Str := ["is_integer", "is_number", "are_integers", "is_pair", "AskError", "NoCost", "NoShares", "Sure", "at", "summed", "multiplied", "LEAST_OUTCOMES", "MOST_OUTCOMES", "MOST_PIECES", "is_piece", "is_cost", "check_cost", "outcomes_of", "check_shares", "heights"]
def loose1 : List PySem.Str := ["reached", "gained", "gain", "far", "sure", "losses", "_law_hand", "_law_draw", "_law_any", "_law_mixed", "_law_integer", "_law_mix", "_law_prices", "_law_paid", "_law_shares", "_law_cost", "_law_same", "_law_at", "_law_added", "_law_gain"]
def loose2 : List PySem.Str := ["_law_due", "_law_ended", "_law_far", "_law_is_right"]
def loose : List PySem.Str := loose0 ++ loose1 ++ loose2
abbrev R : PySem.W.OpenRow := PySem.W.OpenLaw.row PySem.Challenge.rw_paidasks_k77_whole_losses
abbrev hk : PySem.W.Hook := He.hookD 4 fa fn
def ob (s : PySem.W.SharedT) : He.AlD := He.obsDG 4 fa fn (HandSHeadRun.getT s)
theorem ob_eq (s : PySem.W.SharedT) : ob s = hk.obs s.abs := He.obsDG_eq (HandSHeadRun.getT_eq s)
theorem run (w : World) : HandSHeadRun.RunEq R (PySem.W.view R.prog [49]) hk ob 4000 loose w := by
  intro os
  kernel_rfl
end Hd
set_option maxHeartbeats 0
namespace Lw
open PySem PySem.Spec PyProof.Rows L2 Dl

structure Hy (K : PySem.W.Frag) (mg : Str → Option Value) : Prop where
  d_is_integer : Nm1 K mg "is_integer" Hd.s_is_integer
  d_is_number : Nm1 K mg "is_number" Hd.s_is_number
  d_are_integers : Nm1 K mg "are_integers" Hd.s_are_integers
  d_is_pair : Nm1 K mg "is_pair" Hd.s_is_pair
  d_at : Nm1 K mg "at" Hd.s_at
  d_summed : Nm1 K mg "summed" Hd.s_summed
  d_multiplied : Nm1 K mg "multiplied" Hd.s_multiplied
  d_is_piece : Nm1 K mg "is_piece" Hd.s_is_piece
  d_is_cost : Nm1 K mg "is_cost" Hd.s_is_cost
  d_check_cost : Nm1 K mg "check_cost" Hd.s_check_cost
  d_outcomes_of : Nm1 K mg "outcomes_of" Hd.s_outcomes_of
  d_check_shares : Nm1 K mg "check_shares" Hd.s_check_shares
  d_heights : Nm1 K mg "heights" Hd.s_heights
  d_reached : Nm1 K mg "reached" Hd.s_reached
  d_gained : Nm1 K mg "gained" Hd.s_gained
  d_gain : Nm1 K mg "gain" Hd.s_gain
  d_far : Nm1 K mg "far" Hd.s_far
  d_sure : Nm1 K mg "sure" Hd.s_sure
  d_losses : Nm1 K mg "losses" Hd.s_losses
  d__law_hand : Nm1 K mg "_law_hand" Hd.s__law_hand
  d__law_draw : Nm1 K mg "_law_draw" Hd.s__law_draw
  d__law_any : Nm1 K mg "_law_any" Hd.s__law_any
  d__law_mixed : Nm1 K mg "_law_mixed" Hd.s__law_mixed
  d__law_integer : Nm1 K mg "_law_integer" Hd.s__law_integer
  d__law_mix : Nm1 K mg "_law_mix" Hd.s__law_mix
  d__law_prices : Nm1 K mg "_law_prices" Hd.s__law_prices
  d__law_paid : Nm1 K mg "_law_paid" Hd.s__law_paid
  d__law_shares : Nm1 K mg "_law_shares" Hd.s__law_shares
  d__law_cost : Nm1 K mg "_law_cost" Hd.s__law_cost
  d__law_same : Nm1 K mg "_law_same" Hd.s__law_same
  d__law_at : Nm1 K mg "_law_at" Hd.s__law_at
  d__law_added : Nm1 K mg "_law_added" Hd.s__law_added
  d__law_gain : Nm1 K mg "_law_gain" Hd.s__law_gain
  d__law_due : Nm1 K mg "_law_due" Hd.s__law_due
  d__law_ended : Nm1 K mg "_law_ended" Hd.s__law_ended
  d__law_far : Nm1 K mg "_law_far" Hd.s__law_far
  d__law_is_right : Nm1 K mg "_law_is_right" Hd.s__law_is_right
  d_law : Nm1 K mg "law" Hd.s_law
  n_isinstance : mg "isinstance" = none
  n_int : mg "int" = none
  n_bool : mg "bool" = none
  n_len : mg "len" = none
  n_all : mg "all" = none
  n_tuple : mg "tuple" = none
  n_sum : mg "sum" = none
  n_zip : mg "zip" = none
  n_any : mg "any" = none
  n_range : mg "range" = none
  n_max : mg "max" = none
  n_min : mg "min" = none
  n_abs : mg "abs" = none
  n_list : mg "list" = none
  n_repr : mg "repr" = none
  c_MOST_PIECES : ∃ u, mg "MOST_PIECES" = some u ∧ RelV (.int (1000)) u
  c_LEAST_OUTCOMES : ∃ u, mg "LEAST_OUTCOMES" = some u ∧ RelV (.int (2)) u
  c_MOST_OUTCOMES : ∃ u, mg "MOST_OUTCOMES" = some u ∧ RelV (.int (4)) u
section
variable {P : Program} {w : World} {K : PySem.W.Frag} {mg : Str → Option Value} {base : Heap}
def wd (P : Program) (w : World) (K : PySem.W.Frag) (mg : Str → Option Value) (base : Heap) (k : Nat) (N : List Str) : Wd := ⟨P, w, K, mg, base, CX0, k, N⟩
theorem e0 {w : Wd} (h : w.CX = CX0) : ∀ (X : Cx) (σ : L2.St), PassesAt w.CX X σ fun _ _ _ => False := fun X σ => by rw [h]; exact fun _ _ _ _ _ _ h => False.elim h
theorem hx0 {w : Wd} (h : w.CX = CX0) : ∀ (X : Cx) (E : XK) (σ : L2.St), PassesAt w.CX X σ E := fun X E σ => by rw [h]; exact fun _ _ _ _ _ _ h => False.elim h
def N_is_integer : List Str := ["thing"]
def L_is_integer : List (Str × GK) := ([("isinstance", .isi)] : List (Str × GK))
def T_is_integer : List Str := ["int", "bool"]
theorem sc_is_integer : FnScope N_is_integer ["thing"] (defScope Hd.s_is_integer) := ⟨rfl, rfl, rfl, by decide +kernel, rfl, by decide +kernel, by decide +kernel⟩
theorem q_is_integer : trSs (tcOf N_is_integer L_is_integer T_is_integer) 40 (defScope Hd.s_is_integer) (defBody Hd.s_is_integer) = some b_is_integer := by kernel_rfl
theorem m_cIsInt : Mono cIsInt := ⟨fun ds Q Q' X X' hq hx => by
  unfold cIsInt
  repeat first
    | exact id
    | exact hq _ _
    | exact hx _ _
    | refine mo_and ?_
    | refine mo_ex fun _ => ?_
    | refine mo_and2 ?_ ?_
    | refine mo_or ?_ ?_
    | refine mo_all fun _ => ?_⟩
theorem p_is_integer (h : Hy K mg) : Pr (wd P w K mg base 0 N_is_integer) C.tb 1 "is_integer" 1 cIsInt := pr_of (W := wd P w K mg base 0 N_is_integer) (C := C) (L := L_is_integer) (tys := T_is_integer) (ps := ["thing"]) (gk_of (e0 rfl) (ents_cons h.n_isinstance ents_nil) (tys_cons h.n_int (tys_cons h.n_bool tys_nil))) h.d_is_integer sc_is_integer q_is_integer (fun _ _ _ _ _ _ us hl => match us, hl with | [_], _ => rfl) (hx0 rfl) rfl ok_is_integer
def N_is_number : List Str := ["thing"]
def L_is_number : List (Str × GK) := ([("is_integer", .fn 0 1)] : List (Str × GK))
def T_is_number : List Str := []
theorem sc_is_number : FnScope N_is_number ["thing"] (defScope Hd.s_is_number) := ⟨rfl, rfl, rfl, by decide +kernel, rfl, by decide +kernel, by decide +kernel⟩
theorem q_is_number : trSs (tcOf N_is_number L_is_number T_is_number) 40 (defScope Hd.s_is_number) (defBody Hd.s_is_number) = some b_is_number := by kernel_rfl
theorem m_cIsNum : Mono cIsNum := ⟨fun ds Q Q' X X' hq hx => by
  unfold cIsNum
  repeat first
    | exact id
    | exact hq _ _
    | exact hx _ _
    | refine mo_and ?_
    | refine mo_ex fun _ => ?_
    | refine mo_and2 ?_ ?_
    | refine mo_or ?_ ?_
    | refine mo_all fun _ => ?_⟩
theorem p_is_number (h : Hy K mg) : Pr (wd P w K mg base 1 N_is_number) C.tb 2 "is_number" 1 cIsNum := pr_of (W := wd P w K mg base 1 N_is_number) (C := C) (L := L_is_number) (tys := T_is_number) (ps := ["thing"]) (gk_of (e0 rfl) (ents_cons (ent_fn (p_is_integer h) (Nat.le_of_ble_eq_true rfl) rfl m_cIsInt) ents_nil) tys_nil) h.d_is_number sc_is_number q_is_number (fun _ _ _ _ _ _ us hl => match us, hl with | [_], _ => rfl) (hx0 rfl) rfl ok_is_number
def N_are_integers : List Str := ["thing", "many", "one"]
def L_are_integers : List (Str × GK) := ([("isinstance", .isi), ("len", .bf .len), ("all", .bf .all), ("is_integer", .fn 0 1)] : List (Str × GK))
def T_are_integers : List Str := ["tuple"]
theorem sc_are_integers : FnScope N_are_integers ["thing", "many"] (defScope Hd.s_are_integers) := ⟨rfl, rfl, rfl, by decide +kernel, rfl, by decide +kernel, by decide +kernel⟩
theorem q_are_integers : trSs (tcOf N_are_integers L_are_integers T_are_integers) 40 (defScope Hd.s_are_integers) (defBody Hd.s_are_integers) = some b_are_integers := by kernel_rfl
theorem m_cAreInts : Mono cAreInts := ⟨fun ds Q Q' X X' hq hx => by
  unfold cAreInts
  repeat first
    | exact id
    | exact hq _ _
    | exact hx _ _
    | refine mo_and ?_
    | refine mo_ex fun _ => ?_
    | refine mo_and2 ?_ ?_
    | refine mo_or ?_ ?_
    | refine mo_all fun _ => ?_⟩
theorem p_are_integers (h : Hy K mg) : Pr (wd P w K mg base 1 N_are_integers) C.tb 2 "are_integers" 2 cAreInts := pr_of (W := wd P w K mg base 1 N_are_integers) (C := C) (L := L_are_integers) (tys := T_are_integers) (ps := ["thing", "many"]) (gk_of (e0 rfl) (ents_cons h.n_isinstance (ents_cons h.n_len (ents_cons h.n_all (ents_cons (ent_fn (p_is_integer h) (Nat.le_of_ble_eq_true rfl) rfl m_cIsInt) ents_nil)))) (tys_cons h.n_tuple tys_nil)) h.d_are_integers sc_are_integers q_are_integers (fun _ _ _ _ _ _ us hl => match us, hl with | [_, _], _ => rfl) (hx0 rfl) rfl ok_are_integers
def N_is_pair : List Str := ["thing"]
def L_is_pair : List (Str × GK) := ([("isinstance", .isi), ("len", .bf .len)] : List (Str × GK))
def T_is_pair : List Str := ["tuple"]
theorem sc_is_pair : FnScope N_is_pair ["thing"] (defScope Hd.s_is_pair) := ⟨rfl, rfl, rfl, by decide +kernel, rfl, by decide +kernel, by decide +kernel⟩
theorem q_is_pair : trSs (tcOf N_is_pair L_is_pair T_is_pair) 40 (defScope Hd.s_is_pair) (defBody Hd.s_is_pair) = some b_is_pair := by kernel_rfl
theorem m_cIsPair : Mono cIsPair := ⟨fun ds Q Q' X X' hq hx => by
  unfold cIsPair
  repeat first
    | exact id
    | exact hq _ _
    | exact hx _ _
    | refine mo_and ?_
    | refine mo_ex fun _ => ?_
    | refine mo_and2 ?_ ?_
    | refine mo_or ?_ ?_
    | refine mo_all fun _ => ?_⟩
theorem p_is_pair (h : Hy K mg) : Pr (wd P w K mg base 0 N_is_pair) C.tb 1 "is_pair" 1 cIsPair := pr_of (W := wd P w K mg base 0 N_is_pair) (C := C) (L := L_is_pair) (tys := T_is_pair) (ps := ["thing"]) (gk_of (e0 rfl) (ents_cons h.n_isinstance (ents_cons h.n_len ents_nil)) (tys_cons h.n_tuple tys_nil)) h.d_is_pair sc_is_pair q_is_pair (fun _ _ _ _ _ _ us hl => match us, hl with | [_], _ => rfl) (hx0 rfl) rfl ok_is_pair
def N_at : List Str := ["row", "belief", "one", "other"]
def L_at : List (Str × GK) := ([("sum", .bf .sum), ("zip", .zip)] : List (Str × GK))
def T_at : List Str := []
theorem sc_at : FnScope N_at ["row", "belief"] (defScope Hd.s_at) := ⟨rfl, rfl, rfl, by decide +kernel, rfl, by decide +kernel, by decide +kernel⟩
theorem q_at : trSs (tcOf N_at L_at T_at) 40 (defScope Hd.s_at) (defBody Hd.s_at) = some b_at := by kernel_rfl
theorem m_cAt : Mono cAt := ⟨fun ds Q Q' X X' hq hx => by
  unfold cAt
  repeat first
    | exact id
    | exact hq _ _
    | exact hx _ _
    | refine mo_and ?_
    | refine mo_ex fun _ => ?_
    | refine mo_and2 ?_ ?_
    | refine mo_or ?_ ?_
    | refine mo_all fun _ => ?_⟩
theorem p_at (h : Hy K mg) : Pr (wd P w K mg base 0 N_at) C.tb 1 "at" 2 cAt := pr_of (W := wd P w K mg base 0 N_at) (C := C) (L := L_at) (tys := T_at) (ps := ["row", "belief"]) (gk_of (e0 rfl) (ents_cons h.n_sum (ents_cons h.n_zip ents_nil)) tys_nil) h.d_at sc_at q_at (fun _ _ _ _ _ _ us hl => match us, hl with | [_, _], _ => rfl) (hx0 rfl) rfl ok_at
def N_summed : List Str := ["one", "other", "here", "there"]
def L_summed : List (Str × GK) := ([("tuple", .bf .tuple), ("zip", .zip)] : List (Str × GK))
def T_summed : List Str := []
theorem sc_summed : FnScope N_summed ["one", "other"] (defScope Hd.s_summed) := ⟨rfl, rfl, rfl, by decide +kernel, rfl, by decide +kernel, by decide +kernel⟩
theorem q_summed : trSs (tcOf N_summed L_summed T_summed) 40 (defScope Hd.s_summed) (defBody Hd.s_summed) = some b_summed := by kernel_rfl
theorem m_cSummed : Mono cSummed := ⟨fun ds Q Q' X X' hq hx => by
  unfold cSummed
  repeat first
    | exact id
    | exact hq _ _
    | exact hx _ _
    | refine mo_and ?_
    | refine mo_ex fun _ => ?_
    | refine mo_and2 ?_ ?_
    | refine mo_or ?_ ?_
    | refine mo_all fun _ => ?_⟩
theorem p_summed (h : Hy K mg) : Pr (wd P w K mg base 0 N_summed) C.tb 1 "summed" 2 cSummed := pr_of (W := wd P w K mg base 0 N_summed) (C := C) (L := L_summed) (tys := T_summed) (ps := ["one", "other"]) (gk_of (e0 rfl) (ents_cons h.n_tuple (ents_cons h.n_zip ents_nil)) tys_nil) h.d_summed sc_summed q_summed (fun _ _ _ _ _ _ us hl => match us, hl with | [_, _], _ => rfl) (hx0 rfl) rfl ok_summed
def N_multiplied : List Str := ["row", "times", "one"]
def L_multiplied : List (Str × GK) := ([("tuple", .bf .tuple)] : List (Str × GK))
def T_multiplied : List Str := []
theorem sc_multiplied : FnScope N_multiplied ["row", "times"] (defScope Hd.s_multiplied) := ⟨rfl, rfl, rfl, by decide +kernel, rfl, by decide +kernel, by decide +kernel⟩
theorem q_multiplied : trSs (tcOf N_multiplied L_multiplied T_multiplied) 40 (defScope Hd.s_multiplied) (defBody Hd.s_multiplied) = some b_multiplied := by kernel_rfl
theorem m_cMult : Mono cMult := ⟨fun ds Q Q' X X' hq hx => by
  unfold cMult
  repeat first
    | exact id
    | exact hq _ _
    | exact hx _ _
    | refine mo_and ?_
    | refine mo_ex fun _ => ?_
    | refine mo_and2 ?_ ?_
    | refine mo_or ?_ ?_
    | refine mo_all fun _ => ?_⟩
theorem p_multiplied (h : Hy K mg) : Pr (wd P w K mg base 0 N_multiplied) C.tb 1 "multiplied" 2 cMult := pr_of (W := wd P w K mg base 0 N_multiplied) (C := C) (L := L_multiplied) (tys := T_multiplied) (ps := ["row", "times"]) (gk_of (e0 rfl) (ents_cons h.n_tuple ents_nil) tys_nil) h.d_multiplied sc_multiplied q_multiplied (fun _ _ _ _ _ _ us hl => match us, hl with | [_, _], _ => rfl) (hx0 rfl) rfl ok_mult
def N_is_piece : List Str := ["thing", "many"]
def L_is_piece : List (Str × GK) := ([("is_pair", .fn 3 1), ("are_integers", .fn 2 2), ("is_integer", .fn 0 1)] : List (Str × GK))
def T_is_piece : List Str := []
theorem sc_is_piece : FnScope N_is_piece ["thing", "many"] (defScope Hd.s_is_piece) := ⟨rfl, rfl, rfl, by decide +kernel, rfl, by decide +kernel, by decide +kernel⟩
theorem q_is_piece : trSs (tcOf N_is_piece L_is_piece T_is_piece) 40 (defScope Hd.s_is_piece) (defBody Hd.s_is_piece) = some b_is_piece := by kernel_rfl
theorem m_cIsPiece : Mono cIsPiece := ⟨fun ds Q Q' X X' hq hx => by
  unfold cIsPiece
  repeat first
    | exact id
    | exact hq _ _
    | exact hx _ _
    | refine mo_and ?_
    | refine mo_ex fun _ => ?_
    | refine mo_and2 ?_ ?_
    | refine mo_or ?_ ?_
    | refine mo_all fun _ => ?_⟩
theorem p_is_piece (h : Hy K mg) : Pr (wd P w K mg base 2 N_is_piece) C.tb 3 "is_piece" 2 cIsPiece := pr_of (W := wd P w K mg base 2 N_is_piece) (C := C) (L := L_is_piece) (tys := T_is_piece) (ps := ["thing", "many"]) (gk_of (e0 rfl) (ents_cons (ent_fn (p_is_pair h) (Nat.le_of_ble_eq_true rfl) rfl m_cIsPair) (ents_cons (ent_fn (p_are_integers h) (Nat.le_of_ble_eq_true rfl) rfl m_cAreInts) (ents_cons (ent_fn (p_is_integer h) (Nat.le_of_ble_eq_true rfl) rfl m_cIsInt) ents_nil))) tys_nil) h.d_is_piece sc_is_piece q_is_piece (fun _ _ _ _ _ _ us hl => match us, hl with | [_, _], _ => rfl) (hx0 rfl) rfl ok_is_piece
def N_is_cost : List Str := ["thing", "pieces", "many", "piece"]
def L_is_cost : List (Str × GK) := ([("is_pair", .fn 3 1), ("is_number", .fn 1 1), ("isinstance", .isi), ("len", .bf .len), ("MOST_PIECES", .ci (1000)), ("any", .bf .any), ("all", .bf .all), ("is_piece", .fn 5 2), ("range", .rng), ("LEAST_OUTCOMES", .ci (2)), ("MOST_OUTCOMES", .ci (4))] : List (Str × GK))
def T_is_cost : List Str := ["tuple"]
theorem sc_is_cost : FnScope N_is_cost ["thing"] (defScope Hd.s_is_cost) := ⟨rfl, rfl, rfl, by decide +kernel, rfl, by decide +kernel, by decide +kernel⟩
theorem q_is_cost : trSs (tcOf N_is_cost L_is_cost T_is_cost) 40 (defScope Hd.s_is_cost) (defBody Hd.s_is_cost) = some b_is_cost := by kernel_rfl
theorem m_cIsCost : Mono cIsCost := ⟨fun ds Q Q' X X' hq hx => by
  unfold cIsCost
  repeat first
    | exact id
    | exact hq _ _
    | exact hx _ _
    | refine mo_and ?_
    | refine mo_ex fun _ => ?_
    | refine mo_and2 ?_ ?_
    | refine mo_or ?_ ?_
    | refine mo_all fun _ => ?_⟩
theorem p_is_cost (h : Hy K mg) : Pr (wd P w K mg base 3 N_is_cost) C.tb 4 "is_cost" 1 cIsCost := pr_of (W := wd P w K mg base 3 N_is_cost) (C := C) (L := L_is_cost) (tys := T_is_cost) (ps := ["thing"]) (gk_of (e0 rfl) (ents_cons (ent_fn (p_is_pair h) (Nat.le_of_ble_eq_true rfl) rfl m_cIsPair) (ents_cons (ent_fn (p_is_number h) (Nat.le_of_ble_eq_true rfl) rfl m_cIsNum) (ents_cons h.n_isinstance (ents_cons h.n_len (ents_cons h.c_MOST_PIECES (ents_cons h.n_any (ents_cons h.n_all (ents_cons (ent_fn (p_is_piece h) (Nat.le_of_ble_eq_true rfl) rfl m_cIsPiece) (ents_cons h.n_range (ents_cons h.c_LEAST_OUTCOMES (ents_cons h.c_MOST_OUTCOMES ents_nil))))))))))) (tys_cons h.n_tuple tys_nil)) h.d_is_cost sc_is_cost q_is_cost (fun _ _ _ _ _ _ us hl => match us, hl with | [_], _ => rfl) (hx0 rfl) rfl ok_is_cost
def N_check_cost : List Str := ["cost"]
def L_check_cost : List (Str × GK) := ([("is_cost", .fn 6 1)] : List (Str × GK))
def T_check_cost : List Str := []
theorem sc_check_cost : FnScope N_check_cost ["cost"] (defScope Hd.s_check_cost) := ⟨rfl, rfl, rfl, by decide +kernel, rfl, by decide +kernel, by decide +kernel⟩
theorem q_check_cost : trSs (tcOf N_check_cost L_check_cost T_check_cost) 40 (defScope Hd.s_check_cost) (defBody Hd.s_check_cost) = some b_check_cost := by kernel_rfl
theorem m_cChkCost : Mono cChkCost := ⟨fun ds Q Q' X X' hq hx => by
  unfold cChkCost
  repeat first
    | exact id
    | exact hq _ _
    | exact hx _ _
    | refine mo_and ?_
    | refine mo_ex fun _ => ?_
    | refine mo_and2 ?_ ?_
    | refine mo_or ?_ ?_
    | refine mo_all fun _ => ?_⟩
theorem p_check_cost (h : Hy K mg) : Pr (wd P w K mg base 4 N_check_cost) C.tb 5 "check_cost" 1 cChkCost := pr_of (W := wd P w K mg base 4 N_check_cost) (C := C) (L := L_check_cost) (tys := T_check_cost) (ps := ["cost"]) (gk_of (e0 rfl) (ents_cons (ent_fn (p_is_cost h) (Nat.le_of_ble_eq_true rfl) rfl m_cIsCost) ents_nil) tys_nil) h.d_check_cost sc_check_cost q_check_cost (fun _ _ _ _ _ _ us hl => match us, hl with | [_], _ => rfl) (hx0 rfl) rfl ok_check_cost
def N_outcomes_of : List Str := ["cost"]
def L_outcomes_of : List (Str × GK) := ([("len", .bf .len)] : List (Str × GK))
def T_outcomes_of : List Str := []
theorem sc_outcomes_of : FnScope N_outcomes_of ["cost"] (defScope Hd.s_outcomes_of) := ⟨rfl, rfl, rfl, by decide +kernel, rfl, by decide +kernel, by decide +kernel⟩
theorem q_outcomes_of : trSs (tcOf N_outcomes_of L_outcomes_of T_outcomes_of) 40 (defScope Hd.s_outcomes_of) (defBody Hd.s_outcomes_of) = some b_outcomes_of := by kernel_rfl
theorem m_cOutc : Mono cOutc := ⟨fun ds Q Q' X X' hq hx => by
  unfold cOutc
  repeat first
    | exact id
    | exact hq _ _
    | exact hx _ _
    | refine mo_and ?_
    | refine mo_ex fun _ => ?_
    | refine mo_and2 ?_ ?_
    | refine mo_or ?_ ?_
    | refine mo_all fun _ => ?_⟩
theorem p_outcomes_of (h : Hy K mg) : Pr (wd P w K mg base 0 N_outcomes_of) C.tb 1 "outcomes_of" 1 cOutc := pr_of (W := wd P w K mg base 0 N_outcomes_of) (C := C) (L := L_outcomes_of) (tys := T_outcomes_of) (ps := ["cost"]) (gk_of (e0 rfl) (ents_cons h.n_len ents_nil) tys_nil) h.d_outcomes_of sc_outcomes_of q_outcomes_of (fun _ _ _ _ _ _ us hl => match us, hl with | [_], _ => rfl) (hx0 rfl) rfl ok_outcomes_of
def N_check_shares : List Str := ["cost", "shares"]
def L_check_shares : List (Str × GK) := ([("are_integers", .fn 2 2), ("outcomes_of", .fn 8 1)] : List (Str × GK))
def T_check_shares : List Str := []
theorem sc_check_shares : FnScope N_check_shares ["cost", "shares"] (defScope Hd.s_check_shares) := ⟨rfl, rfl, rfl, by decide +kernel, rfl, by decide +kernel, by decide +kernel⟩
theorem q_check_shares : trSs (tcOf N_check_shares L_check_shares T_check_shares) 40 (defScope Hd.s_check_shares) (defBody Hd.s_check_shares) = some b_check_shares := by kernel_rfl
theorem m_cChkSh : Mono cChkSh := ⟨fun ds Q Q' X X' hq hx => by
  unfold cChkSh
  repeat first
    | exact id
    | exact hq _ _
    | exact hx _ _
    | refine mo_and ?_
    | refine mo_ex fun _ => ?_
    | refine mo_and2 ?_ ?_
    | refine mo_or ?_ ?_
    | refine mo_all fun _ => ?_⟩
theorem p_check_shares (h : Hy K mg) : Pr (wd P w K mg base 2 N_check_shares) C.tb 3 "check_shares" 2 cChkSh := pr_of (W := wd P w K mg base 2 N_check_shares) (C := C) (L := L_check_shares) (tys := T_check_shares) (ps := ["cost", "shares"]) (gk_of (e0 rfl) (ents_cons (ent_fn (p_are_integers h) (Nat.le_of_ble_eq_true rfl) rfl m_cAreInts) (ents_cons (ent_fn (p_outcomes_of h) (Nat.le_of_ble_eq_true rfl) rfl m_cOutc) ents_nil)) tys_nil) h.d_check_shares sc_check_shares q_check_shares (fun _ _ _ _ _ _ us hl => match us, hl with | [_, _], _ => rfl) (hx0 rfl) rfl ok_check_shares
def N_heights : List Str := ["cost", "shares", "prices", "low"]
def L_heights : List (Str × GK) := ([("at", .fn 4 2)] : List (Str × GK))
def T_heights : List Str := []
theorem sc_heights : FnScope N_heights ["cost", "shares"] (defScope Hd.s_heights) := ⟨rfl, rfl, rfl, by decide +kernel, rfl, by decide +kernel, by decide +kernel⟩
theorem q_heights : trSs (tcOf N_heights L_heights T_heights) 40 (defScope Hd.s_heights) (defBody Hd.s_heights) = some b_heights := by kernel_rfl
theorem m_cHts : Mono cHts := ⟨fun ds Q Q' X X' hq hx => by
  unfold cHts
  repeat first
    | exact id
    | exact hq _ _
    | exact hx _ _
    | refine mo_and ?_
    | refine mo_ex fun _ => ?_
    | refine mo_and2 ?_ ?_
    | refine mo_or ?_ ?_
    | refine mo_all fun _ => ?_⟩
theorem p_heights (h : Hy K mg) : Pr (wd P w K mg base 1 N_heights) C.tb 2 "heights" 2 cHts := pr_of (W := wd P w K mg base 1 N_heights) (C := C) (L := L_heights) (tys := T_heights) (ps := ["cost", "shares"]) (gk_of (e0 rfl) (ents_cons (ent_fn (p_at h) (Nat.le_of_ble_eq_true rfl) rfl m_cAt) ents_nil) tys_nil) h.d_heights sc_heights q_heights (fun _ _ _ _ _ _ us hl => match us, hl with | [_, _], _ => rfl) (hx0 rfl) rfl ok_heights
def N_reached : List Str := ["cost", "shares"]
def L_reached : List (Str × GK) := ([("max", .bf .max), ("heights", .fn 10 2)] : List (Str × GK))
def T_reached : List Str := []
theorem sc_reached : FnScope N_reached ["cost", "shares"] (defScope Hd.s_reached) := ⟨rfl, rfl, rfl, by decide +kernel, rfl, by decide +kernel, by decide +kernel⟩
theorem q_reached : trSs (tcOf N_reached L_reached T_reached) 40 (defScope Hd.s_reached) (defBody Hd.s_reached) = some b_reached := by kernel_rfl
theorem m_cReached : Mono cReached := ⟨fun ds Q Q' X X' hq hx => by
  unfold cReached
  repeat first
    | exact id
    | exact hq _ _
    | exact hx _ _
    | refine mo_and ?_
    | refine mo_ex fun _ => ?_
    | refine mo_and2 ?_ ?_
    | refine mo_or ?_ ?_
    | refine mo_all fun _ => ?_⟩
theorem p_reached (h : Hy K mg) : Pr (wd P w K mg base 2 N_reached) C.tb 3 "reached" 2 cReached := pr_of (W := wd P w K mg base 2 N_reached) (C := C) (L := L_reached) (tys := T_reached) (ps := ["cost", "shares"]) (gk_of (e0 rfl) (ents_cons h.n_max (ents_cons (ent_fn (p_heights h) (Nat.le_of_ble_eq_true rfl) rfl m_cHts) ents_nil)) tys_nil) h.d_reached sc_reached q_reached (fun _ _ _ _ _ _ us hl => match us, hl with | [_, _], _ => rfl) (hx0 rfl) rfl ok_reached
def N_gained : List Str := ["cost", "out", "bought", "paid", "share"]
def L_gained : List (Str × GK) := ([("reached", .fn 11 2), ("summed", .fn 30 2), ("tuple", .bf .tuple)] : List (Str × GK))
def T_gained : List Str := []
theorem sc_gained : FnScope N_gained ["cost", "out", "bought"] (defScope Hd.s_gained) := ⟨rfl, rfl, rfl, by decide +kernel, rfl, by decide +kernel, by decide +kernel⟩
theorem q_gained : trSs (tcOf N_gained L_gained T_gained) 40 (defScope Hd.s_gained) (defBody Hd.s_gained) = some b_gained := by kernel_rfl
theorem m_cGained : Mono cGained := ⟨fun ds Q Q' X X' hq hx => by
  unfold cGained
  repeat first
    | exact id
    | exact hq _ _
    | exact hx _ _
    | refine mo_and ?_
    | refine mo_ex fun _ => ?_
    | refine mo_and2 ?_ ?_
    | refine mo_or ?_ ?_
    | refine mo_all fun _ => ?_⟩
theorem p_gained (h : Hy K mg) : Pr (wd P w K mg base 3 N_gained) C.tb 4 "gained" 3 cGained := pr_of (W := wd P w K mg base 3 N_gained) (C := C) (L := L_gained) (tys := T_gained) (ps := ["cost", "out", "bought"]) (gk_of (e0 rfl) (ents_cons (ent_fn (p_reached h) (Nat.le_of_ble_eq_true rfl) rfl m_cReached) (ents_cons (ent_fn (p_summed h) (Nat.le_of_ble_eq_true rfl) rfl m_cSummed) (ents_cons h.n_tuple ents_nil))) tys_nil) h.d_gained sc_gained q_gained (fun _ _ _ _ _ _ us hl => match us, hl with | [_, _, _], _ => rfl) (hx0 rfl) rfl ok_gained
def N_gain : List Str := ["cost", "out", "bought"]
def L_gain : List (Str × GK) := ([("check_cost", .fn 7 1), ("check_shares", .fn 9 2), ("gained", .fn 31 3)] : List (Str × GK))
def T_gain : List Str := []
theorem sc_gain : FnScope N_gain ["cost", "out", "bought"] (defScope Hd.s_gain) := ⟨rfl, rfl, rfl, by decide +kernel, rfl, by decide +kernel, by decide +kernel⟩
theorem q_gain : trSs (tcOf N_gain L_gain T_gain) 40 (defScope Hd.s_gain) (defBody Hd.s_gain) = some b_gain := by kernel_rfl
theorem p_gain (h : Hy K mg) : Pr (wd P w K mg base 5 N_gain) C.tb 6 "gain" 3 cGained := pr_of (W := wd P w K mg base 5 N_gain) (C := C) (L := L_gain) (tys := T_gain) (ps := ["cost", "out", "bought"]) (gk_of (e0 rfl) (ents_cons (ent_fn (p_check_cost h) (Nat.le_of_ble_eq_true rfl) rfl m_cChkCost) (ents_cons (ent_fn (p_check_shares h) (Nat.le_of_ble_eq_true rfl) rfl m_cChkSh) (ents_cons (ent_fn (p_gained h) (Nat.le_of_ble_eq_true rfl) rfl m_cGained) ents_nil))) tys_nil) h.d_gain sc_gain q_gain (fun _ _ _ _ _ _ us hl => match us, hl with | [_, _, _], _ => rfl) (hx0 rfl) rfl ok_gain
def N_far : List Str := ["cost", "lows", "prices", "low"]
def L_far : List (Str × GK) := ([("max", .bf .max), ("min", .bf .min)] : List (Str × GK))
def T_far : List Str := []
theorem sc_far : FnScope N_far ["cost"] (defScope Hd.s_far) := ⟨rfl, rfl, rfl, by decide +kernel, rfl, by decide +kernel, by decide +kernel⟩
theorem q_far : trSs (tcOf N_far L_far T_far) 40 (defScope Hd.s_far) (defBody Hd.s_far) = some b_far := by kernel_rfl
theorem m_cFar : Mono cFar := ⟨fun ds Q Q' X X' hq hx => by
  unfold cFar
  repeat first
    | exact id
    | exact hq _ _
    | exact hx _ _
    | refine mo_and ?_
    | refine mo_ex fun _ => ?_
    | refine mo_and2 ?_ ?_
    | refine mo_or ?_ ?_
    | refine mo_all fun _ => ?_⟩
theorem p_far (h : Hy K mg) : Pr (wd P w K mg base 0 N_far) C.tb 1 "far" 1 cFar := pr_of (W := wd P w K mg base 0 N_far) (C := C) (L := L_far) (tys := T_far) (ps := ["cost"]) (gk_of (e0 rfl) (ents_cons h.n_max (ents_cons h.n_min ents_nil)) tys_nil) h.d_far sc_far q_far (fun _ _ _ _ _ _ us hl => match us, hl with | [_], _ => rfl) (hx0 rfl) rfl ok_far
def N_sure : List Str := ["cost", "every", "sums", "outcome", "many", "many_far", "single", "prices", "low", "place"]
def L_sure : List (Str × GK) := ([("check_cost", .fn 7 1), ("outcomes_of", .fn 8 1), ("far", .fn 39 1), ("sum", .bf .sum), ("min", .bf .min), ("multiplied", .fn 38 2), ("max", .bf .max), ("range", .rng), ("tuple", .bf .tuple), ("int", .bf .int)] : List (Str × GK))
def T_sure : List Str := []
theorem sc_sure : FnScope N_sure ["cost"] (defScope Hd.s_sure) := ⟨rfl, rfl, rfl, by decide +kernel, rfl, by decide +kernel, by decide +kernel⟩
theorem q_sure : trSs (tcOf N_sure L_sure T_sure) 40 (defScope Hd.s_sure) (defBody Hd.s_sure) = some b_sure := by kernel_rfl
theorem m_cSure : Mono cSure := ⟨fun ds Q Q' X X' hq hx => by
  unfold cSure
  repeat first
    | exact id
    | exact hq _ _
    | exact hx _ _
    | refine mo_and ?_
    | refine mo_ex fun _ => ?_
    | refine mo_and2 ?_ ?_
    | refine mo_or ?_ ?_
    | refine mo_all fun _ => ?_⟩
theorem p_sure (h : Hy K mg) : Pr (wd P w K mg base 5 N_sure) C.tb 6 "sure" 1 cSure := pr_of (W := wd P w K mg base 5 N_sure) (C := C) (L := L_sure) (tys := T_sure) (ps := ["cost"]) (gk_of (e0 rfl) (ents_cons (ent_fn (p_check_cost h) (Nat.le_of_ble_eq_true rfl) rfl m_cChkCost) (ents_cons (ent_fn (p_outcomes_of h) (Nat.le_of_ble_eq_true rfl) rfl m_cOutc) (ents_cons (ent_fn (p_far h) (Nat.le_of_ble_eq_true rfl) rfl m_cFar) (ents_cons h.n_sum (ents_cons h.n_min (ents_cons (ent_fn (p_multiplied h) (Nat.le_of_ble_eq_true rfl) rfl m_cMult) (ents_cons h.n_max (ents_cons h.n_range (ents_cons h.n_tuple (ents_cons h.n_int ents_nil)))))))))) tys_nil) h.d_sure sc_sure q_sure (fun _ _ _ _ _ _ us hl => match us, hl with | [_], _ => rfl) (hx0 rfl) rfl ok_sure
def N_losses : List Str := ["cost", "begin", "outcome", "many", "found", "lows", "prices", "low"]
def L_losses : List (Str × GK) := ([("sure", .fn 40 1), ("outcomes_of", .fn 8 1), ("reached", .fn 11 2), ("range", .rng), ("len", .bf .len), ("min", .bf .min), ("tuple", .bf .tuple)] : List (Str × GK))
def T_losses : List Str := []
theorem sc_losses : FnScope N_losses ["cost"] (defScope Hd.s_losses) := ⟨rfl, rfl, rfl, by decide +kernel, rfl, by decide +kernel, by decide +kernel⟩
theorem q_losses : trSs (tcOf N_losses L_losses T_losses) 40 (defScope Hd.s_losses) (defBody Hd.s_losses) = some b_losses := by kernel_rfl
theorem m_cLosses : Mono cLosses := ⟨fun ds Q Q' X X' hq hx => by
  unfold cLosses
  repeat first
    | exact id
    | exact hq _ _
    | exact hx _ _
    | refine mo_and ?_
    | refine mo_ex fun _ => ?_
    | refine mo_and2 ?_ ?_
    | refine mo_or ?_ ?_
    | refine mo_all fun _ => ?_⟩
theorem p_losses (h : Hy K mg) : Pr (wd P w K mg base 6 N_losses) C.tb 7 "losses" 1 cLosses := pr_of (W := wd P w K mg base 6 N_losses) (C := C) (L := L_losses) (tys := T_losses) (ps := ["cost"]) (gk_of (e0 rfl) (ents_cons (ent_fn (p_sure h) (Nat.le_of_ble_eq_true rfl) rfl m_cSure) (ents_cons (ent_fn (p_outcomes_of h) (Nat.le_of_ble_eq_true rfl) rfl m_cOutc) (ents_cons (ent_fn (p_reached h) (Nat.le_of_ble_eq_true rfl) rfl m_cReached) (ents_cons h.n_range (ents_cons h.n_len (ents_cons h.n_min (ents_cons h.n_tuple ents_nil))))))) tys_nil) h.d_losses sc_losses q_losses (fun _ _ _ _ _ _ us hl => match us, hl with | [_], _ => rfl) (hx0 rfl) rfl ok_losses
def N__law_hand : List Str := ["script", "cells", "cell"]
def L__law_hand : List (Str × GK) := ([("abs", .bf .abs), ("int", .bf .int), ("len", .bf .len)] : List (Str × GK))
def T__law_hand : List Str := []
theorem sc__law_hand : FnScope N__law_hand ["script"] (defScope Hd.s__law_hand) := ⟨rfl, rfl, rfl, by decide +kernel, rfl, by decide +kernel, by decide +kernel⟩
theorem p__law_hand (h : Hy K mg) : PrHand (wd P w K mg base 0 N__law_hand) 1 := pr_hand (W := wd P w K mg base 0 N__law_hand) (k1 := 41) (k2 := 5) h.d__law_hand rfl sc__law_hand (by kernel_rfl) h.n_abs h.n_int h.n_len (by decide) (by decide) (by decide) (by decide) (fun _ _ _ _ _ _ us hl => match us, hl with | [_], _ => rfl) (hx0 rfl)
def N__law_draw : List Str := ["hand", "many", "number", "cell", "digit"]
def L__law_draw : List (Str × GK) := ([("len", .bf .len), ("int", .bf .int)] : List (Str × GK))
def T__law_draw : List Str := []
theorem sc__law_draw : FnScope N__law_draw ["hand", "many"] (defScope Hd.s__law_draw) := ⟨rfl, rfl, rfl, by decide +kernel, rfl, by decide +kernel, by decide +kernel⟩
theorem q__law_draw : trSs (tcOf N__law_draw L__law_draw T__law_draw) 40 (defScope Hd.s__law_draw) (defBody Hd.s__law_draw) = some b__law_draw := by kernel_rfl
theorem p__law_draw (h : Hy K mg) : Pr (wd P w K mg base 0 N__law_draw) C.tb 1 "_law_draw" 2 cDraw := pr_draw (W := wd P w K mg base 0 N__law_draw) (C := C) (L := L__law_draw) (tys := T__law_draw) (gk_of (e0 rfl) (ents_cons h.n_len (ents_cons h.n_int ents_nil)) tys_nil) h.d__law_draw sc__law_draw rfl q__law_draw (fun _ _ _ _ _ _ us hl => match us, hl with | [_, _], _ => rfl) (hx0 rfl) (draw_ok C)
theorem m_cDraw : Mono cDraw := ⟨fun ds Q Q' X X' hq hx => by
  unfold cDraw
  repeat first
    | exact id
    | exact hq _ _
    | exact hx _ _
    | refine mo_and ?_
    | refine mo_ex fun _ => ?_
    | refine mo_and2 ?_ ?_
    | refine mo_or ?_ ?_
    | refine mo_all fun _ => ?_⟩
def N__law_any : List Str := ["hand", "some"]
def L__law_any : List (Str × GK) := ([("_law_draw", .fn 15 2), ("len", .bf .len)] : List (Str × GK))
def T__law_any : List Str := []
theorem sc__law_any : FnScope N__law_any ["hand", "some"] (defScope Hd.s__law_any) := ⟨rfl, rfl, rfl, by decide +kernel, rfl, by decide +kernel, by decide +kernel⟩
theorem q__law_any : trSs (tcOf N__law_any L__law_any T__law_any) 40 (defScope Hd.s__law_any) (defBody Hd.s__law_any) = some b__law_any := by kernel_rfl
theorem m_cAny : Mono cAny := ⟨fun ds Q Q' X X' hq hx => by
  unfold cAny
  repeat first
    | exact id
    | exact hq _ _
    | exact hx _ _
    | refine mo_and ?_
    | refine mo_ex fun _ => ?_
    | refine mo_and2 ?_ ?_
    | refine mo_or ?_ ?_
    | refine mo_all fun _ => ?_⟩
theorem p__law_any (h : Hy K mg) : Pr (wd P w K mg base 1 N__law_any) C.tb 2 "_law_any" 2 cAny := pr_of (W := wd P w K mg base 1 N__law_any) (C := C) (L := L__law_any) (tys := T__law_any) (ps := ["hand", "some"]) (gk_of (e0 rfl) (ents_cons (ent_fn (p__law_draw h) (Nat.le_of_ble_eq_true rfl) rfl m_cDraw) (ents_cons h.n_len ents_nil)) tys_nil) h.d__law_any sc__law_any q__law_any (fun _ _ _ _ _ _ us hl => match us, hl with | [_, _], _ => rfl) (hx0 rfl) rfl ok_any
def N__law_mixed : List Str := ["hand", "things", "left", "found"]
def L__law_mixed : List (Str × GK) := ([("list", .bf .list), ("len", .bf .len), ("_law_draw", .fn 15 2)] : List (Str × GK))
def T__law_mixed : List Str := []
theorem sc__law_mixed : FnScope N__law_mixed ["hand", "things"] (defScope Hd.s__law_mixed) := ⟨rfl, rfl, rfl, by decide +kernel, rfl, by decide +kernel, by decide +kernel⟩
theorem q__law_mixed : trSs (tcOf N__law_mixed L__law_mixed T__law_mixed) 40 (defScope Hd.s__law_mixed) (defBody Hd.s__law_mixed) = some b__law_mixed := by kernel_rfl
theorem m_cMixed : Mono cMixed := ⟨fun ds Q Q' X X' hq hx => by
  unfold cMixed
  repeat first
    | exact id
    | exact hq _ _
    | exact hx _ _
    | refine mo_and ?_
    | refine mo_ex fun _ => ?_
    | refine mo_and2 ?_ ?_
    | refine mo_or ?_ ?_
    | refine mo_all fun _ => ?_⟩
theorem p__law_mixed (h : Hy K mg) : Pr (wd P w K mg base 1 N__law_mixed) C.tb 2 "_law_mixed" 2 cMixed := pr_of (W := wd P w K mg base 1 N__law_mixed) (C := C) (L := L__law_mixed) (tys := T__law_mixed) (ps := ["hand", "things"]) (gk_of (e0 rfl) (ents_cons h.n_list (ents_cons h.n_len (ents_cons (ent_fn (p__law_draw h) (Nat.le_of_ble_eq_true rfl) rfl m_cDraw) ents_nil))) tys_nil) h.d__law_mixed sc__law_mixed q__law_mixed (fun _ _ _ _ _ _ us hl => match us, hl with | [_, _], _ => rfl) (hx0 rfl) rfl ok_mixed
def N__law_integer : List Str := ["hand", "kind", "most", "great"]
def L__law_integer : List (Str × GK) := ([("_law_draw", .fn 15 2), ("_law_any", .fn 16 2)] : List (Str × GK))
def T__law_integer : List Str := []
theorem sc__law_integer : FnScope N__law_integer ["hand"] (defScope Hd.s__law_integer) := ⟨rfl, rfl, rfl, by decide +kernel, rfl, by decide +kernel, by decide +kernel⟩
theorem q__law_integer : trSs (tcOf N__law_integer L__law_integer T__law_integer) 40 (defScope Hd.s__law_integer) (defBody Hd.s__law_integer) = some b__law_integer := by kernel_rfl
theorem m_cInteger : Mono cInteger := ⟨fun ds Q Q' X X' hq hx => by
  unfold cInteger
  repeat first
    | exact id
    | exact hq _ _
    | exact hx _ _
    | refine mo_and ?_
    | refine mo_ex fun _ => ?_
    | refine mo_and2 ?_ ?_
    | refine mo_or ?_ ?_
    | refine mo_all fun _ => ?_⟩
theorem p__law_integer (h : Hy K mg) : Pr (wd P w K mg base 2 N__law_integer) C.tb 3 "_law_integer" 1 cInteger := pr_of (W := wd P w K mg base 2 N__law_integer) (C := C) (L := L__law_integer) (tys := T__law_integer) (ps := ["hand"]) (gk_of (e0 rfl) (ents_cons (ent_fn (p__law_draw h) (Nat.le_of_ble_eq_true rfl) rfl m_cDraw) (ents_cons (ent_fn (p__law_any h) (Nat.le_of_ble_eq_true rfl) rfl m_cAny) ents_nil)) tys_nil) h.d__law_integer sc__law_integer q__law_integer (fun _ _ _ _ _ _ us hl => match us, hl with | [_], _ => rfl) (hx0 rfl) rfl ok_integer
def N__law_mix : List Str := ["hand", "many", "unit", "place", "left", "found"]
def L__law_mix : List (Str × GK) := ([("range", .rng), ("_law_any", .fn 16 2), ("_law_draw", .fn 15 2), ("tuple", .bf .tuple), ("_law_mixed", .fn 17 2)] : List (Str × GK))
def T__law_mix : List Str := []
theorem sc__law_mix : FnScope N__law_mix ["hand", "many", "unit"] (defScope Hd.s__law_mix) := ⟨rfl, rfl, rfl, by decide +kernel, rfl, by decide +kernel, by decide +kernel⟩
theorem q__law_mix : trSs (tcOf N__law_mix L__law_mix T__law_mix) 40 (defScope Hd.s__law_mix) (defBody Hd.s__law_mix) = some b__law_mix := by kernel_rfl
theorem m_cMix : Mono cMix := ⟨fun ds Q Q' X X' hq hx => by
  unfold cMix
  repeat first
    | exact id
    | exact hq _ _
    | exact hx _ _
    | refine mo_and ?_
    | refine mo_ex fun _ => ?_
    | refine mo_and2 ?_ ?_
    | refine mo_or ?_ ?_
    | refine mo_all fun _ => ?_⟩
theorem p__law_mix (h : Hy K mg) : Pr (wd P w K mg base 2 N__law_mix) C.tb 3 "_law_mix" 3 cMix := pr_of (W := wd P w K mg base 2 N__law_mix) (C := C) (L := L__law_mix) (tys := T__law_mix) (ps := ["hand", "many", "unit"]) (gk_of (e0 rfl) (ents_cons h.n_range (ents_cons (ent_fn (p__law_any h) (Nat.le_of_ble_eq_true rfl) rfl m_cAny) (ents_cons (ent_fn (p__law_draw h) (Nat.le_of_ble_eq_true rfl) rfl m_cDraw) (ents_cons h.n_tuple (ents_cons (ent_fn (p__law_mixed h) (Nat.le_of_ble_eq_true rfl) rfl m_cMixed) ents_nil))))) tys_nil) h.d__law_mix sc__law_mix q__law_mix (fun _ _ _ _ _ _ us hl => match us, hl with | [_, _, _], _ => rfl) (hx0 rfl) rfl ok_mix
def N__law_prices : List Str := ["hand", "many", "unit", "kind", "row", "spot", "less", "other", "place"]
def L__law_prices : List (Str × GK) := ([("list", .bf .list), ("_law_mix", .fn 19 3), ("_law_draw", .fn 15 2), ("_law_any", .fn 16 2), ("int", .bf .int), ("_law_integer", .fn 18 1), ("range", .rng), ("tuple", .bf .tuple)] : List (Str × GK))
def T__law_prices : List Str := []
theorem sc__law_prices : FnScope N__law_prices ["hand", "many", "unit", "kind"] (defScope Hd.s__law_prices) := ⟨rfl, rfl, rfl, by decide +kernel, rfl, by decide +kernel, by decide +kernel⟩
theorem q__law_prices : trSs (tcOf N__law_prices L__law_prices T__law_prices) 40 (defScope Hd.s__law_prices) (defBody Hd.s__law_prices) = some b__law_prices := by kernel_rfl
theorem m_cPrices : Mono cPrices := ⟨fun ds Q Q' X X' hq hx => by
  unfold cPrices
  repeat first
    | exact id
    | exact hq _ _
    | exact hx _ _
    | refine mo_and ?_
    | refine mo_ex fun _ => ?_
    | refine mo_and2 ?_ ?_
    | refine mo_or ?_ ?_
    | refine mo_all fun _ => ?_⟩
theorem p__law_prices (h : Hy K mg) : Pr (wd P w K mg base 3 N__law_prices) C.tb 4 "_law_prices" 4 cPrices := pr_of (W := wd P w K mg base 3 N__law_prices) (C := C) (L := L__law_prices) (tys := T__law_prices) (ps := ["hand", "many", "unit", "kind"]) (gk_of (e0 rfl) (ents_cons h.n_list (ents_cons (ent_fn (p__law_mix h) (Nat.le_of_ble_eq_true rfl) rfl m_cMix) (ents_cons (ent_fn (p__law_draw h) (Nat.le_of_ble_eq_true rfl) rfl m_cDraw) (ents_cons (ent_fn (p__law_any h) (Nat.le_of_ble_eq_true rfl) rfl m_cAny) (ents_cons h.n_int (ents_cons (ent_fn (p__law_integer h) (Nat.le_of_ble_eq_true rfl) rfl m_cInteger) (ents_cons h.n_range (ents_cons h.n_tuple ents_nil)))))))) tys_nil) h.d__law_prices sc__law_prices q__law_prices (fun _ _ _ _ _ _ us hl => match us, hl with | [_, _, _, _], _ => rfl) (hx0 rfl) rfl ok_prices
def N__law_paid : List Str := ["prices", "shares", "one", "other"]
def L__law_paid : List (Str × GK) := ([("sum", .bf .sum), ("zip", .zip)] : List (Str × GK))
def T__law_paid : List Str := []
theorem sc__law_paid : FnScope N__law_paid ["prices", "shares"] (defScope Hd.s__law_paid) := ⟨rfl, rfl, rfl, by decide +kernel, rfl, by decide +kernel, by decide +kernel⟩
theorem q__law_paid : trSs (tcOf N__law_paid L__law_paid T__law_paid) 40 (defScope Hd.s__law_paid) (defBody Hd.s__law_paid) = some b__law_paid := by kernel_rfl
theorem p__law_paid (h : Hy K mg) : Pr (wd P w K mg base 0 N__law_paid) C.tb 1 "_law_paid" 2 cAt := pr_of (W := wd P w K mg base 0 N__law_paid) (C := C) (L := L__law_paid) (tys := T__law_paid) (ps := ["prices", "shares"]) (gk_of (e0 rfl) (ents_cons h.n_sum (ents_cons h.n_zip ents_nil)) tys_nil) h.d__law_paid sc__law_paid q__law_paid (fun _ _ _ _ _ _ us hl => match us, hl with | [_, _], _ => rfl) (hx0 rfl) rfl ok_paid
def N__law_shares : List Str := ["hand", "many", "kind", "found", "place"]
def L__law_shares : List (Str × GK) := ([("_law_draw", .fn 15 2), ("_law_integer", .fn 18 1), ("range", .rng), ("tuple", .bf .tuple)] : List (Str × GK))
def T__law_shares : List Str := []
theorem sc__law_shares : FnScope N__law_shares ["hand", "many"] (defScope Hd.s__law_shares) := ⟨rfl, rfl, rfl, by decide +kernel, rfl, by decide +kernel, by decide +kernel⟩
theorem q__law_shares : trSs (tcOf N__law_shares L__law_shares T__law_shares) 40 (defScope Hd.s__law_shares) (defBody Hd.s__law_shares) = some b__law_shares := by kernel_rfl
theorem m_cShares : Mono cShares := ⟨fun ds Q Q' X X' hq hx => by
  unfold cShares
  repeat first
    | exact id
    | exact hq _ _
    | exact hx _ _
    | refine mo_and ?_
    | refine mo_ex fun _ => ?_
    | refine mo_and2 ?_ ?_
    | refine mo_or ?_ ?_
    | refine mo_all fun _ => ?_⟩
theorem p__law_shares (h : Hy K mg) : Pr (wd P w K mg base 3 N__law_shares) C.tb 4 "_law_shares" 2 cShares := pr_of (W := wd P w K mg base 3 N__law_shares) (C := C) (L := L__law_shares) (tys := T__law_shares) (ps := ["hand", "many"]) (gk_of (e0 rfl) (ents_cons (ent_fn (p__law_draw h) (Nat.le_of_ble_eq_true rfl) rfl m_cDraw) (ents_cons (ent_fn (p__law_integer h) (Nat.le_of_ble_eq_true rfl) rfl m_cInteger) (ents_cons h.n_range (ents_cons h.n_tuple ents_nil)))) tys_nil) h.d__law_shares sc__law_shares q__law_shares (fun _ _ _ _ _ _ us hl => match us, hl with | [_, _], _ => rfl) (hx0 rfl) rfl ok_shares
def N__law_cost : List Str := ["hand", "kinds", "point", "turn", "many", "unit", "style", "pieces", "prices", "less", "one"]
def L__law_cost : List (Str × GK) := ([("_law_draw", .fn 15 2), ("_law_any", .fn 16 2), ("_law_shares", .fn 22 2), ("max", .bf .max), ("abs", .bf .abs), ("range", .rng), ("_law_prices", .fn 20 4), ("_law_integer", .fn 18 1), ("_law_paid", .fn 21 2), ("tuple", .bf .tuple), ("_law_mixed", .fn 17 2)] : List (Str × GK))
def T__law_cost : List Str := []
theorem sc__law_cost : FnScope N__law_cost ["hand", "kinds"] (defScope Hd.s__law_cost) := ⟨rfl, rfl, rfl, by decide +kernel, rfl, by decide +kernel, by decide +kernel⟩
theorem q__law_cost : trSs (tcOf N__law_cost L__law_cost T__law_cost) 40 (defScope Hd.s__law_cost) (defBody Hd.s__law_cost) = some b__law_cost := by kernel_rfl
theorem m_cCost : Mono cCost := ⟨fun ds Q Q' X X' hq hx => by
  unfold cCost
  repeat first
    | exact id
    | exact hq _ _
    | exact hx _ _
    | refine mo_and ?_
    | refine mo_ex fun _ => ?_
    | refine mo_and2 ?_ ?_
    | refine mo_or ?_ ?_
    | refine mo_all fun _ => ?_⟩
theorem p__law_cost (h : Hy K mg) : Pr (wd P w K mg base 4 N__law_cost) C.tb 5 "_law_cost" 2 cCost := pr_of (W := wd P w K mg base 4 N__law_cost) (C := C) (L := L__law_cost) (tys := T__law_cost) (ps := ["hand", "kinds"]) (gk_of (e0 rfl) (ents_cons (ent_fn (p__law_draw h) (Nat.le_of_ble_eq_true rfl) rfl m_cDraw) (ents_cons (ent_fn (p__law_any h) (Nat.le_of_ble_eq_true rfl) rfl m_cAny) (ents_cons (ent_fn (p__law_shares h) (Nat.le_of_ble_eq_true rfl) rfl m_cShares) (ents_cons h.n_max (ents_cons h.n_abs (ents_cons h.n_range (ents_cons (ent_fn (p__law_prices h) (Nat.le_of_ble_eq_true rfl) rfl m_cPrices) (ents_cons (ent_fn (p__law_integer h) (Nat.le_of_ble_eq_true rfl) rfl m_cInteger) (ents_cons (ent_fn (p__law_paid h) (Nat.le_of_ble_eq_true rfl) rfl m_cAt) (ents_cons h.n_tuple (ents_cons (ent_fn (p__law_mixed h) (Nat.le_of_ble_eq_true rfl) rfl m_cMixed) ents_nil))))))))))) tys_nil) h.d__law_cost sc__law_cost q__law_cost (fun _ _ _ _ _ _ us hl => match us, hl with | [_, _], _ => rfl) (hx0 rfl) rfl ok_cost
def N__law_same : List Str := ["told", "due", "one", "other"]
def L__law_same : List (Str × GK) := ([("isinstance", .isi), ("len", .bf .len), ("all", .bf .all), ("_law_same", .fn 24 2), ("zip", .zip)] : List (Str × GK))
def T__law_same : List Str := ["tuple", "list", "int", "bool"]
theorem sc__law_same : FnScope N__law_same ["told", "due"] (defScope Hd.s__law_same) := ⟨rfl, rfl, rfl, by decide +kernel, rfl, by decide +kernel, by decide +kernel⟩
theorem q__law_same : trSs (tcOf N__law_same L__law_same T__law_same) 40 (defScope Hd.s__law_same) (defBody Hd.s__law_same) = some b__law_same := by kernel_rfl
theorem m_cNo : Mono cNo := ⟨fun ds Q Q' X X' hq hx => by
  unfold cNo
  repeat first
    | exact id
    | exact hq _ _
    | exact hx _ _
    | refine mo_and ?_
    | refine mo_ex fun _ => ?_
    | refine mo_and2 ?_ ?_
    | refine mo_or ?_ ?_
    | refine mo_all fun _ => ?_⟩
theorem p__law_same_0 (h : Hy K mg) : Pr (wd P w K mg base 0 []) C.tb 0 "_law_same" 2 cNo := pr_no (W := wd P w K mg base 0 []) (ps := ["told", "due"]) h.d__law_same rfl (fun _ _ _ _ _ _ us hl => match us, hl with | [_, _], _ => rfl) (fun _ _ _ z => z)
theorem m_cSame0 : Mono cSame0 := ⟨fun ds Q Q' X X' hq hx => by
  unfold cSame0
  repeat first
    | exact id
    | exact hq _ _
    | exact hx _ _
    | refine mo_and ?_
    | refine mo_ex fun _ => ?_
    | refine mo_and2 ?_ ?_
    | refine mo_or ?_ ?_
    | refine mo_all fun _ => ?_⟩
theorem p__law_same_1 (h : Hy K mg) : Pr (wd P w K mg base 0 N__law_same) C.tb 1 "_law_same" 2 cSame0 := pr_of (W := wd P w K mg base 0 N__law_same) (C := (Cs cNo)) (L := L__law_same) (tys := T__law_same) (ps := ["told", "due"]) (gk_of (e0 rfl) (ents_cons h.n_isinstance (ents_cons h.n_len (ents_cons h.n_all (ents_cons (ent_fn (p__law_same_0 h) (Nat.le_of_ble_eq_true rfl) rfl m_cNo) (ents_cons h.n_zip ents_nil))))) (tys_cons h.n_tuple (tys_cons h.n_list (tys_cons h.n_int (tys_cons h.n_bool tys_nil))))) h.d__law_same sc__law_same q__law_same (fun _ _ _ _ _ _ us hl => match us, hl with | [_, _], _ => rfl) (hx0 rfl) rfl ok_same0
theorem m_cSame : Mono cSame := ⟨fun ds Q Q' X X' hq hx => by
  unfold cSame
  repeat first
    | exact id
    | exact hq _ _
    | exact hx _ _
    | refine mo_and ?_
    | refine mo_ex fun _ => ?_
    | refine mo_and2 ?_ ?_
    | refine mo_or ?_ ?_
    | refine mo_all fun _ => ?_⟩
theorem p__law_same (h : Hy K mg) : Pr (wd P w K mg base 1 N__law_same) C.tb 2 "_law_same" 2 cSame := pr_of (W := wd P w K mg base 1 N__law_same) (C := (Cs cSame0)) (L := L__law_same) (tys := T__law_same) (ps := ["told", "due"]) (gk_of (e0 rfl) (ents_cons h.n_isinstance (ents_cons h.n_len (ents_cons h.n_all (ents_cons (ent_fn (p__law_same_1 h) (Nat.le_of_ble_eq_true rfl) rfl m_cSame0) (ents_cons h.n_zip ents_nil))))) (tys_cons h.n_tuple (tys_cons h.n_list (tys_cons h.n_int (tys_cons h.n_bool tys_nil))))) h.d__law_same sc__law_same q__law_same (fun _ _ _ _ _ _ us hl => match us, hl with | [_, _], _ => rfl) (hx0 rfl) rfl ok_same
def N__law_at : List Str := ["cost", "shares", "prices", "less"]
def L__law_at : List (Str × GK) := ([("max", .bf .max), ("_law_paid", .fn 21 2)] : List (Str × GK))
def T__law_at : List Str := []
theorem sc__law_at : FnScope N__law_at ["cost", "shares"] (defScope Hd.s__law_at) := ⟨rfl, rfl, rfl, by decide +kernel, rfl, by decide +kernel, by decide +kernel⟩
theorem q__law_at : trSs (tcOf N__law_at L__law_at T__law_at) 40 (defScope Hd.s__law_at) (defBody Hd.s__law_at) = some b__law_at := by kernel_rfl
theorem m_cLawAt : Mono cLawAt := ⟨fun ds Q Q' X X' hq hx => by
  unfold cLawAt
  repeat first
    | exact id
    | exact hq _ _
    | exact hx _ _
    | refine mo_and ?_
    | refine mo_ex fun _ => ?_
    | refine mo_and2 ?_ ?_
    | refine mo_or ?_ ?_
    | refine mo_all fun _ => ?_⟩
theorem p__law_at (h : Hy K mg) : Pr (wd P w K mg base 1 N__law_at) C.tb 2 "_law_at" 2 cLawAt := pr_of (W := wd P w K mg base 1 N__law_at) (C := C) (L := L__law_at) (tys := T__law_at) (ps := ["cost", "shares"]) (gk_of (e0 rfl) (ents_cons h.n_max (ents_cons (ent_fn (p__law_paid h) (Nat.le_of_ble_eq_true rfl) rfl m_cAt) ents_nil)) tys_nil) h.d__law_at sc__law_at q__law_at (fun _ _ _ _ _ _ us hl => match us, hl with | [_, _], _ => rfl) (hx0 rfl) rfl ok_lawat
def N__law_added : List Str := ["one", "other", "here", "there"]
def L__law_added : List (Str × GK) := ([("tuple", .bf .tuple), ("zip", .zip)] : List (Str × GK))
def T__law_added : List Str := []
theorem sc__law_added : FnScope N__law_added ["one", "other"] (defScope Hd.s__law_added) := ⟨rfl, rfl, rfl, by decide +kernel, rfl, by decide +kernel, by decide +kernel⟩
theorem q__law_added : trSs (tcOf N__law_added L__law_added T__law_added) 40 (defScope Hd.s__law_added) (defBody Hd.s__law_added) = some b__law_added := by kernel_rfl
theorem p__law_added (h : Hy K mg) : Pr (wd P w K mg base 0 N__law_added) C.tb 1 "_law_added" 2 cSummed := pr_of (W := wd P w K mg base 0 N__law_added) (C := C) (L := L__law_added) (tys := T__law_added) (ps := ["one", "other"]) (gk_of (e0 rfl) (ents_cons h.n_tuple (ents_cons h.n_zip ents_nil)) tys_nil) h.d__law_added sc__law_added q__law_added (fun _ _ _ _ _ _ us hl => match us, hl with | [_, _], _ => rfl) (hx0 rfl) rfl ok_added
def N__law_gain : List Str := ["cost", "out", "bought", "price", "one"]
def L__law_gain : List (Str × GK) := ([("_law_at", .fn 33 2), ("_law_added", .fn 34 2), ("tuple", .bf .tuple)] : List (Str × GK))
def T__law_gain : List Str := []
theorem sc__law_gain : FnScope N__law_gain ["cost", "out", "bought"] (defScope Hd.s__law_gain) := ⟨rfl, rfl, rfl, by decide +kernel, rfl, by decide +kernel, by decide +kernel⟩
theorem q__law_gain : trSs (tcOf N__law_gain L__law_gain T__law_gain) 40 (defScope Hd.s__law_gain) (defBody Hd.s__law_gain) = some b__law_gain := by kernel_rfl
theorem p__law_gain (h : Hy K mg) : Pr (wd P w K mg base 2 N__law_gain) C.tb 3 "_law_gain" 3 cGained := pr_of (W := wd P w K mg base 2 N__law_gain) (C := C) (L := L__law_gain) (tys := T__law_gain) (ps := ["cost", "out", "bought"]) (gk_of (e0 rfl) (ents_cons (ent_fn (p__law_at h) (Nat.le_of_ble_eq_true rfl) rfl m_cLawAt) (ents_cons (ent_fn (p__law_added h) (Nat.le_of_ble_eq_true rfl) rfl m_cSummed) (ents_cons h.n_tuple ents_nil))) tys_nil) h.d__law_gain sc__law_gain q__law_gain (fun _ _ _ _ _ _ us hl => match us, hl with | [_, _, _], _ => rfl) (hx0 rfl) rfl ok_lawgain
def N__law_due : List Str := ["cost", "place", "many", "found", "some", "prices", "less"]
def L__law_due : List (Str × GK) := ([("len", .bf .len), ("range", .rng), ("_law_at", .fn 33 2), ("min", .bf .min), ("tuple", .bf .tuple)] : List (Str × GK))
def T__law_due : List Str := []
theorem sc__law_due : FnScope N__law_due ["cost"] (defScope Hd.s__law_due) := ⟨rfl, rfl, rfl, by decide +kernel, rfl, by decide +kernel, by decide +kernel⟩
theorem q__law_due : trSs (tcOf N__law_due L__law_due T__law_due) 40 (defScope Hd.s__law_due) (defBody Hd.s__law_due) = some b__law_due := by kernel_rfl
theorem m_cDue77 : Mono cDue77 := ⟨fun ds Q Q' X X' hq hx => by
  unfold cDue77
  repeat first
    | exact id
    | exact hq _ _
    | exact hx _ _
    | refine mo_and ?_
    | refine mo_ex fun _ => ?_
    | refine mo_and2 ?_ ?_
    | refine mo_or ?_ ?_
    | refine mo_all fun _ => ?_⟩
theorem p__law_due (h : Hy K mg) : Pr (wd P w K mg base 2 N__law_due) C.tb 3 "_law_due" 1 cDue77 := pr_of (W := wd P w K mg base 2 N__law_due) (C := C) (L := L__law_due) (tys := T__law_due) (ps := ["cost"]) (gk_of (e0 rfl) (ents_cons h.n_len (ents_cons h.n_range (ents_cons (ent_fn (p__law_at h) (Nat.le_of_ble_eq_true rfl) rfl m_cLawAt) (ents_cons h.n_min (ents_cons h.n_tuple ents_nil))))) tys_nil) h.d__law_due sc__law_due q__law_due (fun _ _ _ _ _ _ us hl => match us, hl with | [_], _ => rfl) (hx0 rfl) rfl ok_due77
def N__law_ended : List Str := ["hand", "cost", "place", "many", "pieces", "ends", "kind", "left", "other", "piece"]
def L__law_ended : List (Str × GK) := ([("len", .bf .len), ("list", .bf .list), ("range", .rng), ("tuple", .bf .tuple), ("int", .bf .int), ("_law_draw", .fn 15 2), ("_law_integer", .fn 18 1), ("_law_mixed", .fn 17 2)] : List (Str × GK))
def T__law_ended : List Str := []
theorem sc__law_ended : FnScope N__law_ended ["hand", "cost"] (defScope Hd.s__law_ended) := ⟨rfl, rfl, rfl, by decide +kernel, rfl, by decide +kernel, by decide +kernel⟩
theorem q__law_ended : trSs (tcOf N__law_ended L__law_ended T__law_ended) 40 (defScope Hd.s__law_ended) (defBody Hd.s__law_ended) = some b__law_ended := by kernel_rfl
theorem m_cEnded : Mono cEnded := ⟨fun ds Q Q' X X' hq hx => by
  unfold cEnded
  repeat first
    | exact id
    | exact hq _ _
    | exact hx _ _
    | refine mo_and ?_
    | refine mo_ex fun _ => ?_
    | refine mo_and2 ?_ ?_
    | refine mo_or ?_ ?_
    | refine mo_all fun _ => ?_⟩
theorem p__law_ended (h : Hy K mg) : Pr (wd P w K mg base 3 N__law_ended) C.tb 4 "_law_ended" 2 cEnded := pr_of (W := wd P w K mg base 3 N__law_ended) (C := C) (L := L__law_ended) (tys := T__law_ended) (ps := ["hand", "cost"]) (gk_of (e0 rfl) (ents_cons h.n_len (ents_cons h.n_list (ents_cons h.n_range (ents_cons h.n_tuple (ents_cons h.n_int (ents_cons (ent_fn (p__law_draw h) (Nat.le_of_ble_eq_true rfl) rfl m_cDraw) (ents_cons (ent_fn (p__law_integer h) (Nat.le_of_ble_eq_true rfl) rfl m_cInteger) (ents_cons (ent_fn (p__law_mixed h) (Nat.le_of_ble_eq_true rfl) rfl m_cMixed) ents_nil)))))))) tys_nil) h.d__law_ended sc__law_ended q__law_ended (fun _ _ _ _ _ _ us hl => match us, hl with | [_, _], _ => rfl) (hx0 rfl) rfl ok_ended
def N__law_far : List Str := ["cost", "place", "more", "deep", "other", "prices", "less"]
def L__law_far : List (Str × GK) := ([("max", .bf .max), ("min", .bf .min), ("tuple", .bf .tuple), ("int", .bf .int), ("range", .rng), ("len", .bf .len)] : List (Str × GK))
def T__law_far : List Str := []
theorem sc__law_far : FnScope N__law_far ["cost", "place", "more"] (defScope Hd.s__law_far) := ⟨rfl, rfl, rfl, by decide +kernel, rfl, by decide +kernel, by decide +kernel⟩
theorem q__law_far : trSs (tcOf N__law_far L__law_far T__law_far) 40 (defScope Hd.s__law_far) (defBody Hd.s__law_far) = some b__law_far := by kernel_rfl
theorem m_cFar77 : Mono cFar77 := ⟨fun ds Q Q' X X' hq hx => by
  unfold cFar77
  repeat first
    | exact id
    | exact hq _ _
    | exact hx _ _
    | refine mo_and ?_
    | refine mo_ex fun _ => ?_
    | refine mo_and2 ?_ ?_
    | refine mo_or ?_ ?_
    | refine mo_all fun _ => ?_⟩
theorem p__law_far (h : Hy K mg) : Pr (wd P w K mg base 0 N__law_far) C.tb 1 "_law_far" 3 cFar77 := pr_of (W := wd P w K mg base 0 N__law_far) (C := C) (L := L__law_far) (tys := T__law_far) (ps := ["cost", "place", "more"]) (gk_of (e0 rfl) (ents_cons h.n_max (ents_cons h.n_min (ents_cons h.n_tuple (ents_cons h.n_int (ents_cons h.n_range (ents_cons h.n_len ents_nil)))))) tys_nil) h.d__law_far sc__law_far q__law_far (fun _ _ _ _ _ _ us hl => match us, hl with | [_, _, _], _ => rfl) (hx0 rfl) rfl ok_far77
def N__law_is_right : List Str := ["hand", "cost", "place", "again", "many", "due", "none", "kept", "told", "prices", "less"]
def L__law_is_right : List (Str × GK) := ([("len", .bf .len), ("_law_due", .fn 25 1), ("repr", .bf .repr), ("_law_same", .fn 24 2), ("losses", .fn 49 1), ("range", .rng), ("abs", .bf .abs), ("_law_at", .fn 33 2), ("max", .bf .max), ("_law_draw", .fn 15 2), ("gain", .fn 32 3), ("_law_far", .fn 51 3), ("_law_shares", .fn 22 2), ("any", .bf .any)] : List (Str × GK))
def T__law_is_right : List Str := []
theorem sc__law_is_right : FnScope N__law_is_right ["hand", "cost"] (defScope Hd.s__law_is_right) := ⟨rfl, rfl, rfl, by decide +kernel, rfl, by decide +kernel, by decide +kernel⟩
theorem q__law_is_right : trSs (tcOf N__law_is_right L__law_is_right T__law_is_right) 40 (defScope Hd.s__law_is_right) (defBody Hd.s__law_is_right) = some b__law_is_right := by kernel_rfl
theorem m_cRight77 : Mono cRight77 := ⟨fun ds Q Q' X X' hq hx => by
  unfold cRight77
  repeat first
    | exact id
    | exact hq _ _
    | exact hx _ _
    | refine mo_and ?_
    | refine mo_ex fun _ => ?_
    | refine mo_and2 ?_ ?_
    | refine mo_or ?_ ?_
    | refine mo_all fun _ => ?_⟩
theorem p__law_is_right (h : Hy K mg) : Pr (wd P w K mg base 7 N__law_is_right) C.tb 8 "_law_is_right" 2 cRight77 := pr_of (W := wd P w K mg base 7 N__law_is_right) (C := C) (L := L__law_is_right) (tys := T__law_is_right) (ps := ["hand", "cost"]) (gk_of (e0 rfl) (ents_cons h.n_len (ents_cons (ent_fn (p__law_due h) (Nat.le_of_ble_eq_true rfl) rfl m_cDue77) (ents_cons h.n_repr (ents_cons (ent_fn (p__law_same h) (Nat.le_of_ble_eq_true rfl) rfl m_cSame) (ents_cons (ent_fn (p_losses h) (Nat.le_of_ble_eq_true rfl) rfl m_cLosses) (ents_cons h.n_range (ents_cons h.n_abs (ents_cons (ent_fn (p__law_at h) (Nat.le_of_ble_eq_true rfl) rfl m_cLawAt) (ents_cons h.n_max (ents_cons (ent_fn (p__law_draw h) (Nat.le_of_ble_eq_true rfl) rfl m_cDraw) (ents_cons (ent_fn (p_gain h) (Nat.le_of_ble_eq_true rfl) rfl m_cGained) (ents_cons (ent_fn (p__law_far h) (Nat.le_of_ble_eq_true rfl) rfl m_cFar77) (ents_cons (ent_fn (p__law_shares h) (Nat.le_of_ble_eq_true rfl) rfl m_cShares) (ents_cons h.n_any ents_nil)))))))))))))) tys_nil) h.d__law_is_right sc__law_is_right q__law_is_right (fun _ _ _ _ _ _ us hl => match us, hl with | [_, _], _ => rfl) (hx0 rfl) rfl ok_right77
def N_law : List Str := ["script", "hand", "turn", "cost"]
def L_law : List (Str × GK) := ([("range", .rng), ("_law_cost", .fn 23 2), ("_law_is_right", .fn 26 2), ("_law_ended", .fn 50 2)] : List (Str × GK))
def T_law : List Str := []
theorem sc_law : FnScope N_law ["script"] (defScope Hd.s_law) := ⟨rfl, rfl, rfl, by decide +kernel, rfl, by decide +kernel, by decide +kernel⟩
theorem q_law : (lawOf (defScope Hd.s_law) (defBody Hd.s_law)).bind (trSs (tcOf N_law L_law T_law) 40 (defScope Hd.s_law)) = some b_law := by kernel_rfl
theorem p_law (h : Hy K mg) {f : Addr} {fd : FuncData} (F : FunD K "law" "law" (defArgs Hd.s_law) (defBody Hd.s_law) (defScope Hd.s_law) [] [] f fd) : FnG P w K mg base CX0 9 f fd ["script"] (spLaw K) := by
  obtain ⟨rest, h1, h2⟩ := Option.bind_eq_some_iff.mp q_law
  exact pr_law (W := wd P w K mg base 8 N_law) (C := C) (L := L_law) (tys := T_law) (gk_of (e0 rfl) (ents_cons h.n_range (ents_cons (ent_fn (p__law_cost h) (Nat.le_of_ble_eq_true rfl) rfl m_cCost) (ents_cons (ent_fn (p__law_is_right h) (Nat.le_of_ble_eq_true rfl) rfl m_cRight77) (ents_cons (ent_fn (p__law_ended h) (Nat.le_of_ble_eq_true rfl) rfl m_cEnded) ents_nil)))) tys_nil) F sc_law h1 rfl rfl (prHand_mono (W := wd P w K mg base 0 N__law_hand) (p__law_hand h) (Nat.le_of_ble_eq_true rfl)) h2 (hx0 rfl) law_ok
end
theorem hy_of {K : PySem.W.Frag} {h : Heap} {mg : Str → Option Value} (X : K.In h) (G : h.Ns mainGlobals mg) (c : He.SaysD Hd.fa Hd.fn K) : Hy K mg := by
  constructor
  · obtain ⟨fd, F⟩ := c.def_ 0 (d := Hd.d_is_integer) rfl
    exact ⟨_, fd, F, He.glo_ok X G (c.fact 0 (f := .glo "is_integer") rfl)⟩
  · obtain ⟨fd, F⟩ := c.def_ 1 (d := Hd.d_is_number) rfl
    exact ⟨_, fd, F, He.glo_ok X G (c.fact 1 (f := .glo "is_number") rfl)⟩
  · obtain ⟨fd, F⟩ := c.def_ 2 (d := Hd.d_are_integers) rfl
    exact ⟨_, fd, F, He.glo_ok X G (c.fact 2 (f := .glo "are_integers") rfl)⟩
  · obtain ⟨fd, F⟩ := c.def_ 3 (d := Hd.d_is_pair) rfl
    exact ⟨_, fd, F, He.glo_ok X G (c.fact 3 (f := .glo "is_pair") rfl)⟩
  · obtain ⟨fd, F⟩ := c.def_ 4 (d := Hd.d_at) rfl
    exact ⟨_, fd, F, He.glo_ok X G (c.fact 4 (f := .glo "at") rfl)⟩
  · obtain ⟨fd, F⟩ := c.def_ 5 (d := Hd.d_summed) rfl
    exact ⟨_, fd, F, He.glo_ok X G (c.fact 5 (f := .glo "summed") rfl)⟩
  · obtain ⟨fd, F⟩ := c.def_ 6 (d := Hd.d_multiplied) rfl
    exact ⟨_, fd, F, He.glo_ok X G (c.fact 6 (f := .glo "multiplied") rfl)⟩
  · obtain ⟨fd, F⟩ := c.def_ 7 (d := Hd.d_is_piece) rfl
    exact ⟨_, fd, F, He.glo_ok X G (c.fact 7 (f := .glo "is_piece") rfl)⟩
  · obtain ⟨fd, F⟩ := c.def_ 8 (d := Hd.d_is_cost) rfl
    exact ⟨_, fd, F, He.glo_ok X G (c.fact 8 (f := .glo "is_cost") rfl)⟩
  · obtain ⟨fd, F⟩ := c.def_ 9 (d := Hd.d_check_cost) rfl
    exact ⟨_, fd, F, He.glo_ok X G (c.fact 9 (f := .glo "check_cost") rfl)⟩
  · obtain ⟨fd, F⟩ := c.def_ 10 (d := Hd.d_outcomes_of) rfl
    exact ⟨_, fd, F, He.glo_ok X G (c.fact 10 (f := .glo "outcomes_of") rfl)⟩
  · obtain ⟨fd, F⟩ := c.def_ 11 (d := Hd.d_check_shares) rfl
    exact ⟨_, fd, F, He.glo_ok X G (c.fact 11 (f := .glo "check_shares") rfl)⟩
  · obtain ⟨fd, F⟩ := c.def_ 12 (d := Hd.d_heights) rfl
    exact ⟨_, fd, F, He.glo_ok X G (c.fact 12 (f := .glo "heights") rfl)⟩
  · obtain ⟨fd, F⟩ := c.def_ 13 (d := Hd.d_reached) rfl
    exact ⟨_, fd, F, He.glo_ok X G (c.fact 13 (f := .glo "reached") rfl)⟩
  · obtain ⟨fd, F⟩ := c.def_ 14 (d := Hd.d_gained) rfl
    exact ⟨_, fd, F, He.glo_ok X G (c.fact 14 (f := .glo "gained") rfl)⟩
  · obtain ⟨fd, F⟩ := c.def_ 15 (d := Hd.d_gain) rfl
    exact ⟨_, fd, F, He.glo_ok X G (c.fact 15 (f := .glo "gain") rfl)⟩
  · obtain ⟨fd, F⟩ := c.def_ 16 (d := Hd.d_far) rfl
    exact ⟨_, fd, F, He.glo_ok X G (c.fact 16 (f := .glo "far") rfl)⟩
  · obtain ⟨fd, F⟩ := c.def_ 17 (d := Hd.d_sure) rfl
    exact ⟨_, fd, F, He.glo_ok X G (c.fact 17 (f := .glo "sure") rfl)⟩
  · obtain ⟨fd, F⟩ := c.def_ 18 (d := Hd.d_losses) rfl
    exact ⟨_, fd, F, He.glo_ok X G (c.fact 18 (f := .glo "losses") rfl)⟩
  · obtain ⟨fd, F⟩ := c.def_ 19 (d := Hd.d__law_hand) rfl
    exact ⟨_, fd, F, He.glo_ok X G (c.fact 19 (f := .glo "_law_hand") rfl)⟩
  · obtain ⟨fd, F⟩ := c.def_ 20 (d := Hd.d__law_draw) rfl
    exact ⟨_, fd, F, He.glo_ok X G (c.fact 20 (f := .glo "_law_draw") rfl)⟩
  · obtain ⟨fd, F⟩ := c.def_ 21 (d := Hd.d__law_any) rfl
    exact ⟨_, fd, F, He.glo_ok X G (c.fact 21 (f := .glo "_law_any") rfl)⟩
  · obtain ⟨fd, F⟩ := c.def_ 22 (d := Hd.d__law_mixed) rfl
    exact ⟨_, fd, F, He.glo_ok X G (c.fact 22 (f := .glo "_law_mixed") rfl)⟩
  · obtain ⟨fd, F⟩ := c.def_ 23 (d := Hd.d__law_integer) rfl
    exact ⟨_, fd, F, He.glo_ok X G (c.fact 23 (f := .glo "_law_integer") rfl)⟩
  · obtain ⟨fd, F⟩ := c.def_ 24 (d := Hd.d__law_mix) rfl
    exact ⟨_, fd, F, He.glo_ok X G (c.fact 24 (f := .glo "_law_mix") rfl)⟩
  · obtain ⟨fd, F⟩ := c.def_ 25 (d := Hd.d__law_prices) rfl
    exact ⟨_, fd, F, He.glo_ok X G (c.fact 25 (f := .glo "_law_prices") rfl)⟩
  · obtain ⟨fd, F⟩ := c.def_ 26 (d := Hd.d__law_paid) rfl
    exact ⟨_, fd, F, He.glo_ok X G (c.fact 26 (f := .glo "_law_paid") rfl)⟩
  · obtain ⟨fd, F⟩ := c.def_ 27 (d := Hd.d__law_shares) rfl
    exact ⟨_, fd, F, He.glo_ok X G (c.fact 27 (f := .glo "_law_shares") rfl)⟩
  · obtain ⟨fd, F⟩ := c.def_ 28 (d := Hd.d__law_cost) rfl
    exact ⟨_, fd, F, He.glo_ok X G (c.fact 28 (f := .glo "_law_cost") rfl)⟩
  · obtain ⟨fd, F⟩ := c.def_ 29 (d := Hd.d__law_same) rfl
    exact ⟨_, fd, F, He.glo_ok X G (c.fact 29 (f := .glo "_law_same") rfl)⟩
  · obtain ⟨fd, F⟩ := c.def_ 30 (d := Hd.d__law_at) rfl
    exact ⟨_, fd, F, He.glo_ok X G (c.fact 30 (f := .glo "_law_at") rfl)⟩
  · obtain ⟨fd, F⟩ := c.def_ 31 (d := Hd.d__law_added) rfl
    exact ⟨_, fd, F, He.glo_ok X G (c.fact 31 (f := .glo "_law_added") rfl)⟩
  · obtain ⟨fd, F⟩ := c.def_ 32 (d := Hd.d__law_gain) rfl
    exact ⟨_, fd, F, He.glo_ok X G (c.fact 32 (f := .glo "_law_gain") rfl)⟩
  · obtain ⟨fd, F⟩ := c.def_ 33 (d := Hd.d__law_due) rfl
    exact ⟨_, fd, F, He.glo_ok X G (c.fact 33 (f := .glo "_law_due") rfl)⟩
  · obtain ⟨fd, F⟩ := c.def_ 34 (d := Hd.d__law_ended) rfl
    exact ⟨_, fd, F, He.glo_ok X G (c.fact 34 (f := .glo "_law_ended") rfl)⟩
  · obtain ⟨fd, F⟩ := c.def_ 35 (d := Hd.d__law_far) rfl
    exact ⟨_, fd, F, He.glo_ok X G (c.fact 35 (f := .glo "_law_far") rfl)⟩
  · obtain ⟨fd, F⟩ := c.def_ 36 (d := Hd.d__law_is_right) rfl
    exact ⟨_, fd, F, He.glo_ok X G (c.fact 36 (f := .glo "_law_is_right") rfl)⟩
  · obtain ⟨fd, F⟩ := c.def_ 37 (d := Hd.d_law) rfl
    exact ⟨_, fd, F, He.glo_ok X G (c.fact 37 (f := .glo "law") rfl)⟩
  · exact He.free_ok X G (c.fact 44 (f := .free "isinstance") rfl)
  · exact He.free_ok X G (c.fact 43 (f := .free "int") rfl)
  · exact He.free_ok X G (c.fact 42 (f := .free "bool") rfl)
  · exact He.free_ok X G (c.fact 45 (f := .free "len") rfl)
  · exact He.free_ok X G (c.fact 40 (f := .free "all") rfl)
  · exact He.free_ok X G (c.fact 52 (f := .free "tuple") rfl)
  · exact He.free_ok X G (c.fact 51 (f := .free "sum") rfl)
  · exact He.free_ok X G (c.fact 53 (f := .free "zip") rfl)
  · exact He.free_ok X G (c.fact 41 (f := .free "any") rfl)
  · exact He.free_ok X G (c.fact 49 (f := .free "range") rfl)
  · exact He.free_ok X G (c.fact 47 (f := .free "max") rfl)
  · exact He.free_ok X G (c.fact 48 (f := .free "min") rfl)
  · exact He.free_ok X G (c.fact 39 (f := .free "abs") rfl)
  · exact He.free_ok X G (c.fact 46 (f := .free "list") rfl)
  · exact He.free_ok X G (c.fact 50 (f := .free "repr") rfl)
  · obtain ⟨t, e⟩ := He.int_ok X G (c.fact 56 (f := .int "MOST_PIECES" (1000)) rfl)
    exact ⟨_, e, _, rfl⟩
  · obtain ⟨t, e⟩ := He.int_ok X G (c.fact 54 (f := .int "LEAST_OUTCOMES" (2)) rfl)
    exact ⟨_, e, _, rfl⟩
  · obtain ⟨t, e⟩ := He.int_ok X G (c.fact 55 (f := .int "MOST_OUTCOMES" (4)) rfl)
    exact ⟨_, e, _, rfl⟩
theorem law_end {P : Program} {w : World} {K : PySem.W.Frag} {mg : Str → Option Value} {fa : Addr} {h : Heap} (KX : K.In h) (G : h.Ns mainGlobals mg) (hmg : mg ("law" : Str) = some (.ref fa)) (c : He.SaysD Hd.fa Hd.fn K) :
    ∃ (K : PySem.W.Frag) (fd : FuncData) (sp : Sp), K.In h ∧ (∀ (s : Shared) (u : Value), BindsTo s fd ⟨[u], []⟩ [("script", u)]) ∧ (∀ (H : Hp) (a : Addr) (ns : List Int), ns.length ≤ 63 → Only H → SqL K H a (ns.map V.int) → sp [.ref a] H (fun v _ => v = .bl true) fun _ _ _ => False) ∧
      ∀ base : Heap, K.In base → base.Ns mainGlobals mg → FnG P w K mg base CX0 9 fa fd ["script"] sp :=
  end_of (P := P) (w := w) (st := Hd.s_law) KX hmg (hy_of KX G c).d_law (fun _ _ _ _ _ _ us hl => match us, hl with | [_], _ => rfl) fun base f fd F => p_law (P := P) (w := w) (base := base) (hy_of KX G c) F
end Lw
open PySem PySem.W PySem.Calls PyProof.Rows
theorem PySem.Challenge.cw_paidasks_k77_whole_losses_holds : PySem.Challenge.rw_paidasks_k77_whole_losses.Holds := by
  w_on; o_law
  refine HandSHeadRun.head_any (r := OpenLaw.row PySem.Challenge.rw_paidasks_k77_whole_losses) (q := view (OpenLaw.row PySem.Challenge.rw_paidasks_k77_whole_losses).prog [49]) (H := Hd.hk) (ob := Hd.ob) (M := 4000) (loose := Hd.loose) (d := HandSHeadRun.topDef (OpenLaw.row PySem.Challenge.rw_paidasks_k77_whole_losses).prog 49) (kwd := []) Hd.ob_eq
    (by kernel_rfl) (fun s => by kernel_rfl) Hd.run (by kernel_rfl) (by kernel_rfl) (by kernel_rfl) (by rfl) (by first | assumption | decide +kernel) (by decide +kernel) ⟨rfl, rfl, rfl, rfl, rfl, by decide +kernel⟩ ?hw ?hc
  case hw => w_witness2
  case hc =>
    refine Dl.walk_ofG (l := PySem.Challenge.rw_paidasks_k77_whole_losses) (n := 63) (k := 9) (x := "script") (CX := L2.CX0) rfl (by decide) (by kernel_rfl) ⟨⟨rfl, by decide, by decide⟩, rfl, by decide⟩ ?F (fun _ _ _ _ z => z)
    intro w mg fa h Y G hmg0
    obtain ⟨K, KX, c⟩ := Y
    have hmg : mg ("law" : PySem.Str) = some (.ref fa) := by
      have e : (HandSHeadRun.topDef (OpenLaw.row PySem.Challenge.rw_paidasks_k77_whole_losses).prog 49).name = ("law" : PySem.Str) := by kernel_rfl
      rw [← e]
      exact hmg0
    exact Lw.law_end KX G hmg c
