import PyProof.Rows.All
import PySem.Str
import HandS.ForMost
import KE.KStateDown
import HandS.More
import HandS.WordsExc
import HandS.Head0
import HandS.Head1
import HandS.Head2
import HandS.HeadEnd
import HandS.HeadHook1
import HandS.HeadHook2
import HandS.Head3
import HandS.Deep
import HandS.IsInst
import HandS.TupAny
import HandS.SortInts
import HandS.SetFor
import HandS.Flow
import HandS.Conv
import HandS.Star
import HandS.Gcd
import KE.KMathGC
import HandS.Style
import HandS.Iter
import KE.GoesZip
import KE.GoesEnum
import KE.KTurns
import HandS.TryOnly
import HandS.Comp
import HandS.Small
import HandS.Exc
import HandS.Defaults
import HandS.Ends
import HandS.Words
import PyProof.TableCode
import PySem.Challenge.RW_anyprice_k81_whole_orders_of_code
set_option Elab.async false
section
set_option linter.all false
/-! M1: a pure interpreter over data. -/
namespace Mr
open PySem

abbrev Key := Sum Int Str

/-- data: immutable trees; ref: a cell of the store; loc: the object that a slot owns (read late) -/
inductive D where
  | non | bl (b : Bool) | int (i : Int) | str (x : Str)
  | lst (xs : List D) | tup (xs : List D)
  | dK (ks : List Key) (vs : List D)
  | dT (ks : List (List Key)) (vs : List D)
  | ins (C : Nat) (fs : List Str) (vs : List D)
  | ref (k : Nat) | loc (i : Nat) | ktup (xs : List D)
  deriving Inhabited

inductive Sl where
  | un | val (d : D) | own (d : D)
  deriving Inhabited

structure Fm where
  env : List Sl
  st : List D
  deriving Inhabited

inductive Rs (α : Type) where
  | ok (a : α) (fr : Fm) | exc (C : Nat) (ds : List D) (fr : Fm) | stk

/-- the type of what comes behind; the type names the continuation, so that simp leaves it alone -/
abbrev RsOf {α β : Type} (_ : α → Fm → Rs β) : Type := Rs β

@[inline] def Rs.bind {α β : Type} (m : Rs α) (k : α → Fm → Rs β) : RsOf k := match m with
  | .ok a fr => k a fr
  | .exc C ds fr => .exc C ds fr
  | .stk => .stk

inductive RC where
  | ok (d : D) (st : List D) | exc (C : Nat) (ds : List D) (st : List D) | stk

structure Cal where
  fn : Nat → List D → List D → RC
  ini : Nat → List D → List D → RC

/-! ### contents -/
def deref (fr : Fm) : D → Option D
  | .ref k => fr.st[k]?
  | .loc i => match fr.env[i]? with
    | some (.own d) => some d
    | _ => none
  | d => some d
def putC (fr : Fm) (t c : D) : Option Fm :=
  match t with
  | .ref k => some ⟨fr.env, fr.st.set k c⟩
  | .loc i => some ⟨fr.env.set i (.own c), fr.st⟩
  | _ => none
def isMut : D → Bool
  | .lst _ => true
  | .dK _ _ => true
  | .dT _ _ => true
  | _ => false
def isLoc : D → Bool
  | .loc _ => true
  | _ => false

def isNon : D → Bool
  | .non => true
  | _ => false
/-! ### equality as data -/
mutual
def lay : D → Bool
  | .non | .bl _ | .int _ => true
  | .str x => x.cps.all (· < 0x110000)
  | .lst xs | .tup xs => layL xs
  | _ => false
def layL : List D → Bool
  | [] => true
  | x :: xs => lay x && layL xs
end
mutual
def dep : D → Nat
  | .lst xs | .tup xs => depL xs + 1
  | _ => 0
def depL : List D → Nat
  | [] => 0
  | x :: xs => max (dep x) (depL xs)
end
mutual
def eqv : D → D → Bool
  | .non, .non => true
  | .bl a, .bl b => a == b
  | .bl a, .int j => (if a then 1 else 0) == j
  | .int i, .bl b => i == (if b then 1 else 0)
  | .int i, .int j => i == j
  | .str x, .str y => x == y
  | .lst xs, .lst ys => eqvL xs ys
  | .tup xs, .tup ys => eqvL xs ys
  | _, _ => false
def eqvL : List D → List D → Bool
  | [], [] => true
  | x :: xs, y :: ys => eqv x y && eqvL xs ys
  | _, _ => false
end
def eqD (a b : D) : Option Bool := if lay a && lay b && decide (min (dep a) (dep b) ≤ 64) then some (eqv a b) else none

/-! ### sequences, dicts -/
def mSx (n d : Nat) : Option Int → Nat
  | none => d
  | some v => if v < 0 then (v + (n : Int)).toNat else min v.toNat n
def cutL {α : Type} (xs : List α) (lo hi : Option Int) : List α := (xs.drop (mSx xs.length 0 lo)).take (mSx xs.length xs.length hi - mSx xs.length 0 lo)
def mIx (n : Nat) (i : Int) : Option Nat := if 0 ≤ i then (if i < n then some i.toNat else none) else if -(n : Int) ≤ i then some (i + n).toNat else none
def mAt {α : Type} (xs : List α) (i : Int) : Option α := (mIx xs.length i).bind fun j => xs[j]?
def look {κ : Type} [DecidableEq κ] : List κ → List D → κ → Option D
  | k :: ks, v :: vs, q => if k = q then some v else look ks vs q
  | _, _, _ => none
def repD {κ : Type} [DecidableEq κ] : List κ → List D → κ → D → List D
  | k :: ks, v :: vs, q, d => (if k = q then d else v) :: repD ks vs q d
  | _, vs, _, _ => vs
def putD {κ : Type} [DecidableEq κ] (ks : List κ) (vs : List D) (q : κ) (d : D) : List κ × List D :=
  if (ks.any fun k => decide (k = q)) = true then (ks, repD ks vs q d) else (ks ++ [q], vs ++ [d])
/-- the attributes of an instance: the first one -/
def putA : List Str → List D → Str → D → List Str × List D
  | k :: ks, v :: vs, q, d => if k = q then (k :: ks, d :: vs) else ((k :: (putA ks vs q d).1), (v :: (putA ks vs q d).2))
  | _, _, q, d => ([q], [d])
def keyD : D → Option Key
  | .int i => some (.inl i)
  | .str x => some (.inr x)
  | _ => none
def keysD : List D → Option (List Key)
  | [] => some []
  | d :: ds => match keyD d, keysD ds with
    | some k, some ks => some (k :: ks)
    | _, _ => none
def dKey : Key → D
  | .inl i => .int i
  | .inr x => .str x
def szL : Nat := 16777216

/-! ### operators -/
inductive BO where | add | sub | mul | fdiv | mod | pow
inductive CO where | eq | ne | lt | le | gt | ge | mem | nmem
def isMem : CO → Bool
  | .mem => true
  | .nmem => true
  | _ => false
def mulOk (i j : Int) : Bool := (decide (-18446744073709551616 < i) && decide (i < 18446744073709551616)) || (decide (-18446744073709551616 < j) && decide (j < 18446744073709551616))
def binD : BO → D → D → Option D
  | .add, .int i, .int j => some (.int (i + j))
  | .sub, .int i, .int j => some (.int (i - j))
  | .mul, .int i, .int j => if mulOk i j then some (.int (i * j)) else none
  | .fdiv, .int i, .int j => if decide (0 < j) && decide (j < 1073741824) then some (.int (i / j)) else none
  | .mod, .int i, .int j => if decide (0 < j) then some (.int (i % j)) else none
  | .pow, .int i, .int j => if decide (0 ≤ j) && decide (j ≤ 1000000) && decide (i.natAbs < 18446744073709551616) then some (.int (i ^ j.toNat)) else none
  | .add, .str x, .str y => if x.length + y.length ≤ szL then some (.str (x ++ y)) else none
  | .add, .lst xs, .lst ys => if xs.length + ys.length ≤ szL then some (.lst (xs ++ ys)) else none
  | .add, .tup xs, .tup ys => if xs.length + ys.length ≤ szL then some (.tup (xs ++ ys)) else none
  | .mul, .lst xs, .int k => if decide (-9223372036854775808 ≤ k) && decide (k < 9223372036854775808) && decide (xs.length * k.toNat ≤ szL) then some (.lst (List.replicate k.toNat xs).flatten) else none
  | _, _, _ => none
def memD (d : D) : D → Option Bool
  | .lst ds | .tup ds | .ktup ds => if lay d && layL ds && decide (min (depL ds) (dep d) ≤ 64) then some (ds.any fun z => eqv z d) else none
  | .str y => match d with
    | .str x => match x.cps.toList with
      | [c] => some (decide (c ∈ y.cps.toList))
      | _ => none
    | _ => none
  | .dK ks vs => match keyD d with
    | some k => some (look ks vs k).isSome
    | none => none
  | .dT ks vs => match d with
    | .tup ds => match keysD ds with
      | some k => some (look ks vs k).isSome
      | none => none
    | _ => none
  | _ => none
def cmpD : CO → D → D → Option Bool
  | .eq, a, b => eqD a b
  | .ne, a, b => (eqD a b).map not
  | .lt, .int i, .int j => some (decide (i < j))
  | .le, .int i, .int j => some (decide (i ≤ j))
  | .gt, .int i, .int j => some (decide (j < i))
  | .ge, .int i, .int j => some (decide (j ≤ i))
  | .lt, .str x, .str y => some (decide (x.cps.toList < y.cps.toList))
  | .le, .str x, .str y => some (!decide (y.cps.toList < x.cps.toList))
  | .gt, .str x, .str y => some (decide (y.cps.toList < x.cps.toList))
  | .ge, .str x, .str y => some (!decide (x.cps.toList < y.cps.toList))
  | .mem, a, b => memD a b
  | .nmem, a, b => (memD a b).map not
  | _, _, _ => none
def truD : D → Option Bool
  | .non => some false
  | .bl b => some b
  | .int i => some (i != 0)
  | .str x => if x.length ≤ szL then some ((x.length : Int) != 0) else none
  | .lst xs | .tup xs => some (!xs.isEmpty)
  | _ => none
def ixD : D → D → Option D
  | .lst xs, .int i | .tup xs, .int i | .ktup xs, .int i => mAt xs i
  | .str x, .int i => if x.length ≤ szL then (mAt x.cps.toList i).map fun c => .str ⟨#[c]⟩ else none
  | .dK ks vs, d => match keyD d with
    | some k => look ks vs k
    | none => none
  | .dT ks vs, .tup ds => match keysD ds with
    | some k => look ks vs k
    | none => none
  | _, _ => none
def slD (d : D) (lo hi : Option Int) : Option D :=
  match d with
  | .lst xs => some (.lst (cutL xs lo hi))
  | .tup xs => some (.tup (cutL xs lo hi))
  | .str x => if x.length ≤ szL then some (.str ⟨(cutL x.cps.toList lo hi).toArray⟩) else none
  | _ => none
def revD : D → Option D
  | .lst xs => some (.lst xs.reverse)
  | _ => none
/-- o[i] = v: the new content -/
def setD : D → D → D → Option D
  | .lst xs, .int i, v => (mIx xs.length i).map fun j => .lst (xs.set j v)
  | .dK ks vs, d, v => match keyD d with
    | some k => if ks.length < szL then some (.dK (putD ks vs k v).1 (putD ks vs k v).2) else none
    | none => none
  | .dT ks vs, .tup ds, v => match keysD ds with
    | some k => if ks.length < szL then some (.dT (putD ks vs k v).1 (putD ks vs k v).2) else none
    | none => none
  | _, _, _ => none

/-! ### classes for isinstance -/
inductive Tc where | int | bool | str | list | tuple | dict | own (C : Nat)
def isTy : Tc → D → Bool
  | .int, .int _ | .int, .bl _ | .bool, .bl _ | .str, .str _ | .list, .lst _ | .tuple, .tup _ | .tuple, .ktup _ | .dict, .dK _ _ | .dict, .dT _ _ => true
  | .own C, .ins E _ _ => C == E
  | _, _ => false

def canTy : D → Bool
  | .dT _ _ => false
  | .ref _ => false
  | .loc _ => false
  | _ => true
/-! ### built-in functions (pure in the contents) -/
inductive BF where | len | all | any | sum | int | abs | list | tuple | sorted | fact | min2 | max2
def boolsD : List D → Option (List Bool)
  | [] => some []
  | .bl b :: ds => (boolsD ds).map (b :: ·)
  | _ => none
def intsD : List D → Option (List Int)
  | [] => some []
  | .int i :: ds => (intsD ds).map (i :: ·)
  | _ => none
def strsD : List D → Option (List Str)
  | [] => some []
  | .str x :: ds => (strsD ds).map (x :: ·)
  | _ => none
def insI (i : Int) : List Int → List Int
  | [] => [i]
  | j :: js => if i ≤ j then i :: j :: js else j :: insI i js
def sortI : List Int → List Int
  | [] => []
  | i :: is => insI i (sortI is)
def leS (x y : Str) : Bool := !decide (y.cps.toList < x.cps.toList)
def insS (x : Str) : List Str → List Str
  | [] => [x]
  | y :: ys => if leS x y then x :: y :: ys else y :: insS x ys
def sortS : List Str → List Str
  | [] => []
  | x :: xs => insS x (sortS xs)
def keysI : List Key → Option (List Int)
  | [] => some []
  | .inl i :: ks => (keysI ks).map (i :: ·)
  | _ => none
def keysS : List Key → Option (List Str)
  | [] => some []
  | .inr x :: ks => (keysS ks).map (x :: ·)
  | _ => none
def sortedD : D → Option D
  | .lst ds => match intsD ds with
    | some is => some (.lst ((sortI is).map .int))
    | none => none
  | .dK ks _ => match keysI ks with
    | some is => some (.lst ((sortI is).map .int))
    | none => none
  | _ => none
def facN : Nat → Nat
  | 0 => 1
  | n + 1 => facN n * (n + 1)
def bfD : BF → List D → Option D
  | .len, [.lst xs] | .len, [.tup xs] => some (.int xs.length)
  | .len, [.str x] => if x.length ≤ szL then some (.int x.length) else none
  | .all, [.lst xs] => (boolsD xs).map fun bs => .bl (bs.all id)
  | .any, [.lst xs] => (boolsD xs).map fun bs => .bl (bs.any id)
  | .sum, [.lst xs] => (intsD xs).map fun is => .int is.sum
  | .int, [.int i] => some (.int i)
  | .int, [.bl b] => some (.int (if b then 1 else 0))
  | .abs, [.int i] => some (.int (if i < 0 then -i else i))
  | .list, [.lst xs] | .list, [.tup xs] => some (.lst xs)
  | .tuple, [.lst xs] | .tuple, [.tup xs] => some (.tup xs)
  | .sorted, [d] => sortedD d
  | .fact, [.int i] => if decide (0 ≤ i) && decide (i ≤ 1000) then some (.int (facN i.toNat)) else none
  | .min2, [.int i, .int j] => some (.int (if j < i then j else i))
  | .max2, [.int i, .int j] => some (.int (if j > i then j else i))
  | _, _ => none

/-! ### methods of built-in types: the value, the new content (if it changes) -/
inductive BM where | append | extend | pop | popAt | remove | get1 | get2
def bmKind : BM → D → Bool
  | .get1, .dK _ _ | .get2, .dK _ _ => true
  | .get1, _ | .get2, _ => false
  | _, .lst _ => true
  | _, _ => false
def eraseFirst (k : Int) : List D → Option (List D)
  | [] => none
  | .int i :: ds => if i = k then some ds else (eraseFirst k ds).map (.int i :: ·)
  | _ => none
def bmD : BM → D → List D → Option (D × Option D)
  | .append, .lst xs, [d] => if xs.length < szL then some (.non, some (.lst (xs ++ [d]))) else none
  | .extend, .lst xs, [.lst ys] => if xs.length + ys.length ≤ szL then some (.non, some (.lst (xs ++ ys))) else none
  | .pop, .lst xs, [] => match xs[xs.length - 1]? with
    | some d => some (d, some (.lst xs.dropLast))
    | none => none
  | .popAt, .lst xs, [.int i] => match mIx xs.length i with
    | some j => match xs[j]? with
      | some d => some (d, some (.lst (xs.eraseIdx j)))
      | none => none
    | none => none
  | .remove, .lst xs, [.int k] => match intsD xs, eraseFirst k xs with
    | some _, some ys => some (.non, some (.lst ys))
    | _, _ => none
  | .get1, .dK ks vs, [d] => match keyD d with
    | some k => some ((look ks vs k).getD .non, none)
    | none => none
  | .get2, .dK ks vs, [d, e] => match keyD d with
    | some k => some ((look ks vs k).getD e, none)
    | none => none
  | _, _, _ => none

/-! ### syntax -/
inductive DT where
  | nm (i : Nat) | tp (ts : List DT)
mutual
inductive DE where
  | var (i : Nat) | pk (i : Nat) | con (d : D) | glb (g : Nat)
  | bin (o : BO) (a b : DE) | neg (a : DE) | nt (a : DE)
  | cmp (o : CO) (a b : DE) | chn (o1 o2 : CO) (a b c : DE) | isN (a : DE) | isNn (a : DE)
  | and (es : List DE) | or (es : List DE) | ite (c a b : DE)
  | lst (es : List DE) | tup (es : List DE) | star (e : DE)
  | dic (t : Bool) (kvs : List DE)
  | ix (a b : DE) | sl (a : DE) (lo hi : List DE) | rev (a : DE)
  | att (a : DE) (f : Str)
  | call (f : Nat) (es : List DE) | new (C : Nat) (es : List DE) | mth (f : Nat) (o : DE) (es : List DE)
  | bf (f : BF) (es : List DE) | bm (m : BM) (o : DE) (es : List DE)
  | isi (e : DE) (cs : List Tc)
  | lc (own : List Nat) (t : DT) (it : DI) (cs : List DE) (elt : DE)
  | lco (own : List Nat) (t : DT) (i : Nat) (cs : List DE) (elt : DE)
  | live (e : DE) | lrng (a : DE)
inductive DI where
  | ex (e : DE) | rng (a : DE) | rng2 (a b : DE) | enm (e : DE) | zip (a b : DE)
end
inductive DS where
  | ex (e : DE) | asg (t : DT) (e : DE) | own (i : Nat) (e : DE)
  | par (is : List (Nat × Bool)) (es : List DE)
  | sub (o i e : DE) | atr (o : DE) (f : Str) (e : DE)
  | ret (e : DE) | retN | ite (c : DE) (a b : List DS) | whl (c : DE) (b : List DS)
  | for (t : DT) (it : DI) (b : List DS) | rai (C : Nat) (es : List DE)
  | pas | brk | cnt | nev

/-! ### evaluation -/
def opt {α : Type} (o : Option α) (fr : Fm) : Rs α := match o with
  | some a => .ok a fr
  | none => .stk
def getS (fr : Fm) (i : Nat) : Rs D := match fr.env[i]? with
  | some (.val d) => .ok d fr
  | some (.own d) => .ok d ⟨fr.env.set i (.val d), fr.st⟩
  | _ => .stk
def peek (fr : Fm) (i : Nat) : Rs D := match fr.env[i]? with
  | some (.val d) => .ok d fr
  | some (.own _) => .ok (.loc i) fr
  | _ => .stk
def noLoc (d : D) (fr : Fm) : Rs D := if isLoc d then .stk else .ok d fr
def test (d : D) (fr : Fm) : Rs Bool := opt ((deref fr d).bind truD) fr
def splice (fr : Fm) (d : D) : Option (List D) := match deref fr d with
  | some (.lst xs) | some (.tup xs) => some xs
  | _ => none
def derefs (fr : Fm) : List D → Option (List D)
  | [] => some []
  | d :: ds => (deref fr d).bind fun x => (derefs fr ds).map (x :: ·)
def bmArgs (fr : Fm) : BM → List D → Option (List D)
  | .extend, [d] => (deref fr d).map ([·])
  | _, ds => if ds.any isLoc then none else some ds
def mkDic : List (Key × D) → List Key × List D → List Key × List D
  | [], r => r
  | p :: ps, r => mkDic ps (putD r.1 r.2 p.1 p.2)
/-- the items that a for walks -/
def iterD (fr : Fm) (d : D) : Option (List D) := match d with
  | .lst xs | .tup xs => some xs
  | .str x => some (x.cps.toList.map fun c => .str ⟨#[c]⟩)
  | _ => none
def rangeD (a : Int) (n : Nat) : List D := (List.range n).map fun (k : Nat) => .int (a + (k : Int))
def enumD : Nat → List D → List D
  | _, [] => []
  | i, d :: ds => .tup [.int i, d] :: enumD (i + 1) ds
def zipD : List D → List D → List D
  | x :: xs, y :: ys => .tup [x, y] :: zipD xs ys
  | _, _ => []
mutual
def asgT : DT → D → Fm → Rs Unit
  | .nm i, d, fr => .ok () ⟨fr.env.set i (.val d), fr.st⟩
  | .tp ts, d, fr => match d with
    | .tup xs | .lst xs => if xs.length = ts.length then asgTs ts xs fr else .stk
    | _ => .stk
def asgTs : List DT → List D → Fm → Rs Unit
  | t :: ts, d :: ds, fr => (asgT t d fr).bind fun _ fr => asgTs ts ds fr
  | _, _, fr => .ok () fr
end
def wipeE (env : List Sl) : List Nat → List Sl
  | [] => env
  | i :: is => (wipeE env is).set i .un
/-- the slots is of env as they stand in old -/
def backE (old env : List Sl) : List Nat → List Sl
  | [] => env
  | i :: is => (backE old env is).set i (old[i]?.getD .un)
def noOwn (env : List Sl) (is : List Nat) : Bool := is.all fun i => match env[i]? with
  | some (.own _) => false
  | _ => true
def compL (step : D → Fm → Rs (Option D)) : List D → List D → Fm → Rs (List D)
  | [], acc, fr => .ok acc fr
  | d :: ds, acc, fr => (step d fr).bind fun o fr => match o with
    | some y => if acc.length < szL then compL step ds (acc ++ [y]) fr else .stk
    | none => compL step ds acc fr
def ownL (fr : Fm) (i : Nat) : Option (List D) := match fr.env[i]? with
  | some (.own (.lst xs)) => some xs
  | _ => none
/-- over the list that slot i owns, as it stands at each turn; its length n stays -/
def compO (step : D → Fm → Rs (Option D)) (i n : Nat) : Nat → List D → Fm → Rs (List D)
  | 0, acc, fr => match ownL fr i with
    | some xs => if xs.length = n then .ok acc fr else .stk
    | none => .stk
  | k + 1, acc, fr => match ownL fr i with
    | some xs => if xs.length = n then (opt xs[n - (k + 1)]? fr).bind fun d fr => (step d fr).bind fun o fr => match o with
        | some y => if acc.length < szL then compO step i n k (acc ++ [y]) fr else .stk
        | none => compO step i n k acc fr
      else .stk
    | none => .stk
def noExc {α : Type} : Rs α → Rs α
  | .exc _ _ _ => .stk
  | r => r
def ofRC (env : List Sl) : RC → Rs D
  | .ok d st => .ok d ⟨env, st⟩
  | .exc C ds st => .exc C ds ⟨env, st⟩
  | .stk => .stk
def liveR (d : D) (fr : Fm) : Rs D := match d with
  | .lst _ | .dK _ _ | .dT _ _ => .ok (.ref fr.st.length) ⟨fr.env, fr.st ++ [d]⟩
  | _ => .stk
section
variable (gl : Nat → Option D) (c : Cal)
mutual
def evalE : DE → Fm → Rs D
  | .var i, fr => getS fr i
  | .pk i, fr => peek fr i
  | .con d, fr => .ok d fr
  | .glb g, fr => opt (gl g) fr
  | .bin o a b, fr => (evalE a fr).bind fun x fr => (evalE b fr).bind fun y fr =>
    opt ((deref fr x).bind fun x => (deref fr y).bind fun y => binD o x y) fr
  | .neg a, fr => (evalE a fr).bind fun x fr => match x with
    | .int i => .ok (.int (-i)) fr
    | _ => .stk
  | .nt a, fr => (evalE a fr).bind fun x fr => (test x fr).bind fun b fr => .ok (.bl (!b)) fr
  | .cmp o a b, fr => (evalE a fr).bind fun x fr => (evalE b fr).bind fun y fr =>
    opt ((deref fr x).bind fun x => (deref fr y).bind fun y => (cmpD o x y).map .bl) fr
  | .chn o1 o2 a b e, fr => (evalE a fr).bind fun x fr => (evalE b fr).bind fun y fr =>
    (opt ((deref fr x).bind fun x => (deref fr y).bind fun y => cmpD o1 x y) fr).bind fun k fr =>
      if k then (evalE e fr).bind fun z fr => opt ((deref fr y).bind fun y => (deref fr z).bind fun z => (cmpD o2 y z).map .bl) fr
      else .ok (.bl false) fr
  | .isN a, fr => (evalE a fr).bind fun x fr => (noLoc x fr).bind fun x fr => .ok (.bl (isNon x)) fr
  | .isNn a, fr => (evalE a fr).bind fun x fr => (noLoc x fr).bind fun x fr => .ok (.bl (!isNon x)) fr
  | .and es, fr => evalAnd es fr
  | .or es, fr => evalOr es fr
  | .ite e a b, fr => (evalE e fr).bind fun x fr => (test x fr).bind fun k fr => if k then evalE a fr else evalE b fr
  | .lst es, fr => (evalEs es fr).bind fun xs fr => if xs.length ≤ szL then .ok (.lst xs) fr else .stk
  | .tup es, fr => (evalEs es fr).bind fun xs fr => if xs.length ≤ szL then .ok (.tup xs) fr else .stk
  | .star _, _ => .stk
  | .dic t kvs, fr => if t then .ok (.dT [] []) fr else (evalKV kvs fr).bind fun ps fr =>
    if ps.length ≤ 15 then .ok (.dK (mkDic ps ([], [])).1 (mkDic ps ([], [])).2) fr else .stk
  | .ix a b, fr => (evalE a fr).bind fun x fr => (evalE b fr).bind fun y fr =>
    opt ((deref fr x).bind fun x => (deref fr y).bind fun y => ixD x y) fr
  | .sl a lo hi, fr => (evalE a fr).bind fun x fr => (evalO lo fr).bind fun l fr => (evalO hi fr).bind fun h fr =>
    opt ((deref fr x).bind fun x => slD x l h) fr
  | .rev a, fr => (evalE a fr).bind fun x fr => opt ((deref fr x).bind revD) fr
  | .att a f, fr => (evalE a fr).bind fun x fr => match deref fr x with
    | some (.ins _ fs vs) => opt (look fs vs f) fr
    | _ => .stk
  | .call f es, fr => (evalEs es fr).bind fun ds fr => ofRC fr.env (c.fn f ds fr.st)
  | .new C es, fr => (evalEs es fr).bind fun ds fr => ofRC fr.env (c.ini C ds fr.st)
  | .mth f o es, fr => (evalE o fr).bind fun x fr => (noLoc x fr).bind fun x fr => (evalEs es fr).bind fun ds fr => ofRC fr.env (c.fn f (x :: ds) fr.st)
  | .bf f es, fr => (evalPs es fr).bind fun ds fr => opt ((derefs fr ds).bind (bfD f)) fr
  | .bm m o es, fr => (evalE o fr).bind fun x fr => (opt (deref fr x) fr).bind fun k fr => if bmKind m k then (evalPs es fr).bind fun ds fr =>
    (opt ((deref fr x).bind fun x => (bmArgs fr m ds).bind fun ds => bmD m x ds) fr).bind fun r fr => match r.2 with
    | none => .ok r.1 fr
    | some n => (opt (putC fr x n) fr).bind fun fr _ => .ok r.1 fr
    else .stk
  | .isi e cs, fr => (evalE e fr).bind fun x fr => (opt (deref fr x) fr).bind fun d fr => if canTy d then .ok (.bl (cs.any fun t => isTy t d)) fr else .stk
  | .lc own t it cs elt, fr => (evalI it fr).bind fun ds fr => if noOwn fr.env own then
    (noExc (compL (fun d fr => (asgT t d ⟨wipeE fr.env own, fr.st⟩).bind fun _ fr => (evalC cs fr).bind fun k fr =>
        if k then (evalE elt fr).bind fun y fr => (noLoc y fr).bind fun y fr => .ok (some y) ⟨wipeE fr.env own, fr.st⟩ else .ok none ⟨wipeE fr.env own, fr.st⟩)
      ds [] ⟨wipeE fr.env own, fr.st⟩)).bind fun ys fr2 => .ok (.lst ys) ⟨backE fr.env fr2.env own, fr2.st⟩ else .stk
  | .lco own t i cs elt, fr => (opt (ownL fr i) fr).bind fun ds fr => if noOwn fr.env own then
    (noExc (compO (fun d fr => (asgT t d ⟨wipeE fr.env own, fr.st⟩).bind fun _ fr => (evalC cs fr).bind fun k fr =>
        if k then (evalE elt fr).bind fun y fr => (noLoc y fr).bind fun y fr => .ok (some y) ⟨wipeE fr.env own, fr.st⟩ else .ok none ⟨wipeE fr.env own, fr.st⟩)
      i ds.length ds.length [] ⟨wipeE fr.env own, fr.st⟩)).bind fun ys fr2 => .ok (.lst ys) ⟨backE fr.env fr2.env own, fr2.st⟩ else .stk
  | .live e, fr => (evalE e fr).bind fun d fr => liveR d fr
  | .lrng a, fr => (evalE a fr).bind fun x fr => match x with
    | .int n => if decide (0 ≤ n) && decide (n ≤ 16777216) then .ok (.lst (rangeD 0 n.toNat)) fr else .stk
    | _ => .stk
/-- items that are kept: no late ones; stars spliced -/
def evalEs : List DE → Fm → Rs (List D)
  | [], fr => .ok [] fr
  | .star e :: es, fr => (evalE e fr).bind fun x fr => (opt (splice fr x) fr).bind fun xs fr => (evalEs es fr).bind fun ys fr => .ok (xs ++ ys) fr
  | e :: es, fr => (evalE e fr).bind fun x fr => (noLoc x fr).bind fun x fr => (evalEs es fr).bind fun ys fr => .ok (x :: ys) fr
/-- arguments that are read: late ones too -/
def evalPs : List DE → Fm → Rs (List D)
  | [], fr => .ok [] fr
  | e :: es, fr => (evalE e fr).bind fun x fr => (evalPs es fr).bind fun ys fr => .ok (x :: ys) fr
def evalO : List DE → Fm → Rs (Option Int)
  | [e], fr => (evalE e fr).bind fun x fr => match x with
    | .int i => .ok (some i) fr
    | _ => .stk
  | _, fr => .ok none fr
def evalC : List DE → Fm → Rs Bool
  | [], fr => .ok true fr
  | e :: _, fr => (evalE e fr).bind fun x fr => test x fr
def evalAnd : List DE → Fm → Rs D
  | [], _ => .stk
  | [e], fr => evalE e fr
  | e :: es, fr => (evalE e fr).bind fun x fr => (test x fr).bind fun k fr => if k then evalAnd es fr else .ok x fr
def evalOr : List DE → Fm → Rs D
  | [], _ => .stk
  | [e], fr => evalE e fr
  | e :: es, fr => (evalE e fr).bind fun x fr => (test x fr).bind fun k fr => if k then .ok x fr else evalOr es fr
/-- a dict display: key, value, key, value .. -/
def evalKV : List DE → Fm → Rs (List (Key × D))
  | k :: v :: kvs, fr => (evalE k fr).bind fun x fr => (evalE v fr).bind fun y fr => (noLoc y fr).bind fun y fr => (opt (keyD x) fr).bind fun q fr =>
    (evalKV kvs fr).bind fun r fr => .ok ((q, y) :: r) fr
  | _, fr => .ok [] fr
def evalI : DI → Fm → Rs (List D)
  | .ex e, fr => (evalE e fr).bind fun x fr => opt (iterD fr x) fr
  | .rng a, fr => (evalE a fr).bind fun x fr => match x with
    | .int n => if decide (-4611686018427387904 ≤ n) && decide (n < 4611686018427387904) then .ok (rangeD 0 n.toNat) fr else .stk
    | _ => .stk
  | .rng2 a b, fr => (evalE a fr).bind fun x fr => (evalE b fr).bind fun y fr => match x, y with
    | .int m, .int n => if decide (-4611686018427387904 ≤ m) && decide (m < 4611686018427387904) && decide (-4611686018427387904 ≤ n) && decide (n < 4611686018427387904) then .ok (rangeD m (n - m).toNat) fr else .stk
    | _, _ => .stk
  | .enm e, fr => (evalE e fr).bind fun x fr => match x with
    | .lst xs | .tup xs => .ok (enumD 0 xs) fr
    | _ => .stk
  | .zip a b, fr => (evalE a fr).bind fun x fr => (evalE b fr).bind fun y fr => match x, y with
    | .lst xs, .lst ys | .tup xs, .tup ys | .lst xs, .tup ys => .ok (zipD xs ys) fr
    | _, _ => .stk
end
end

/-- the values of a parallel assignment; those that a slot is to own are new objects -/
def evalPar (gl : Nat → Option D) (c : Cal) : List (Nat × Bool) → List DE → Fm → Rs (List D)
  | (_, o) :: is, e :: es, fr => (evalE gl c e fr).bind fun x fr => (noLoc x fr).bind fun x fr => if (o && !isMut x) = true then .stk else (evalPar gl c is es fr).bind fun ys fr => .ok (x :: ys) fr
  | [], [], fr => .ok [] fr
  | _, _, _ => .stk
/-! ### statements -/
inductive Fl where
  | nx | ret (d : D) | brk | cnt
def whileL : Nat → (Fm → Rs Bool) → (Fm → Rs Fl) → Fm → Rs Fl
  | 0, _, _, _ => .stk
  | n + 1, c, b, fr => (c fr).bind fun k fr => if k then (b fr).bind fun f fr => match f with
      | .nx | .cnt => whileL n c b fr
      | .brk => .ok .nx fr
      | .ret d => .ok (.ret d) fr
    else .ok .nx fr
def forL (step : D → Fm → Rs Fl) : List D → Fm → Rs Fl
  | [], fr => .ok .nx fr
  | d :: ds, fr => (step d fr).bind fun f fr => match f with
    | .nx | .cnt => forL step ds fr
    | .brk => .ok .nx fr
    | .ret d => .ok (.ret d) fr
def ownS (i : Nat) (d : D) (fr : Fm) : Rs Unit := match d with
  | .lst _ | .dK _ _ | .dT _ _ => .ok () ⟨fr.env.set i (.own d), fr.st⟩
  | _ => .stk
def parS : List (Nat × Bool) → List D → Fm → Rs Unit
  | (i, o) :: is, d :: ds, fr => (if o then ownS i d fr else .ok () ⟨fr.env.set i (.val d), fr.st⟩).bind fun _ fr => parS is ds fr
  | _, _, fr => .ok () fr
section
variable (gl : Nat → Option D) (c : Cal) (L : Nat)
mutual
def xS : DS → Fm → Rs Fl
  | .ex e, fr => (evalE gl c e fr).bind fun _ fr => .ok .nx fr
  | .asg t e, fr => (evalE gl c e fr).bind fun d fr => (noLoc d fr).bind fun d fr => (asgT t d fr).bind fun _ fr => .ok .nx fr
  | .own i e, fr => (evalE gl c e fr).bind fun d fr => (ownS i d fr).bind fun _ fr => .ok .nx fr
  | .par is es, fr => (evalPar gl c is es fr).bind fun ds fr => (parS is ds fr).bind fun _ fr => .ok .nx fr
  | .sub o i e, fr => (evalE gl c e fr).bind fun d fr => (noLoc d fr).bind fun d fr => (evalE gl c o fr).bind fun x fr => (evalE gl c i fr).bind fun k fr =>
    (opt ((deref fr x).bind fun n => (setD n k d).bind (putC fr x)) fr).bind fun fr _ => .ok .nx fr
  | .atr o f e, fr => (evalE gl c e fr).bind fun d fr => (noLoc d fr).bind fun d fr => (evalE gl c o fr).bind fun x fr =>
    (opt (match deref fr x with
      | some (.ins C fs vs) => if fs.length < 1000 then putC fr x (.ins C (putA fs vs f d).1 (putA fs vs f d).2) else none
      | _ => none) fr).bind fun fr _ => .ok .nx fr
  | .ret e, fr => (evalE gl c e fr).bind fun d fr => (noLoc d fr).bind fun d fr => .ok (.ret d) fr
  | .retN, fr => .ok (.ret .non) fr
  | .ite e a b, fr => (evalE gl c e fr).bind fun x fr => (test x fr).bind fun k fr => if k then xSs a fr else xSs b fr
  | .whl e b, fr => whileL L (fun fr => (evalE gl c e fr).bind fun x fr => test x fr) (fun fr => xSs b fr) fr
  | .for t it b, fr => (evalI gl c it fr).bind fun ds fr => forL (fun d fr => (asgT t d fr).bind fun _ fr => xSs b fr) ds fr
  | .rai _ _, _ => .stk
  | .nev, _ => .stk
  | .pas, fr => .ok .nx fr
  | .brk, fr => .ok .brk fr
  | .cnt, fr => .ok .cnt fr
def xSs : List DS → Fm → Rs Fl
  | [], fr => .ok .nx fr
  | s :: ss, fr => (xS s fr).bind fun f fr => match f with
    | .nx => xSs ss fr
    | f => .ok f fr
end
end

/-! ### a program -/
structure Def where
  np : Nat
  nl : Nat
  body : List DS
  deriving Inhabited
structure Prog where
  defs : List Def
  inits : List Def
  gl : List D
def unS (n : Nat) : List Sl := List.replicate n .un
def endFn (r : Rs Fl) : RC := match r with
  | .ok .nx fr => .ok .non fr.st
  | .ok (.ret d) fr => .ok d fr.st
  | .exc C ds fr => .exc C ds fr.st
  | _ => .stk
/-- an __init__: the new object is a cell of the store -/
def endIni (k : Nat) (r : Rs Fl) : RC := match r with
  | .ok .nx fr => .ok (.ref k) fr.st
  | .exc C ds fr => .exc C ds fr.st
  | _ => .stk
def callD (P : Prog) (L : Nat) : Nat → Cal
  | 0 => ⟨fun _ _ _ => .stk, fun _ _ _ => .stk⟩
  | n + 1 =>
    ⟨fun f ds st => match P.defs[f]? with
      | some d => if ds.length = d.np then endFn (xSs (fun g => P.gl[g]?) (callD P L n) L d.body ⟨ds.map Sl.val ++ unS (d.nl - d.np), st⟩) else .stk
      | none => .stk,
    fun C ds st => match P.inits[C]? with
      | some d => if ds.length + 1 = d.np then endIni st.length (xSs (fun g => P.gl[g]?) (callD P L n) L d.body ⟨(.ref st.length :: ds).map Sl.val ++ unS (d.nl - d.np), st ++ [.ins C [] []]⟩) else .stk
      | none => .stk⟩
end Mr
end
section
set_option Elab.async false
set_option linter.all false
set_option maxRecDepth 100000
/-! M1h: the head's look, by one Bool. -/
namespace Mr
open PySem PySem.Spec PyProof.Rows L2
structure Nm where
  fn : List (Str × Nat)
  cl : List (Str × Nat)
  gl : List Str
  fl : List Str
  fre : List Str
  fac : Option Str

def tyNames : List String := ["NoneType", "bool", "int", "str", "list", "tuple", "dict"]
/-! ### the Hook -/
def obsB (ok : PySem.W.Frag → Bool) (fn : List He.DefD) (K : PySem.W.Frag) : He.AlD := (ok K && fn.all fun d => d.ok K, fn.map fun d => He.fnW K d.at_)
def obsBG (n : Nat) (ok : PySem.W.Frag → Bool) (fn : List He.DefD) (g : Addr → Option Obj) : He.AlD := obsB ok fn (He.frG g (He.asD g n))
def hookB (n : Nat) (ok : PySem.W.Frag → Bool) (fn : List He.DefD) : PySem.W.Hook where
  α := He.AlD
  obs := fun s => obsBG n ok fn s.heap.get?
  val := fun _ => He.valD fn
  says := fun _ h => ∃ K : PySem.W.Frag, K.In h ∧ obsB ok fn K = He.valD fn
  of := fun _ _ e => ⟨_, He.frG_in, e⟩
  keeps := fun _ _ _ ⟨K, hK, c⟩ k => ⟨K, PySem.W.Frag.In.keeps hK k, c⟩
theorem obsBG_eq {n : Nat} {ok : PySem.W.Frag → Bool} {fn : List He.DefD} {g : Addr → Option Obj} {s : Shared} (h : ∀ a, g a = s.heap.get? a) : obsBG n ok fn g = (hookB n ok fn).obs s := by
  have e : g = s.heap.get? := funext h
  rw [e]
  rfl
theorem says_ok {ok : PySem.W.Frag → Bool} {fn : List He.DefD} {K : PySem.W.Frag} (c : obsB ok fn K = He.valD fn) : ok K = true := by
  have c1 : (ok K && fn.all fun d => d.ok K) = true := congrArg (fun z : He.AlD => z.1) c
  rw [Bool.and_eq_true] at c1
  exact c1.1
theorem says_def {ok : PySem.W.Frag → Bool} {fn : List He.DefD} {K : PySem.W.Frag} (c : obsB ok fn K = He.valD fn) {d : He.DefD} (h : d ∈ fn) : ∃ fd, FunD K d.name d.qual d.params d.body d.scope (d.dvs K) (d.kws K) (He.fAd K d.at_) fd := by
  have c1 : (ok K && fn.all fun d => d.ok K) = true := congrArg (fun z : He.AlD => z.1) c
  rw [Bool.and_eq_true] at c1
  have e : fn.map (fun d => He.fnW K d.at_) = fn.map He.DefD.val := congrArg (fun z : He.AlD => z.2) c
  obtain ⟨i, hi, rfl⟩ := List.getElem_of_mem h
  have e2 : (fn.map fun d => He.fnW K d.at_)[i]? = (fn.map He.DefD.val)[i]? := by rw [e]
  rw [List.getElem?_map, List.getElem?_map, List.getElem?_eq_getElem hi] at e2
  exact He.DefD.funD (Option.some.inj e2) (List.all_eq_true.mp c1.2 _ h)
mutual
def repKB (K : PySem.W.Frag) : D → Value → Bool
  | .non, u => (match u with
    | .none => true
    | _ => false)
  | .bl b, u => (match u with
    | .bool c => b == c
    | _ => false)
  | .int i, u => (match u with
    | .int j _ => i == j
    | _ => false)
  | .str x, u => (match u with
    | .str y _ => x == y
    | _ => false)
  | .ktup ds, u => (match u with
    | .ref a => (match K.lookup a with
      | some o => decide (o.cls = .type "tuple") && (match o.data with
        | .seq its _ => decide (its.size ≤ sizeLine) && repKL K ds its.toList
        | _ => false)
      | none => false)
    | _ => false)
  | .lst _, _ => false
  | .tup _, _ => false
  | .dK _ _, _ => false
  | .dT _ _, _ => false
  | .ins _ _ _, _ => false
  | .ref _, _ => false
  | .loc _, _ => false
def repKL (K : PySem.W.Frag) : List D → List Value → Bool
  | [], us => us.isEmpty
  | d :: ds, us => (match us with
    | u :: us => repKB K d u && repKL K ds us
    | [] => false)
end
def glsB (K : PySem.W.Frag) : List Str → List D → Bool
  | [], _ => true
  | _, [] => true
  | x :: xs, d :: ds => (match PySem.W.nsIn K mainGlobals x with
    | some (some u) => repKB K d u
    | _ => false) && glsB K xs ds
def clB (nm : Nm) (K : PySem.W.Frag) (x : Str) : Bool :=
  (He.Fa.cls x).ok K && (He.Fa.mkr x).ok K && (He.Fa.glo x).ok K && decide (PySem.W.findIn K (.ref (He.ga K x)) "__class__" = some (some (.builtin "object.__class__"))) &&
  decide (PySem.W.specialIn K (.builtin "object.__class__") "__get__" = some (some (.builtin "getset_descriptor.__get__"))) && decide (PySem.W.takesIn K (.builtin "object.__class__") = some true) && decide (PySem.W.mroIn K (He.ga K x) (.type "object") = some true) &&
  nm.fl.all (fun f => (He.Fa.noat x f).ok K) && tyNames.all (fun t => decide (PySem.W.kitOne K (.type t) (.ref (He.ga K x)) = some false)) && tyNames.all (fun t => decide (PySem.W.kitOne K (.ref (He.ga K x)) (.type t) = some false))
def okM (nm : Nm) (gl : List D) (K : PySem.W.Frag) : Bool :=
  nm.fre.all (fun x => (He.Fa.free x).ok K) && nm.fn.all (fun p => (He.Fa.glo p.1).ok K) && nm.cl.all (fun p => clB nm K p.1) && glsB K nm.gl gl &&
  (match nm.fac with
    | some x => decide (PySem.W.nsIn K mainGlobals x = some (some (.builtin "math.factorial")))
    | none => true) && tyNames.all (fun t => tyNames.all fun u => decide (PySem.W.kitOne K (.type t) (.type u) = some (t == u || (t == "bool" && u == "int")))) &&
  nm.cl.zipIdx.all (fun p => nm.cl.zipIdx.all fun q => decide (PySem.W.kitOne K (.ref (He.ga K p.1.1)) (.ref (He.ga K q.1.1)) = some (q.2 == p.2)))
end Mr
end
section
set_option linter.all false
set_option maxRecDepth 100000
namespace Mr
open PySem
namespace K81
abbrev s_thing : Str := ⟨#[116,104,105,110,103]⟩
abbrev s_sign : Str := ⟨#[115,105,103,110]⟩
abbrev s_part : Str := ⟨#[112,97,114,116]⟩
abbrev s_reg : Str := ⟨#[114,101,103]⟩
abbrev s_mem : Str := ⟨#[109,101,109]⟩
abbrev s_num : Str := ⟨#[110,117,109]⟩
abbrev s_pile : Str := ⟨#[112,105,108,101]⟩
abbrev s_number : Str := ⟨#[110,117,109,98,101,114]⟩
abbrev s_pattern : Str := ⟨#[112,97,116,116,101,114,110]⟩
abbrev s_found : Str := ⟨#[102,111,117,110,100]⟩
abbrev s_leaf : Str := ⟨#[108,101,97,102]⟩
abbrev s_path : Str := ⟨#[112,97,116,104]⟩
abbrev s_told : Str := ⟨#[116,111,108,100]⟩
abbrev s_machine : Str := ⟨#[109,97,99,104,105,110,101]⟩
abbrev s_word : Str := ⟨#[119,111,114,100]⟩
abbrev s_one : Str := ⟨#[111,110,101]⟩
abbrev s_operand : Str := ⟨#[111,112,101,114,97,110,100]⟩
abbrev s_written : Str := ⟨#[119,114,105,116,116,101,110]⟩
abbrev s_leaves : Str := ⟨#[108,101,97,118,101,115]⟩
abbrev s_way : Str := ⟨#[119,97,121]⟩
abbrev s_index : Str := ⟨#[105,110,100,101,120]⟩
abbrev s_row : Str := ⟨#[114,111,119]⟩
abbrev s_rows : Str := ⟨#[114,111,119,115]⟩
abbrev s_last : Str := ⟨#[108,97,115,116]⟩
abbrev s_target : Str := ⟨#[116,97,114,103,101,116]⟩
abbrev s_operands : Str := ⟨#[111,112,101,114,97,110,100,115]⟩
abbrev s_name : Str := ⟨#[110,97,109,101]⟩
abbrev s_place : Str := ⟨#[112,108,97,99,101]⟩
abbrev s_amount : Str := ⟨#[97,109,111,117,110,116]⟩
abbrev s_kinds : Str := ⟨#[107,105,110,100,115]⟩
abbrev s_read : Str := ⟨#[114,101,97,100]⟩
abbrev s_pair : Str := ⟨#[112,97,105,114]⟩
abbrev s_reads : Str := ⟨#[114,101,97,100,115]⟩
abbrev s_sources : Str := ⟨#[115,111,117,114,99,101,115]⟩
abbrev s_many : Str := ⟨#[109,97,110,121]⟩
abbrev s_source : Str := ⟨#[115,111,117,114,99,101]⟩
abbrev s_sizes : Str := ⟨#[115,105,122,101,115]⟩
abbrev s_shares : Str := ⟨#[115,104,97,114,101,115]⟩
abbrev s__law_script : Str := ⟨#[95,108,97,119,95,115,99,114,105,112,116]⟩
abbrev s__law_mix : Str := ⟨#[95,108,97,119,95,109,105,120]⟩
abbrev s__law_cell : Str := ⟨#[95,108,97,119,95,99,101,108,108]⟩
abbrev s__law_stream : Str := ⟨#[95,108,97,119,95,115,116,114,101,97,109]⟩
abbrev s__law_many : Str := ⟨#[95,108,97,119,95,109,97,110,121]⟩
abbrev s__law_mixed_here : Str := ⟨#[95,108,97,119,95,109,105,120,101,100,95,104,101,114,101]⟩
abbrev s__law_digit : Str := ⟨#[95,108,97,119,95,100,105,103,105,116]⟩
abbrev s__law_things : Str := ⟨#[95,108,97,119,95,116,104,105,110,103,115]⟩
abbrev s__law_left : Str := ⟨#[95,108,97,119,95,108,101,102,116]⟩
abbrev s__law_found : Str := ⟨#[95,108,97,119,95,102,111,117,110,100]⟩
abbrev s__law_k : Str := ⟨#[95,108,97,119,95,107]⟩
abbrev s__law_due : Str := ⟨#[95,108,97,119,95,100,117,101]⟩
abbrev s__law_x : Str := ⟨#[95,108,97,119,95,120]⟩
abbrev s__law_y : Str := ⟨#[95,108,97,119,95,121]⟩
abbrev s__law_thing : Str := ⟨#[95,108,97,119,95,116,104,105,110,103]⟩
abbrev s__law_some : Str := ⟨#[95,108,97,119,95,115,111,109,101]⟩
abbrev s__law_one : Str := ⟨#[95,108,97,119,95,111,110,101]⟩
abbrev s_var : Str := ⟨#[118,97,114]⟩
abbrev s_a : Str := ⟨#[97]⟩
abbrev s_b : Str := ⟨#[98]⟩
abbrev s_x : Str := ⟨#[120]⟩
abbrev s_total : Str := ⟨#[116,111,116,97,108]⟩
abbrev s_add : Str := ⟨#[97,100,100]⟩
abbrev s_mul : Str := ⟨#[109,117,108]⟩
abbrev s_sub : Str := ⟨#[115,117,98]⟩
abbrev s__law_leaves : Str := ⟨#[95,108,97,119,95,108,101,97,118,101,115]⟩
abbrev s__law_op : Str := ⟨#[95,108,97,119,95,111,112]⟩
abbrev s__law_number : Str := ⟨#[95,108,97,119,95,110,117,109,98,101,114]⟩
abbrev s_ld : Str := ⟨#[108,100]⟩
abbrev s_st : Str := ⟨#[115,116]⟩
abbrev s_li : Str := ⟨#[108,105]⟩
abbrev s_go : Str := ⟨#[103,111]⟩
abbrev s_w : Str := ⟨#[119]⟩
abbrev s_xx : Str := ⟨#[120,120]⟩
abbrev s_opq : Str := ⟨#[111,112,113]⟩
abbrev s_zoom : Str := ⟨#[122,111,111,109]⟩
abbrev s_lean : Str := ⟨#[108,101,97,110]⟩
abbrev s__law_most : Str := ⟨#[95,108,97,119,95,109,111,115,116]⟩
abbrev s__law_is_plain : Str := ⟨#[95,108,97,119,95,105,115,95,112,108,97,105,110]⟩
abbrev s__law_base : Str := ⟨#[95,108,97,119,95,98,97,115,101]⟩
abbrev s__law_more : Str := ⟨#[95,108,97,119,95,109,111,114,101]⟩
abbrev s__law_scales : Str := ⟨#[95,108,97,119,95,115,99,97,108,101,115]⟩
abbrev s__law_words : Str := ⟨#[95,108,97,119,95,119,111,114,100,115]⟩
abbrev s__law_rows : Str := ⟨#[95,108,97,119,95,114,111,119,115]⟩
abbrev s__law_word : Str := ⟨#[95,108,97,119,95,119,111,114,100]⟩
abbrev s__law_place : Str := ⟨#[95,108,97,119,95,112,108,97,99,101]⟩
abbrev s__law_pattern : Str := ⟨#[95,108,97,119,95,112,97,116,116,101,114,110]⟩
abbrev s__law_tree : Str := ⟨#[95,108,97,119,95,116,114,101,101]⟩
abbrev s__law_path : Str := ⟨#[95,108,97,119,95,112,97,116,104]⟩
abbrev s__law_node : Str := ⟨#[95,108,97,119,95,110,111,100,101]⟩
abbrev s__law_other : Str := ⟨#[95,108,97,119,95,111,116,104,101,114]⟩
abbrev s__law_machine : Str := ⟨#[95,108,97,119,95,109,97,99,104,105,110,101]⟩
abbrev s__law_deep : Str := ⟨#[95,108,97,119,95,100,101,101,112]⟩
abbrev s__law_own_place : Str := ⟨#[95,108,97,119,95,111,119,110,95,112,108,97,99,101]⟩
abbrev s__law_price : Str := ⟨#[95,108,97,119,95,112,114,105,99,101]⟩
abbrev s__law_kind : Str := ⟨#[95,108,97,119,95,107,105,110,100]⟩
abbrev s__law_spot : Str := ⟨#[95,108,97,119,95,115,112,111,116]⟩
abbrev s__law_is_number : Str := ⟨#[95,108,97,119,95,105,115,95,110,117,109,98,101,114]⟩
abbrev s__law_cover : Str := ⟨#[95,108,97,119,95,99,111,118,101,114]⟩
abbrev s__law_inner : Str := ⟨#[95,108,97,119,95,105,110,110,101,114]⟩
abbrev s__law_far : Str := ⟨#[95,108,97,119,95,102,97,114]⟩
abbrev s__law_pairs : Str := ⟨#[95,108,97,119,95,112,97,105,114,115]⟩
abbrev s__law_told : Str := ⟨#[95,108,97,119,95,116,111,108,100]⟩
abbrev s__law_sort : Str := ⟨#[95,108,97,119,95,115,111,114,116]⟩
abbrev s__law_flat : Str := ⟨#[95,108,97,119,95,102,108,97,116]⟩
abbrev s__law_order : Str := ⟨#[95,108,97,119,95,111,114,100,101,114]⟩
abbrev s__law_is_least : Str := ⟨#[95,108,97,119,95,105,115,95,108,101,97,115,116]⟩
abbrev s__law_names : Str := ⟨#[95,108,97,119,95,110,97,109,101,115]⟩
abbrev s__law_taken : Str := ⟨#[95,108,97,119,95,116,97,107,101,110]⟩
abbrev s__law_index : Str := ⟨#[95,108,97,119,95,105,110,100,101,120]⟩
abbrev s__law_operands : Str := ⟨#[95,108,97,119,95,111,112,101,114,97,110,100,115]⟩
abbrev s__law_ready : Str := ⟨#[95,108,97,119,95,114,101,97,100,121]⟩
abbrev s__law_row : Str := ⟨#[95,108,97,119,95,114,111,119]⟩
abbrev s__law_reads : Str := ⟨#[95,108,97,119,95,114,101,97,100,115]⟩
abbrev s__law_bits : Str := ⟨#[95,108,97,119,95,98,105,116,115]⟩
abbrev s__law_done : Str := ⟨#[95,108,97,119,95,100,111,110,101]⟩
abbrev s__law_key : Str := ⟨#[95,108,97,119,95,107,101,121]⟩
abbrev s__law_free : Str := ⟨#[95,108,97,119,95,102,114,101,101]⟩
abbrev s__law_ways : Str := ⟨#[95,108,97,119,95,119,97,121,115]⟩
abbrev s__law_sizes : Str := ⟨#[95,108,97,119,95,115,105,122,101,115]⟩
abbrev s__law_size : Str := ⟨#[95,108,97,119,95,115,105,122,101]⟩
abbrev s__law_turn : Str := ⟨#[95,108,97,119,95,116,117,114,110]⟩
abbrev s__law_made : Str := ⟨#[95,108,97,119,95,109,97,100,101]⟩
abbrev s_self : Str := ⟨#[115,101,108,102]⟩
abbrev s_instructions : Str := ⟨#[105,110,115,116,114,117,99,116,105,111,110,115]⟩
abbrev s_words : Str := ⟨#[119,111,114,100,115]⟩
abbrev s_abcdefghijklmnopqrst : Str := ⟨#[97,98,99,100,101,102,103,104,105,106,107,108,109,110,111,112,113,114,115,116,117,118,119,120,121,122]⟩
abbrev s_is_list : Str := ⟨#[105,115,95,108,105,115,116]⟩
abbrev s_is_whole : Str := ⟨#[105,115,95,119,104,111,108,101]⟩
abbrev s_is_natural : Str := ⟨#[105,115,95,110,97,116,117,114,97,108]⟩
abbrev s_is_word : Str := ⟨#[105,115,95,119,111,114,100]⟩
abbrev s_as_tuples : Str := ⟨#[97,115,95,116,117,112,108,101,115]⟩
abbrev s_is_pattern : Str := ⟨#[105,115,95,112,97,116,116,101,114,110]⟩
abbrev s_is_instruction : Str := ⟨#[105,115,95,105,110,115,116,114,117,99,116,105,111,110]⟩
abbrev s_leaves_of : Str := ⟨#[108,101,97,118,101,115,95,111,102]⟩
abbrev s_instruction_of : Str := ⟨#[105,110,115,116,114,117,99,116,105,111,110,95,111,102]⟩
abbrev s_is_operand : Str := ⟨#[105,115,95,111,112,101,114,97,110,100]⟩
abbrev s_is_right_row : Str := ⟨#[105,115,95,114,105,103,104,116,95,114,111,119]⟩
abbrev s_bad_row : Str := ⟨#[98,97,100,95,114,111,119]⟩
abbrev s_rows_told : Str := ⟨#[114,111,119,115,95,116,111,108,100]⟩
abbrev s_sources_of : Str := ⟨#[115,111,117,114,99,101,115,95,111,102]⟩
abbrev s_bad_result : Str := ⟨#[98,97,100,95,114,101,115,117,108,116]⟩
abbrev s_code_told : Str := ⟨#[99,111,100,101,95,116,111,108,100]⟩
abbrev s_orders_of : Str := ⟨#[111,114,100,101,114,115,95,111,102]⟩
abbrev s__law_start : Str := ⟨#[95,108,97,119,95,115,116,97,114,116]⟩
abbrev s__law_draw : Str := ⟨#[95,108,97,119,95,100,114,97,119]⟩
abbrev s__law_pick : Str := ⟨#[95,108,97,119,95,112,105,99,107]⟩
abbrev s__law_mixed : Str := ⟨#[95,108,97,119,95,109,105,120,101,100]⟩
abbrev s__law_same : Str := ⟨#[95,108,97,119,95,115,97,109,101]⟩
abbrev s__law_loose : Str := ⟨#[95,108,97,119,95,108,111,111,115,101]⟩
abbrev s__law_c_tree : Str := ⟨#[95,108,97,119,95,99,95,116,114,101,101]⟩
abbrev s__law_c_machine : Str := ⟨#[95,108,97,119,95,99,95,109,97,99,104,105,110,101]⟩
abbrev s__law_c_at : Str := ⟨#[95,108,97,119,95,99,95,97,116]⟩
abbrev s__law_c_fits : Str := ⟨#[95,108,97,119,95,99,95,102,105,116,115]⟩
abbrev s__law_r_cover : Str := ⟨#[95,108,97,119,95,114,95,99,111,118,101,114]⟩
abbrev s__law_r_flat : Str := ⟨#[95,108,97,119,95,114,95,102,108,97,116]⟩
abbrev s__law_r_named : Str := ⟨#[95,108,97,119,95,114,95,110,97,109,101,100]⟩
abbrev s__law_r_order : Str := ⟨#[95,108,97,119,95,114,95,111,114,100,101,114]⟩
abbrev s__law_r_bits : Str := ⟨#[95,108,97,119,95,114,95,98,105,116,115]⟩
abbrev s__law_r_reads : Str := ⟨#[95,108,97,119,95,114,95,114,101,97,100,115]⟩
abbrev s__law_r_ready : Str := ⟨#[95,108,97,119,95,114,95,114,101,97,100,121]⟩
abbrev s__law_all_orders : Str := ⟨#[95,108,97,119,95,97,108,108,95,111,114,100,101,114,115]⟩
abbrev s__law_by_sizes : Str := ⟨#[95,108,97,119,95,98,121,95,115,105,122,101,115]⟩
abbrev s_law : Str := ⟨#[108,97,119]⟩
abbrev s_Machine : Str := ⟨#[77,97,99,104,105,110,101]⟩
abbrev s_LETTERS : Str := ⟨#[76,69,84,84,69,82,83]⟩
abbrev s_OPS : Str := ⟨#[79,80,83]⟩
abbrev s_PLACES : Str := ⟨#[80,76,65,67,69,83]⟩
abbrev s_len : Str := ⟨#[108,101,110]⟩
abbrev s_all : Str := ⟨#[97,108,108]⟩
abbrev s_any : Str := ⟨#[97,110,121]⟩
abbrev s_sum : Str := ⟨#[115,117,109]⟩
abbrev s_int : Str := ⟨#[105,110,116]⟩
abbrev s_bool : Str := ⟨#[98,111,111,108]⟩
abbrev s_str : Str := ⟨#[115,116,114]⟩
abbrev s_abs : Str := ⟨#[97,98,115]⟩
abbrev s_list : Str := ⟨#[108,105,115,116]⟩
abbrev s_tuple : Str := ⟨#[116,117,112,108,101]⟩
abbrev s_dict : Str := ⟨#[100,105,99,116]⟩
abbrev s_sorted : Str := ⟨#[115,111,114,116,101,100]⟩
abbrev s_min : Str := ⟨#[109,105,110]⟩
abbrev s_max : Str := ⟨#[109,97,120]⟩
abbrev s_isinstance : Str := ⟨#[105,115,105,110,115,116,97,110,99,101]⟩
abbrev s_range : Str := ⟨#[114,97,110,103,101]⟩
abbrev s_enumerate : Str := ⟨#[101,110,117,109,101,114,97,116,101]⟩
abbrev s_zip : Str := ⟨#[122,105,112]⟩
abbrev s_factorial : Str := ⟨#[102,97,99,116,111,114,105,97,108]⟩
abbrev f_is_list : Nat := 0
abbrev f_is_whole : Nat := 1
abbrev f_is_natural : Nat := 2
abbrev f_is_word : Nat := 3
abbrev f_as_tuples : Nat := 4
abbrev f_is_pattern : Nat := 5
abbrev f_is_instruction : Nat := 6
abbrev f_leaves_of : Nat := 7
abbrev f_instruction_of : Nat := 8
abbrev f_is_operand : Nat := 9
abbrev f_is_right_row : Nat := 10
abbrev f_bad_row : Nat := 11
abbrev f_rows_told : Nat := 12
abbrev f_sources_of : Nat := 13
abbrev f_bad_result : Nat := 14
abbrev f_code_told : Nat := 15
abbrev f_orders_of : Nat := 16
abbrev f__law_start : Nat := 17
abbrev f__law_draw : Nat := 18
abbrev f__law_pick : Nat := 19
abbrev f__law_mixed : Nat := 20
abbrev f__law_same : Nat := 21
abbrev f__law_loose : Nat := 22
abbrev f__law_c_tree : Nat := 23
abbrev f__law_c_machine : Nat := 24
abbrev f__law_c_at : Nat := 25
abbrev f__law_c_fits : Nat := 26
abbrev f__law_r_cover : Nat := 27
abbrev f__law_r_flat : Nat := 28
abbrev f__law_r_named : Nat := 29
abbrev f__law_r_order : Nat := 30
abbrev f__law_r_bits : Nat := 31
abbrev f__law_r_reads : Nat := 32
abbrev f__law_r_ready : Nat := 33
abbrev f__law_all_orders : Nat := 34
abbrev f__law_by_sizes : Nat := 35
abbrev f_law : Nat := 36
def d_is_list : Def := ⟨1, 1, [.ret (.isi (.var 0) [.list, .tuple])]⟩
def n_is_list : List Str := [s_thing]
def d_is_whole : Def := ⟨1, 1, [.ret (.and [.isi (.var 0) [.int], .nt (.isi (.var 0) [.bool])])]⟩
def n_is_whole : List Str := [s_thing]
def d_is_natural : Def := ⟨1, 1, [.ret (.and [.call f_is_whole [.var 0], .cmp .ge (.var 0) (.con (.int 0))])]⟩
def n_is_natural : List Str := [s_thing]
def d_is_word : Def := ⟨1, 2, [.ret (.and [.isi (.var 0) [.str], .chn .le .le (.con (.int 1)) (.bf .len [.var 0]) (.con (.int 8)), .bf .all [.lc [1] (.nm 1) (.ex (.var 0)) [] (.cmp .mem (.var 1) (.glb 0))]])]⟩
def n_is_word : List Str := [s_thing, s_sign]
def d_as_tuples : Def := ⟨1, 2, [.ret (.ite (.call f_is_list [.var 0]) (.bf .tuple [.lc [1] (.nm 1) (.ex (.var 0)) [] (.call f_as_tuples [.var 1])]) (.var 0))]⟩
def n_as_tuples : List Str := [s_thing, s_part]
def d_is_pattern : Def := ⟨1, 3, [.own 1 (.lst [.var 0]),
  .whl (.cmp .ne (.pk 1) (.lst []))
   [.asg (.nm 2) (.bm .pop (.pk 1) []),
    .ite (.isi (.var 2) [.str])
     [.ite (.cmp .nmem (.var 2) (.tup [.con (.str s_reg), .con (.str s_mem), .con (.str s_num)]))
       [.ret (.con (.bl false))]
       []]
     [.ite (.or [.nt (.call f_is_list [.var 2]), .cmp .nmem (.bf .len [.var 2]) (.tup [.con (.int 2), .con (.int 3)]), .nt (.isi (.ix (.var 2) (.con (.int 0))) [.str])])
       [.ret (.con (.bl false))]
       [.ite (.cmp .eq (.bf .len [.var 2]) (.con (.int 2)))
         [.ite (.or [.cmp .ne (.ix (.var 2) (.con (.int 0))) (.con (.str s_num)), .nt (.call f_is_whole [.ix (.var 2) (.con (.int 1))])])
           [.ret (.con (.bl false))]
           []]
         [.ite (.cmp .nmem (.ix (.var 2) (.con (.int 0))) (.glb 1))
           [.ret (.con (.bl false))]
           [.ex (.bm .extend (.pk 1) [.lst [.ix (.var 2) (.con (.int 1)), .ix (.var 2) (.con (.int 2))]])]]]]],
  .ret (.con (.bl true))]⟩
def n_is_pattern : List Str := [s_thing, s_pile, s_part]
def d_is_instruction : Def := ⟨1, 2, [.ite (.or [.nt (.call f_is_list [.var 0]), .cmp .ne (.bf .len [.var 0]) (.con (.int 4)), .nt (.call f_is_word [.ix (.var 0) (.con (.int 0))])])
   [.ret (.con (.bl false))]
   [],
  .ite (.or [.nt (.isi (.ix (.var 0) (.con (.int 1))) [.str]), .cmp .nmem (.ix (.var 0) (.con (.int 1))) (.glb 2), .nt (.call f_is_pattern [.ix (.var 0) (.con (.int 2))])])
   [.ret (.con (.bl false))]
   [],
  .ret (.and [.call f_is_list [.ix (.var 0) (.con (.int 3))], .cmp .eq (.bf .len [.ix (.var 0) (.con (.int 3))]) (.con (.int 2)), .bf .all [.lc [1] (.nm 1) (.ex (.ix (.var 0) (.con (.int 3)))) [] (.call f_is_natural [.var 1])]])]⟩
def n_is_instruction : List Str := [s_thing, s_number]
def d_leaves_of : Def := ⟨1, 4, [.ite (.isi (.var 0) [.str])
   [.ret (.lst [.tup [.var 0, .tup []]])]
   [],
  .ite (.cmp .eq (.bf .len [.var 0]) (.con (.int 2)))
   [.ret (.lst [])]
   [],
  .asg (.nm 1) (.lc [2, 3] (.tp [(.nm 2), (.nm 3)]) (.ex (.call f_leaves_of [.ix (.var 0) (.con (.int 1))])) [] (.tup [.var 2, .tup [.con (.int 0), .star (.var 3)]])),
  .ret (.bin .add (.var 1) (.lc [2, 3] (.tp [(.nm 2), (.nm 3)]) (.ex (.call f_leaves_of [.ix (.var 0) (.con (.int 2))])) [] (.tup [.var 2, .tup [.con (.int 1), .star (.var 3)]])))]⟩
def n_leaves_of : List Str := [s_pattern, s_found, s_leaf, s_path]
def d_instruction_of : Def := ⟨2, 3, [.ret (.ix (.lc [2] (.nm 2) (.ex (.att (.var 0) s_told)) [.cmp .eq (.ix (.var 2) (.con (.int 0))) (.var 1)] (.var 2)) (.con (.int 0)))]⟩
def n_instruction_of : List Str := [s_machine, s_word, s_one]
def d_is_operand : Def := ⟨3, 3, [.ite (.cmp .eq (.var 0) (.con (.str s_num)))
   [.ret (.call f_is_whole [.var 1])]
   [],
  .ret (.or [.and [.cmp .eq (.var 0) (.con (.str s_mem)), .call f_is_word [.var 1]], .and [.call f_is_natural [.var 1], .cmp .mem (.tup [.var 0, .var 1]) (.var 2)]])]⟩
def n_is_operand : List Str := [s_leaf, s_operand, s_written]
def d_is_right_row : Def := ⟨3, 8, [.ite (.or [.nt (.call f_is_list [.var 1]), .cmp .ne (.bf .len [.var 1]) (.con (.int 3)), .nt (.isi (.ix (.var 1) (.con (.int 0))) [.str]), .nt (.call f_is_natural [.ix (.var 1) (.con (.int 1))])])
   [.ret (.con (.bl false))]
   [],
  .ite (.or [.cmp .nmem (.ix (.var 1) (.con (.int 0))) (.lc [7] (.nm 7) (.ex (.att (.var 0) s_told)) [] (.ix (.var 7) (.con (.int 0)))), .nt (.call f_is_list [.ix (.var 1) (.con (.int 2))])])
   [.ret (.con (.bl false))]
   [],
  .asg (.nm 3) (.call f_leaves_of [.ix (.call f_instruction_of [.var 0, .ix (.var 1) (.con (.int 0))]) (.con (.int 2))]),
  .ite (.cmp .ne (.bf .len [.var 3]) (.bf .len [.ix (.var 1) (.con (.int 2))]))
   [.ret (.con (.bl false))]
   [],
  .ret (.bf .all [.lc [4, 5, 6] (.tp [(.tp [(.nm 4), (.nm 5)]), (.nm 6)]) (.zip (.var 3) (.ix (.var 1) (.con (.int 2)))) [] (.call f_is_operand [.var 4, .var 6, .var 2])])]⟩
def n_is_right_row : List Str := [s_machine, s_thing, s_written, s_leaves, s_leaf, s_way, s_operand, s_one]
def d_bad_row : Def := ⟨2, 5, [.ite (.or [.nt (.call f_is_list [.var 1]), .cmp .eq (.bf .len [.var 1]) (.con (.int 0))])
   [.ret (.con (.int 0))]
   [],
  .asg (.nm 2) (.live (.lst [])),
  .for (.tp [(.nm 3), (.nm 4)]) (.enm (.var 1))
   [.ite (.nt (.call f_is_right_row [.var 0, .var 4, .var 2]))
     [.ret (.var 3)]
     [],
    .ex (.bm .append (.var 2) [.tup [.ix (.call f_instruction_of [.var 0, .ix (.var 4) (.con (.int 0))]) (.con (.int 1)), .ix (.var 4) (.con (.int 1))]])],
  .ret (.con .non)]⟩
def n_bad_row : List Str := [s_machine, s_thing, s_written, s_index, s_row]
def d_rows_told : Def := ⟨2, 3, [.asg (.nm 2) (.call f_bad_row [.var 0, .var 1]),
  .ite (.isNn (.var 2))
   [.nev]
   [],
  .ret (.call f_as_tuples [.var 1])]⟩
def n_rows_told : List Str := [s_machine, s_rows, s_index]
def d_sources_of : Def := ⟨2, 18, [.par [(2, true), (3, true)] [.lst [], .dic true []],
  .for (.tp [(.nm 4), (.tp [(.nm 5), (.nm 6), (.nm 7)])]) (.enm (.var 1))
   [.asg (.tp [(.nm 8), (.nm 9), (.nm 10), (.nm 11)]) (.call f_instruction_of [.var 0, .var 5]),
    .asg (.nm 12) (.lc [14, 15] (.tp [(.nm 14), (.nm 15)]) (.ex (.call f_leaves_of [.var 10])) [] (.var 14)),
    .asg (.nm 13) (.lc [14, 16] (.tp [(.nm 14), (.nm 16)]) (.zip (.var 12) (.var 7)) [] (.ite (.and [.cmp .ne (.var 14) (.con (.str s_num)), .call f_is_whole [.var 16]]) (.tup [.var 14, .var 16]) (.con .non))),
    .ex (.bm .append (.pk 2) [.lc [17] (.nm 17) (.ex (.var 13)) [] (.ite (.isN (.var 17)) (.con .non) (.ix (.pk 3) (.var 17)))]),
    .sub (.pk 3) (.tup [.var 9, .var 6]) (.var 4)],
  .ret (.var 2)]⟩
def n_sources_of : List Str := [s_machine, s_rows, s_found, s_last, s_index, s_word, s_target, s_operands, s_name, s_place, s_pattern, s_amount, s_kinds, s_read, s_leaf, s_way, s_one, s_pair]
def d_bad_result : Def := ⟨2, 8, [.own 2 (.lc [7] (.nm 7) (.ex (.var 1)) [] (.con (.int 0))),
  .for (.nm 3) (.ex (.call f_sources_of [.var 0, .var 1]))
   [.for (.nm 6) (.ex (.var 3))
     [.ite (.isNn (.var 6))
       [.sub (.pk 2) (.var 6) (.bin .add (.ix (.pk 2) (.var 6)) (.con (.int 1)))]
       []]],
  .for (.tp [(.nm 4), (.nm 5)]) (.enm (.sl (.pk 2) [] [.neg (.con (.int 1))]))
   [.ite (.cmp .ne (.var 5) (.con (.int 1)))
     [.ret (.var 4)]
     []],
  .ret (.ite (.cmp .eq (.ix (.call f_instruction_of [.var 0, .ix (.ix (.var 1) (.neg (.con (.int 1)))) (.con (.int 0))]) (.con (.int 1))) (.con (.str s_mem))) (.bin .sub (.bf .len [.var 1]) (.con (.int 1))) (.con .non))]⟩
def n_bad_result : List Str := [s_machine, s_rows, s_reads, s_sources, s_index, s_many, s_source, s_row]
def d_code_told : Def := ⟨2, 4, [.asg (.nm 2) (.call f_rows_told [.var 0, .var 1]),
  .asg (.nm 3) (.call f_bad_result [.var 0, .var 2]),
  .ite (.isNn (.var 3))
   [.nev]
   [],
  .ret (.var 2)]⟩
def n_code_told : List Str := [s_machine, s_rows, s_told, s_index]
def d_orders_of : Def := ⟨2, 6, [.par [(2, true), (3, false)] [.lst [], .con (.int 1)],
  .for (.nm 4) (.ex (.call f_sources_of [.var 0, .call f_code_told [.var 0, .var 1]]))
   [.ex (.bm .append (.pk 2) [.bin .add (.con (.int 1)) (.bf .sum [.lc [5] (.nm 5) (.ex (.var 4)) [.isNn (.var 5)] (.ix (.pk 2) (.var 5))])]),
    .asg (.nm 3) (.bin .mul (.var 3) (.ix (.pk 2) (.neg (.con (.int 1)))))],
  .ret (.bin .fdiv (.bf .fact [.bf .len [.pk 2]]) (.var 3))]⟩
def n_orders_of : List Str := [s_machine, s_rows, s_sizes, s_shares, s_sources, s_source]
def d__law_start : Def := ⟨1, 3, [.asg (.nm 1) (.con (.int 17)),
  .for (.nm 2) (.ex (.var 0))
   [.asg (.nm 1) (.bin .mod (.bf .int [.bin .add (.bin .add (.bin .mul (.var 1) (.con (.int 31))) (.var 2)) (.con (.int 7))]) (.con (.int 2147483629)))],
  .ret (.live (.lst [.live (.lc [2] (.nm 2) (.ex (.var 0)) [.cmp .ge (.var 2) (.bin .pow (.con (.int 10)) (.con (.int 18)))] (.var 2)), .var 1, .con (.int 0), .con (.int 0)]))]⟩
def n__law_start : List Str := [s__law_script, s__law_mix, s__law_cell]
def d__law_draw : Def := ⟨2, 4, [.sub (.var 0) (.con (.int 2)) (.bin .add (.ix (.var 0) (.con (.int 2))) (.con (.int 1))),
  .ite (.and [.cmp .eq (.ix (.var 0) (.con (.int 3))) (.con (.int 0)), .cmp .ne (.ix (.var 0) (.con (.int 0))) (.lst [])])
   [.sub (.var 0) (.con (.int 3)) (.bm .popAt (.ix (.var 0) (.con (.int 0))) [.con (.int 0)])]
   [],
  .ite (.cmp .gt (.ix (.var 0) (.con (.int 3))) (.con (.int 0)))
   [.asg (.nm 3) (.bin .mod (.bf .int [.ix (.var 0) (.con (.int 3))]) (.var 1)),
    .sub (.var 0) (.con (.int 3)) (.bin .fdiv (.ix (.var 0) (.con (.int 3))) (.var 1)),
    .ret (.var 3)]
   [],
  .asg (.nm 2) (.bin .mod (.bin .pow (.bf .int [.bin .add (.bin .add (.ix (.var 0) (.con (.int 1))) (.bin .mul (.con (.int 7919)) (.ix (.var 0) (.con (.int 2))))) (.con (.int 104729))]) (.con (.int 5))) (.con (.int 2147483647))),
  .ret (.bin .mod (.bin .fdiv (.bin .mod (.bin .pow (.bf .int [.bin .add (.bin .add (.bin .mul (.var 2) (.con (.int 48271))) (.bin .mul (.con (.int 30011)) (.ix (.var 0) (.con (.int 2))))) (.con (.int 29))]) (.con (.int 3))) (.con (.int 1000000007))) (.con (.int 2))) (.var 1))]⟩
def n__law_draw : List Str := [s__law_stream, s__law_many, s__law_mixed_here, s__law_digit]
def d__law_pick : Def := ⟨2, 2, [.ret (.ix (.var 1) (.call f__law_draw [.var 0, .bf .len [.var 1]]))]⟩
def n__law_pick : List Str := [s__law_stream, s__law_things]
def d__law_mixed : Def := ⟨2, 5, [.par [(2, true), (3, true)] [.bf .list [.var 1], .lst []],
  .for (.nm 4) (.rng (.bf .len [.pk 2]))
   [.ex (.bm .append (.pk 3) [.bm .popAt (.pk 2) [.call f__law_draw [.var 0, .bf .len [.pk 2]]]])],
  .ret (.var 3)]⟩
def n__law_mixed : List Str := [s__law_stream, s__law_things, s__law_left, s__law_found, s__law_k]
def d__law_same : Def := ⟨2, 4, [.ite (.isi (.var 1) [.list, .tuple])
   [.ite (.or [.cmp .ne (.isi (.var 0) [.list]) (.isi (.var 1) [.list]), .cmp .ne (.isi (.var 0) [.tuple]) (.isi (.var 1) [.tuple])])
     [.ret (.con (.bl false))]
     [],
    .ret (.and [.cmp .eq (.bf .len [.var 0]) (.bf .len [.var 1]), .bf .all [.lc [2, 3] (.tp [(.nm 2), (.nm 3)]) (.zip (.var 0) (.var 1)) [] (.call f__law_same [.var 2, .var 3])]])]
   [],
  .ite (.isi (.var 1) [.dict])
   [.nev]
   [],
  .ite (.isi (.var 1) [.int])
   [.ret (.and [.isi (.var 0) [.int], .cmp .eq (.isi (.var 0) [.bool]) (.isi (.var 1) [.bool]), .cmp .eq (.var 0) (.var 1)])]
   [],
  .ret (.and [.nt (.isi (.var 0) [.int, .list, .tuple, .dict]), .cmp .eq (.var 0) (.var 1)])]⟩
def n__law_same : List Str := [s__law_found, s__law_due, s__law_x, s__law_y]
def d__law_loose : Def := ⟨2, 4, [.ite (.isi (.var 1) [.list, .tuple])
   [.asg (.nm 2) (.lc [3] (.nm 3) (.ex (.var 1)) [] (.call f__law_loose [.var 0, .var 3])),
    .ret (.ite (.cmp .eq (.call f__law_draw [.var 0, .con (.int 2)]) (.con (.int 0))) (.var 2) (.bf .tuple [.var 2]))]
   [],
  .ret (.var 1)]⟩
def n__law_loose : List Str := [s__law_stream, s__law_thing, s__law_some, s__law_one]
def d__law_c_tree : Def := ⟨2, 5, [.ite (.cmp .eq (.var 1) (.con (.int 1)))
   [.asg (.nm 4) (.call f__law_pick [.var 0, .lst [.con (.int 0), .con (.int 1), .con (.int 2), .con (.int 2), .con (.int 7), .neg (.con (.int 3)), .bin .sub (.call f__law_draw [.var 0, .con (.int 2000001)]) (.con (.int 1000000))]]),
    .ret (.call f__law_pick [.var 0, .lst [.tup [.con (.str s_num), .var 4], .tup [.con (.str s_var), .call f__law_pick [.var 0, .lst [.con (.str s_a), .con (.str s_b), .con (.str s_x), .con (.str s_total)]]]]])]
   [],
  .asg (.nm 2) (.bin .add (.con (.int 1)) (.call f__law_draw [.var 0, .bin .sub (.var 1) (.con (.int 1))])),
  .asg (.nm 3) (.call f__law_pick [.var 0, .lst [.con (.str s_add), .con (.str s_add), .con (.str s_mul), .con (.str s_sub)]]),
  .ret (.tup [.var 3, .call f__law_c_tree [.var 0, .var 2], .call f__law_c_tree [.var 0, .bin .sub (.var 1) (.var 2)]])]⟩
def n__law_c_tree : List Str := [s__law_stream, s__law_leaves, s__law_many, s__law_op, s__law_number]
def d__law_c_machine : Def := ⟨3, 14, [.own 3 (.lst [.tup [.con (.str s_reg), .con (.str s_mem)], .tup [.con (.str s_mem), .con (.str s_reg)], .tup [.con (.str s_reg), .con (.str s_num)]]),
  .ex (.bm .extend (.pk 3) [.lc [13] (.nm 13) (.ex (.tup [.con (.str s_add), .con (.str s_sub), .con (.str s_mul)])) [] (.tup [.con (.str s_reg), .tup [.var 13, .con (.str s_reg), .con (.str s_reg)]])]),
  .own 4 (.lst [.tup [.con (.str s_reg), .tup [.con (.str s_add), .con (.str s_reg), .con (.str s_mem)]], .tup [.con (.str s_reg), .tup [.con (.str s_add), .con (.str s_reg), .tup [.con (.str s_mul), .con (.str s_reg), .con (.str s_reg)]]], .tup [.con (.str s_reg), .tup [.con (.str s_add), .con (.str s_reg), .con (.str s_num)]]]),
  .ex (.bm .extend (.pk 4) [.lst [.tup [.con (.str s_reg), .tup [.con (.str s_mul), .tup [.con (.str s_num), .con (.int 2)], .con (.str s_reg)]], .tup [.con (.str s_reg), .tup [.con (.str s_sub), .con (.str s_reg), .tup [.con (.str s_num), .con (.int 1)]]], .tup [.con (.str s_mem), .tup [.con (.str s_add), .con (.str s_mem), .con (.str s_reg)]]]]),
  .ex (.bm .extend (.pk 4) [.lst [.tup [.con (.str s_mem), .con (.str s_num)], .tup [.con (.str s_reg), .tup [.con (.str s_mul), .con (.str s_mem), .con (.str s_mem)]], .tup [.con (.str s_reg), .tup [.con (.str s_num), .con (.int 0)]], .tup [.con (.str s_reg), .con (.str s_reg)], .tup [.con (.str s_mem), .con (.str s_mem)]]]),
  .ex (.bm .extend (.pk 4) [.lst [.tup [.con (.str s_reg), .tup [.con (.str s_sub), .tup [.con (.str s_add), .con (.str s_reg), .con (.str s_reg)], .con (.str s_mem)]], .tup [.con (.str s_mem), .tup [.con (.str s_mul), .con (.str s_reg), .tup [.con (.str s_add), .con (.str s_reg), .con (.str s_num)]]]]]),
  .ex (.bm .append (.pk 4) [.tup [.con (.str s_reg), .tup [.con (.str s_add), .tup [.con (.str s_mul), .con (.str s_reg), .con (.str s_reg)], .tup [.con (.str s_sub), .con (.str s_reg), .con (.str s_num)]]]]),
  .ex (.bm .append (.pk 4) [.tup [.con (.str s_reg), .tup [.con (.str s_sub), .tup [.con (.str s_mul), .con (.str s_reg), .tup [.con (.str s_num), .con (.int 2)]], .tup [.con (.str s_add), .con (.str s_mem), .con (.str s_num)]]]]),
  .ite (.nt (.var 2))
   [.own 3 (.sl (.call f__law_mixed [.var 0, .var 3]) [] [.bin .add (.con (.int 3)) (.call f__law_draw [.var 0, .con (.int 4)])])]
   [],
  .asg (.nm 5) (.live (.bin .add (.pk 3) (.sl (.call f__law_mixed [.var 0, .var 4]) [] [.call f__law_draw [.var 0, .bin .add (.bin .sub (.var 1) (.bf .len [.pk 3])) (.con (.int 1))]]))),
  .ite (.and [.cmp .lt (.bf .len [.var 5]) (.var 1), .cmp .eq (.call f__law_draw [.var 0, .con (.int 3)]) (.con (.int 0))])
   [.ex (.bm .append (.var 5) [.call f__law_pick [.var 0, .var 5]])]
   [],
  .asg (.nm 6) (.lc [12] (.nm 12) (.rng (.con (.int 2))) [] (.call f__law_pick [.var 0, .lst [.con (.int 1), .con (.int 1), .con (.int 1), .con (.int 2500)]])),
  .asg (.nm 7) (.call f__law_mixed [.var 0, .lst [.con (.str s_ld), .con (.str s_st), .con (.str s_li), .con (.str s_add), .con (.str s_sub), .con (.str s_mul), .con (.str s_go), .con (.str s_w), .con (.str s_xx), .con (.str s_opq), .con (.str s_pair), .con (.str s_zoom), .con (.str s_lean)]]),
  .own 8 (.lst []),
  .for (.tp [(.nm 9), (.tp [(.nm 10), (.nm 11)])]) (.zip (.var 7) (.call f__law_mixed [.var 0, .var 5]))
   [.ex (.bm .append (.pk 8) [.tup [.var 9, .var 10, .var 11, .tup [.bin .mul (.ix (.var 6) (.con (.int 0))) (.call f__law_draw [.var 0, .con (.int 5)]), .bin .mul (.ix (.var 6) (.con (.int 1))) (.call f__law_draw [.var 0, .con (.int 5)])]]])],
  .ret (.var 8)]⟩
def n__law_c_machine : List Str := [s__law_stream, s__law_most, s__law_is_plain, s__law_base, s__law_more, s__law_found, s__law_scales, s__law_words, s__law_rows, s__law_word, s__law_place, s__law_pattern, s__law_k, s__law_op]
def d__law_c_at : Def := ⟨2, 3, [.for (.nm 2) (.ex (.var 1))
   [.asg (.nm 0) (.ix (.var 0) (.bin .add (.con (.int 1)) (.var 2)))],
  .ret (.var 0)]⟩
def n__law_c_at : List Str := [s__law_tree, s__law_path, s__law_number]
def d__law_c_fits : Def := ⟨3, 6, [.ite (.cmp .mem (.var 0) (.tup [.con (.str s_reg), .con (.str s_mem)]))
   [.ret (.lst [.tup [.var 0, .var 2]])]
   [],
  .asg (.nm 3) (.call f__law_c_at [.var 1, .var 2]),
  .ite (.cmp .eq (.var 0) (.con (.str s_num)))
   [.ret (.ite (.cmp .eq (.ix (.var 3) (.con (.int 0))) (.con (.str s_num))) (.lst [.tup [.con (.str s_num), .var 2]]) (.con .non))]
   [],
  .ite (.cmp .eq (.ix (.var 0) (.con (.int 0))) (.con (.str s_num)))
   [.ret (.ite (.cmp .eq (.var 3) (.var 0)) (.lst []) (.con .non))]
   [],
  .ite (.cmp .ne (.ix (.var 3) (.con (.int 0))) (.ix (.var 0) (.con (.int 0))))
   [.ret (.con .non)]
   [],
  .par [(4, false), (5, false)] [.call f__law_c_fits [.ix (.var 0) (.con (.int 1)), .var 1, .bin .add (.var 2) (.tup [.con (.int 0)])], .call f__law_c_fits [.ix (.var 0) (.con (.int 2)), .var 1, .bin .add (.var 2) (.tup [.con (.int 1)])]],
  .ret (.ite (.or [.isN (.var 4), .isN (.var 5)]) (.con .non) (.bin .add (.var 4) (.var 5)))]⟩
def n__law_c_fits : List Str := [s__law_pattern, s__law_tree, s__law_path, s__law_node, s__law_one, s__law_other]
def d__law_r_cover : Def := ⟨6, 18, [.asg (.nm 6) (.call f__law_c_at [.var 2, .var 3]),
  .ite (.and [.cmp .eq (.var 4) (.con (.str s_mem)), .cmp .eq (.ix (.var 6) (.con (.int 0))) (.con (.str s_var)), .or [.cmp .eq (.var 5) (.con (.int 0)), .cmp .gt (.call f__law_draw [.var 0, .con (.int 4)]) (.con (.int 0))]])
   [.ret (.ix (.var 6) (.con (.int 1)))]
   [],
  .own 7 (.lst []),
  .for (.tp [(.nm 8), (.nm 9), (.nm 10), (.nm 11)]) (.ex (.ite (.cmp .gt (.var 5) (.con (.int 0))) (.call f__law_mixed [.var 0, .var 1]) (.lst [])))
   [.asg (.nm 12) (.ite (.cmp .eq (.var 9) (.var 4)) (.call f__law_c_fits [.var 10, .var 2, .var 3]) (.con .non)),
    .ex (.bm .extend (.pk 7) [.bin .mul (.lst [.tup [.var 8, .var 12]]) (.bf .int [.isNn (.var 12)])])],
  .for (.tp [(.nm 8), (.nm 12)]) (.ex (.sl (.pk 7) [] [.con (.int 3)]))
   [.own 13 (.lst []),
    .for (.tp [(.nm 14), (.nm 15)]) (.ex (.var 12))
     [.asg (.nm 16) (.cmp .eq (.var 14) (.con (.str s_num))),
      .asg (.nm 17) (.ite (.var 16) (.ix (.call f__law_c_at [.var 2, .var 15]) (.con (.int 1))) (.call f__law_r_cover [.var 0, .var 1, .var 2, .var 15, .var 14, .bin .sub (.var 5) (.con (.int 1))])),
      .ex (.bm .append (.pk 13) [.tup [.var 14, .var 17]])],
    .ite (.nt (.bf .any [.lco [14, 17] (.tp [(.nm 14), (.nm 17)]) 13 [] (.isN (.var 17))]))
     [.ret (.tup [.var 8, .var 4, .var 13])]
     []],
  .ret (.con .non)]⟩
def n__law_r_cover : List Str := [s__law_stream, s__law_machine, s__law_tree, s__law_path, s__law_place, s__law_deep, s__law_node, s__law_some, s__law_word, s__law_own_place, s__law_pattern, s__law_price, s__law_leaves, s__law_found, s__law_kind, s__law_spot, s__law_is_number, s__law_one]
def d__law_r_flat : Def := ⟨1, 13, [.par [(1, true), (2, true)] [.lst [], .lst []],
  .for (.tp [(.nm 3), (.nm 4)]) (.ex (.ix (.var 0) (.con (.int 2))))
   [.ite (.isi (.var 4) [.tuple])
     [.par [(5, false), (6, false)] [.bf .len [.pk 1], .call f__law_r_flat [.var 4]],
      .for (.tp [(.nm 7), (.nm 8), (.nm 9)]) (.ex (.var 6))
       [.asg (.nm 10) (.lc [11, 12] (.tp [(.nm 11), (.nm 12)]) (.ex (.var 9)) [] (.tup [.var 11, .ite (.cmp .eq (.var 11) (.con (.str s_row))) (.bin .add (.var 12) (.var 5)) (.var 12)])),
        .ex (.bm .append (.pk 1) [.lst [.var 7, .var 8, .var 10]])],
      .ex (.bm .append (.pk 2) [.tup [.con (.str s_row), .bin .sub (.bf .len [.pk 1]) (.con (.int 1))]])]
     [.ex (.bm .append (.pk 2) [.tup [.var 3, .var 4]])]],
  .ret (.bin .add (.pk 1) (.lst [.lst [.ix (.var 0) (.con (.int 0)), .ix (.var 0) (.con (.int 1)), .var 2]]))]⟩
def n__law_r_flat : List Str := [s__law_cover, s__law_found, s__law_inner, s__law_kind, s__law_one, s__law_far, s__law_rows, s__law_word, s__law_place, s__law_pairs, s__law_told, s__law_sort, s__law_number]
def d__law_r_named : Def := ⟨4, 16, [.par [(4, true), (5, false), (6, true)] [.dic false [], .dic false [.con (.str s_reg), .live (.lst []), .con (.str s_mem), .live (.lst [])], .lst []],
  .for (.nm 7) (.ex (.var 2))
   [.asg (.tp [(.nm 8), (.nm 9), (.nm 10)]) (.ix (.var 1) (.var 7)),
    .asg (.nm 11) (.bf .tuple [.lc [12, 13] (.tp [(.nm 12), (.nm 13)]) (.ex (.var 10)) [] (.ite (.cmp .eq (.var 12) (.con (.str s_row))) (.ix (.pk 4) (.var 13)) (.var 13))]),
    .for (.tp [(.nm 12), (.nm 13)]) (.ex (.var 10))
     [.ite (.cmp .eq (.var 12) (.con (.str s_row)))
       [.ex (.bm .remove (.ix (.var 5) (.ix (.ix (.var 1) (.var 13)) (.con (.int 1)))) [.ix (.pk 4) (.var 13)])]
       []],
    .asg (.nm 14) (.lc [15] (.nm 15) (.ex (.bin .add (.lrng (.con (.int 28))) (.lst [.con (.int 999), .con (.int 1000)]))) [.cmp .nmem (.var 15) (.ix (.var 5) (.var 9))] (.var 15)),
    .sub (.pk 4) (.var 7) (.ite (.var 3) (.ix (.var 14) (.con (.int 0))) (.call f__law_pick [.var 0, .bin .add (.sl (.var 14) [] [.con (.int 4)]) (.sl (.var 14) [.neg (.con (.int 1))] [])])),
    .ex (.bm .append (.ix (.var 5) (.var 9)) [.ix (.pk 4) (.var 7)]),
    .ex (.bm .append (.pk 6) [.tup [.var 8, .ix (.pk 4) (.var 7), .var 11]])],
  .ret (.var 6)]⟩
def n__law_r_named : List Str := [s__law_stream, s__law_flat, s__law_order, s__law_is_least, s__law_names, s__law_taken, s__law_rows, s__law_index, s__law_word, s__law_place, s__law_pairs, s__law_operands, s__law_kind, s__law_one, s__law_some, s__law_number]
def d__law_r_order : Def := ⟨2, 8, [.par [(2, true), (3, true)] [.lst [], .lrng (.bf .len [.var 1])],
  .whl (.cmp .ne (.pk 3) (.lst []))
   [.asg (.nm 4) (.lco [5] (.nm 5) 3 [.bf .all [.lc [6, 7] (.tp [(.nm 6), (.nm 7)]) (.ex (.ix (.ix (.var 1) (.var 5)) (.con (.int 2)))) [] (.or [.cmp .ne (.var 6) (.con (.str s_row)), .cmp .mem (.var 7) (.pk 2)])]] (.var 5)),
    .ex (.bm .append (.pk 2) [.call f__law_pick [.var 0, .var 4]]),
    .ex (.bm .remove (.pk 3) [.ix (.pk 2) (.neg (.con (.int 1)))])],
  .ret (.var 2)]⟩
def n__law_r_order : List Str := [s__law_stream, s__law_flat, s__law_found, s__law_left, s__law_ready, s__law_index, s__law_kind, s__law_one]
def d__law_r_bits : Def := ⟨0, 0, [.ret (.lst [.con (.int 1), .con (.int 2), .con (.int 4), .con (.int 8), .con (.int 16), .con (.int 32), .con (.int 64), .con (.int 128), .con (.int 256), .con (.int 512), .con (.int 1024), .con (.int 2048), .con (.int 4096)])]⟩
def n__law_r_bits : List Str := []
def d__law_r_reads : Def := ⟨1, 4, [.ret (.lc [1] (.nm 1) (.ex (.var 0)) [] (.lc [2, 3] (.tp [(.nm 2), (.nm 3)]) (.ex (.ix (.var 1) (.con (.int 2)))) [.cmp .eq (.var 2) (.con (.str s_row))] (.var 3)))]⟩
def n__law_r_reads : List Str := [s__law_flat, s__law_row, s__law_kind, s__law_one]
def d__law_r_ready : Def := ⟨2, 10, [.par [(2, false), (3, true)] [.call f__law_r_bits [], .dic false [.con (.int 0), .lc [5] (.nm 5) (.rng (.var 1)) [.cmp .eq (.ix (.var 0) (.var 5)) (.lst [])] (.var 5)]],
  .for (.nm 4) (.rng (.ix (.var 2) (.var 1)))
   [.for (.nm 5) (.ex (.bm .get2 (.pk 3) [.var 4, .lst []]))
     [.asg (.nm 6) (.bin .add (.var 4) (.ix (.var 2) (.var 5))),
      .ite (.cmp .nmem (.var 6) (.pk 3))
       [.asg (.nm 7) (.lc [8] (.nm 8) (.rng (.var 1)) [.cmp .eq (.bin .mod (.bin .fdiv (.var 6) (.ix (.var 2) (.var 8))) (.con (.int 2))) (.con (.int 0))] (.var 8)),
        .sub (.pk 3) (.var 6) (.lc [8] (.nm 8) (.ex (.var 7)) [.bf .all [.lc [9] (.nm 9) (.ex (.ix (.var 0) (.var 8))) [] (.cmp .eq (.bin .mod (.bin .fdiv (.var 6) (.ix (.var 2) (.var 9))) (.con (.int 2))) (.con (.int 1)))]] (.var 8))]
       []]],
  .ret (.var 3)]⟩
def n__law_r_ready : List Str := [s__law_reads, s__law_many, s__law_bits, s__law_found, s__law_done, s__law_k, s__law_key, s__law_free, s__law_one, s__law_row]
def d__law_all_orders : Def := ⟨1, 6, [.par [(1, false), (2, false), (3, true)] [.call f__law_r_ready [.call f__law_r_reads [.var 0], .bf .len [.var 0]], .call f__law_r_bits [], .dic false [.con (.int 0), .con (.int 1)]],
  .for (.nm 4) (.ex (.bf .sorted [.var 1]))
   [.for (.nm 5) (.ex (.ix (.var 1) (.var 4)))
     [.sub (.pk 3) (.bin .add (.var 4) (.ix (.var 2) (.var 5))) (.bin .add (.bm .get2 (.pk 3) [.bin .add (.var 4) (.ix (.var 2) (.var 5)), .con (.int 0)]) (.ix (.pk 3) (.var 4)))]],
  .ret (.ix (.pk 3) (.bin .sub (.ix (.var 2) (.bf .len [.var 0])) (.con (.int 1))))]⟩
def n__law_all_orders : List Str := [s__law_flat, s__law_ready, s__law_bits, s__law_ways, s__law_done, s__law_k]
def d__law_by_sizes : Def := ⟨1, 7, [.par [(1, true), (2, false)] [.lst [], .con (.int 1)],
  .for (.nm 3) (.ex (.call f__law_r_reads [.var 0]))
   [.ex (.bm .append (.pk 1) [.bin .add (.con (.int 1)) (.bf .sum [.lc [6] (.nm 6) (.ex (.var 3)) [] (.ix (.pk 1) (.var 6))])])],
  .for (.nm 4) (.rng (.bf .len [.var 0]))
   [.asg (.nm 2) (.bin .mul (.var 2) (.bin .add (.var 4) (.con (.int 1))))],
  .for (.nm 5) (.ex (.var 1))
   [.asg (.nm 2) (.bin .fdiv (.var 2) (.var 5))],
  .ret (.var 2)]⟩
def n__law_by_sizes : List Str := [s__law_flat, s__law_sizes, s__law_found, s__law_reads, s__law_k, s__law_size, s__law_one]
def d_law : Def := ⟨1, 12, [.asg (.nm 1) (.call f__law_start [.var 0]),
  .for (.nm 2) (.rng (.con (.int 6)))
   [.par [(3, false), (4, false)] [.call f__law_c_machine [.var 1, .con (.int 10), .cmp .gt (.call f__law_draw [.var 1, .con (.int 4)]) (.con (.int 0))], .call f__law_c_tree [.var 1, .bin .add (.con (.int 1)) (.call f__law_draw [.var 1, .con (.int 6)])]],
    .asg (.nm 5) (.new 0 [.var 3]),
    .for (.nm 6) (.rng (.con (.int 4)))
     [.asg (.nm 7) (.call f__law_r_cover [.var 1, .var 3, .var 4, .tup [], .con (.str s_reg), .bin .add (.con (.int 3)) (.call f__law_draw [.var 1, .con (.int 4)])]),
      .asg (.nm 8) (.ite (.isNn (.var 7)) (.call f__law_r_flat [.var 7]) (.lst [])),
      .ite (.chn .lt .le (.con (.int 0)) (.bf .len [.var 8]) (.con (.int 12)))
       [.asg (.nm 9) (.call f__law_all_orders [.var 8]),
        .ite (.cmp .ne (.var 9) (.call f__law_by_sizes [.var 8]))
         [.ret (.con (.bl false))]
         [],
        .for (.nm 10) (.ex (.tup [.con (.bl true), .con (.bl false)]))
         [.asg (.nm 11) (.call f__law_r_named [.var 1, .var 8, .call f__law_r_order [.var 1, .var 8], .var 10]),
          .ite (.nt (.call f__law_same [.call f_orders_of [.var 5, .call f__law_loose [.var 1, .var 11]], .var 9]))
           [.ret (.con (.bl false))]
           []]]
       []]],
  .ret (.cmp .eq (.call f_orders_of [.new 0 [.lst [.tup [.con (.str s_w), .con (.str s_reg), .con (.str s_num), .tup [.con (.int 0), .con (.int 0)]]]], .lst [.tup [.con (.str s_w), .con (.int 3), .tup [.con (.int 5)]]]]) (.con (.int 1)))]⟩
def n_law : List Str := [s__law_script, s__law_stream, s__law_turn, s__law_machine, s__law_tree, s__law_made, s__law_k, s__law_cover, s__law_flat, s__law_due, s__law_is_least, s__law_rows]
def i_Machine : Def := ⟨2, 5, [.ite (.nt (.call f_is_list [.var 1]))
   [.nev]
   [],
  .own 2 (.lst []),
  .for (.tp [(.nm 3), (.nm 4)]) (.enm (.var 1))
   [.ite (.or [.nt (.call f_is_instruction [.var 4]), .cmp .mem (.ix (.var 4) (.con (.int 0))) (.pk 2)])
     [.nev]
     [],
    .ex (.bm .append (.pk 2) [.ix (.var 4) (.con (.int 0))])],
  .atr (.pk 0) s_told (.call f_as_tuples [.var 1])]⟩
def ni_Machine : List Str := [s_self, s_instructions, s_words, s_index, s_one]
def P : Prog := ⟨[d_is_list, d_is_whole, d_is_natural, d_is_word, d_as_tuples, d_is_pattern, d_is_instruction, d_leaves_of, d_instruction_of, d_is_operand, d_is_right_row, d_bad_row, d_rows_told, d_sources_of, d_bad_result, d_code_told, d_orders_of, d__law_start, d__law_draw, d__law_pick, d__law_mixed, d__law_same, d__law_loose, d__law_c_tree, d__law_c_machine, d__law_c_at, d__law_c_fits, d__law_r_cover, d__law_r_flat, d__law_r_named, d__law_r_order, d__law_r_bits, d__law_r_reads, d__law_r_ready, d__law_all_orders, d__law_by_sizes, d_law], [i_Machine], [.str s_abcdefghijklmnopqrst, .ktup [.str s_add, .str s_mul, .str s_sub], .ktup [.str s_reg, .str s_mem]]⟩
end K81
end Mr
end
section
set_option Elab.async false
set_option linter.all false
set_option maxRecDepth 100000
set_option maxHeartbeats 0
namespace Mr
open PySem PySem.Spec PyProof.Rows L2
namespace K81
def top (i : Nat) : Stmt := PySem.Challenge.pw_anyprice_k81_whole_orders_of_code.main.body.getD i (.Pass ⟨0, 0, 0, 0⟩)
def mth (s : Stmt) (j : Nat) : Stmt := match s with
  | .ClassDef _ _ _ body _ _ _ _ _ _ _ => body.getD j (.Pass ⟨0, 0, 0, 0⟩)
  | _ => s
def nm : Nm where
  fn := [(s_is_list, 1), (s_is_whole, 1), (s_is_natural, 1), (s_is_word, 1), (s_as_tuples, 1), (s_is_pattern, 1), (s_is_instruction, 1), (s_leaves_of, 1), (s_instruction_of, 2), (s_is_operand, 3), (s_is_right_row, 3), (s_bad_row, 2), (s_rows_told, 2), (s_sources_of, 2), (s_bad_result, 2), (s_code_told, 2), (s_orders_of, 2), (s__law_start, 1), (s__law_draw, 2), (s__law_pick, 2), (s__law_mixed, 2), (s__law_same, 2), (s__law_loose, 2), (s__law_c_tree, 2), (s__law_c_machine, 3), (s__law_c_at, 2), (s__law_c_fits, 3), (s__law_r_cover, 6), (s__law_r_flat, 1), (s__law_r_named, 4), (s__law_r_order, 2), (s__law_r_bits, 0), (s__law_r_reads, 1), (s__law_r_ready, 2), (s__law_all_orders, 1), (s__law_by_sizes, 1), (s_law, 1)]
  cl := [(s_Machine, 1)]
  gl := [s_LETTERS, s_OPS, s_PLACES]
  fl := [s_index, s_told]
  fre := [s_len, s_all, s_any, s_sum, s_int, s_bool, s_str, s_abs, s_list, s_tuple, s_dict, s_sorted, s_min, s_max, s_isinstance, s_range, s_enumerate, s_zip]
  fac := some s_factorial
def dd (i : Nat) (x : Str) : He.DefD := ⟨(x, none), x, x, defArgs (top i), defBody (top i), defScope (top i), [], []⟩
def di (i j : Nat) (x q : Str) : He.DefD := ⟨(x, some "__init__"), "__init__", q, defArgs (mth (top i) j), defBody (mth (top i) j), defScope (mth (top i) j), [], []⟩
def fn0 : List He.DefD := [dd 4 s_is_list, dd 5 s_is_whole, dd 6 s_is_natural, dd 7 s_is_word, dd 8 s_as_tuples, dd 18 s_is_pattern, dd 19 s_is_instruction, dd 20 s_leaves_of, dd 22 s_instruction_of, dd 24 s_is_operand, dd 25 s_is_right_row, dd 26 s_bad_row]
def fn1 : List He.DefD := [dd 27 s_rows_told, dd 28 s_sources_of, dd 29 s_bad_result, dd 31 s_code_told, dd 32 s_orders_of, dd 34 s__law_start, dd 35 s__law_draw, dd 36 s__law_pick, dd 37 s__law_mixed, dd 38 s__law_same, dd 39 s__law_loose, dd 40 s__law_c_tree]
def fn2 : List He.DefD := [dd 41 s__law_c_machine, dd 42 s__law_c_at, dd 43 s__law_c_fits, dd 58 s__law_r_cover, dd 59 s__law_r_flat, dd 60 s__law_r_named, dd 61 s__law_r_order, dd 62 s__law_r_bits, dd 63 s__law_r_reads, dd 64 s__law_r_ready, dd 65 s__law_all_orders, dd 66 s__law_by_sizes]
def fn3 : List He.DefD := [dd 67 s_law]
def fnI : List He.DefD := [di 21 0 s_Machine "Machine.__init__"]
def fn : List He.DefD := fn0 ++ fn1 ++ fn2 ++ fn3 ++ fnI
abbrev ok : PySem.W.Frag → Bool := okM nm P.gl
abbrev hk : PySem.W.Hook := hookB 4 ok fn
def ob (s : PySem.W.SharedT) : He.AlD := obsBG 4 ok fn (HandSHeadRun.getT s)
theorem ob_eq (s : PySem.W.SharedT) : ob s = hk.obs s.abs := obsBG_eq (HandSHeadRun.getT_eq s)
abbrev R : PySem.W.OpenRow := PySem.W.OpenLaw.row PySem.Challenge.rw_anyprice_k81_whole_orders_of_code
def nm0 : List Str := ["_wall", "is_list", "is_whole", "is_natural", "is_word", "as_tuples", "PlanError", "BadInstruction", "BadRows", "BadCode", "is_pattern", "is_instruction"]
def nm1 : List Str := ["leaves_of", "Machine", "instruction_of", "is_operand", "is_right_row", "bad_row", "rows_told", "sources_of", "bad_result", "code_told", "orders_of", "_law_start"]
def nm2 : List Str := ["_law_draw", "_law_pick", "_law_mixed", "_law_same", "_law_loose", "_law_c_tree", "_law_c_machine", "_law_c_at", "_law_c_fits", "_law_c_orders", "_law_r_leaves", "_law_r_is_natural"]
def nm3 : List Str := ["_law_r_is_operand", "_law_r_of", "_law_r_is_row", "_law_r_bad", "_law_r_put", "_law_r_trees", "_law_r_tree", "_law_r_counted", "_law_r_size", "_law_r_readers", "_law_r_is_code", "_law_r_cover"]
def nm4 : List Str := ["_law_r_flat", "_law_r_named", "_law_r_order", "_law_r_bits", "_law_r_reads", "_law_r_ready", "_law_all_orders", "_law_by_sizes", "LETTERS", "OPS", "PLACES"]
def loose : List Str := nm0 ++ nm1 ++ nm2 ++ nm3 ++ nm4
theorem run (w : World) : HandSHeadRun.RunEqI R (PySem.W.view R.prog [0, 67]) hk ob 12000 loose w := by
  unfold HandSHeadRun.RunEqI
  kernel_rfl
end K81
end Mr
end
section
set_option Elab.async false
set_option linter.all false
set_option maxRecDepth 100000
/-! M2a: data in the abstract heap. -/
namespace Mr
open PySem PySem.Spec PyProof.Rows L2

/-- the ghost: what is frozen, what callers own, where the store's cells stand -/
structure Wd where
  F : Addr → Prop
  P : Addr → Prop
  m : List Addr
/-- a tuple of the module -/
def KTup (K : PySem.W.Frag) (a : Addr) (vs : List V) : Prop :=
  ∃ (o : Obj) (its : Array Value) (n : Nat), K.lookup a = some o ∧ o.cls = .type "tuple" ∧ o.data = .seq its n ∧ its.size ≤ sizeLine ∧ Vals vs its.toList
/-- a list of the module -/
def KLst (K : PySem.W.Frag) (a : Addr) (vs : List V) : Prop :=
  ∃ (its : List Value) (n : Nat), K.lookup a = some { cls := .type "list", data := .seq its.toArray n } ∧ vs.length ≤ sizeLine ∧ Vals vs its
/-- a list that is read -/
def LX (K : PySem.W.Frag) (H : Hp) (a : Addr) (vs : List V) : Prop := Rd H a (.lst vs) ∨ KLst K a vs
section
variable (K : PySem.W.Frag) (cA : Nat → Option Addr) (H : Hp) (g : Wd)
mutual
def Rep : D → V → Prop
  | .non, v => v = .non
  | .bl b, v => v = .bl b
  | .int i, v => v = .int i
  | .str x, v => v = .str x
  | .lst ds, v => ∃ a vs, v = .ref a ∧ ((g.F a ∧ Rd H a (.lst vs)) ∨ KLst K a vs) ∧ RepL ds vs
  | .tup ds, v => ∃ a vs, v = .ref a ∧ g.F a ∧ H a = some (.tup vs) ∧ RepL ds vs
  | .ktup ds, v => ∃ a vs, v = .ref a ∧ KTup K a vs ∧ RepL ds vs
  | .dK ks ds, v => ∃ a kvs, v = .ref a ∧ g.F a ∧ Rd H a (.dK kvs) ∧ kvs.map (·.1) = ks ∧ RepL ds (kvs.map (·.2))
  | .dT ks ds, v => ∃ a kvs, v = .ref a ∧ g.F a ∧ Rd H a (.dT kvs) ∧ kvs.map (·.1) = ks ∧ RepL ds (kvs.map (·.2))
  | .ins C fs ds, v => ∃ a ca dx kvs, v = .ref a ∧ g.F a ∧ (cA C = some ca ∧ H a = some (.ins ca dx kvs)) ∧ kvs.map (·.1) = fs ∧ RepL ds (kvs.map (·.2))
  | .ref k, v => ∃ a, g.m[k]? = some a ∧ v = .ref a
  | .loc _, _ => False
def RepL : List D → List V → Prop
  | [], vs => vs = []
  | d :: ds, vs => ∃ v r, vs = v :: r ∧ Rep d v ∧ RepL ds r
end
/-- the object at a, not frozen -/
def Con (a : Addr) : D → Prop
  | .lst ds => ∃ vs, H a = some (.lst vs) ∧ RepL K cA H g ds vs
  | .dK ks ds => ∃ kvs, H a = some (.dK kvs) ∧ kvs.map (·.1) = ks ∧ RepL K cA H g ds (kvs.map (·.2))
  | .dT ks ds => ∃ kvs, H a = some (.dT kvs) ∧ kvs.map (·.1) = ks ∧ RepL K cA H g ds (kvs.map (·.2))
  | .ins C fs ds => ∃ ca dx kvs, (cA C = some ca ∧ H a = some (.ins ca dx kvs)) ∧ kvs.map (·.1) = fs ∧ RepL K cA H g ds (kvs.map (·.2))
  | _ => False
/-- late ones too -/
def RepX (σ : L2.St) (d : D) (v : V) : Prop := match d with
  | .loc i => σ[i]? = some (some v)
  | d => Rep K cA H g d v
structure Rel (fr : Fm) (σ : L2.St) : Prop where
  val : ∀ (i : Nat) (d : D), fr.env[i]? = some (Sl.val d) → ∃ v, σ[i]? = some (some v) ∧ Rep K cA H g d v
  own : ∀ (i : Nat) (d : D), fr.env[i]? = some (Sl.own d) → ∃ a, σ[i]? = some (some (.ref a)) ∧ Con K cA H g a d ∧ ¬ g.F a ∧ ¬ g.P a ∧ a ∉ g.m
  two : ∀ (i j : Nat) (d e : D) (a : Addr), fr.env[i]? = some (Sl.own d) → fr.env[j]? = some (Sl.own e) → σ[i]? = some (some (.ref a)) → σ[j]? = some (some (.ref a)) → i = j
  sto : g.m.length = fr.st.length
  cel : ∀ (k : Nat) (d : D) (a : Addr), fr.st[k]? = some d → g.m[k]? = some a → Con K cA H g a d ∧ ¬ g.F a ∧ ¬ g.P a
  nod : g.m.Nodup
  fok : ∀ a, g.F a → H a ≠ none ∧ ¬ g.P a
  pok : ∀ a, g.P a → H a ≠ none
  len : fr.env.length = σ.length
end

def Wd.le (g g' : Wd) : Prop := (∀ a, g.F a → g'.F a) ∧ g'.P = g.P ∧ ∃ r, g'.m = g.m ++ r
def Keep (g : Wd) (H H' : Hp) : Prop := ∀ a, g.F a ∨ g.P a → H' a = H a
theorem Wd.le.refl (g : Wd) : g.le g := ⟨fun _ h => h, rfl, [], by simp⟩
theorem Wd.le.trans {a b c : Wd} (h : a.le b) (k : b.le c) : a.le c := by
  obtain ⟨h1, h2, r, h3⟩ := h
  obtain ⟨k1, k2, q, k3⟩ := k
  exact ⟨fun x z => k1 x (h1 x z), k2.trans h2, r ++ q, by rw [k3, h3, List.append_assoc]⟩
theorem Wd.le.mem {g g' : Wd} (h : g.le g') {k : Nat} {a : Addr} (e : g.m[k]? = some a) : g'.m[k]? = some a := by
  obtain ⟨_, _, r, q⟩ := h
  rw [q, List.getElem?_append_left (List.getElem?_eq_some_iff.mp e).1]
  exact e
/-- the same frozen ones, the same cells at least -/
def Wd.sub (g g' : Wd) : Prop := (∀ a, g.F a → g'.F a) ∧ ∀ (k : Nat) (a : Addr), g.m[k]? = some a → g'.m[k]? = some a
theorem Wd.le.sub {g g' : Wd} (l : g.le g') : g.sub g' := ⟨l.1, fun _ _ e => l.mem e⟩
theorem Rd.eq {H H' : Hp} {a : Addr} {u : HO} (e : H' a = H a) (h : Rd H a u) : Rd H' a u := by
  rcases h with h | ⟨o, h⟩
  · exact .inl (e.trans h)
  · exact .inr ⟨o, e.trans h⟩
theorem Keep.refl (g : Wd) (H : Hp) : Keep g H H := fun _ _ => rfl
theorem Keep.trans {g g' : Wd} {H H1 H2 : Hp} (l : g.le g') (a : Keep g H H1) (b : Keep g' H1 H2) : Keep g H H2 := fun x hx => by
  rw [b x (hx.elim (fun z => .inl (l.1 x z)) fun z => .inr (by rw [l.2.1]; exact z))]
  exact a x hx

section
variable {K : PySem.W.Frag} {cA : Nat → Option Addr} {H H' H1 : Hp} {g g' g1 : Wd} {fr : Fm} {σ : L2.St}
mutual
theorem Rep.mono0 (l : g.sub g') (k : ∀ a, g.F a → H' a = H a) : ∀ (d : D) (v : V), Rep K cA H g d v → Rep K cA H' g' d v
  | .non, _, h => h
  | .bl _, _, h => h
  | .int _, _, h => h
  | .str _, _, h => h
  | .lst ds, _, h => by
    obtain ⟨a, vs, e, f, r⟩ := h
    exact ⟨a, vs, e, f.elim (fun f => .inl ⟨l.1 a f.1, Rd.eq (k a f.1) f.2⟩) .inr, RepL.mono0 l k ds vs r⟩
  | .tup ds, _, h => by
    obtain ⟨a, vs, e, f, q, r⟩ := h
    exact ⟨a, vs, e, l.1 a f, (k a f).trans q, RepL.mono0 l k ds vs r⟩
  | .ktup ds, _, h => by
    obtain ⟨a, vs, e, q, r⟩ := h
    exact ⟨a, vs, e, q, RepL.mono0 l k ds vs r⟩
  | .dK ks ds, _, h => by
    obtain ⟨a, kvs, e, f, q, s, r⟩ := h
    exact ⟨a, kvs, e, l.1 a f, Rd.eq (k a f) q, s, RepL.mono0 l k ds _ r⟩
  | .dT ks ds, _, h => by
    obtain ⟨a, kvs, e, f, q, s, r⟩ := h
    exact ⟨a, kvs, e, l.1 a f, Rd.eq (k a f) q, s, RepL.mono0 l k ds _ r⟩
  | .ins C fs ds, _, h => by
    obtain ⟨a, ca, dx, kvs, e, f, q, s, r⟩ := h
    exact ⟨a, ca, dx, kvs, e, l.1 a f, ⟨q.1, (k a f).trans q.2⟩, s, RepL.mono0 l k ds _ r⟩
  | .ref n, _, h => by
    obtain ⟨a, e, q⟩ := h
    exact ⟨a, l.2 _ _ e, q⟩
  | .loc _, _, h => h.elim
theorem RepL.mono0 (l : g.sub g') (k : ∀ a, g.F a → H' a = H a) : ∀ (ds : List D) (vs : List V), RepL K cA H g ds vs → RepL K cA H' g' ds vs
  | [], _, h => h
  | d :: ds, _, h => by
    obtain ⟨v, r, e, h1, h2⟩ := h
    exact ⟨v, r, e, Rep.mono0 l k d v h1, RepL.mono0 l k ds r h2⟩
end
theorem Rep.mono (l : g.le g') (k : ∀ a, g.F a → H' a = H a) (d : D) (v : V) (h : Rep K cA H g d v) : Rep K cA H' g' d v := Rep.mono0 l.sub k d v h
theorem RepL.mono (l : g.le g') (k : ∀ a, g.F a → H' a = H a) (ds : List D) (vs : List V) (h : RepL K cA H g ds vs) : RepL K cA H' g' ds vs := RepL.mono0 l.sub k ds vs h
theorem Keep.f (k : Keep g H H') : ∀ a, g.F a → H' a = H a := fun a h => k a (.inl h)
theorem Con.mono0 {a : Addr} (l : g.sub g') (k : ∀ a, g.F a → H' a = H a) (e : H' a = H a) : ∀ d, Con K cA H g a d → Con K cA H' g' a d
  | .lst ds, h => by obtain ⟨vs, q, r⟩ := h; exact ⟨vs, e.trans q, r.mono0 l k _ _⟩
  | .dK ks ds, h => by obtain ⟨kvs, q, s, r⟩ := h; exact ⟨kvs, e.trans q, s, r.mono0 l k _ _⟩
  | .dT ks ds, h => by obtain ⟨kvs, q, s, r⟩ := h; exact ⟨kvs, e.trans q, s, r.mono0 l k _ _⟩
  | .ins C fs ds, h => by obtain ⟨ca, dx, kvs, q, s, r⟩ := h; exact ⟨ca, dx, kvs, ⟨q.1, e.trans q.2⟩, s, r.mono0 l k _ _⟩
  | .non, h | .bl _, h | .int _, h | .str _, h | .tup _, h | .ref _, h | .loc _, h | .ktup _, h => h.elim
theorem Con.mono {a : Addr} (l : g.le g') (k : ∀ a, g.F a → H' a = H a) (e : H' a = H a) (d : D) (h : Con K cA H g a d) : Con K cA H' g' a d := Con.mono0 l.sub k e d h
theorem Con.some {a : Addr} : ∀ d, Con K cA H g a d → H a ≠ none
  | .lst ds, h => by obtain ⟨vs, q, r⟩ := h; rw [q]; simp
  | .dK ks ds, h => by obtain ⟨kvs, q, s, r⟩ := h; rw [q]; simp
  | .dT ks ds, h => by obtain ⟨kvs, q, s, r⟩ := h; rw [q]; simp
  | .ins C fs ds, h => by obtain ⟨ca, dx, kvs, q, s, r⟩ := h; rw [q.2]; simp
  | .non, h | .bl _, h | .int _, h | .str _, h | .tup _, h | .ref _, h | .loc _, h | .ktup _, h => h.elim
theorem RepX.mono (l : g.le g') (k : ∀ a, g.F a → H' a = H a) {d : D} {v : V} (h : RepX K cA H g σ d v) : RepX K cA H' g' σ d v := by
  cases d <;> first | exact h | exact Rep.mono l k _ _ h
theorem Rep.x {d : D} {v : V} (h : Rep K cA H g d v) : RepX K cA H g σ d v := by
  cases d <;> first | exact h | exact h.elim
theorem RepX.rep {d : D} {v : V} (h : RepX K cA H g σ d v) (n : isLoc d = false) : Rep K cA H g d v := by
  cases d <;> first | exact h | (cases n)
/-- a new tracked object is no known one -/
structure Fresh (fr : Fm) (σ : L2.St) (g : Wd) (p : Addr) : Prop where
  f : ¬ g.F p
  pr : ¬ g.P p
  m : p ∉ g.m
  o : ∀ (i : Nat) (d : D), fr.env[i]? = some (Sl.own d) → σ[i]? ≠ some (some (.ref p))
theorem Rel.fresh (R : Rel K cA H g fr σ) {p : Addr} (n : H p = none) : Fresh fr σ g p where
  f := fun h => (R.fok p h).1 n
  pr := fun h => R.pok p h n
  m := fun h => by
    obtain ⟨k, hk, e⟩ := List.getElem_of_mem h
    have e1 : g.m[k]? = some p := by rw [List.getElem?_eq_getElem hk, e]
    obtain ⟨d, hd⟩ : ∃ d, fr.st[k]? = some d := by
      have : k < fr.st.length := by rw [← R.sto]; exact hk
      exact ⟨_, List.getElem?_eq_getElem this⟩
    exact Con.some _ (R.cel k d p hd e1).1 n
  o := fun i d h e => by
    obtain ⟨a, e1, c, _⟩ := R.own i d h
    rw [e] at e1
    cases e1
    exact Con.some _ c n
/-- the heap changes at p alone, which is no known object; the ghost stays -/
theorem Rel.other (R : Rel K cA H g fr σ) {p : Addr} (q : Fresh fr σ g p) (e : ∀ a, a ≠ p → H' a = H a) : Rel K cA H' g fr σ := by
  have kf : ∀ a, g.F a → H' a = H a := fun a h => e a fun z => q.f (z ▸ h)
  have l := Wd.le.refl g
  refine ⟨fun i d h => ?_, fun i d h => ?_, R.two, R.sto, fun k d a h1 h2 => ?_, R.nod, fun a h => ⟨?_, (R.fok a h).2⟩, fun a h => ?_, R.len⟩
  · obtain ⟨v, e1, r⟩ := R.val i d h
    exact ⟨v, e1, r.mono l kf⟩
  · obtain ⟨a, e1, c, r⟩ := R.own i d h
    exact ⟨a, e1, c.mono l kf (e a fun z => q.o i d h (z ▸ e1)), r⟩
  · obtain ⟨c, r⟩ := R.cel k d a h1 h2
    exact ⟨c.mono l kf (e a fun z => q.m (z ▸ List.mem_of_getElem? h2)), r⟩
  · rw [kf a h]; exact (R.fok a h).1
  · rw [e a fun z => q.pr (z ▸ h)]; exact R.pok a h
/-- a known fresh object is frozen -/
def Wd.frz (g : Wd) (p : Addr) : Wd := ⟨fun a => g.F a ∨ a = p, g.P, g.m⟩
theorem Wd.le_frz (g : Wd) (p : Addr) : g.le (g.frz p) := ⟨fun _ h => .inl h, rfl, [], by simp [Wd.frz]⟩
theorem Rel.frz (R : Rel K cA H g fr σ) {p : Addr} (q : Fresh fr σ g p) (n : H p ≠ none) : Rel K cA H (g.frz p) fr σ := by
  have l := Wd.le_frz g p
  refine ⟨fun i d h => ?_, fun i d h => ?_, R.two, R.sto, fun k d a h1 h2 => ?_, R.nod, fun a h => ?_, R.pok, R.len⟩
  · obtain ⟨v, e1, r⟩ := R.val i d h
    exact ⟨v, e1, r.mono l fun _ _ => rfl⟩
  · obtain ⟨a, e1, c, r1, r2, r3⟩ := R.own i d h
    exact ⟨a, e1, c.mono l (fun _ _ => rfl) rfl, fun z => z.elim r1 fun z => q.o i d h (z ▸ e1), r2, r3⟩
  · obtain ⟨c, r1, r2⟩ := R.cel k d a h1 h2
    exact ⟨c.mono l (fun _ _ => rfl) rfl, fun z => z.elim r1 fun z => q.m (z ▸ List.mem_of_getElem? h2), r2⟩
  · rcases h with h | h
    · exact R.fok a h
    · exact ⟨h ▸ n, h ▸ q.pr⟩
end

/-! ### what is wanted of a result -/
section
variable (K : PySem.W.Frag) (cA : Nat → Option Addr)
def Pst {α β : Type} (rp : Fm → Hp → Wd → α → β → Prop) (g : Wd) (H : Hp) (σ : L2.St) (r : Rs α) (Q : β → Hp → Prop) : Prop := match r with
  | .ok a fr => ∀ g' b H', g.le g' → Keep g H H' → Rel K cA H' g' fr σ → rp fr H' g' a b → Q b H'
  | _ => False
end
section
variable {K : PySem.W.Frag} {cA : Nat → Option Addr} {α β γ δ : Type} {rp : Fm → Hp → Wd → α → β → Prop} {rq : Fm → Hp → Wd → γ → δ → Prop} {g g' : Wd} {H H' : Hp} {σ : L2.St} {r : Rs α} {Q : β → Hp → Prop}
theorem Pst.mono (h : Pst K cA rp g H σ r Q) (l : g.le g') (k : Keep g H H') : Pst K cA rp g' H' σ r Q := by
  cases r with
  | ok a fr => exact fun g2 b H2 l2 k2 R p => h g2 b H2 (l.trans l2) (k.trans l k2) R p
  | exc C ds fr => exact h
  | stk => exact h
theorem Pst.bind {k : α → Fm → Rs γ} {Q' : δ → Hp → Prop} (h : Pst K cA rq g H σ (r.bind k) Q') (f : ∀ a fr, ∀ g' b H', g.le g' → Keep g H H' → Rel K cA H' g' fr σ → rp fr H' g' a b → Pst K cA rq g' H' σ (k a fr) Q' → Q b H') : Pst K cA rp g H σ r Q := by
  cases r with
  | ok a fr => exact fun g2 b H2 l2 k2 R p => f a fr g2 b H2 l2 k2 R p (Pst.mono h l2 k2)
  | exc C ds fr => exact h
  | stk => exact h
theorem Pst.bindE {k : α → Fm → Rs γ} {Q' : δ → Hp → Prop} (h : Pst K cA rq g H σ (r.bind k) Q') (f : ∀ a fr, r = .ok a fr → ∀ g' b H', g.le g' → Keep g H H' → Rel K cA H' g' fr σ → rp fr H' g' a b → Pst K cA rq g' H' σ (k a fr) Q' → Q b H') : Pst K cA rp g H σ r Q := by
  cases r with
  | ok a fr => exact fun g2 b H2 l2 k2 R p => f a fr rfl g2 b H2 l2 k2 R p (Pst.mono h l2 k2)
  | exc C ds fr => exact h
  | stk => exact h
theorem Pst.ok {a : α} {b : β} {fr : Fm} (h : Pst K cA rp g H σ (.ok a fr) Q) (R : Rel K cA H g fr σ) (p : rp fr H g a b) : Q b H := h g b H (Wd.le.refl g) (Keep.refl g H) R p
theorem Pst.imp {Q' : β → Hp → Prop} (h : Pst K cA rp g H σ r Q) (q : ∀ b H, Q b H → Q' b H) : Pst K cA rp g H σ r Q' := by
  cases r with
  | ok a fr => exact fun g2 b H2 l2 k2 R p => q _ _ (h g2 b H2 l2 k2 R p)
  | exc C ds fr => exact h
  | stk => exact h
/-- opt: there is a value -/
theorem Pst.opt {o : Option α} {fr : Fm} (h : Pst K cA rp g H σ (Mr.opt o fr) Q) : ∃ a, o = some a ∧ Pst K cA rp g H σ (.ok a fr) Q := by
  cases o with
  | none => exact h.elim
  | some a => exact ⟨a, rfl, h⟩
end
end Mr
end
section
set_option Elab.async false
set_option linter.all false
set_option maxRecDepth 100000
/-! M2b: operators on data. -/
namespace Mr
open PySem PySem.Spec PyProof.Rows L2

section
variable (K : PySem.W.Frag) (cA : Nat → Option Addr) (H : Hp) (g : Wd)
/-- a value that is read: frozen, or an object that stands alone -/
def Cv (d : D) (v : V) : Prop := Rep K cA H g d v ∨ ∃ a, v = .ref a ∧ Con K cA H g a d
end
section
variable {K : PySem.W.Frag} {cA : Nat → Option Addr} {H : Hp} {g : Wd} {fr : Fm} {σ : L2.St} {v : V}
theorem Rel.cv (R : Rel K cA H g fr σ) {x d : D} (r : RepX K cA H g σ x v) (e : deref fr x = some d) : Cv K cA H g d v := by
  cases x with
  | ref k =>
    obtain ⟨a, e1, rfl⟩ := r
    exact .inr ⟨a, rfl, (R.cel k d a e e1).1⟩
  | loc i =>
    have e2 : (match fr.env[i]? with
      | some (Sl.own d) => some d
      | _ => none) = some d := e
    cases q : fr.env[i]? with
    | none => rw [q] at e2; cases e2
    | some s =>
      cases s with
      | un => rw [q] at e2; cases e2
      | val _ => rw [q] at e2; cases e2
      | own c =>
        rw [q] at e2
        cases e2
        obtain ⟨a, e3, c3, _⟩ := R.own i d q
        have r' : σ[i]? = some (some v) := r
        rw [r'] at e3
        cases e3
        exact .inr ⟨a, rfl, c3⟩
  | _ => cases e; exact .inl r
theorem Cv.non (h : Cv K cA H g .non v) : v = .non := h.elim (fun h => h) fun ⟨_, _, z⟩ => z.elim
theorem Cv.bl {b : Bool} (h : Cv K cA H g (.bl b) v) : v = .bl b := h.elim (fun h => h) fun ⟨_, _, z⟩ => z.elim
theorem Cv.int {i : Int} (h : Cv K cA H g (.int i) v) : v = .int i := h.elim (fun h => h) fun ⟨_, _, z⟩ => z.elim
theorem Cv.str {x : Str} (h : Cv K cA H g (.str x) v) : v = .str x := h.elim (fun h => h) fun ⟨_, _, z⟩ => z.elim
theorem LX.sq {a : Addr} {vs : List V} (h : LX K H a vs) : SqL K H a vs := by
  rcases h with h | ⟨its, n, h1, h2, h3⟩
  · exact .inl h
  · refine .inr ⟨_, its.toArray, n, h1, rfl, rfl, rfl, ?_, h3⟩
    rw [List.size_toArray, ← h3.length]
    exact h2
theorem Cv.lst {ds : List D} (h : Cv K cA H g (.lst ds) v) : ∃ a vs, v = .ref a ∧ LX K H a vs ∧ RepL K cA H g ds vs := by
  rcases h with ⟨a, vs, e, q, r⟩ | ⟨a, e, vs, q, r⟩
  · exact ⟨a, vs, e, q.elim (fun q => .inl q.2) .inr, r⟩
  · exact ⟨a, vs, e, .inl (.inl q), r⟩
theorem Cv.tup {ds : List D} (h : Cv K cA H g (.tup ds) v) : ∃ a vs, v = .ref a ∧ H a = some (.tup vs) ∧ RepL K cA H g ds vs := by
  rcases h with ⟨a, vs, e, _, q, r⟩ | ⟨a, e, z⟩
  · exact ⟨a, vs, e, q, r⟩
  · exact z.elim
theorem Cv.ktup {ds : List D} (h : Cv K cA H g (.ktup ds) v) : ∃ a vs, v = .ref a ∧ SqT K H a vs ∧ RepL K cA H g ds vs := by
  rcases h with ⟨a, vs, e, q, r⟩ | ⟨a, e, z⟩
  · exact ⟨a, vs, e, .inr q, r⟩
  · exact z.elim
theorem Cv.dK {ks : List Key} {ds : List D} (h : Cv K cA H g (.dK ks ds) v) : ∃ a kvs, v = .ref a ∧ Rd H a (.dK kvs) ∧ kvs.map (·.1) = ks ∧ RepL K cA H g ds (kvs.map (·.2)) := by
  rcases h with ⟨a, kvs, e, _, q, r⟩ | ⟨a, e, kvs, q, r⟩
  · exact ⟨a, kvs, e, q, r⟩
  · exact ⟨a, kvs, e, .inl q, r⟩
theorem Cv.dT {ks : List (List Key)} {ds : List D} (h : Cv K cA H g (.dT ks ds) v) : ∃ a kvs, v = .ref a ∧ Rd H a (.dT kvs) ∧ kvs.map (·.1) = ks ∧ RepL K cA H g ds (kvs.map (·.2)) := by
  rcases h with ⟨a, kvs, e, _, q, r⟩ | ⟨a, e, kvs, q, r⟩
  · exact ⟨a, kvs, e, q, r⟩
  · exact ⟨a, kvs, e, .inl q, r⟩
theorem Cv.ins {C : Nat} {fs : List Str} {ds : List D} (h : Cv K cA H g (.ins C fs ds) v) :
    ∃ a ca dx kvs, v = .ref a ∧ cA C = some ca ∧ H a = some (.ins ca dx kvs) ∧ kvs.map (·.1) = fs ∧ RepL K cA H g ds (kvs.map (·.2)) := by
  rcases h with ⟨a, ca, dx, kvs, e, _, q, r⟩ | ⟨a, e, ca, dx, kvs, q, r⟩
  · exact ⟨a, ca, dx, kvs, e, q.1, q.2, r⟩
  · exact ⟨a, ca, dx, kvs, e, q.1, q.2, r⟩
theorem Cv.noref {k : Nat} (h : Cv K cA H g (.ref k) v) : Rep K cA H g (.ref k) v := h.elim id fun ⟨_, _, z⟩ => z.elim

/-! ### lists -/
theorem RepL.len : ∀ {ds : List D} {vs : List V}, RepL K cA H g ds vs → ds.length = vs.length
  | [], vs, h => by
    have e : vs = [] := h
    rw [e]
    rfl
  | d :: ds, vs, h => by
    obtain ⟨w, r, e, _, t⟩ := h
    rw [e, List.length_cons, List.length_cons, RepL.len t]
theorem RepL.get : ∀ {ds : List D} {vs : List V} {i : Nat} {d : D}, RepL K cA H g ds vs → ds[i]? = some d → ∃ w, vs[i]? = some w ∧ Rep K cA H g d w
  | [], _, _, _, _, e => by simp at e
  | d :: ds, _, 0, c, h, e => by
    obtain ⟨w, r, rfl, q, _⟩ := h
    have e2 : d = c := by simpa using e
    exact ⟨w, rfl, e2 ▸ q⟩
  | d :: ds, _, i + 1, c, h, e => by
    obtain ⟨w, r, rfl, _, t⟩ := h
    obtain ⟨z, e1, q⟩ := RepL.get (i := i) t (by simpa using e)
    exact ⟨z, by simpa using e1, q⟩
theorem RepL.app : ∀ {ds es : List D} {vs ws : List V}, RepL K cA H g ds vs → RepL K cA H g es ws → RepL K cA H g (ds ++ es) (vs ++ ws)
  | [], _, vs, _, h, k => by
    have e : vs = [] := h
    rw [e]
    exact k
  | d :: ds, _, _, _, h, k => by
    obtain ⟨w, r, rfl, q, t⟩ := h
    exact ⟨w, _, rfl, q, RepL.app t k⟩
theorem RepL.one {d : D} (h : Rep K cA H g d v) : RepL K cA H g [d] [v] := ⟨v, [], rfl, h, rfl⟩
theorem RepL.nil : RepL K cA H g [] [] := rfl
theorem RepL.cons {d : D} {ds : List D} {vs : List V} (h : Rep K cA H g d v) (t : RepL K cA H g ds vs) : RepL K cA H g (d :: ds) (v :: vs) := ⟨v, vs, rfl, h, t⟩
theorem RepL.tk : ∀ {ds : List D} {vs : List V} (n : Nat), RepL K cA H g ds vs → RepL K cA H g (ds.take n) (vs.take n)
  | ds, vs, 0, _ => by
    rw [List.take_zero, List.take_zero]
    exact RepL.nil
  | [], vs, n + 1, h => by
    have e : vs = [] := h
    rw [e]
    exact RepL.nil
  | d :: ds, _, n + 1, h => by
    obtain ⟨w, r, rfl, q, t⟩ := h
    exact ⟨w, _, rfl, q, RepL.tk n t⟩
theorem RepL.dp : ∀ {ds : List D} {vs : List V} (n : Nat), RepL K cA H g ds vs → RepL K cA H g (ds.drop n) (vs.drop n)
  | ds, vs, 0, h => h
  | [], vs, n + 1, h => by
    have e : vs = [] := h
    rw [e]
    exact RepL.nil
  | d :: ds, _, n + 1, h => by
    obtain ⟨w, r, rfl, q, t⟩ := h
    exact RepL.dp n t
theorem RepL.rev : ∀ {ds : List D} {vs : List V}, RepL K cA H g ds vs → RepL K cA H g ds.reverse vs.reverse
  | [], vs, h => by
    have e : vs = [] := h
    rw [e]
    exact RepL.nil
  | d :: ds, _, h => by
    obtain ⟨w, r, rfl, q, t⟩ := h
    rw [List.reverse_cons, List.reverse_cons]
    exact RepL.app (RepL.rev t) (RepL.one q)
theorem RepL.set : ∀ {ds : List D} {vs : List V} {d : D} (n : Nat), RepL K cA H g ds vs → Rep K cA H g d v → RepL K cA H g (ds.set n d) (vs.set n v)
  | [], vs, _, _, h, _ => by
    have e : vs = [] := h
    rw [e]
    exact RepL.nil
  | d :: ds, _, _, 0, h, k => by
    obtain ⟨w, r, rfl, q, t⟩ := h
    exact ⟨v, r, rfl, k, t⟩
  | d :: ds, _, _, n + 1, h, k => by
    obtain ⟨w, r, rfl, q, t⟩ := h
    exact ⟨w, _, rfl, q, RepL.set n t k⟩
theorem RepL.map {α : Type} (f : α → D) (f' : α → V) (h : ∀ x, Rep K cA H g (f x) (f' x)) : ∀ xs : List α, RepL K cA H g (xs.map f) (xs.map f')
  | [] => RepL.nil
  | x :: xs => ⟨_, _, rfl, h x, RepL.map f f' h xs⟩
theorem RepL.ints {vs : List V} : ∀ {ds : List D} {vs : List V} {is : List Int}, RepL K cA H g ds vs → intsD ds = some is → vs = is.map V.int
  | [], vs, is, h, e => by
    have e1 : vs = [] := h
    have e2 : [] = is := Option.some.inj e
    rw [e1, ← e2]
    rfl
  | d :: ds, vs, is, h, e => by
    obtain ⟨w, r, rfl, q, t⟩ := h
    cases d with
    | int i =>
      have e2 : (intsD ds).map (i :: ·) = some is := e
      cases e3 : intsD ds with
      | none => rw [e3] at e2; cases e2
      | some js =>
        rw [e3] at e2
        have e4 : i :: js = is := Option.some.inj e2
        have e5 : w = .int i := q
        rw [← e4, e5, RepL.ints (vs := vs) t e3]
        rfl
    | _ => cases e
theorem RepL.strs {vs : List V} : ∀ {ds : List D} {vs : List V} {is : List Str}, RepL K cA H g ds vs → strsD ds = some is → vs = is.map V.str
  | [], vs, is, h, e => by
    have e1 : vs = [] := h
    have e2 : [] = is := Option.some.inj e
    rw [e1, ← e2]
    rfl
  | d :: ds, vs, is, h, e => by
    obtain ⟨w, r, rfl, q, t⟩ := h
    cases d with
    | str i =>
      have e2 : (strsD ds).map (i :: ·) = some is := e
      cases e3 : strsD ds with
      | none => rw [e3] at e2; cases e2
      | some js =>
        rw [e3] at e2
        have e4 : i :: js = is := Option.some.inj e2
        have e5 : w = .str i := q
        rw [← e4, e5, RepL.strs (vs := vs) t e3]
        rfl
    | _ => cases e
theorem RepL.bools {vs : List V} : ∀ {ds : List D} {vs : List V} {is : List Bool}, RepL K cA H g ds vs → boolsD ds = some is → vs = is.map V.bl
  | [], vs, is, h, e => by
    have e1 : vs = [] := h
    have e2 : [] = is := Option.some.inj e
    rw [e1, ← e2]
    rfl
  | d :: ds, vs, is, h, e => by
    obtain ⟨w, r, rfl, q, t⟩ := h
    cases d with
    | bl i =>
      have e2 : (boolsD ds).map (i :: ·) = some is := e
      cases e3 : boolsD ds with
      | none => rw [e3] at e2; cases e2
      | some js =>
        rw [e3] at e2
        have e4 : i :: js = is := Option.some.inj e2
        have e5 : w = .bl i := q
        rw [← e4, e5, RepL.bools (vs := vs) t e3]
        rfl
    | _ => cases e

/-! ### as the library's data -/
mutual
def py : D → PyData
  | .bl b => .bool b
  | .int i => .int i
  | .str x => .str x
  | .lst xs => .list (pyL xs)
  | .tup xs => .tuple (pyL xs)
  | _ => .none
def pyL : List D → List PyData
  | [] => []
  | x :: xs => py x :: pyL xs
end
mutual
theorem py_lay : ∀ d : D, lay d = true → (py d).canLay0 = true
  | .non, _ => rfl
  | .bl _, _ => rfl
  | .int _, _ => rfl
  | .str _, h => h
  | .lst xs, h => pyL_lay xs h
  | .tup xs, h => pyL_lay xs h
  | .dK _ _, h | .dT _ _, h | .ins _ _ _, h | .ref _, h | .loc _, h | .ktup _, h => by cases h
theorem pyL_lay : ∀ ds : List D, layL ds = true → PyData.canLayAll0 (pyL ds) = true
  | [], _ => rfl
  | d :: ds, h => by
    have h2 : (lay d && layL ds) = true := h
    rw [Bool.and_eq_true] at h2
    show ((py d).canLay0 && PyData.canLayAll0 (pyL ds)) = true
    rw [py_lay d h2.1, pyL_lay ds h2.2]
    rfl
end
mutual
theorem py_dep : ∀ d : D, (py d).depth = dep d
  | .non | .bl _ | .int _ | .str _ | .dK _ _ | .dT _ _ | .ins _ _ _ | .ref _ | .loc _ | .ktup _ => rfl
  | .lst xs => congrArg (· + 1) (pyL_dep xs)
  | .tup xs => congrArg (· + 1) (pyL_dep xs)
theorem pyL_dep : ∀ ds : List D, PyData.depthAll (pyL ds) = depL ds
  | [] => rfl
  | d :: ds => by
    show max (py d).depth (PyData.depthAll (pyL ds)) = max (dep d) (depL ds)
    rw [py_dep d, pyL_dep ds]
end
mutual
theorem py_eqv : ∀ d e : D, lay d = true → lay e = true → PyData.eqv (py d) (py e) = eqv d e
  | .non, e, _, k => by cases e <;> first | rfl | (cases k)
  | .bl _, e, _, k => by cases e <;> first | rfl | (cases k)
  | .int _, e, _, k => by cases e <;> first | rfl | (cases k)
  | .str _, e, _, k => by cases e <;> first | rfl | (cases k)
  | .lst xs, e, h, k => by
    cases e with
    | lst ys => exact pyL_eqv xs ys h k
    | _ => first | rfl | (cases k)
  | .tup xs, e, h, k => by
    cases e with
    | tup ys => exact pyL_eqv xs ys h k
    | _ => first | rfl | (cases k)
  | .dK _ _, _, h, _ | .dT _ _, _, h, _ | .ins _ _ _, _, h, _ | .ref _, _, h, _ | .loc _, _, h, _ | .ktup _, _, h, _ => by cases h
theorem pyL_eqv : ∀ ds es : List D, layL ds = true → layL es = true → PyData.eqvAll (pyL ds) (pyL es) = eqvL ds es
  | [], [], _, _ => rfl
  | [], _ :: _, _, _ => rfl
  | _ :: _, [], _, _ => rfl
  | d :: ds, e :: es, h, k => by
    have h2 : (lay d && layL ds) = true := h
    have k2 : (lay e && layL es) = true := k
    rw [Bool.and_eq_true] at h2 k2
    show (PyData.eqv (py d) (py e) && PyData.eqvAll (pyL ds) (pyL es)) = (eqv d e && eqvL ds es)
    rw [py_eqv d e h2.1 k2.1, pyL_eqv ds es h2.2 k2.2]
end
mutual
theorem Rep.dp : ∀ (d : D) (v : V), lay d = true → Rep K cA H g d v → L2.Dp K H v (py d)
  | .non, _, _, h => by rw [show _ = _ from h]; exact .non
  | .bl b, _, _, h => by rw [show _ = _ from h]; exact .bl b
  | .int i, _, _, h => by rw [show _ = _ from h]; exact .int i
  | .str x, _, _, h => by rw [show _ = _ from h]; exact .str x
  | .lst ds, v, l, h => by
    obtain ⟨a, vs, rfl, q, r⟩ := Cv.lst (.inl h)
    exact .lst q.sq (RepL.dpA ds vs l r)
  | .tup ds, v, l, h => by
    obtain ⟨a, vs, rfl, q, r⟩ := Cv.tup (.inl h)
    exact .tup (SqT.of q) (RepL.dpA ds vs l r)
  | .dK _ _, _, h, _ | .dT _ _, _, h, _ | .ins _ _ _, _, h, _ | .ref _, _, h, _ | .loc _, _, h, _ | .ktup _, _, h, _ => by cases h
theorem RepL.dpA : ∀ (ds : List D) (vs : List V), layL ds = true → RepL K cA H g ds vs → L2.DpAll K H vs (pyL ds)
  | [], vs, _, h => by
    have e : vs = [] := h
    rw [e]
    exact .nil
  | d :: ds, _, l, h => by
    have l2 : (lay d && layL ds) = true := l
    rw [Bool.and_eq_true] at l2
    obtain ⟨w, r, rfl, q, t⟩ := h
    exact .cons (Rep.dp d w l2.1 q) (RepL.dpA ds r l2.2 t)
end
theorem Cv.dp {d : D} (h : Cv K cA H g d v) (l : lay d = true) : L2.Dp K H v (py d) := by
  rcases h with h | ⟨a, rfl, h⟩
  · exact Rep.dp d v l h
  · cases d with
    | lst ds =>
      obtain ⟨vs, q, r⟩ := h
      exact .lst (SqL.of q) (RepL.dpA ds vs l r)
    | dK _ _ => cases l
    | dT _ _ => cases l
    | ins _ _ _ => cases l
    | _ => exact h.elim
theorem Cv.kdp {ds : List D} (h : Cv K cA H g (.ktup ds) v) (l : layL ds = true) : L2.Dp K H v (.tuple (pyL ds)) := by
  obtain ⟨a, vs, rfl, q, r⟩ := h.ktup
  exact .tup q (RepL.dpA ds vs l r)
theorem any_eqv (d : D) (hd : lay d = true) : ∀ ds : List D, layL ds = true → ((pyL ds).any fun z => PyData.eqv z (py d)) = ds.any fun z => eqv z d
  | [], _ => rfl
  | e :: es, h => by
    have h2 : (lay e && layL es) = true := h
    rw [Bool.and_eq_true] at h2
    show (PyData.eqv (py e) (py d) || (pyL es).any fun z => PyData.eqv z (py d)) = (eqv e d || es.any fun z => eqv z d)
    rw [py_eqv e d h2.1 hd, any_eqv d hd es h2.2]
end

/-! ### new values -/
section
variable (K : PySem.W.Frag) (cA : Nat → Option Addr) (H : Hp) (g : Wd)
/-- a value that an operation makes: an old one, or a new object -/
inductive New : D → V → Hp → Prop
  | old {d : D} {v : V} : isMut d = false → Rep K cA H g d v → New d v H
  | lst {ds : List D} {vs : List V} {p : Addr} : H p = none → RepL K cA H g ds vs → New (.lst ds) (.ref p) (upd H p (.lst vs))
  | tup {ds : List D} {vs : List V} {p : Addr} : H p = none → RepL K cA H g ds vs → New (.tup ds) (.ref p) (upd H p (.tup vs))
end
section
variable {K : PySem.W.Frag} {cA : Nat → Option Addr} {H H' : Hp} {g : Wd} {fr : Fm} {σ : L2.St} {v : V} {d : D}
/-- it is frozen at once -/
theorem New.frz (n : New K cA H g d v H') (R : Rel K cA H g fr σ) : ∃ g', g.le g' ∧ Keep g H H' ∧ Rel K cA H' g' fr σ ∧ Rep K cA H' g' d v := by
  have key : ∀ {p : Addr} {o : HO}, H p = none → g.le (g.frz p) ∧ Keep g H (upd H p o) ∧ Rel K cA (upd H p o) (g.frz p) fr σ ∧ (∀ a, g.F a → upd H p o a = H a) := fun {p o} e => by
    have q := R.fresh e
    have kf : Keep g H (upd H p o) := fun a h => upd_ne fun z => h.elim (fun h => q.f (z ▸ h)) fun h => q.pr (z ▸ h)
    exact ⟨Wd.le_frz g p, kf, (R.other q fun a h => upd_ne h).frz q (by rw [upd_same]; simp), fun a h => kf a (.inl h)⟩
  cases n with
  | old _ r => exact ⟨g, Wd.le.refl g, Keep.refl g H, R, r⟩
  | lst e r =>
    obtain ⟨l, k, R', kf⟩ := key e
    exact ⟨_, l, k, R', _, _, rfl, .inl ⟨.inr rfl, .inl upd_same⟩, r.mono l kf _ _⟩
  | tup e r =>
    obtain ⟨l, k, R', kf⟩ := key e
    exact ⟨_, l, k, R', _, _, rfl, .inr rfl, upd_same, r.mono l kf _ _⟩
end
end Mr
end
section
set_option Elab.async false
set_option linter.all false
set_option maxRecDepth 100000
/-! M2c: comparisons, binary operators. -/
namespace Mr
open PySem PySem.Spec PyProof.Rows L2
def coOp : CO → CmpOp
  | .eq => .Eq | .ne => .NotEq | .lt => .Lt | .le => .LtE | .gt => .Gt | .ge => .GtE | .mem => .In | .nmem => .NotIn
def boOp : BO → Operator
  | .add => .Add | .sub => .Sub | .mul => .Mult | .fdiv => .FloorDiv | .mod => .Mod | .pow => .Pow
def isDic : D → Bool
  | .dK _ _ => true
  | .dT _ _ => true
  | _ => false
theorem eqD_some {a b : D} {r : Bool} (h : eqD a b = some r) : lay a = true ∧ lay b = true ∧ min (dep a) (dep b) ≤ 64 ∧ eqv a b = r := by
  unfold eqD at h
  by_cases c : (lay a && lay b && decide (min (dep a) (dep b) ≤ 64)) = true
  · rw [if_pos c] at h
    simp only [Bool.and_eq_true, decide_eq_true_eq] at c
    exact ⟨c.1.1, c.1.2, c.2, Option.some.inj h⟩
  · rw [if_neg c] at h
    cases h
theorem memL_some {d : D} {ds : List D} {r : Bool} (h : (if lay d && layL ds && decide (min (depL ds) (dep d) ≤ 64) then some (ds.any fun z => eqv z d) else none) = some r) :
    lay d = true ∧ layL ds = true ∧ min (depL ds) (dep d) ≤ 64 ∧ (ds.any fun z => eqv z d) = r := by
  by_cases c : (lay d && layL ds && decide (min (depL ds) (dep d) ≤ 64)) = true
  · rw [if_pos c] at h
    simp only [Bool.and_eq_true, decide_eq_true_eq] at c
    exact ⟨c.1.1, c.1.2, c.2, Option.some.inj h⟩
  · rw [if_neg c] at h
    cases h
theorem one_sign {x : Str} {c : Nat} (h : x.cps.toList = [c]) : x = ⟨#[c]⟩ := by
  obtain ⟨a⟩ := x
  obtain ⟨l⟩ := a
  have h2 : l = [c] := h
  rw [h2]
section
variable {X : Cx} {cA : Nat → Option Addr}
def rCmp (K : PySem.W.Frag) (cA : Nat → Option Addr) (o : CO) : R2 := fun x y H Q => ∃ g d e b, Cv K cA H g d x ∧ Cv K cA H g e y ∧ cmpD o d e = some b ∧ isDic e = false ∧ Q (.bl b) H
/-- x in y, both answers: k turns the answer about -/
theorem mem_core {k : Bool} {op : CmpOp} (hop : op = if k then .In else .NotIn) (hu : X.A.units + 66 < cLine) {pins : List (Addr × Obj)} {s : Shared} {σ : L2.St} {H : Hp} {x y : V} {v u : Value} {Q : VK} (I : Inv X pins σ H s) (rx : RelV x v) (ry : RelV y u)
    {g : Wd} {d e : D} {b : Bool} (cx : Cv X.K cA H g d x) (cy : Cv X.K cA H g e y) (hm : memD d e = some b) (hd : isDic e = false) (q : Q (.bl (if k then b else !b)) H) :
    wpAny (model X.prog X.w) X.A (compareOp op v u) (EP X pins σ Q) X.xe s := by
  cases e with
  | lst ds =>
    obtain ⟨l1, l2, l3, l4⟩ := memL_some hm
    obtain ⟨as, r1⟩ := L2.Dp.reads I (py d) x v (cx.dp l1) rx
    obtain ⟨bs, r2⟩ := L2.Dp.reads I (py (.lst ds)) y u (cy.dp l2) ry
    have hr : X.A.units + 1 + min (PyData.depthAll (pyL ds)) (py d).depth < cLine := by
      rw [pyL_dep, py_dep]
      omega
    have ea := any_eqv d l1 ds l2
    cases k with
    | true =>
      rw [hop]
      exact SeqAt.in_list_reads r2 r1 (pyL_lay ds l2) (py_lay d l1) hr ⟨.bl _, H, I, rfl, by rw [ea, l4]; exact q⟩
    | false =>
      rw [hop]
      exact SeqAt.notIn_list_reads r2 r1 (pyL_lay ds l2) (py_lay d l1) hr ⟨.bl _, H, I, rfl, by rw [ea, l4]; exact q⟩
  | tup ds =>
    obtain ⟨l1, l2, l3, l4⟩ := memL_some hm
    obtain ⟨as, r1⟩ := L2.Dp.reads I (py d) x v (cx.dp l1) rx
    obtain ⟨bs, r2⟩ := L2.Dp.reads I (py (.tup ds)) y u (cy.dp l2) ry
    have hr : X.A.units + 1 + min (PyData.depthAll (pyL ds)) (py d).depth < cLine := by
      rw [pyL_dep, py_dep]
      omega
    have ea := any_eqv d l1 ds l2
    cases k with
    | true =>
      rw [hop]
      exact SeqAt.in_tuple_reads r2 r1 (pyL_lay ds l2) (py_lay d l1) hr ⟨.bl _, H, I, rfl, by rw [ea, l4]; exact q⟩
    | false =>
      rw [hop]
      exact SeqAt.notIn_tuple_reads r2 r1 (pyL_lay ds l2) (py_lay d l1) hr ⟨.bl _, H, I, rfl, by rw [ea, l4]; exact q⟩
  | ktup ds =>
    obtain ⟨l1, l2, l3, l4⟩ := memL_some hm
    obtain ⟨as, r1⟩ := L2.Dp.reads I (py d) x v (cx.dp l1) rx
    obtain ⟨bs, r2⟩ := L2.Dp.reads I (.tuple (pyL ds)) y u (cy.kdp l2) ry
    have hr : X.A.units + 1 + min (PyData.depthAll (pyL ds)) (py d).depth < cLine := by
      rw [pyL_dep, py_dep]
      omega
    have ea := any_eqv d l1 ds l2
    cases k with
    | true =>
      rw [hop]
      exact SeqAt.in_tuple_reads r2 r1 (pyL_lay ds l2) (py_lay d l1) hr ⟨.bl _, H, I, rfl, by rw [ea, l4]; exact q⟩
    | false =>
      rw [hop]
      exact SeqAt.notIn_tuple_reads r2 r1 (pyL_lay ds l2) (py_lay d l1) hr ⟨.bl _, H, I, rfl, by rw [ea, l4]; exact q⟩
  | str z =>
    cases d with
    | str w =>
      have hm2 : (match w.cps.toList with
        | [c] => some (decide (c ∈ z.cps.toList))
        | _ => none) = some b := hm
      cases e1 : w.cps.toList with
      | nil => rw [e1] at hm2; cases hm2
      | cons c r =>
        cases r with
        | cons _ _ => rw [e1] at hm2; cases hm2
        | nil =>
          rw [e1] at hm2
          have e2 : decide (c ∈ z.cps.toList) = b := Option.some.inj hm2
          have e3 : x = .str ⟨#[c]⟩ := by rw [cx.str, one_sign e1]
          have e4 : y = .str z := cy.str
          cases k with
          | true =>
            rw [hop]
            exact op_in_sign pins s σ H x y v u Q I rx ry ⟨c, z, e3, e4, by rw [e2]; exact q⟩
          | false =>
            rw [hop]
            exact op_notIn_sign pins s σ H x y v u Q I rx ry ⟨c, z, e3, e4, by rw [e2]; exact q⟩
    | _ => cases hm
  | dK _ _ => cases hd
  | dT _ _ => cases hd
  | _ => cases hm
theorem op_cmpM (hu : X.A.units + 66 < cLine) (o : CO) : OpR X (compareOp (coOp o)) (rCmp X.K cA o) := by
  intro pins s σ H x y v u Q I rx ry h
  obtain ⟨g, d, e, b, cx, cy, hc, hd, q⟩ := h
  have hroom : ∀ {d e : D}, min (dep d) (dep e) ≤ 64 → X.A.units + min (py d).depth (py e).depth < cLine := fun {d e} h => by
    rw [py_dep, py_dep]
    omega
  cases o with
  | eq =>
    obtain ⟨l1, l2, l3, l4⟩ := eqD_some hc
    obtain ⟨as, r1⟩ := L2.Dp.reads I (py d) x v (cx.dp l1) rx
    obtain ⟨bs, r2⟩ := L2.Dp.reads I (py e) y u (cy.dp l2) ry
    exact SeqAt.compareEq_reads r1 r2 (py_lay d l1) (py_lay e l2) (hroom l3) ⟨.bl _, H, I, rfl, by rw [py_eqv d e l1 l2, l4]; exact q⟩
  | ne =>
    have hc2 : (eqD d e).map not = some b := hc
    cases he : eqD d e with
    | none => rw [he] at hc2; cases hc2
    | some b' =>
      rw [he] at hc2
      have e5 : (!b') = b := Option.some.inj hc2
      obtain ⟨l1, l2, l3, l4⟩ := eqD_some he
      obtain ⟨as, r1⟩ := L2.Dp.reads I (py d) x v (cx.dp l1) rx
      obtain ⟨bs, r2⟩ := L2.Dp.reads I (py e) y u (cy.dp l2) ry
      exact SeqAt.compareNe_reads r1 r2 (py_lay d l1) (py_lay e l2) (hroom l3) ⟨.bl _, H, I, rfl, by rw [py_eqv d e l1 l2, l4, e5]; exact q⟩
  | lt =>
    cases d with
    | int i => cases e with
      | int j => exact op_lt pins s σ H x y v u Q I rx ry ⟨i, j, cx.int, cy.int, by show Q (.bl _) H; rw [Option.some.inj hc]; exact q⟩
      | _ => cases hc
    | str i => cases e with
      | str j => exact op_lt_str pins s σ H x y v u Q I rx ry ⟨i, j, cx.str, cy.str, by show Q (.bl _) H; rw [Option.some.inj hc]; exact q⟩
      | _ => cases hc
    | _ => cases e <;> cases hc
  | le =>
    cases d with
    | int i => cases e with
      | int j => exact op_le pins s σ H x y v u Q I rx ry ⟨i, j, cx.int, cy.int, by show Q (.bl _) H; rw [Option.some.inj hc]; exact q⟩
      | _ => cases hc
    | str i => cases e with
      | str j => exact op_le_str pins s σ H x y v u Q I rx ry ⟨i, j, cx.str, cy.str, by show Q (.bl _) H; rw [Option.some.inj hc]; exact q⟩
      | _ => cases hc
    | _ => cases e <;> cases hc
  | gt =>
    cases d with
    | int i => cases e with
      | int j => exact op_gt pins s σ H x y v u Q I rx ry ⟨i, j, cx.int, cy.int, by show Q (.bl _) H; rw [Option.some.inj hc]; exact q⟩
      | _ => cases hc
    | str i => cases e with
      | str j => exact op_gt_str pins s σ H x y v u Q I rx ry ⟨i, j, cx.str, cy.str, by show Q (.bl _) H; rw [Option.some.inj hc]; exact q⟩
      | _ => cases hc
    | _ => cases e <;> cases hc
  | ge =>
    cases d with
    | int i => cases e with
      | int j => exact op_ge pins s σ H x y v u Q I rx ry ⟨i, j, cx.int, cy.int, by show Q (.bl _) H; rw [Option.some.inj hc]; exact q⟩
      | _ => cases hc
    | str i => cases e with
      | str j => exact op_ge_str pins s σ H x y v u Q I rx ry ⟨i, j, cx.str, cy.str, by show Q (.bl _) H; rw [Option.some.inj hc]; exact q⟩
      | _ => cases hc
    | _ => cases e <;> cases hc
  | mem => exact mem_core (k := true) rfl hu I rx ry cx cy hc hd q
  | nmem =>
    have hc2 : (memD d e).map not = some b := hc
    cases he : memD d e with
    | none => rw [he] at hc2; cases hc2
    | some b' =>
      rw [he] at hc2
      have e5 : (!b') = b := Option.some.inj hc2
      exact mem_core (k := false) rfl hu I rx ry cx cy he hd (by rw [← e5] at q; exact q)

end
section
variable {X : Cx} {cA : Nat → Option Addr}
theorem _root_.Mr.LX.at {pins : List (Addr × Obj)} {σ : L2.St} {H : Hp} {s : Shared} {a : Addr} {vs : List V} (I : Inv X pins σ H s) (h : LX X.K H a vs) :
    ∃ (its : List Value) (n : Nat), Vals vs its ∧ vs.length = its.length ∧ vs.length ≤ sizeLine ∧ s.heap.get? a = some { cls := .type "list", data := .seq its.toArray n } := by
  rcases h with h | ⟨its, n, h1, h2, h3⟩
  · obtain ⟨z, its, n, r, e⟩ := h.ok I.hok
    exact ⟨its, n, r, r.length, z, e⟩
  · exact ⟨its, n, h3, h3.length, h2, I.kIn a _ h1⟩

/-! ### binary operators -/
def rCatL (K : PySem.W.Frag) : R2 := fun x y H Q => ∃ l b xs zs, x = .ref l ∧ y = .ref b ∧ LX K H l xs ∧ LX K H b zs ∧ xs.length + zs.length ≤ sizeLine ∧ ∀ p, H p = none → Q (.ref p) (upd H p (.lst (xs ++ zs)))
theorem op_catL : OpR X (binaryOp .Add) (rCatL X.K) := by
  intro pins s σ H x y v u Q I rx ry h
  obtain ⟨l, b, xs, zs, ex, ey, hH, hB, hz, q⟩ := h
  subst ex ey
  cases rx
  cases ry
  obtain ⟨i1, n1, r1, z1, _, e1⟩ := hH.at I
  obtain ⟨i2, n2, r2, z2, _, e2⟩ := hB.at I
  refine PySem.P.add_list e1 e2 ?_ (by rw [List.size_toArray, List.size_toArray]; omega)
  rw [show i1.toArray ++ i2.toArray = (i1 ++ i2).toArray by simp]
  exact ⟨.ref _, _, I.lnew (t' := s.toks) (r1.append r2) (by rw [List.length_append]; omega), rfl, q _ I.fresh⟩
/-- a list that stands as an exact object, times an int -/
theorem rep_core {pins : List (Addr × Obj)} {s : Shared} {σ : L2.St} {H : Hp} {l : Addr} {its : List Value} {n : Nat} {xs : List V} {k : Int} {t : Tok} {Q : VK} (I : Inv X pins σ H s)
    (e : s.heap.get? l = some { cls := .type "list", data := .seq its.toArray n }) (r : Vals xs its) (hl : xs.length = its.length) (h1 : -9223372036854775808 ≤ k) (h2 : k < 9223372036854775808) (hz : xs.length * k.toNat ≤ szL)
    (q : ∀ p, H p = none → Q (.ref p) (upd H p (.lst (List.replicate k.toNat xs).flatten))) : wpAny (model X.prog X.w) X.A (binaryOp .Mult (.ref l) (.int k t)) (EP X pins σ Q) X.xe s := by
  have hn : H l = none ∨ H l ≠ none := Classical.em _
  have hlen : its.toArray.size * k.toNat ≤ sizeLine := by
    rw [List.size_toArray, ← hl]
    exact hz
  have cap : ¬ (2 ^ 63 - 1) / 8 < its.toArray.size * k.toNat := by
    have z : (sizeLine : Nat) ≤ (2 ^ 63 - 1) / 8 := by decide
    omega
  have fit : ¬ (!Builtin.List.listFitsIndex k) = true := by
    rw [fitsIndex_both (by omega) (by omega)]
    simp
  have long : ¬ Builtin.List.listTooLong (its.toArray.size * k.toNat) = true := by
    rw [notLongL hlen]
    simp
  have new : List.foldl (fun a b => a ++ b) #[] (List.replicate (if its.toArray.isEmpty = true then 0 else k.toNat) its.toArray) = (List.replicate k.toNat its).flatten.toArray := by
    have all : ∀ m : Nat, List.foldl (fun a b => a ++ b) #[] (List.replicate m its.toArray) = (List.replicate m its).flatten.toArray := fun m => by
      simpa using foldl_rep its m []
    rw [all]
    cases its with
    | nil => simp
    | cons a r' => simp
  refine wpAny_binaryOp_repeat_ref (T := "list") (U := "int") (by decide) ⟨_, e, rfl⟩ (typeIs_int · k t) noFill_list_mul F.fills_int_mul F.slot_int_rmul repeat_list F.slot_int_index.lookup ?_
  refine call_meets F.slot_int_rmul (typeIs_int s k t) F.entry_int_rmul (F.args_int_rmul_2 _ _) (int___rmul___int_list k t l its.toArray n) ⟨e, rfl, ⟨_, e, rfl⟩, ?_⟩
  refine call_meets F.slot_list_mul ⟨_, e, rfl⟩ F.entry_list_mul (F.args_list_mul_2 _ _) (AutoListH.list___mul___list_int_3 l its.toArray n k t fit cap long) ⟨e, ?_⟩
  rw [new]
  refine ⟨.ref _, _, I.lnew (t' := s.toks) (r.rep k.toNat) ?_, rfl, q _ I.fresh⟩
  rw [PyProof.Rows.lm_len_rep_flat, Nat.mul_comm]
  exact hz
/-- the operands of D-data -/
def rBin (K : PySem.W.Frag) (cA : Nat → Option Addr) (o : BO) : R2 := fun x y H Q => ∃ g d e r, Cv K cA H g d x ∧ Cv K cA H g e y ∧ binD o d e = some r ∧ ∀ v H', New K cA H g r v H' → Q v H'
theorem szL_eq : szL = sizeLine := rfl
theorem flatten_rep {ds : List D} {vs : List V} {K : PySem.W.Frag} {H : Hp} {g : Wd} (h : RepL K cA H g ds vs) : ∀ n : Nat, RepL K cA H g (List.replicate n ds).flatten (List.replicate n vs).flatten
  | 0 => RepL.nil
  | n + 1 => by
    rw [List.replicate_succ, List.replicate_succ, List.flatten_cons, List.flatten_cons]
    exact h.app (flatten_rep h n)
theorem op_binM (o : BO) : OpR X (binaryOp (boOp o)) (rBin X.K cA o) := by
  intro pins s σ H x y v u Q I rx ry h
  obtain ⟨g, d, e, r, cx, cy, hb, q⟩ := h
  cases o with
  | add =>
    cases d with
    | int i => cases e with
      | int j =>
        have er : D.int (i + j) = r := Option.some.inj hb
        exact op_add pins s σ H x y v u Q I rx ry ⟨i, j, cx.int, cy.int, q _ _ (.old (by rw [← er]; rfl) (by rw [← er]; rfl))⟩
      | _ => cases hb
    | str i => cases e with
      | str j =>
        have hb2 : (if i.length + j.length ≤ szL then some (D.str (i ++ j)) else none) = some r := hb
        by_cases c : i.length + j.length ≤ szL
        · rw [if_pos c] at hb2
          have er : D.str (i ++ j) = r := Option.some.inj hb2
          exact op_add_str pins s σ H x y v u Q I rx ry ⟨i, j, cx.str, cy.str, c, q _ _ (.old (by rw [← er]; rfl) (by rw [← er]; rfl))⟩
        · rw [if_neg c] at hb2
          cases hb2
      | _ => cases hb
    | lst xs => cases e with
      | lst ys =>
        have hb2 : (if xs.length + ys.length ≤ szL then some (D.lst (xs ++ ys)) else none) = some r := hb
        by_cases c : xs.length + ys.length ≤ szL
        · rw [if_pos c] at hb2
          have er : D.lst (xs ++ ys) = r := Option.some.inj hb2
          obtain ⟨a, vs, ex, hx, rx1⟩ := cx.lst
          obtain ⟨b, ws, ey, hy, ry1⟩ := cy.lst
          exact op_catL pins s σ H x y v u Q I rx ry ⟨a, b, vs, ws, ex, ey, hx, hy, by rw [← rx1.len, ← ry1.len]; exact c, fun p hp => q _ _ (by rw [← er]; exact .lst hp (rx1.app ry1))⟩
        · rw [if_neg c] at hb2
          cases hb2
      | _ => cases hb
    | tup xs => cases e with
      | tup ys =>
        have hb2 : (if xs.length + ys.length ≤ szL then some (D.tup (xs ++ ys)) else none) = some r := hb
        by_cases c : xs.length + ys.length ≤ szL
        · rw [if_pos c] at hb2
          have er : D.tup (xs ++ ys) = r := Option.some.inj hb2
          have rx0 : Rep X.K cA H g (.tup xs) x := cx.elim id fun ⟨_, _, z⟩ => z.elim
          have ry0 : Rep X.K cA H g (.tup ys) y := cy.elim id fun ⟨_, _, z⟩ => z.elim
          obtain ⟨a, vs, ex, hx, rx1⟩ := cx.tup
          obtain ⟨b, ws, ey, hy, ry1⟩ := cy.tup
          have l1 := rx1.len
          have l2 := ry1.len
          refine op_catA pins s σ H x y v u Q I rx ry ⟨a, b, vs, ws, ex, ey, SqT.of hx, SqT.of hy, by rw [← l1, ← l2]; exact c, fun e0 => ?_, fun _ e0 => ?_, fun _ _ p hp => ?_⟩
          · have e1 : xs = [] := List.eq_nil_of_length_eq_zero (by rw [l1, e0]; rfl)
            refine q _ _ (.old (by rw [← er]; rfl) ?_)
            rw [← er, e1, List.nil_append, ← ey]
            exact ry0
          · have e1 : ys = [] := List.eq_nil_of_length_eq_zero (by rw [l2, e0]; rfl)
            refine q _ _ (.old (by rw [← er]; rfl) ?_)
            rw [← er, e1, List.append_nil, ← ex]
            exact rx0
          · exact q _ _ (by rw [← er]; exact .tup hp (rx1.app ry1))
        · rw [if_neg c] at hb2
          cases hb2
      | _ => cases hb
    | _ => cases e <;> cases hb
  | sub =>
    cases d with
    | int i => cases e with
      | int j =>
        have er : D.int (i - j) = r := Option.some.inj hb
        exact op_sub pins s σ H x y v u Q I rx ry ⟨i, j, cx.int, cy.int, q _ _ (.old (by rw [← er]; rfl) (by rw [← er]; rfl))⟩
      | _ => cases hb
    | _ => cases e <;> cases hb
  | mul =>
    cases d with
    | int i => cases e with
      | int j =>
        have hb2 : (if mulOk i j = true then some (D.int (i * j)) else none) = some r := hb
        by_cases c : mulOk i j = true
        · rw [if_pos c] at hb2
          have er : D.int (i * j) = r := Option.some.inj hb2
          have cm : CMul i j := by
            unfold mulOk at c
            simp only [Bool.or_eq_true, Bool.and_eq_true, decide_eq_true_eq] at c
            have e64 : (2 : Int) ^ 64 = 18446744073709551616 := by decide
            unfold CMul
            rw [e64]
            exact c
          exact op_mul pins s σ H x y v u Q I rx ry ⟨i, j, cx.int, cy.int, cm, q _ _ (.old (by rw [← er]; rfl) (by rw [← er]; rfl))⟩
        · rw [if_neg c] at hb2
          cases hb2
      | _ => cases hb
    | lst xs => cases e with
      | int k =>
        have hb2 : (if (decide (-9223372036854775808 ≤ k) && decide (k < 9223372036854775808) && decide (xs.length * k.toNat ≤ szL)) = true then some (D.lst (List.replicate k.toNat xs).flatten) else none) = some r := hb
        by_cases c : (decide (-9223372036854775808 ≤ k) && decide (k < 9223372036854775808) && decide (xs.length * k.toNat ≤ szL)) = true
        · rw [if_pos c] at hb2
          have er : D.lst (List.replicate k.toNat xs).flatten = r := Option.some.inj hb2
          simp only [Bool.and_eq_true, decide_eq_true_eq] at c
          obtain ⟨a, vs, ex, hx, rx1⟩ := cx.lst
          have l1 := rx1.len
          have ek : y = .int k := cy.int
          subst ex ek
          cases rx
          obtain ⟨t, rfl⟩ := ry
          obtain ⟨its, n, rv, hl, _, e1⟩ := hx.at I
          exact rep_core I e1 rv hl c.1.1 c.1.2 (by rw [← l1]; exact c.2) fun p hp => q _ _ (by rw [← er]; exact .lst hp (flatten_rep rx1 _))
        · rw [if_neg c] at hb2
          cases hb2
      | _ => cases hb
    | _ => cases e <;> cases hb
  | fdiv =>
    cases d with
    | int i => cases e with
      | int j =>
        have hb2 : (if (decide (0 < j) && decide (j < 1073741824)) = true then some (D.int (i / j)) else none) = some r := hb
        by_cases c : (decide (0 < j) && decide (j < 1073741824)) = true
        · rw [if_pos c] at hb2
          have er : D.int (i / j) = r := Option.some.inj hb2
          simp only [Bool.and_eq_true, decide_eq_true_eq] at c
          exact op_fdiv pins s σ H x y v u Q I rx ry ⟨i, j, cx.int, cy.int, c, q _ _ (.old (by rw [← er]; rfl) (by rw [← er]; rfl))⟩
        · rw [if_neg c] at hb2
          cases hb2
      | _ => cases hb
    | _ => cases e <;> cases hb
  | mod =>
    cases d with
    | int i => cases e with
      | int j =>
        have hb2 : (if decide (0 < j) = true then some (D.int (i % j)) else none) = some r := hb
        by_cases c : decide (0 < j) = true
        · rw [if_pos c] at hb2
          have er : D.int (i % j) = r := Option.some.inj hb2
          exact op_mod pins s σ H x y v u Q I rx ry ⟨i, j, cx.int, cy.int, of_decide_eq_true c, q _ _ (.old (by rw [← er]; rfl) (by rw [← er]; rfl))⟩
        · rw [if_neg c] at hb2
          cases hb2
      | _ => cases hb
    | _ => cases e <;> cases hb
  | pow =>
    cases d with
    | int i => cases e with
      | int j =>
        have hb2 : (if (decide (0 ≤ j) && decide (j ≤ 1000000) && decide (i.natAbs < 18446744073709551616)) = true then some (D.int (i ^ j.toNat)) else none) = some r := hb
        by_cases c : (decide (0 ≤ j) && decide (j ≤ 1000000) && decide (i.natAbs < 18446744073709551616)) = true
        · rw [if_pos c] at hb2
          have er : D.int (i ^ j.toNat) = r := Option.some.inj hb2
          simp only [Bool.and_eq_true, decide_eq_true_eq] at c
          exact op_pow pins s σ H x y v u Q I rx ry ⟨i, j, cx.int, cy.int, ⟨c.1.1, c.1.2, by have e64 : (2 : Nat) ^ 64 = 18446744073709551616 := by decide
                                                                                             rw [e64]; exact c.2⟩, q _ _ (.old (by rw [← er]; rfl) (by rw [← er]; rfl))⟩
        · rw [if_neg c] at hb2
          cases hb2
      | _ => cases hb
    | _ => cases e <;> cases hb
end
end Mr
end
section
set_option Elab.async false
set_option linter.all false
set_option maxRecDepth 100000
/-! M2d: expressions, one by one (1). -/
namespace Mr
open PySem PySem.Spec PyProof.Rows L2
abbrev RP (α β : Type) := L2.St → Fm → Hp → Wd → α → β → Prop
section
variable (K : PySem.W.Frag) (cA : Nat → Option Addr)
def rpX : RP D V := fun σ _ H g d v => RepX K cA H g σ d v
def rpA : RP D V := fun σ fr H g d v => (isMut d = true ∧ ∃ p, v = .ref p ∧ Con K cA H g p d ∧ Fresh fr σ g p) ∨ (isMut d = false ∧ RepX K cA H g σ d v)
def rpB : RP Bool Bool := fun _ _ _ _ a b => a = b
def rpL : RP (List D) (List V) := fun _ _ H g ds vs => RepL K cA H g ds vs
def RepXs (σ : L2.St) (H : Hp) (g : Wd) : List D → List V → Prop
  | [], vs => vs = []
  | d :: ds, vs => ∃ v r, vs = v :: r ∧ RepX K cA H g σ d v ∧ RepXs σ H g ds r
def rpP : RP (List D) (List V) := fun σ _ H g ds vs => RepXs K cA σ H g ds vs
/-- what a result's evaluation asks -/
def tV {α β : Type} (rp : RP α β) (ev : Fm → Rs α) : L2.St → Hp → (β → Hp → Prop) → Prop := fun σ H Q => ∃ g fr, Rel K cA H g fr σ ∧ Pst K cA (rp σ) g H σ (ev fr) Q
abbrev tE (ev : Fm → Rs D) : TE := tV K cA (rpX K cA) ev
abbrev tA (ev : Fm → Rs D) : TE := tV K cA (rpA K cA) ev
abbrev tT (ev : Fm → Rs Bool) : TT := tV K cA rpB ev
end
theorem PE.imp {X : Cx} {e : Expr} {t t' : TE} (h : PE X e t) (i : ∀ σ H Q, t' σ H Q → t σ H Q) : PE X e t' := ⟨fun pins s σ H Q I q => h.run pins s σ H Q I (i σ H Q q)⟩
theorem PE.either {X : Cx} {e : Expr} {t t' : TE} (h : PE X e t) (h' : PE X e t') : PE X e (fun σ H Q => t σ H Q ∨ t' σ H Q) :=
  ⟨fun pins s σ H Q I q => q.elim (h.run pins s σ H Q I) (h'.run pins s σ H Q I)⟩
theorem PT.imp {X : Cx} {e : Expr} {t t' : TT} (h : PT X e t) (i : ∀ σ H Q, t' σ H Q → t σ H Q) : PT X e t' := ⟨fun pins s σ H Q I q => h.run pins s σ H Q I (i σ H Q q)⟩
theorem PT.either {X : Cx} {e : Expr} {t t' : TT} (h : PT X e t) (h' : PT X e t') : PT X e (fun σ H Q => t σ H Q ∨ t' σ H Q) :=
  ⟨fun pins s σ H Q I q => q.elim (h.run pins s σ H Q I) (h'.run pins s σ H Q I)⟩
theorem PW.imp {X : Cx} {e : Expr} {t t' : TT} (h : PW X e t) (i : ∀ σ H Q, t' σ H Q → t σ H Q) : PW X e t' := ⟨fun wh pins s σ H Q I q => h.run wh pins s σ H Q I (i σ H Q q)⟩
theorem PA.imp {X : Cx} {es : List Expr} {t t' : TA} (h : PA X es t) (i : ∀ σ H Q, t' σ H Q → t σ H Q) : PA X es t' := ⟨fun pos pins s σ H Q I q => h.run pos pins s σ H Q I (i σ H Q q)⟩

section
variable {K : PySem.W.Frag} {cA : Nat → Option Addr} {H H' : Hp} {g g' : Wd} {fr : Fm} {σ : L2.St} {v : V} {d : D} {Q : VK}
theorem Con.frz {p : Addr} (h : Con K cA H g p d) : Rep K cA H (g.frz p) d (.ref p) := by
  have l := Wd.le_frz g p
  cases d with
  | lst ds =>
    obtain ⟨vs, q, r⟩ := h
    exact ⟨p, vs, rfl, .inl ⟨.inr rfl, .inl q⟩, r.mono l (fun _ _ => rfl) _ _⟩
  | dK ks ds =>
    obtain ⟨kvs, q, s, r⟩ := h
    exact ⟨p, kvs, rfl, .inr rfl, .inl q, s, r.mono l (fun _ _ => rfl) _ _⟩
  | dT ks ds =>
    obtain ⟨kvs, q, s, r⟩ := h
    exact ⟨p, kvs, rfl, .inr rfl, .inl q, s, r.mono l (fun _ _ => rfl) _ _⟩
  | ins C fs ds =>
    obtain ⟨ca, dx, kvs, q, s, r⟩ := h
    exact ⟨p, ca, dx, kvs, rfl, .inr rfl, q, s, r.mono l (fun _ _ => rfl) _ _⟩
  | _ => exact h.elim
/-- fresh, then frozen -/
theorem A_to_X {ev : Fm → Rs D} (h : tE K cA ev σ H Q) : tA K cA ev σ H Q := by
  obtain ⟨g, fr, R, h⟩ := h
  refine ⟨g, fr, R, ?_⟩
  cases e : ev fr with
  | ok d fr' =>
    rw [e] at h
    intro g' v H' l k R' p
    rcases p with ⟨m, a, rfl, c, q⟩ | ⟨m, p⟩
    · exact h (g'.frz a) _ H' (l.trans (Wd.le_frz g' a)) k (R'.frz q c.some) c.frz.x
    · exact h g' v H' l k R' p
  | exc C ds fr' => rw [e] at h; exact h
  | stk => rw [e] at h; exact h
/-- what an operation made is fresh where it can be changed: lists at least -/
theorem Pst.new {d : D} {fr : Fm} (h : Pst K cA (rpX K cA σ) g H σ (.ok d fr) Q) (R : Rel K cA H g fr σ) (n : New K cA H g d v H') : Q v H' := by
  obtain ⟨g', l, k, R', r⟩ := n.frz R
  exact h g' v H' l k R' r.x
theorem Pst.newL {ds : List D} {vs : List V} {p : Addr} {fr : Fm} (h : Pst K cA (rpA K cA σ) g H σ (.ok (.lst ds) fr) Q) (R : Rel K cA H g fr σ) (n : H p = none) (r : RepL K cA H g ds vs) : Q (.ref p) (upd H p (.lst vs)) := by
  have q := R.fresh n
  have kf : Keep g H (upd H p (.lst vs)) := fun a h => upd_ne fun z => h.elim (fun h => q.f (z ▸ h)) fun h => q.pr (z ▸ h)
  exact h g _ _ (Wd.le.refl g) kf (R.other q fun a h => upd_ne h) (.inl ⟨rfl, p, rfl, ⟨vs, upd_same, r.mono (Wd.le.refl g) (fun a h => kf a (.inl h)) _ _⟩, q⟩)
theorem Pst.newA {d : D} {fr : Fm} (h : Pst K cA (rpA K cA σ) g H σ (.ok d fr) Q) (R : Rel K cA H g fr σ) (n : New K cA H g d v H') : Q v H' := by
  cases n with
  | old m r => exact h g v H (Wd.le.refl g) (Keep.refl g H) R (.inr ⟨m, r.x⟩)
  | lst e r => exact Pst.newL h R e r
  | tup e r =>
    obtain ⟨g', l, k, R', r'⟩ := (New.tup e r).frz R
    exact h g' _ _ l k R' (.inr ⟨rfl, r'.x⟩)
theorem Cv.tru {b : Bool} (h : Cv K cA H g d v) (e : truD d = some b) : TruV K v H b := by
  cases d with
  | non =>
    cases e
    rw [h.non]
    exact rfl
  | bl c =>
    cases e
    rw [h.bl]
    exact rfl
  | int i =>
    cases e
    rw [h.int]
    exact rfl
  | str x =>
    have e2 : (if x.length ≤ szL then some ((x.length : Int) != 0) else none) = some b := e
    by_cases c : x.length ≤ szL
    · rw [if_pos c] at e2
      cases e2
      rw [h.str]
      exact ⟨c, rfl⟩
    · rw [if_neg c] at e2
      cases e2
  | lst ds =>
    cases e
    obtain ⟨a, vs, rfl, q, r⟩ := h.lst
    refine .inl ⟨vs, q.sq, ?_⟩
    have l := r.len
    cases ds <;> cases vs <;> first | rfl | (cases l)
  | tup ds =>
    cases e
    obtain ⟨a, vs, rfl, q, r⟩ := h.tup
    refine .inr (.inl ⟨vs, SqT.of q, ?_⟩)
    have l := r.len
    cases ds <;> cases vs <;> first | rfl | (cases l)
  | _ => cases e
theorem set_get {α : Type} {l : List α} {i j : Nat} {x y : α} (h : (l.set i x)[j]? = some y) : (j = i ∧ y = x) ∨ (j ≠ i ∧ l[j]? = some y) := by
  by_cases e : j = i
  · subst e
    by_cases hl : j < l.length
    · rw [List.getElem?_set_self hl] at h
      exact .inl ⟨rfl, (Option.some.inj h).symm⟩
    · rw [List.getElem?_eq_none (by rw [List.length_set]; omega)] at h
      cases h
  · rw [List.getElem?_set_ne (Ne.symm e)] at h
    exact .inr ⟨e, h⟩
theorem get_lt {α : Type} {l : List α} {i : Nat} {x : α} (h : l[i]? = some x) : i < l.length := (List.getElem?_eq_some_iff.mp h).1
/-- a slot's own object is frozen -/
theorem Rel.frzS (R : Rel K cA H g fr σ) {i : Nat} {a : Addr} (e : fr.env[i]? = some (Sl.own d)) (s : σ[i]? = some (some (.ref a))) : Rel K cA H (g.frz a) ⟨fr.env.set i (.val d), fr.st⟩ σ ∧ Rep K cA H (g.frz a) d (.ref a) := by
  obtain ⟨a', s', c, f, p, m⟩ := R.own i d e
  rw [s] at s'
  cases s'
  have l := Wd.le_frz g a
  refine ⟨⟨fun j c' h => ?_, fun j c' h => ?_, fun j k c1 c2 b h1 h2 => ?_, R.sto, fun k c' b h1 h2 => ?_, R.nod, fun b h => ?_, R.pok, by show (fr.env.set i _).length = _; rw [List.length_set]; exact R.len⟩, c.frz⟩
  · rcases set_get h with ⟨e1, e2⟩ | ⟨e1, e2⟩
    · cases e2
      exact ⟨_, e1 ▸ s, c.frz⟩
    · obtain ⟨w, q, r⟩ := R.val j c' e2
      exact ⟨w, q, r.mono l fun _ _ => rfl⟩
  · rcases set_get h with ⟨e1, e2⟩ | ⟨e1, e2⟩
    · cases e2
    · obtain ⟨b, q, r, f1, f2, f3⟩ := R.own j c' e2
      exact ⟨b, q, r.mono l (fun _ _ => rfl) rfl, fun z => z.elim f1 fun z => e1 (R.two j i c' d b e2 e q (z ▸ s)), f2, f3⟩
  · rcases set_get h1 with ⟨e1, e2⟩ | ⟨e1, e2⟩
    · cases e2
    · rcases set_get h2 with ⟨e3, e4⟩ | ⟨e3, e4⟩
      · cases e4
      · exact R.two j k c1 c2 b e2 e4
  · obtain ⟨r, f1, f2⟩ := R.cel k c' b h1 h2
    exact ⟨r.mono l (fun _ _ => rfl) rfl, fun z => z.elim f1 fun z => m (z ▸ List.mem_of_getElem? h2), f2⟩
  · rcases h with h | h
    · exact R.fok b h
    · exact ⟨h ▸ c.some, h ▸ p⟩
end

/-! ### the context -/
/-! ### the nodes -/
section
variable {X : Cx} {cA : Nat → Option Addr} {gv : Nat → Option D} {c : Cal} {a b e : DE} {ea eb ec : Expr} {pos : Pos}
theorem SA_SE {d : DE} {x : Expr} (h : (fun (d : DE) (x : Expr) => PE X x (tA X.K cA (evalE gv c d))) d x) : (fun (d : DE) (x : Expr) => PE X x (tE X.K cA (evalE gv c d))) d x := PE.imp h fun _ _ _ q => A_to_X q
theorem s_var {i : Nat} {x : Str} (hN : X.N[i]? = some x) (hv : Vis X.env.scope x) (hd : (x == ("__debug__" : Str)) = false) (hcd : (x == ("__classdict__" : Str)) = false) : (fun (d : DE) (x : Expr) => PE X x (tE X.K cA (evalE gv c d))) (.var i) (.Name x pos) := by
  refine PE.imp (pe_var hN hv hd hcd) fun σ H Q q => ?_
  obtain ⟨g, fr, R, h⟩ := q
  have h2 : Pst X.K cA (rpX X.K cA σ) g H σ (getS fr i) Q := h
  unfold getS at h2
  cases q : fr.env[i]? with
  | none => rw [q] at h2; exact h2.elim
  | some s =>
    rw [q] at h2
    cases s with
    | un => exact h2.elim
    | val d =>
      obtain ⟨v, e1, r⟩ := R.val i d q
      exact ⟨v, e1, Pst.ok h2 R r.x⟩
    | own d =>
      obtain ⟨a, e1, _⟩ := R.own i d q
      obtain ⟨R', r⟩ := R.frzS q e1
      exact ⟨_, e1, h2 _ _ H (Wd.le_frz g a) (Keep.refl g H) R' r.x⟩
theorem s_pk {i : Nat} {x : Str} (hN : X.N[i]? = some x) (hv : Vis X.env.scope x) (hd : (x == ("__debug__" : Str)) = false) (hcd : (x == ("__classdict__" : Str)) = false) : (fun (d : DE) (x : Expr) => PE X x (tE X.K cA (evalE gv c d))) (.pk i) (.Name x pos) := by
  refine PE.imp (pe_var hN hv hd hcd) fun σ H Q q => ?_
  obtain ⟨g, fr, R, h⟩ := q
  have h2 : Pst X.K cA (rpX X.K cA σ) g H σ (peek fr i) Q := h
  unfold peek at h2
  cases q : fr.env[i]? with
  | none => rw [q] at h2; exact h2.elim
  | some s =>
    rw [q] at h2
    cases s with
    | un => exact h2.elim
    | val d =>
      obtain ⟨v, e1, r⟩ := R.val i d q
      exact ⟨v, e1, Pst.ok h2 R r.x⟩
    | own d =>
      obtain ⟨a, e1, _⟩ := R.own i d q
      exact ⟨_, e1, Pst.ok h2 R e1⟩
theorem s_con {d : D} {k : Const} {j : Nat} {v : V} (h : PE X (.Constant k j pos) (tC v)) (r : ∀ H g, Rep X.K cA H g d v) : (fun (d : DE) (x : Expr) => PE X x (tE X.K cA (evalE gv c d))) (.con d) (.Constant k j pos) :=
  PE.imp h fun σ H Q ⟨g, fr, R, q⟩ => Pst.ok (rp := rpX X.K cA σ) q R (r H g).x
theorem s_glb {i : Nat} {x : Str} {v : V} {u : Value} (hg : Gl X x) (hm : X.mg x = some u) (r : RelV v u) (hr : ∀ d, gv i = some d → ∀ H g, Rep X.K cA H g d v) (hd : (x == ("__debug__" : Str)) = false) : (fun (d : DE) (x : Expr) => PE X x (tE X.K cA (evalE gv c d))) (.glb i) (.Name x pos) := by
  refine PE.imp (pe_glob hg hm r hd) fun σ H Q q => ?_
  obtain ⟨g, fr, R, h⟩ := q
  obtain ⟨d, e, h2⟩ := Pst.opt (o := gv i) h
  exact Pst.ok (rp := rpX X.K cA σ) h2 R (hr d e H g).x
theorem bind_some {α β : Type} {o : Option α} {f : α → Option β} {r : β} (h : o.bind f = some r) : ∃ x, o = some x ∧ f x = some r := by
  cases o with
  | none => cases h
  | some x => exact ⟨x, rfl, h⟩
theorem map_some' {α β : Type} {o : Option α} {f : α → β} {r : β} (h : o.map f = some r) : ∃ x, o = some x ∧ f x = r := by
  cases o with
  | none => cases h
  | some x => exact ⟨x, rfl, Option.some.inj h⟩
/-- two operands, read at the end -/
theorem two_ops {α β : Type} {rp : RP α β} {f : D → D → Option α} {σ : L2.St} {H : Hp} {Q : β → Hp → Prop}
    (q : tV X.K cA rp (fun fr => (evalE gv c a fr).bind fun x fr => (evalE gv c b fr).bind fun y fr => opt ((deref fr x).bind fun x => (deref fr y).bind fun y => f x y) fr) σ H Q)
    {R' : V → V → Hp → Prop} (k : ∀ (g : Wd) (fr : Fm) (H2 : Hp) (d e : D) (x y : V) (r : α), Rel X.K cA H2 g fr σ → Cv X.K cA H2 g d x → Cv X.K cA H2 g e y → f d e = some r → Pst X.K cA (rp σ) g H2 σ (.ok r fr) Q → R' x y H2) :
    tE X.K cA (evalE gv c a) σ H fun x H1 => tE X.K cA (evalE gv c b) σ H1 fun y H2 => R' x y H2 := by
  obtain ⟨g, fr, R, h⟩ := q
  refine ⟨g, fr, R, Pst.bind h fun d1 fr1 g1 v1 H1 l1 k1 R1 p1 h1 => ⟨g1, fr1, R1, Pst.bind h1 fun d2 fr2 g2 v2 H2 l2 k2 R2 p2 h2 => ?_⟩⟩
  obtain ⟨r, e1, h3⟩ := Pst.opt h2
  obtain ⟨x, e2, e3⟩ := bind_some e1
  obtain ⟨y, e4, e5⟩ := bind_some e3
  exact k g2 fr2 H2 x y v1 v2 r R2 (R2.cv (p1.mono l2 k2.f) e2) (R2.cv p2 e4) e5 h3
theorem s_bin (o : BO) (ha : (fun (d : DE) (x : Expr) => PE X x (tE X.K cA (evalE gv c d))) a ea) (hb : (fun (d : DE) (x : Expr) => PE X x (tE X.K cA (evalE gv c d))) b eb) : (fun (d : DE) (x : Expr) => PE X x (tA X.K cA (evalE gv c d))) (.bin o a b) (.BinOp ea (boOp o) eb pos) := by
  refine PE.imp (pe_op (op_binM (cA := cA) o) ha hb) fun σ H Q q => ?_
  exact two_ops (rp := rpA X.K cA) (R' := fun x y H2 => rBin X.K cA o x y H2 Q) q fun g fr H2 d e x y r R cx cy hf h => ⟨g, d, e, r, cx, cy, hf, fun v H' n => Pst.newA h R n⟩
theorem s_neg (ha : (fun (d : DE) (x : Expr) => PE X x (tE X.K cA (evalE gv c d))) a ea) : (fun (d : DE) (x : Expr) => PE X x (tE X.K cA (evalE gv c d))) (.neg a) (.UnaryOp .USub ea pos) := by
  refine PE.imp (pe_un un_neg ha) fun σ H Q q => ?_
  obtain ⟨g, fr, R, h⟩ := q
  refine ⟨g, fr, R, Pst.bind h fun d1 fr1 g1 v1 H1 l1 k1 R1 p1 h1 => ?_⟩
  cases d1 with
  | int i => exact ⟨i, p1, Pst.ok h1 R1 rfl⟩
  | _ => exact h1.elim
theorem Pst.optB {α β γ : Type} {K : PySem.W.Frag} {rp : Fm → Hp → Wd → α → β → Prop} {g : Wd} {H : Hp} {σ : L2.St} {o : Option γ} {fr : Fm} {k : γ → Fm → Rs α} {Q : β → Hp → Prop} (h : Pst K cA rp g H σ ((Mr.opt o fr).bind k) Q) :
    ∃ a, o = some a ∧ Pst K cA rp g H σ (k a fr) Q := by
  cases o with
  | none => exact h.elim
  | some a => exact ⟨a, rfl, h⟩
/-- a value's truth, asked -/
theorem Pst.test {α β : Type} {rp : Fm → Hp → Wd → α → β → Prop} {g : Wd} {H : Hp} {σ : L2.St} {d : D} {v : V} {fr : Fm} {k : Bool → Fm → Rs α} {Q : β → Hp → Prop} (R : Rel X.K cA H g fr σ) (r : RepX X.K cA H g σ d v)
    (h : Pst X.K cA rp g H σ ((Mr.test d fr).bind k) Q) : ∃ b, TruV X.K v H b ∧ Pst X.K cA rp g H σ (k b fr) Q := by
  obtain ⟨b, e, h2⟩ := Pst.optB h
  obtain ⟨x, e1, e2⟩ := bind_some e
  exact ⟨b, (R.cv r e1).tru e2, h2⟩
theorem s_nt (ha : (fun (d : DE) (x : Expr) => PE X x (tE X.K cA (evalE gv c d))) a ea) : (fun (d : DE) (x : Expr) => PE X x (tE X.K cA (evalE gv c d))) (.nt a) (.UnaryOp .Not ea pos) := by
  refine PE.imp (pe_notT ha) fun σ H Q q => ?_
  obtain ⟨g, fr, R, h⟩ := q
  refine ⟨g, fr, R, Pst.bind h fun d1 fr1 g1 v1 H1 l1 k1 R1 p1 h1 => ?_⟩
  obtain ⟨k, t, h2⟩ := Pst.test R1 p1 h1
  exact ⟨k, t, Pst.ok h2 R1 rfl⟩
/-- a comparison: but for a dict's keys -/
theorem s_cmp0 (o : CO) (hu : X.A.units + 66 < cLine) (hm : behindInMarks (coOp o) eb = false) (ha : (fun (d : DE) (x : Expr) => PE X x (tE X.K cA (evalE gv c d))) a ea) (hb : (fun (d : DE) (x : Expr) => PE X x (tE X.K cA (evalE gv c d))) b eb) :
    PE X (.Compare ea [coOp o] [eb] pos) (tOp (rCmp X.K cA o) (tE X.K cA (evalE gv c a)) (tE X.K cA (evalE gv c b))) := pe_cmpR (op_cmpM hu o) ha hb hm
/-- what is looked up in a dict -/
theorem look_val {K : PySem.W.Frag} {H : Hp} {g : Wd} {κ : Type} [DecidableEq κ] : ∀ {kvs : List (κ × V)} {ks : List κ} {ds : List D} {q : κ}, kvs.map (·.1) = ks → RepL K cA H g ds (kvs.map (·.2)) →
    (∀ d, look ks ds q = some d → ∃ v, valV kvs q = some v ∧ Rep K cA H g d v) ∧ (look ks ds q = none → valV kvs q = none)
  | [], ks, ds, q, e, r => by
    cases e
    exact ⟨fun d h => by (unfold look at h; split at h <;> first | (rename_i h1; cases h1) | cases h), fun _ => rfl⟩
  | (k, v) :: kvs, ks, ds, q, e, r => by
    cases e
    cases ds with
    | nil =>
      have e1 : v :: kvs.map (·.2) = [] := r
      cases e1
    | cons d ds =>
      obtain ⟨w, ws, e1, r1, r2⟩ := r
      have e2 : v :: kvs.map (·.2) = w :: ws := e1
      cases e2
      obtain ⟨i1, i2⟩ := look_val (q := q) (kvs := kvs) rfl r2
      have el : look (k :: kvs.map (·.1)) (d :: ds) q = if k = q then some d else look (kvs.map (·.1)) ds q := rfl
      by_cases c : k = q
      · have ev : valV ((k, v) :: kvs) q = some v := valV_pos c
        refine ⟨fun d' h => ?_, fun h => ?_⟩
        · have h2 : (if k = q then some d else look (kvs.map (·.1)) ds q) = some d' := h
          rw [if_pos c] at h2
          cases h2
          exact ⟨v, ev, r1⟩
        · have h2 : (if k = q then some d else look (kvs.map (·.1)) ds q) = none := h
          rw [if_pos c] at h2
          cases h2
      · have ev : valV ((k, v) :: kvs) q = valV kvs q := valV_neg c
        refine ⟨fun d' h => ?_, fun h => ?_⟩
        · have h2 : (if k = q then some d else look (kvs.map (·.1)) ds q) = some d' := h
          rw [if_neg c] at h2
          rw [ev]
          exact i1 d' h2
        · have h2 : (if k = q then some d else look (kvs.map (·.1)) ds q) = none := h
          rw [if_neg c] at h2
          rw [ev]
          exact i2 h2
theorem keyD_kV {K : PySem.W.Frag} {H : Hp} {g : Wd} {d : D} {k : Key} {v : V} (h : Rep K cA H g d v) (e : keyD d = some k) : v = kV k := by
  cases d with
  | int i =>
    cases e
    exact h
  | str x =>
    cases e
    exact h
  | _ => cases e
theorem keysD_kV {K : PySem.W.Frag} {H : Hp} {g : Wd} : ∀ {ds : List D} {ks : List Key} {vs : List V}, RepL K cA H g ds vs → keysD ds = some ks → vs = ks.map kV
  | [], ks, vs, h, e => by
    cases e
    exact h
  | d :: ds, ks, vs, h, e => by
    obtain ⟨w, r, rfl, h1, h2⟩ := h
    have e2 : (match keyD d, keysD ds with
      | some k, some ks => some (k :: ks)
      | _, _ => none) = some ks := e
    cases e3 : keyD d with
    | none => rw [e3] at e2; cases e2
    | some k =>
      cases e4 : keysD ds with
      | none => rw [e3, e4] at e2; cases e2
      | some kr =>
        rw [e3, e4] at e2
        cases e2
        rw [keyD_kV h1 e3, keysD_kV h2 e4]
        rfl
/-- a dict's lookup, by the library's reading: y is the key -/
theorem dget_of {K : PySem.W.Frag} {H : Hp} {g : Wd} {m d : D} {x y : V} (cx : Cv K cA H g m x) (cy : Cv K cA H g d y) {r : Option D}
    (h : (∃ ks vs k, m = .dK ks vs ∧ keyD d = some k ∧ r = look ks vs k) ∨ ∃ ks vs ds k, m = .dT ks vs ∧ d = .tup ds ∧ keysD ds = some k ∧ r = look ks vs k) :
    ∃ a o, x = .ref a ∧ DGet H a y o ∧ (∀ e, r = some e → ∃ v, o = some v ∧ Rep K cA H g e v) ∧ (r = none → o = none) := by
  rcases h with ⟨ks, vs, k, rfl, ek, rfl⟩ | ⟨ks, vs, ds, k, rfl, rfl, ek, rfl⟩
  · obtain ⟨a, kvs, rfl, hd, e1, e2⟩ := cx.dK
    obtain ⟨l1, l2⟩ := look_val (q := k) e1 e2
    have ey : y = kV k := by
      cases d with
      | int i =>
        cases ek
        exact cy.int
      | str z =>
        cases ek
        exact cy.str
      | _ => cases ek
    exact ⟨a, valV kvs k, rfl, .inl ⟨kvs, k, hd, ey, rfl⟩, fun e h => let ⟨v, h1, h2⟩ := l1 e h; ⟨v, h1, h2⟩, l2⟩
  · obtain ⟨a, kvs, rfl, hd, e1, e2⟩ := cx.dT
    obtain ⟨l1, l2⟩ := look_val (q := k) e1 e2
    obtain ⟨b, ws, rfl, hq, rw'⟩ := cy.tup
    have ew : ws = k.map kV := keysD_kV rw' ek
    have hb := hq
    rw [ew] at hb
    exact ⟨a, valV kvs k, rfl, .inr ⟨kvs, k, b, hd, rfl, hb, rfl⟩, fun e h => let ⟨v, h1, h2⟩ := l1 e h; ⟨v, h1, h2⟩, l2⟩
end
end Mr
end
section
set_option Elab.async false
set_option linter.all false
set_option maxRecDepth 100000
/-! M2e: expressions, one by one (2). -/
namespace Mr
open PySem PySem.Spec PyProof.Rows L2
section
variable {X : Cx} {cA : Nat → Option Addr} {gv : Nat → Option D} {c : Cal} {a b e : DE} {ea eb ec : Expr} {pos : Pos}
/-- the reading of k in a dict -/
def rMemD (K : PySem.W.Frag) (cA : Nat → Option Addr) (o : CO) : R2 := fun x y H Q => ∃ g d e b, Cv K cA H g d x ∧ Cv K cA H g e y ∧ cmpD o d e = some b ∧ isDic e = true ∧ Q (.bl b) H
theorem memD_dic {d e : D} {b : Bool} (h : memD d e = some b) (hd : isDic e = true) :
    ∃ r : Option D, r.isSome = b ∧ ((∃ ks vs k, e = .dK ks vs ∧ keyD d = some k ∧ r = look ks vs k) ∨ ∃ ks vs ds k, e = .dT ks vs ∧ d = .tup ds ∧ keysD ds = some k ∧ r = look ks vs k) := by
  cases e with
  | dK ks vs =>
    have h2 : (match keyD d with
      | some k => some (look ks vs k).isSome
      | none => none) = some b := h
    cases ek : keyD d with
    | none => rw [ek] at h2; cases h2
    | some k =>
      rw [ek] at h2
      exact ⟨look ks vs k, Option.some.inj h2, .inl ⟨ks, vs, k, rfl, rfl, rfl⟩⟩
  | dT ks vs =>
    cases d with
    | tup ds =>
      have h2 : (match keysD ds with
        | some k => some (look ks vs k).isSome
        | none => none) = some b := h
      cases ek : keysD ds with
      | none => rw [ek] at h2; cases h2
      | some k =>
        rw [ek] at h2
        exact ⟨look ks vs k, Option.some.inj h2, .inr ⟨ks, vs, ds, k, rfl, rfl, ek, rfl⟩⟩
    | _ => cases h
  | _ => cases hd
theorem some_none {α β : Type} {r : Option α} {o : Option β} (h1 : ∀ e, r = some e → ∃ v, o = some v) (h2 : r = none → o = none) : o.isSome = r.isSome := by
  cases r with
  | none => rw [h2 rfl]; rfl
  | some e =>
    obtain ⟨v, q⟩ := h1 e rfl
    rw [q]
    rfl
/-- both readings of a comparison -/
theorem s_cmpV (o : CO) (hu : X.A.units + 66 < cLine) (hm : behindInMarks (coOp o) eb = false) (ha : (fun (d : DE) (x : Expr) => PE X x (tE X.K cA (evalE gv c d))) a ea) (hb : (fun (d : DE) (x : Expr) => PE X x (tE X.K cA (evalE gv c d))) b eb) :
    PE X (.Compare ea [coOp o] [eb] pos) (fun σ H Q => tOp (rCmp X.K cA o) (tE X.K cA (evalE gv c a)) (tE X.K cA (evalE gv c b)) σ H Q ∨ tOp (rMemD X.K cA o) (tE X.K cA (evalE gv c a)) (tE X.K cA (evalE gv c b)) σ H Q) := by
  have key : ∀ {x y : V} {H : Hp} {Q : VK} {k : CO}, rMemD X.K cA k x y H Q → (k = .mem ∧ ∃ p r, y = .ref p ∧ DGet H p x r ∧ Q (.bl r.isSome) H) ∨ (k = .nmem ∧ ∃ p r, y = .ref p ∧ DGet H p x r ∧ Q (.bl (!r.isSome)) H) := by
    intro x y H Q k h
    obtain ⟨g, d, e, b, cx, cy, hc, hd, q⟩ := h
    have fin : ∀ {b}, memD d e = some b → ∃ p r, y = .ref p ∧ DGet H p x r ∧ r.isSome = b := fun {b} h => by
      obtain ⟨r, e1, e2⟩ := memD_dic h hd
      obtain ⟨p, r', e3, e4, e5, e6⟩ := dget_of cy cx e2
      refine ⟨p, r', e3, e4, ?_⟩
      rw [← e1]
      exact some_none (fun e h => let ⟨v, h1, _⟩ := e5 e h; ⟨v, h1⟩) e6
    have nod : ∀ {z : Option Bool}, isDic e = true → eqD d e = z → z = none := fun {z} hd he => by
      rw [← he]
      unfold eqD
      have le : lay e = false := by cases e <;> first | rfl | (cases hd)
      rw [le, Bool.and_false, Bool.false_and]
      rfl
    cases k with
    | mem =>
      obtain ⟨p, r, e1, e2, e3⟩ := fin hc
      exact .inl ⟨rfl, p, r, e1, e2, by rw [e3]; exact q⟩
    | nmem =>
      obtain ⟨b', e4, e5⟩ := map_some' (show (memD d e).map not = some b from hc)
      obtain ⟨p, r, e1, e2, e3⟩ := fin e4
      exact .inr ⟨rfl, p, r, e1, e2, by rw [e3, e5]; exact q⟩
    | eq => exact absurd (show eqD d e = some b from hc) (by rw [nod hd rfl]; simp)
    | ne =>
      obtain ⟨b', e4, e5⟩ := map_some' (show (eqD d e).map not = some b from hc)
      exact absurd e4 (by rw [nod hd rfl]; simp)
    | _ => cases e <;> first | (cases hd; done) | (cases d <;> cases hc)
  refine PE.either (pe_cmpR (op_cmpM hu o) ha hb hm) ?_
  have hu1 : X.A.units + 1 < cLine := by omega
  by_cases c1 : o = .mem
  · subst c1
    refine PE.imp (pe_cmp (pc_din hu1 ha hb) hm) fun σ H Q q => ?_
    obtain ⟨g, fr, R, h⟩ := q
    refine ⟨g, fr, R, Pst.imp h fun y H1 q1 => ?_⟩
    obtain ⟨g2, fr2, R2, h2⟩ := q1
    refine ⟨g2, fr2, R2, Pst.imp h2 fun x H2 q2 => ?_⟩
    rcases key q2 with ⟨_, p, r, e1, e2, e3⟩ | ⟨z, _⟩
    · exact ⟨p, r, e1, e2, e3⟩
    · cases z
  · by_cases c2 : o = .nmem
    · subst c2
      refine PE.imp (pe_cmp (pc_dnotin hu1 ha hb) hm) fun σ H Q q => ?_
      obtain ⟨g, fr, R, h⟩ := q
      refine ⟨g, fr, R, Pst.imp h fun y H1 q1 => ?_⟩
      obtain ⟨g2, fr2, R2, h2⟩ := q1
      refine ⟨g2, fr2, R2, Pst.imp h2 fun x H2 q2 => ?_⟩
      rcases key q2 with ⟨z, _⟩ | ⟨_, p, r, e1, e2, e3⟩
      · cases z
      · exact ⟨p, r, e1, e2, e3⟩
    · refine PE.imp (pe_cmpR (op_cmpM (cA := cA) hu o) ha hb hm) fun σ H Q q => ?_
      obtain ⟨g, fr, R, h⟩ := q
      refine ⟨g, fr, R, Pst.imp h fun y H1 q1 => ?_⟩
      obtain ⟨g2, fr2, R2, h2⟩ := q1
      refine ⟨g2, fr2, R2, Pst.imp h2 fun x H2 q2 => ?_⟩
      rcases key q2 with ⟨z, _⟩ | ⟨z, _⟩
      · exact absurd z c1
      · exact absurd z c2
/-- which of two readings fits is known from the run -/
theorem split_ops {α β : Type} {rp : RP α β} {f : D → D → Option α} {pd : D → D → Prop} {σ : L2.St} {H : Hp} {Q : β → Hp → Prop} {R1 R2 : V → V → Hp → Prop}
    (q : tV X.K cA rp (fun fr => (evalE gv c a fr).bind fun x fr => (evalE gv c b fr).bind fun y fr => opt ((deref fr x).bind fun x => (deref fr y).bind fun y => f x y) fr) σ H Q)
    (k1 : ∀ (g : Wd) (fr : Fm) (H2 : Hp) (d e : D) (x y : V) (r : α), Rel X.K cA H2 g fr σ → Cv X.K cA H2 g d x → Cv X.K cA H2 g e y → f d e = some r → ¬ pd d e → Pst X.K cA (rp σ) g H2 σ (.ok r fr) Q → R1 x y H2)
    (k2 : ∀ (g : Wd) (fr : Fm) (H2 : Hp) (d e : D) (x y : V) (r : α), Rel X.K cA H2 g fr σ → Cv X.K cA H2 g d x → Cv X.K cA H2 g e y → f d e = some r → pd d e → Pst X.K cA (rp σ) g H2 σ (.ok r fr) Q → R2 x y H2) :
    (tE X.K cA (evalE gv c a) σ H fun x H1 => tE X.K cA (evalE gv c b) σ H1 fun y H2 => R1 x y H2) ∨ (tE X.K cA (evalE gv c a) σ H fun x H1 => tE X.K cA (evalE gv c b) σ H1 fun y H2 => R2 x y H2) := by
  obtain ⟨g, fr, R, h⟩ := q
  by_cases cc : ∃ d1 fr1 d2 fr2 d e, evalE gv c a fr = .ok d1 fr1 ∧ evalE gv c b fr1 = .ok d2 fr2 ∧ deref fr2 d1 = some d ∧ deref fr2 d2 = some e ∧ pd d e
  · obtain ⟨d1, fr1, d2, fr2, d, e, z1, z2, z3, z4, z5⟩ := cc
    refine .inr ⟨g, fr, R, Pst.bindE h fun d1' fr1' y1 g1 v1 H1 l1 k1 R1 p1 h1 => ⟨g1, fr1', R1, Pst.bindE h1 fun d2' fr2' y2 g2 v2 H2 l2 k2' R2 p2 h2 => ?_⟩⟩
    rw [z1] at y1
    cases y1
    rw [z2] at y2
    cases y2
    obtain ⟨r, e1, h3⟩ := Pst.opt h2
    obtain ⟨x, e2, e3⟩ := bind_some e1
    obtain ⟨y, e4, e5⟩ := bind_some e3
    rw [z3] at e2
    cases e2
    rw [z4] at e4
    cases e4
    exact k2 g2 fr2 H2 d e v1 v2 r R2 (R2.cv (p1.mono l2 k2'.f) z3) (R2.cv p2 z4) e5 z5 h3
  · refine .inl ⟨g, fr, R, Pst.bindE h fun d1 fr1 y1 g1 v1 H1 l1 k1' R1 p1 h1 => ⟨g1, fr1, R1, Pst.bindE h1 fun d2 fr2 y2 g2 v2 H2 l2 k2' R2 p2 h2 => ?_⟩⟩
    obtain ⟨r, e1, h3⟩ := Pst.opt h2
    obtain ⟨x, e2, e3⟩ := bind_some e1
    obtain ⟨y, e4, e5⟩ := bind_some e3
    exact k1 g2 fr2 H2 x y v1 v2 r R2 (R2.cv (p1.mono l2 k2'.f) e2) (R2.cv p2 e4) e5 (fun z => cc ⟨d1, fr1, d2, fr2, x, y, y1, y2, e2, e4, z⟩) h3
theorem s_cmp (o : CO) (hu : X.A.units + 66 < cLine) (hm : behindInMarks (coOp o) eb = false) (ha : (fun (d : DE) (x : Expr) => PE X x (tE X.K cA (evalE gv c d))) a ea) (hb : (fun (d : DE) (x : Expr) => PE X x (tE X.K cA (evalE gv c d))) b eb) : (fun (d : DE) (x : Expr) => PE X x (tE X.K cA (evalE gv c d))) (.cmp o a b) (.Compare ea [coOp o] [eb] pos) := by
  refine PE.imp (s_cmpV o hu hm ha hb) fun σ H Q q => ?_
  refine split_ops (rp := rpX X.K cA) (f := fun x y => (cmpD o x y).map .bl) (pd := fun _ e => isDic e = true) q ?_ ?_
  · intro g fr H2 d e x y r R cx cy hf hn h
    obtain ⟨b', e1, e2⟩ := map_some' hf
    exact ⟨g, d, e, b', cx, cy, e1, Bool.eq_false_iff.mpr hn, Pst.ok h R (by rw [← e2]; rfl)⟩
  · intro g fr H2 d e x y r R cx cy hf hn h
    obtain ⟨b', e1, e2⟩ := map_some' hf
    exact ⟨g, d, e, b', cx, cy, e1, hn, Pst.ok h R (by rw [← e2]; rfl)⟩
end
end Mr
end
section
set_option Elab.async false
set_option linter.all false
set_option maxRecDepth 100000
/-! M2f: expressions, one by one (3). -/
namespace Mr
open PySem PySem.Spec PyProof.Rows L2
theorem cmp_nodic {o : CO} {d e : D} {b : Bool} (h : cmpD o d e = some b) (n : isMem o = false) : isDic e = false := by
  have nod : isDic e = true → eqD d e = none := fun hd => by
    unfold eqD
    have le : lay e = false := by cases e <;> first | rfl | (cases hd)
    rw [le, Bool.and_false, Bool.false_and]
    rfl
  cases hd : isDic e with
  | false => rfl
  | true =>
    exfalso
    cases o with
    | mem => cases n
    | nmem => cases n
    | eq =>
      have := nod hd
      rw [show eqD d e = some b from h] at this
      cases this
    | ne =>
      obtain ⟨b', e4, e5⟩ := map_some' (show (eqD d e).map not = some b from h)
      rw [nod hd] at e4
      cases e4
    | _ => cases e <;> first | (cases hd; done) | (cases d <;> cases h)
section
variable {K : PySem.W.Frag} {cA : Nat → Option Addr} {H : Hp} {g : Wd} {σ : L2.St} {α β : Type} {rp : Fm → Hp → Wd → α → β → Prop} {Q : β → Hp → Prop}
theorem Pst.noLoc {d : D} {fr : Fm} {k : D → Fm → Rs α} (h : Pst K cA rp g H σ ((Mr.noLoc d fr).bind k) Q) : isLoc d = false ∧ Pst K cA rp g H σ (k d fr) Q := by
  unfold Mr.noLoc at h
  cases e : isLoc d with
  | true => rw [e] at h; exact h.elim
  | false => rw [e] at h; exact ⟨rfl, h⟩
theorem Pst.ite {c : Prop} [Decidable c] {r r' : Rs α} (h : Pst K cA rp g H σ (if c then r else r') Q) : (c ∧ Pst K cA rp g H σ r Q) ∨ (¬ c ∧ Pst K cA rp g H σ r' Q) := by
  by_cases z : c
  · rw [if_pos z] at h
    exact .inl ⟨z, h⟩
  · rw [if_neg z] at h
    exact .inr ⟨z, h⟩
theorem Pst.iteS {c : Prop} [Decidable c] {r : Rs α} (h : Pst K cA rp g H σ (if c then r else .stk) Q) : c ∧ Pst K cA rp g H σ r Q := by
  by_cases z : c
  · rw [if_pos z] at h
    exact ⟨z, h⟩
  · rw [if_neg z] at h
    exact h.elim
theorem Pst.matchB {c : Bool} {r r' : Rs α} (h : Pst K cA rp g H σ (if c then r else r') Q) : if c = true then Pst K cA rp g H σ r Q else Pst K cA rp g H σ r' Q := by
  cases c <;> exact h
end
def tstE (gv : Nat → Option D) (c : Cal) (d : DE) : Fm → Rs Bool := fun fr => (evalE gv c d fr).bind fun x fr => test x fr
def tsA (gv : Nat → Option D) (c : Cal) (ds : List DE) : Fm → Rs Bool := fun fr => (evalAnd gv c ds fr).bind fun x fr => test x fr
def tsO (gv : Nat → Option D) (c : Cal) (ds : List DE) : Fm → Rs Bool := fun fr => (evalOr gv c ds fr).bind fun x fr => test x fr
section
variable {X : Cx} {cA : Nat → Option Addr} {gv : Nat → Option D} {c : Cal} {a b e : DE} {es kvs : List DE} {ea eb ec : Expr} {xs : List Expr} {pos : Pos}
theorem s_chn (o1 o2 : CO) (hu : X.A.units + 66 < cLine) (n1 : isMem o1 = false) (n2 : isMem o2 = false) (hm : lastMarks [coOp o1, coOp o2] [eb, ec] = false)
    (ha : (fun (d : DE) (x : Expr) => PE X x (tE X.K cA (evalE gv c d))) a ea) (hb : (fun (d : DE) (x : Expr) => PE X x (tE X.K cA (evalE gv c d))) b eb) (hc : (fun (d : DE) (x : Expr) => PE X x (tE X.K cA (evalE gv c d))) e ec) : (fun (d : DE) (x : Expr) => PE X x (tE X.K cA (evalE gv c d))) (.chn o1 o2 a b e) (.Compare ea [coOp o1, coOp o2] [eb, ec] pos) := by
  refine PE.imp (pe_chain (op_cmpM (cA := cA) hu o1) (op_cmpM (cA := cA) hu o2) ha hb hc hm) fun σ H Q q => ?_
  obtain ⟨g, fr, R, h⟩ := q
  refine ⟨g, fr, R, Pst.bind h fun d1 fr1 g1 v1 H1 l1 k1 R1 p1 h1 => ⟨g1, fr1, R1, Pst.bind h1 fun d2 fr2 g2 v2 H2 l2 k2 R2 p2 h2 => ?_⟩⟩
  obtain ⟨r, e1, h3⟩ := Pst.optB h2
  obtain ⟨x, e2, e3⟩ := bind_some e1
  obtain ⟨y, e4, e5⟩ := bind_some e3
  refine ⟨g2, x, y, r, R2.cv (p1.mono l2 k2.f) e2, R2.cv p2 e4, e5, cmp_nodic e5 n1, r, rfl, ?_⟩
  cases r with
  | false => exact Pst.ok h3 R2 rfl
  | true =>
    refine ⟨g2, fr2, R2, Pst.bind h3 fun d3 fr3 g3 v3 H3 l3 k3 R3 p3 h4 => ?_⟩
    obtain ⟨r', e6, h5⟩ := Pst.opt h4
    obtain ⟨y', e7, e8⟩ := bind_some e6
    obtain ⟨z, e9, e10⟩ := bind_some e8
    obtain ⟨b', e11, e12⟩ := map_some' e10
    exact ⟨g3, y', z, b', R3.cv (p2.mono l3 k3.f) e7, R3.cv p3 e9, e11, cmp_nodic e11 n2, Pst.ok h5 R3 (by rw [← e12]; rfl)⟩
theorem rep_non {K : PySem.W.Frag} {H : Hp} {g : Wd} {d : D} {v : V} (r : Rep K cA H g d v) : decide (v = .non) = isNon d := by
  cases d with
  | non => cases r; rfl
  | bl b => cases r; rfl
  | int b => cases r; rfl
  | str b => cases r; rfl
  | loc i => exact r.elim
  | lst _ => obtain ⟨a, vs, rfl, _⟩ := r; rfl
  | tup _ => obtain ⟨a, vs, rfl, _⟩ := r; rfl
  | ktup _ => obtain ⟨a, vs, rfl, _⟩ := r; rfl
  | dK _ _ => obtain ⟨a, vs, rfl, _⟩ := r; rfl
  | dT _ _ => obtain ⟨a, vs, rfl, _⟩ := r; rfl
  | ins _ _ _ => obtain ⟨a, ca, dx, kvs, rfl, _⟩ := r; rfl
  | ref k => obtain ⟨a, _, rfl⟩ := r; rfl
theorem s_isN {j : Nat} {p : Pos} (ha : (fun (d : DE) (x : Expr) => PE X x (tE X.K cA (evalE gv c d))) a ea) : (fun (d : DE) (x : Expr) => PE X x (tE X.K cA (evalE gv c d))) (.isN a) (.Compare ea [.Is] [.Constant .none j p] pos) := by
  refine PE.imp (pe_cmp (pc_isN ha) rfl) fun σ H Q q => ?_
  obtain ⟨g, fr, R, h⟩ := q
  refine ⟨g, fr, R, Pst.bind h fun d1 fr1 g1 v1 H1 l1 k1 R1 p1 h1 => ?_⟩
  obtain ⟨n, h2⟩ := Pst.noLoc h1
  refine Pst.ok h2 R1 ?_
  show V.bl _ = V.bl _
  rw [rep_non (p1.rep n)]
theorem s_isNn {j : Nat} {p : Pos} (ha : (fun (d : DE) (x : Expr) => PE X x (tE X.K cA (evalE gv c d))) a ea) : (fun (d : DE) (x : Expr) => PE X x (tE X.K cA (evalE gv c d))) (.isNn a) (.Compare ea [.IsNot] [.Constant .none j p] pos) := by
  refine PE.imp (pe_cmp (pc_notN ha) rfl) fun σ H Q q => ?_
  obtain ⟨g, fr, R, h⟩ := q
  refine ⟨g, fr, R, Pst.bind h fun d1 fr1 g1 v1 H1 l1 k1 R1 p1 h1 => ?_⟩
  obtain ⟨n, h2⟩ := Pst.noLoc h1
  refine Pst.ok h2 R1 ?_
  show V.bl _ = V.bl _
  rw [rep_non (p1.rep n)]

/-! ### and, or, tests -/
theorem s_and1 (ha : (fun (d : DE) (x : Expr) => PE X x (tE X.K cA (evalE gv c d))) a ea) : PE X (.BoolOp .And [ea] pos) (tE X.K cA (evalAnd gv c [a])) := pe_one ha
theorem s_or1 (ha : (fun (d : DE) (x : Expr) => PE X x (tE X.K cA (evalE gv c d))) a ea) : PE X (.BoolOp .Or [ea] pos) (tE X.K cA (evalOr gv c [a])) := pe_one ha
theorem s_and2 (ha : (fun (d : DE) (x : Expr) => PE X x (tE X.K cA (evalE gv c d))) a ea) (hb : PE X (.BoolOp .And (eb :: xs) pos) (tE X.K cA (evalAnd gv c (b :: es)))) : PE X (.BoolOp .And (ea :: eb :: xs) pos) (tE X.K cA (evalAnd gv c (a :: b :: es))) := by
  refine PE.imp (pe_andT ha hb) fun σ H Q q => ?_
  obtain ⟨g, fr, R, h⟩ := q
  refine ⟨g, fr, R, Pst.bind h fun d1 fr1 g1 v1 H1 l1 k1 R1 p1 h1 => ?_⟩
  obtain ⟨k, t, h2⟩ := Pst.test R1 p1 h1
  refine ⟨k, t, ?_⟩
  cases k with
  | true => exact ⟨g1, fr1, R1, h2⟩
  | false => exact Pst.ok h2 R1 p1
theorem s_or2 (ha : (fun (d : DE) (x : Expr) => PE X x (tE X.K cA (evalE gv c d))) a ea) (hb : PE X (.BoolOp .Or (eb :: xs) pos) (tE X.K cA (evalOr gv c (b :: es)))) : PE X (.BoolOp .Or (ea :: eb :: xs) pos) (tE X.K cA (evalOr gv c (a :: b :: es))) := by
  refine PE.imp (pe_orT ha hb) fun σ H Q q => ?_
  obtain ⟨g, fr, R, h⟩ := q
  refine ⟨g, fr, R, Pst.bind h fun d1 fr1 g1 v1 H1 l1 k1 R1 p1 h1 => ?_⟩
  obtain ⟨k, t, h2⟩ := Pst.test R1 p1 h1
  refine ⟨k, t, ?_⟩
  cases k with
  | false => exact ⟨g1, fr1, R1, h2⟩
  | true => exact Pst.ok h2 R1 p1
theorem t_and1 (ha : (fun (d : DE) (x : Expr) => PT X x (tT X.K cA (tstE gv c d))) a ea) : PW X (.BoolOp .And [ea] pos) (tT X.K cA (tsA gv c [a])) := pw_and1 ha
theorem t_or1 (ha : (fun (d : DE) (x : Expr) => PT X x (tT X.K cA (tstE gv c d))) a ea) : PW X (.BoolOp .Or [ea] pos) (tT X.K cA (tsO gv c [a])) := pw_or1 ha
theorem test_ok {d : D} {fr fr' : Fm} {k : Bool} (h : Mr.test d fr = .ok k fr') : fr' = fr ∧ (deref fr d).bind truD = some k := by
  unfold Mr.test at h
  cases e : (deref fr d).bind truD with
  | none => rw [e] at h; cases h
  | some b => rw [e] at h; cases h; exact ⟨rfl, rfl⟩
theorem t_and2 (ha : (fun (d : DE) (x : Expr) => PT X x (tT X.K cA (tstE gv c d))) a ea) (hb : PW X (.BoolOp .And (eb :: xs) pos) (tT X.K cA (tsA gv c (b :: es)))) : PW X (.BoolOp .And (ea :: eb :: xs) pos) (tT X.K cA (tsA gv c (a :: b :: es))) := by
  refine PW.imp (pw_and ha hb) fun σ H Q q => ?_
  obtain ⟨g, fr, R, h⟩ := q
  refine ⟨g, fr, R, ?_⟩
  have h0 : Pst X.K cA (rpB σ) g H σ (((evalE gv c a fr).bind fun x fr => (test x fr).bind fun k fr => if k then evalAnd gv c (b :: es) fr else .ok x fr).bind fun x fr => test x fr) Q := h
  show Pst X.K cA (rpB σ) g H σ ((evalE gv c a fr).bind fun x fr => test x fr) _
  cases e1 : evalE gv c a fr with
  | stk => rw [e1] at h0; exact h0.elim
  | exc C ds f => rw [e1] at h0; exact h0.elim
  | ok d1 fr1 =>
    rw [e1] at h0
    have h1 : Pst X.K cA (rpB σ) g H σ (((test d1 fr1).bind fun k fr => if k then evalAnd gv c (b :: es) fr else .ok d1 fr).bind fun x fr => test x fr) Q := h0
    show Pst X.K cA (rpB σ) g H σ (test d1 fr1) _
    cases e2 : test d1 fr1 with
    | stk => rw [e2] at h1; exact h1.elim
    | exc C ds f => rw [e2] at h1; exact h1.elim
    | ok k fr2 =>
      rw [e2] at h1
      obtain ⟨e3, e4⟩ := test_ok e2
      subst e3
      intro g1 v1 H1 l1 k1 R1 p1
      have p2 : k = v1 := p1
      subst p2
      cases k with
      | true => exact ⟨g1, fr2, R1, Pst.mono h1 l1 k1⟩
      | false =>
        have h2 : Pst X.K cA (rpB σ) g H σ (test d1 fr2) Q := h1
        rw [e2] at h2
        exact h2 g1 _ H1 l1 k1 R1 rfl
theorem t_or2 (ha : (fun (d : DE) (x : Expr) => PT X x (tT X.K cA (tstE gv c d))) a ea) (hb : PW X (.BoolOp .Or (eb :: xs) pos) (tT X.K cA (tsO gv c (b :: es)))) : PW X (.BoolOp .Or (ea :: eb :: xs) pos) (tT X.K cA (tsO gv c (a :: b :: es))) := by
  refine PW.imp (pw_or ha hb) fun σ H Q q => ?_
  obtain ⟨g, fr, R, h⟩ := q
  refine ⟨g, fr, R, ?_⟩
  have h0 : Pst X.K cA (rpB σ) g H σ (((evalE gv c a fr).bind fun x fr => (test x fr).bind fun k fr => if k then .ok x fr else evalOr gv c (b :: es) fr).bind fun x fr => test x fr) Q := h
  show Pst X.K cA (rpB σ) g H σ ((evalE gv c a fr).bind fun x fr => test x fr) _
  cases e1 : evalE gv c a fr with
  | stk => rw [e1] at h0; exact h0.elim
  | exc C ds f => rw [e1] at h0; exact h0.elim
  | ok d1 fr1 =>
    rw [e1] at h0
    have h1 : Pst X.K cA (rpB σ) g H σ (((test d1 fr1).bind fun k fr => if k then .ok d1 fr else evalOr gv c (b :: es) fr).bind fun x fr => test x fr) Q := h0
    show Pst X.K cA (rpB σ) g H σ (test d1 fr1) _
    cases e2 : test d1 fr1 with
    | stk => rw [e2] at h1; exact h1.elim
    | exc C ds f => rw [e2] at h1; exact h1.elim
    | ok k fr2 =>
      rw [e2] at h1
      obtain ⟨e3, e4⟩ := test_ok e2
      subst e3
      intro g1 v1 H1 l1 k1 R1 p1
      have p2 : k = v1 := p1
      subst p2
      cases k with
      | false => exact ⟨g1, fr2, R1, Pst.mono h1 l1 k1⟩
      | true =>
        have h2 : Pst X.K cA (rpB σ) g H σ (test d1 fr2) Q := h1
        rw [e2] at h2
        exact h2 g1 _ H1 l1 k1 R1 rfl
theorem t_not (ha : (fun (d : DE) (x : Expr) => PT X x (tT X.K cA (tstE gv c d))) a ea) : (fun (d : DE) (x : Expr) => PT X x (tT X.K cA (tstE gv c d))) (.nt a) (.UnaryOp .Not ea pos) := by
  refine PT.imp (pt_not ha) fun σ H Q q => ?_
  obtain ⟨g, fr, R, h⟩ := q
  refine ⟨g, fr, R, ?_⟩
  have h0 : Pst X.K cA (rpB σ) g H σ (((evalE gv c a fr).bind fun x fr => (test x fr).bind fun k fr => .ok (.bl (!k)) fr).bind fun x fr => test x fr) Q := h
  show Pst X.K cA (rpB σ) g H σ ((evalE gv c a fr).bind fun x fr => test x fr) _
  cases e1 : evalE gv c a fr with
  | stk => rw [e1] at h0; exact h0.elim
  | exc C ds f => rw [e1] at h0; exact h0.elim
  | ok d1 fr1 =>
    rw [e1] at h0
    have h1 : Pst X.K cA (rpB σ) g H σ (((test d1 fr1).bind fun k fr => .ok (.bl (!k)) fr).bind fun x fr => test x fr) Q := h0
    show Pst X.K cA (rpB σ) g H σ (test d1 fr1) _
    cases e2 : test d1 fr1 with
    | stk => rw [e2] at h1; exact h1.elim
    | exc C ds f => rw [e2] at h1; exact h1.elim
    | ok k fr2 =>
      rw [e2] at h1
      intro g1 v1 H1 l1 k1 R1 p1
      have p2 : k = v1 := p1
      subst p2
      have h2 : Pst X.K cA (rpB σ) g H σ (.ok (!k) fr2) Q := h1
      exact h2 g1 _ H1 l1 k1 R1 rfl
/-- a test whose value is asked for its truth -/
theorem t_val (ha : (fun (d : DE) (x : Expr) => PE X x (tE X.K cA (evalE gv c d))) a ea) (he : ∀ whole, isTrue ea X.env whole = (do let v ← whole; standAt ea.pos; holding [v] (truthy v))) : (fun (d : DE) (x : Expr) => PT X x (tT X.K cA (tstE gv c d))) a ea := by
  refine PT.imp (pt_truth ha he) fun σ H Q q => ?_
  obtain ⟨g, fr, R, h⟩ := q
  refine ⟨g, fr, R, Pst.bind h fun d1 fr1 g1 v1 H1 l1 k1 R1 p1 h1 => ?_⟩
  obtain ⟨b, e, h2⟩ := Pst.opt h1
  obtain ⟨x, e1, e2⟩ := bind_some e
  exact ⟨b, (R1.cv p1 e1).tru e2, Pst.ok h2 R1 rfl⟩
/-- a comparison's test: its value is a bool -/
theorem boolE {ev : Fm → Rs D} {σ : L2.St} {H : Hp} {Q : Bool → Hp → Prop} (hb : ∀ fr d fr', ev fr = .ok d fr' → ∃ k, d = .bl k) (q : tT X.K cA (fun fr => (ev fr).bind fun x fr => test x fr) σ H Q) :
    tE X.K cA ev σ H fun x H' => ∃ k, x = .bl k ∧ Q k H' := by
  obtain ⟨g, fr, R, h⟩ := q
  refine ⟨g, fr, R, Pst.bindE h fun d1 fr1 y1 g1 v1 H1 l1 k1 R1 p1 h1 => ?_⟩
  obtain ⟨k, rfl⟩ := hb _ _ _ y1
  exact ⟨k, p1, Pst.ok (show Pst X.K cA (rpB σ) g1 H1 σ (.ok k fr1) Q from h1) R1 rfl⟩
theorem s_ite (hc : (fun (d : DE) (x : Expr) => PT X x (tT X.K cA (tstE gv c d))) e ec) (ha : (fun (d : DE) (x : Expr) => PE X x (tE X.K cA (evalE gv c d))) a ea) (hb : (fun (d : DE) (x : Expr) => PE X x (tE X.K cA (evalE gv c d))) b eb) : (fun (d : DE) (x : Expr) => PE X x (tE X.K cA (evalE gv c d))) (.ite e a b) (.IfExp ec ea eb pos) := by
  refine PE.imp (pe_ifExp hc ha hb) fun σ H Q q => ?_
  obtain ⟨g, fr, R, h⟩ := q
  refine ⟨g, fr, R, ?_⟩
  have h0 : Pst X.K cA (rpX X.K cA σ) g H σ ((evalE gv c e fr).bind fun x fr => (test x fr).bind fun k fr => if k then evalE gv c a fr else evalE gv c b fr) Q := h
  show Pst X.K cA (rpB σ) g H σ ((evalE gv c e fr).bind fun x fr => test x fr) _
  cases e1 : evalE gv c e fr with
  | stk => rw [e1] at h0; exact h0.elim
  | exc C ds f => rw [e1] at h0; exact h0.elim
  | ok d1 fr1 =>
    rw [e1] at h0
    refine Pst.bind (show Pst X.K cA (rpX X.K cA σ) g H σ ((test d1 fr1).bind fun k fr => if k then evalE gv c a fr else evalE gv c b fr) Q from h0) fun k fr2 g1 v1 H1 l1 k1 R1 p1 h1 => ?_
    have p2 : k = v1 := p1
    subst p2
    cases k with
    | true => exact ⟨g1, fr2, R1, h1⟩
    | false => exact ⟨g1, fr2, R1, h1⟩
end
end Mr
end
section
set_option Elab.async false
set_option linter.all false
set_option maxRecDepth 100000
/-! M2g: displays, subscripts, fields. -/
namespace Mr
open PySem PySem.Spec PyProof.Rows L2
def isStar : Expr → Bool
  | .Starred _ _ => true
  | _ => false
theorem star_each {e : Expr} {es : List Expr} {env : Env} (h : isStar e = false) : starEach (e :: es) env = (false, eval e env) :: starEach es env := by
  cases e <;> first | rfl | (cases h)
theorem star_any {pos : Pos} {env : Env} : ∀ {es : List Expr}, es.any isStar = false → (backTo pos (starEach es env)).any (·.1) = false
  | [], _ => rfl
  | e :: es, h => by
    rw [List.any_cons, Bool.or_eq_false_iff] at h
    rw [star_each h.1]
    show (false || (backTo pos (starEach es env)).any (·.1)) = false
    rw [star_any h.2]
    rfl
def isSl : Expr → Bool
  | .Slice _ _ _ _ => true
  | _ => false
theorem plain_ix {e : Expr} (h : isSl e = false) : PlainIx e := fun o i => by cases e <;> first | rfl | (cases h)
theorem no_sl {e : Expr} (h : isSl e = false) : NoSl e := fun o i => by cases e <;> first | rfl | (cases h)
def isCall : Expr → Bool
  | .Call _ _ _ _ => true
  | _ => false
theorem base_ok {e : Expr} {f : Str} {env : Env} (h : isCall e = false) : attributeBase e f env (eval e env) = eval e env := by cases e <;> first | rfl | (cases h)
section
variable (K : PySem.W.Frag) (cA : Nat → Option Addr)
abbrev tL (ev : Fm → Rs (List D)) : L2.TA := tV K cA (rpL K cA) ev
abbrev tP (ev : Fm → Rs (List D)) : L2.TA := tV K cA (rpP K cA) ev
end
section
variable {K : PySem.W.Frag} {cA : Nat → Option Addr} {H H' : Hp} {g g' : Wd} {σ : L2.St}
theorem RepXs.mono (l : g.le g') (k : ∀ a, g.F a → H' a = H a) : ∀ {ds : List D} {vs : List V}, RepXs K cA σ H g ds vs → RepXs K cA σ H' g' ds vs
  | [], _, h => h
  | d :: ds, _, h => by
    obtain ⟨v, r, e, h1, h2⟩ := h
    exact ⟨v, r, e, h1.mono l k, RepXs.mono l k h2⟩
theorem RepL.consX {d : D} {ds : List D} {v : V} {vs : List V} (h : RepX K cA H g σ d v) (n : isLoc d = false) (r : RepL K cA H g ds vs) : RepL K cA H g (d :: ds) (v :: vs) := RepL.cons (h.rep n) r
end
section
variable {X : Cx} {cA : Nat → Option Addr} {gv : Nat → Option D} {c : Cal} {a b e : DE} {es kvs : List DE} {ea eb ec : Expr} {xs : List Expr} {pos : Pos}
theorem a_nil : PA X [] (tL X.K cA (evalEs gv c [])) := PA.imp pa_nil fun σ H Q ⟨g, fr, R, h⟩ => Pst.ok (rp := rpL X.K cA σ) (b := []) h R RepL.nil
theorem p_nil : PA X [] (tP X.K cA (evalPs gv c [])) := PA.imp pa_nil fun σ H Q ⟨g, fr, R, h⟩ => Pst.ok (rp := rpP X.K cA σ) (b := []) h R rfl
def isStarD : DE → Bool
  | .star _ => true
  | _ => false
theorem evalEs_cons {fr : Fm} (h : isStarD a = false) : evalEs gv c (a :: es) fr = (evalE gv c a fr).bind fun x fr => (noLoc x fr).bind fun x fr => (evalEs gv c es fr).bind fun ys fr => .ok (x :: ys) fr := by
  cases a <;> first | rfl | (cases h)
theorem a_cons (ha : (fun (d : DE) (x : Expr) => PE X x (tE X.K cA (evalE gv c d))) a ea) (hr : PA X xs (tL X.K cA (evalEs gv c es))) (h1 : isStarD a = false) (h2 : isStar ea = false) : PA X (ea :: xs) (tL X.K cA (evalEs gv c (a :: es))) := by
  refine PA.imp (pa_cons ha hr (star_each h2)) fun σ H Q q => ?_
  obtain ⟨g, fr, R, h⟩ := q
  rw [evalEs_cons h1] at h
  refine ⟨g, fr, R, Pst.bind h fun d1 fr1 g1 v1 H1 l1 k1 R1 p1 h1 => ?_⟩
  obtain ⟨n, h2⟩ := Pst.noLoc h1
  refine ⟨g1, fr1, R1, Pst.bind h2 fun ds fr2 g2 vs H2 l2 k2 R2 p2 h3 => ?_⟩
  exact Pst.ok (rp := rpL X.K cA σ) h3 R2 (RepL.consX (p1.mono l2 k2.f) n p2)
theorem p_cons (ha : (fun (d : DE) (x : Expr) => PE X x (tE X.K cA (evalE gv c d))) a ea) (hr : PA X xs (tP X.K cA (evalPs gv c es))) (h2 : isStar ea = false) : PA X (ea :: xs) (tP X.K cA (evalPs gv c (a :: es))) := by
  refine PA.imp (pa_cons ha hr (star_each h2)) fun σ H Q q => ?_
  obtain ⟨g, fr, R, h⟩ := q
  refine ⟨g, fr, R, Pst.bind (show Pst X.K cA (rpP X.K cA σ) g H σ ((evalE gv c a fr).bind fun x fr => (evalPs gv c es fr).bind fun ys fr => .ok (x :: ys) fr) Q from h) fun d1 fr1 g1 v1 H1 l1 k1 R1 p1 h1 => ?_⟩
  refine ⟨g1, fr1, R1, Pst.bind h1 fun ds fr2 g2 vs H2 l2 k2 R2 p2 h3 => ?_⟩
  exact Pst.ok (rp := rpP X.K cA σ) h3 R2 ⟨v1, vs, rfl, p1.mono l2 k2.f, p2⟩
theorem a_star (ha : (fun (d : DE) (x : Expr) => PE X x (tE X.K cA (evalE gv c d))) a ea) (hr : PA X xs (tL X.K cA (evalEs gv c es))) : PA X (.Starred ea pos :: xs) (tL X.K cA (evalEs gv c (.star a :: es))) := by
  refine PA.imp (StX.pa_star ha hr) fun σ H Q q => ?_
  obtain ⟨g, fr, R, h⟩ := q
  have h0 : Pst X.K cA (rpL X.K cA σ) g H σ ((evalE gv c a fr).bind fun x fr => (opt (splice fr x) fr).bind fun xs fr => (evalEs gv c es fr).bind fun ys fr => .ok (xs ++ ys) fr) Q := h
  refine ⟨g, fr, R, Pst.bind h0 fun d1 fr1 g1 v1 H1 l1 k1 R1 p1 h1 => ?_⟩
  obtain ⟨ds, e1, h2⟩ := Pst.optB h1
  have key : ∃ p ws, v1 = .ref p ∧ (SqT X.K H1 p ws ∨ SqL X.K H1 p ws) ∧ RepL X.K cA H1 g1 ds ws := by
    unfold splice at e1
    cases e2 : deref fr1 d1 with
    | none => rw [e2] at e1; cases e1
    | some cd =>
      rw [e2] at e1
      have cv := R1.cv p1 e2
      cases cd with
      | lst zs =>
        cases e1
        obtain ⟨p, vs, rfl, q, r⟩ := cv.lst
        exact ⟨p, vs, rfl, .inr q.sq, r⟩
      | tup zs =>
        cases e1
        obtain ⟨p, vs, rfl, q, r⟩ := cv.tup
        exact ⟨p, vs, rfl, .inl (SqT.of q), r⟩
      | _ => cases e1
  obtain ⟨p, ws, ev, hs, rl⟩ := key
  refine ⟨p, ws, ev, hs, g1, fr1, R1, Pst.bind h2 fun ds2 fr2 g2 vs H2 l2 k2 R2 p2 h3 => ?_⟩
  exact Pst.ok (rp := rpL X.K cA σ) h3 R2 (RepL.app (rl.mono l2 k2.f _ _) p2)
theorem s_lst (ha : PA X xs (tL X.K cA (evalEs gv c es))) : (fun (d : DE) (x : Expr) => PE X x (tA X.K cA (evalE gv c d))) (.lst es) (.List xs pos) := by
  refine PE.imp (pe_lst ha) fun σ H Q q => ?_
  obtain ⟨g, fr, R, h⟩ := q
  refine ⟨g, fr, R, Pst.bind (show Pst X.K cA (rpA X.K cA σ) g H σ ((evalEs gv c es fr).bind fun xs fr => if xs.length ≤ szL then .ok (.lst xs) fr else .stk) Q from h) fun d1 fr1 g1 v1 H1 l1 k1 R1 p1 h1 => ?_⟩
  obtain ⟨hz, h2⟩ := Pst.iteS h1
  exact ⟨by rw [← RepL.len p1]; exact hz, fun p hp => Pst.newA h2 R1 (.lst hp p1)⟩
theorem s_tup {k : Nat} (ha : PA X xs (tL X.K cA (evalEs gv c es))) : (fun (d : DE) (x : Expr) => PE X x (tA X.K cA (evalE gv c d))) (.tup es) (.Tuple xs k pos) := by
  refine PE.imp (pe_tup ha) fun σ H Q q => ?_
  obtain ⟨g, fr, R, h⟩ := q
  refine ⟨g, fr, R, Pst.bind (show Pst X.K cA (rpA X.K cA σ) g H σ ((evalEs gv c es fr).bind fun xs fr => if xs.length ≤ szL then .ok (.tup xs) fr else .stk) Q from h) fun d1 fr1 g1 v1 H1 l1 k1 R1 p1 h1 => ?_⟩
  obtain ⟨hz, h2⟩ := Pst.iteS h1
  exact ⟨by rw [← RepL.len p1]; exact hz, fun p hp => Pst.newA h2 R1 (.tup hp p1)⟩

/-! ### subscripts -/
/-- of a sequence -/
def rIxD (K : PySem.W.Frag) (cA : Nat → Option Addr) : R2 := fun x y H Q => ∃ g d e r v, Cv K cA H g d x ∧ Cv K cA H g e y ∧ ixD d e = some r ∧ isDic d = false ∧ (Rep K cA H g r v → Q v H)
theorem at_get {α : Type} {xs : List α} {i : Int} {x : α} (h : mAt xs i = some x) : atI xs i = some x := h
theorem mAt_map {K : PySem.W.Frag} {H : Hp} {g : Wd} {ds : List D} {vs : List V} {i : Int} {d : D} (r : RepL K cA H g ds vs) (h : mAt ds i = some d) : ∃ v, atI vs i = some v ∧ Rep K cA H g d v := by
  obtain ⟨j, e1, e2⟩ := bind_some h
  obtain ⟨v, e3, e4⟩ := r.get e2
  refine ⟨v, ?_, e4⟩
  show (mIx vs.length i).bind _ = _
  rw [← r.len, e1]
  exact e3
theorem s_ix (hu : X.A.units + 66 < cLine) (hs : isSl eb = false) (ha : (fun (d : DE) (x : Expr) => PE X x (tE X.K cA (evalE gv c d))) a ea) (hb : (fun (d : DE) (x : Expr) => PE X x (tE X.K cA (evalE gv c d))) b eb) : (fun (d : DE) (x : Expr) => PE X x (tE X.K cA (evalE gv c d))) (.ix a b) (.Subscript ea eb pos) := by
  have p1 := pe_ix (pos := pos) ix_seq ha hb (plain_ix hs)
  have p2 := pe_dget (pos := pos) (by omega) ha hb (no_sl hs)
  refine PE.imp (PE.either p1 p2) fun σ H Q q => ?_
  refine split_ops (rp := rpX X.K cA) (f := fun x y => ixD x y) (pd := fun d _ => isDic d = true) (R1 := fun x y H => rIx X.K x y H Q) (R2 := fun x y H => ∃ a v, x = .ref a ∧ DGet H a y (some v) ∧ Q v H) q ?_ ?_
  · intro g fr H2 d e x y r R cx cy hf hn h
    have fin : ∀ {v : V}, Rep X.K cA H2 g r v → Q v H2 := fun {v} rv => Pst.ok h R rv.x
    cases d with
    | lst ds =>
      cases e with
      | int i =>
        obtain ⟨p, vs, rfl, hq, rl⟩ := cx.lst
        obtain ⟨v, e1, e2⟩ := mAt_map rl hf
        exact .inl ⟨p, vs, i, v, rfl, cy.int, hq.sq, e1, fin e2⟩
      | _ => cases hf
    | tup ds =>
      cases e with
      | int i =>
        obtain ⟨p, vs, rfl, hq, rl⟩ := cx.tup
        obtain ⟨v, e1, e2⟩ := mAt_map rl hf
        exact .inr (.inl ⟨p, vs, i, v, rfl, cy.int, SqT.of hq, e1, fin e2⟩)
      | _ => cases hf
    | ktup ds =>
      cases e with
      | int i =>
        obtain ⟨p, vs, rfl, hq, rl⟩ := cx.ktup
        obtain ⟨v, e1, e2⟩ := mAt_map rl hf
        exact .inr (.inl ⟨p, vs, i, v, rfl, cy.int, hq, e1, fin e2⟩)
      | _ => cases hf
    | str z =>
      cases e with
      | int i =>
        have hf2 : (if z.length ≤ szL then (mAt z.cps.toList i).map fun c => D.str ⟨#[c]⟩ else none) = some r := hf
        by_cases cz : z.length ≤ szL
        · rw [if_pos cz] at hf2
          obtain ⟨k, e1, e2⟩ := map_some' hf2
          exact .inr (.inr ⟨z, i, k, cx.str, cy.int, cz, e1, fin (by rw [← e2]; rfl)⟩)
        · rw [if_neg cz] at hf2
          cases hf2
      | _ => cases hf
    | dK _ _ => exact absurd rfl hn
    | dT _ _ => exact absurd rfl hn
    | _ => cases e <;> cases hf
  · intro g fr H2 d e x y r R cx cy hf hn h
    have key : ((∃ ks vs k, d = .dK ks vs ∧ keyD e = some k ∧ some r = look ks vs k) ∨ ∃ ks vs ds k, d = .dT ks vs ∧ e = .tup ds ∧ keysD ds = some k ∧ some r = look ks vs k) := by
      cases d with
      | dK ks vs =>
        have h2 : (match keyD e with
          | some k => look ks vs k
          | none => none) = some r := by cases e <;> exact hf
        cases ek : keyD e with
        | none => rw [ek] at h2; cases h2
        | some k =>
          rw [ek] at h2
          exact .inl ⟨ks, vs, k, rfl, rfl, h2.symm⟩
      | dT ks vs =>
        cases e with
        | tup ds =>
          have h2 : (match keysD ds with
            | some k => look ks vs k
            | none => none) = some r := hf
          cases ek : keysD ds with
          | none => rw [ek] at h2; cases h2
          | some k =>
            rw [ek] at h2
            exact .inr ⟨ks, vs, ds, k, rfl, rfl, ek, h2.symm⟩
        | _ => cases hf
      | _ => cases hn
    obtain ⟨p, o, rfl, hd, hv, _⟩ := dget_of cx cy key
    obtain ⟨v, rfl, rv⟩ := hv r rfl
    exact ⟨p, v, rfl, hd, Pst.ok h R rv.x⟩
/-! ### slices -/
theorem evalO_none {fr : Fm} : evalO gv c [] fr = .ok none fr := rfl
abbrev tO' (K : PySem.W.Frag) (cA : Nat → Option Addr) (ev : Fm → Rs (Option Int)) : L2.TO := tV K cA (fun _ _ _ _ (a b : Option Int) => a = b) ev
theorem o_none : PO X none (tO' X.K cA (evalO gv c [])) := by
  refine ⟨fun pins s σ H Q I h => po_none.run pins s σ H Q I ?_⟩
  obtain ⟨g, fr, R, h⟩ := h
  exact h g none H (Wd.le.refl g) (Keep.refl g H) R rfl
theorem o_some (ha : (fun (d : DE) (x : Expr) => PE X x (tE X.K cA (evalE gv c d))) a ea) : PO X (some ea) (tO' X.K cA (evalO gv c [a])) := by
  refine ⟨fun pins s σ H Q I h => (po_some ha).run pins s σ H Q I ?_⟩
  obtain ⟨g, fr, R, h⟩ := h
  refine ⟨g, fr, R, Pst.bind (show Pst X.K cA _ g H σ ((evalE gv c a fr).bind fun x fr => match x with
    | .int i => .ok (some i) fr
    | _ => .stk) Q from h) fun d1 fr1 g1 v1 H1 l1 k1 R1 p1 h1 => ?_⟩
  cases d1 with
  | int i => exact ⟨i, p1, h1 g1 (some i) H1 (Wd.le.refl g1) (Keep.refl g1 H1) R1 rfl⟩
  | _ => exact h1.elim
theorem RepL.cut {K : PySem.W.Frag} {H : Hp} {g : Wd} {ds : List D} {vs : List V} (r : RepL K cA H g ds vs) (lo hi : Option Int) : RepL K cA H g (cutL ds lo hi) (cutV vs lo hi) := by
  have e := r.len
  show RepL K cA H g ((ds.drop (mSx ds.length 0 lo)).take (mSx ds.length ds.length hi - mSx ds.length 0 lo)) ((vs.drop (mSx vs.length 0 lo)).take (mSx vs.length vs.length hi - mSx vs.length 0 lo))
  rw [e]
  exact RepL.tk _ (RepL.dp _ r)
def isLst : D → Bool
  | .lst _ => true
  | _ => false
/-- slices: of anything; fresh where a list is cut -/
theorem s_sl {la lb : List DE} {el eh : Option Expr} {p2 : Pos} (ha : (fun (d : DE) (x : Expr) => PE X x (tE X.K cA (evalE gv c d))) a ea) (hl : PO X el (tO' X.K cA (evalO gv c la))) (hh : PO X eh (tO' X.K cA (evalO gv c lb))) : (fun (d : DE) (x : Expr) => PE X x (tA X.K cA (evalE gv c d))) (.sl a la lb) (.Subscript ea (.Slice el eh none p2) pos) := by
  refine PE.imp (pe_slice ((sl_list.or sl_tupA).or sl_str) ha hl hh) fun σ H Q q => ?_
  obtain ⟨g, fr, R, h⟩ := q
  refine ⟨g, fr, R, Pst.bind (show Pst X.K cA (rpA X.K cA σ) g H σ ((evalE gv c a fr).bind fun x fr => (evalO gv c la fr).bind fun l fr => (evalO gv c lb fr).bind fun h fr =>
    opt ((deref fr x).bind fun x => slD x l h) fr) Q from h) fun d1 fr1 g1 v1 H1 l1 k1 R1 p1 h1 => ?_⟩
  refine ⟨g1, fr1, R1, Pst.bind h1 fun lo fr2 g2 lo' H2 l2 k2 R2 p2 h2 => ?_⟩
  have p2' : lo = lo' := p2
  subst p2'
  refine ⟨g2, fr2, R2, Pst.bind h2 fun hi fr3 g3 hi' H3 l3 k3 R3 p3 h3 => ?_⟩
  have p3' : hi = hi' := p3
  subst p3'
  obtain ⟨r, e1, h4⟩ := Pst.opt h3
  obtain ⟨d, e2, e3⟩ := bind_some e1
  have cx := R3.cv ((p1.mono l2 k2.f).mono l3 k3.f) e2
  cases d with
  | lst ds =>
    obtain ⟨p, vs, rfl, hq, rl⟩ := cx.lst
    cases e3
    exact .inl (.inl ⟨p, vs, rfl, hq.sq, fun p' hp => Pst.newA h4 R3 (.lst hp (rl.cut lo hi))⟩)
  | tup ds =>
    have cx0 : Rep X.K cA H3 g3 (.tup ds) v1 := cx.elim id fun ⟨_, _, z⟩ => z.elim
    obtain ⟨p, vs, rfl, hq, rl⟩ := cx.tup
    cases e3
    refine .inl (.inr ⟨p, vs, rfl, SqT.of hq, fun hw => Pst.newA h4 R3 (.old rfl ?_), fun _ p' hp => Pst.newA h4 R3 (.tup hp (rl.cut lo hi))⟩)
    have e := rl.len
    have ec : cutL ds lo hi = ds := by
      show (ds.drop (mSx ds.length 0 lo)).take (mSx ds.length ds.length hi - mSx ds.length 0 lo) = ds
      rw [e]
      have w1 : mSx vs.length 0 lo = 0 := hw.1
      have w2 : mSx vs.length vs.length hi = vs.length := hw.2
      rw [w1, w2, List.drop_zero, Nat.sub_zero, ← e, List.take_length]
    rw [ec]
    exact cx0
  | str z =>
    have e4 : (if z.length ≤ szL then some (D.str ⟨(cutL z.cps.toList lo hi).toArray⟩) else none) = some r := e3
    by_cases cz : z.length ≤ szL
    · rw [if_pos cz] at e4
      cases e4
      refine .inr ⟨z, cx.str, cz, Pst.newA h4 R3 (.old rfl ?_)⟩
      have el : z.length = z.cps.toList.length := by
        show z.cps.size = _
        simp
      show V.str _ = V.str _
      unfold cutS
      rw [el]
      rfl
    · rw [if_neg cz] at e4
      cases e4
  | _ => cases e3
theorem s_rev {k : Nat} {p1 p2 p3 : Pos} (ha : (fun (d : DE) (x : Expr) => PE X x (tE X.K cA (evalE gv c d))) a ea) : (fun (d : DE) (x : Expr) => PE X x (tA X.K cA (evalE gv c d))) (.rev a) (.Subscript ea (.Slice none none (some (.UnaryOp .USub (.Constant (.int 1) k p1) p2)) p3) pos) := by
  refine PE.imp (L2.pe_revL ha) fun σ H Q q => ?_
  obtain ⟨g, fr, R, h⟩ := q
  refine ⟨g, fr, R, Pst.bind (show Pst X.K cA (rpA X.K cA σ) g H σ ((evalE gv c a fr).bind fun x fr => opt ((deref fr x).bind revD) fr) Q from h) fun d1 fr1 g1 v1 H1 l1 k1 R1 p1 h1 => ?_⟩
  obtain ⟨r, e1, h4⟩ := Pst.opt h1
  obtain ⟨d, e2, e3⟩ := bind_some e1
  have cx := R1.cv p1 e2
  cases d with
  | lst ds =>
    obtain ⟨p, vs, rfl, hq, rl⟩ := cx.lst
    cases e3
    exact ⟨p, vs, rfl, hq.sq, fun p' hp => Pst.newA h4 R1 (.lst hp rl.rev)⟩
  | _ => cases e3
/-! ### fields -/
theorem look_fld {K : PySem.W.Frag} {H : Hp} {g : Wd} : ∀ {kvs : List (Str × V)} {fs : List Str} {ds : List D} {f : Str} {d : D}, kvs.map (·.1) = fs → RepL K cA H g ds (kvs.map (·.2)) → look fs ds f = some d → ∃ v, kvs.lookup f = some v ∧ Rep K cA H g d v
  | [], fs, ds, f, d, e, r, h => by
    cases e
    unfold look at h
    split at h <;> first | (rename_i h1; cases h1) | cases h
  | (k, v) :: kvs, fs, ds, f, d, e, r, h => by
    cases e
    cases ds with
    | nil =>
      have e1 : v :: kvs.map (·.2) = [] := r
      cases e1
    | cons d0 ds =>
      obtain ⟨w, ws, e1, r1, r2⟩ := r
      have e2 : v :: kvs.map (·.2) = w :: ws := e1
      cases e2
      have h2 : (if k = f then some d0 else look (kvs.map (·.1)) ds f) = some d := h
      by_cases ck : k = f
      · rw [if_pos ck] at h2
        cases h2
        refine ⟨v, ?_, r1⟩
        rw [ck]
        simp [List.lookup]
      · rw [if_neg ck] at h2
        obtain ⟨z, e3, e4⟩ := look_fld (kvs := kvs) rfl r2 h2
        refine ⟨z, ?_, e4⟩
        have nb : (f == k) = false := by simpa using fun z => ck z.symm
        rw [List.lookup_cons, nb]
        exact e3
theorem s_att {f : Str} (hc : ∀ C a, cA C = some a → Cls X.K a ∧ NoAttr X.K a f) (hb : isCall ea = false) (ha : (fun (d : DE) (x : Expr) => PE X x (tE X.K cA (evalE gv c d))) a ea) : (fun (d : DE) (x : Expr) => PE X x (tE X.K cA (evalE gv c d))) (.att a f) (.Attribute ea f pos) := by
  refine PE.imp (pe_fld ha (base_ok hb)) fun σ H Q q => ?_
  obtain ⟨g, fr, R, h⟩ := q
  refine ⟨g, fr, R, Pst.bind (show Pst X.K cA (rpX X.K cA σ) g H σ ((evalE gv c a fr).bind fun x fr => match deref fr x with
    | some (.ins _ fs vs) => opt (look fs vs f) fr
    | _ => .stk) Q from h) fun d1 fr1 g1 v1 H1 l1 k1 R1 p1 h1 => ?_⟩
  cases e2 : deref fr1 d1 with
  | none => rw [e2] at h1; exact h1.elim
  | some d =>
    rw [e2] at h1
    have cx := R1.cv p1 e2
    cases d with
    | ins C fs vs =>
      obtain ⟨r, e3, h2⟩ := Pst.opt (show Pst X.K cA (rpX X.K cA σ) g1 H1 σ (opt (look fs vs f) fr1) Q from h1)
      obtain ⟨p, ca, dx, kvs, rfl, ec, hp, e4, rl⟩ := cx.ins
      obtain ⟨v, e5, e6⟩ := look_fld e4 rl e3
      exact ⟨p, ca, dx, kvs, v, rfl, hp, (hc C ca ec).1, (hc C ca ec).2, e5, Pst.ok h2 R1 e6.x⟩
    | _ => exact h1.elim
end
end Mr
end
section
set_option Elab.async false
set_option linter.all false
set_option maxRecDepth 100000
/-! M2h: built-in functions. -/
namespace Mr
open PySem PySem.Spec PyProof.Rows L2
/-! ### sorting -/
theorem insI_perm (i : Int) : ∀ l : List Int, (insI i l).Perm (i :: l)
  | [] => List.Perm.refl _
  | j :: js => by
    show (if i ≤ j then i :: j :: js else j :: insI i js).Perm _
    by_cases c : i ≤ j
    · rw [if_pos c]
    · rw [if_neg c]
      exact ((insI_perm i js).cons j).trans (List.Perm.swap i j js)
theorem sortI_perm : ∀ l : List Int, (sortI l).Perm l
  | [] => List.Perm.refl _
  | i :: is => (insI_perm i _).trans ((sortI_perm is).cons i)
theorem insI_srt (i : Int) : ∀ l : List Int, l.Pairwise (· ≤ ·) → (insI i l).Pairwise (· ≤ ·)
  | [], _ => List.pairwise_cons.mpr ⟨fun _ h => (List.not_mem_nil h).elim, List.Pairwise.nil⟩
  | j :: js, h => by
    obtain ⟨h1, h2⟩ := List.pairwise_cons.mp h
    show (if i ≤ j then i :: j :: js else j :: insI i js).Pairwise _
    by_cases c : i ≤ j
    · rw [if_pos c]
      refine List.pairwise_cons.mpr ⟨fun x hx => ?_, h⟩
      rcases List.mem_cons.mp hx with e | hx
      · exact e ▸ c
      · exact Int.le_trans c (h1 x hx)
    · rw [if_neg c]
      refine List.pairwise_cons.mpr ⟨fun x hx => ?_, insI_srt i js h2⟩
      rcases List.mem_cons.mp ((insI_perm i js).mem_iff.mp hx) with e | hx
      · rw [e]; omega
      · exact h1 x hx
theorem sortI_srt : ∀ l : List Int, (sortI l).Pairwise (· ≤ ·)
  | [] => List.Pairwise.nil
  | i :: is => insI_srt i _ (sortI_srt is)
theorem srt_unique : ∀ {l m : List Int}, l.Perm m → l.Pairwise (· ≤ ·) → m.Pairwise (· ≤ ·) → l = m
  | [], m, p, _, _ => (List.nil_perm.mp p).symm
  | a :: l, [], p, _, _ => (List.perm_nil.mp p)
  | a :: l, b :: m, p, h, k => by
    obtain ⟨h1, h2⟩ := List.pairwise_cons.mp h
    obtain ⟨k1, k2⟩ := List.pairwise_cons.mp k
    have e : a = b := by
      have m1 : a ∈ b :: m := p.mem_iff.mp List.mem_cons_self
      have m2 : b ∈ a :: l := p.mem_iff.mpr List.mem_cons_self
      rcases List.mem_cons.mp m1 with e | q1
      · exact e
      · rcases List.mem_cons.mp m2 with e | q2
        · exact e.symm
        · have := k1 a q1
          have := h1 b q2
          omega
    subst e
    rw [srt_unique (List.perm_cons a |>.mp p) h2 k2]
theorem keysI_map : ∀ {ks : List Key} {is : List Int}, keysI ks = some is → ks = is.map Sum.inl
  | [], is, h => by
    have e : [] = is := Option.some.inj h
    rw [← e]
    rfl
  | .inl i :: ks, is, h => by
    obtain ⟨js, e1, e2⟩ := map_some' (show (keysI ks).map (i :: ·) = some is from h)
    rw [← e2, keysI_map e1]
    rfl
  | .inr x :: ks, is, h => by cases h
theorem facN_eq : ∀ n : Nat, Builtin.Math.factorialNat n = facN n
  | 0 => rfl
  | n + 1 => by
    have e : Builtin.Math.factorialNat (n + 1) = Builtin.Math.factorialNat n * (n + 1) := by
      unfold Builtin.Math.factorialNat
      rw [List.range_succ, List.foldl_append]
      rfl
    rw [e, facN_eq n]
    rfl

/-! ### the values -/
section
variable (K : PySem.W.Frag) (cA : Nat → Option Addr) (H : Hp) (g : Wd)
def CvL : List D → List V → Prop
  | [], vs => vs = []
  | d :: ds, vs => ∃ v r, vs = v :: r ∧ Cv K cA H g d v ∧ CvL ds r
end
section
variable {K : PySem.W.Frag} {cA : Nat → Option Addr} {H : Hp} {g : Wd} {fr : Fm} {σ : L2.St}
theorem Rel.cvL (R : Rel K cA H g fr σ) : ∀ {ds cs : List D} {vs : List V}, RepXs K cA σ H g ds vs → derefs fr ds = some cs → CvL K cA H g cs vs
  | [], cs, vs, h, e => by
    cases e
    exact h
  | d :: ds, cs, vs, h, e => by
    obtain ⟨v, r, rfl, h1, h2⟩ := h
    obtain ⟨x, e1, e2⟩ := bind_some (show (deref fr d).bind (fun x => (derefs fr ds).map (x :: ·)) = some cs from e)
    obtain ⟨xs, e3, e4⟩ := map_some' e2
    rw [← e4]
    exact ⟨v, r, rfl, R.cv h1 e1, R.cvL h2 e3⟩
theorem CvL.one {d : D} {vs : List V} (h : CvL K cA H g [d] vs) : ∃ v, vs = [v] ∧ Cv K cA H g d v := by
  obtain ⟨v, r, rfl, h1, h2⟩ := h
  have e : r = [] := h2
  rw [e]
  exact ⟨v, rfl, h1⟩
theorem CvL.two {d e : D} {vs : List V} (h : CvL K cA H g [d, e] vs) : ∃ v u, vs = [v, u] ∧ Cv K cA H g d v ∧ Cv K cA H g e u := by
  obtain ⟨v, r, rfl, h1, h2⟩ := h
  obtain ⟨u, rfl, h3⟩ := CvL.one h2
  exact ⟨v, u, rfl, h1, h3⟩
end
/-! ### the calls -/
def bfVal : BF → Value
  | .len => .builtin "len" | .all => .builtin "all" | .any => .builtin "any" | .sum => .builtin "sum" | .int => .type "int" | .abs => .builtin "abs"
  | .list => .type "list" | .tuple => .type "tuple" | .sorted => .builtin "sorted" | .fact => .builtin "math.factorial" | .min2 => .builtin "min" | .max2 => .builtin "max"
def bfR (K : PySem.W.Frag) (cA : Nat → Option Addr) (f : BF) : List V → Hp → VK → Prop := fun vs H Q => ∃ g ds r, CvL K cA H g ds vs ∧ bfD f ds = some r ∧ ∀ v H', New K cA H g r v H' → Q v H'
section
variable {X : Cx} {cA : Nat → Option Addr}
/-- sorted(d), the keys ints, of any length -/
theorem call_sortDI (hcalm : X.calm = true) : CallR X (.builtin "sorted") (fun xs H Q => ∃ (a : Addr) (kvs : List (Key × V)) (ks : List Int), xs = [.ref a] ∧ Rd H a (.dK kvs) ∧ kvs.map (·.1) = ks.map Sum.inl ∧
    ∀ (ys : List Int) (p : Addr), ys.Perm ks → ys.Pairwise (· ≤ ·) → H p = none → Q (.ref p) (upd H p (.lst (ys.map V.int)))) := by
  intro pins s σ H xs us Q I r q
  obtain ⟨a, kvs, ks, rfl, hd, hks, q⟩ := q
  obtain ⟨u, rfl, rx⟩ := vals1 r
  cases rx
  obtain ⟨zz, lo, ws, rel, dd⟩ := dk_rd I.hok hd
  obtain ⟨ep, hat⟩ := dd.dictAt
  have hke : ws.map (·.1) = ks.map Sum.inl := rel.keys.symm.trans hks
  have hlw : ws.length = ks.length := by simpa using congrArg List.length hke
  have hlk : kvs.length = ks.length := by simpa using congrArg List.length hks
  have hz : ks.length ≤ sizeLine := by rw [← hlk]; exact zz
  refine Calls.call_function_entry PyProof.Rows.kind_sorted PyProof.Rows.plain_sorted PyProof.Rows.entry_sorted (PyProof.Rows.args_sorted1 _) ?_
  unfold Builtin.«sorted»
  refine wpAny_bind (m := checkCount "sorted" 1 1 _) (wpAny_pure ?_)
  have src := PySem.W.kdl_dict (prog := X.prog) (w := X.w) (knd := mixKind X.prog X.w) (kvs := ws) (ep := ep) lo
  refine wpAny_bind (PySem.W.kdu_collect (A := X.A.in1) src (I.ok.hd hcalm) hat (by rw [hlw]; exact hz) fun h' tk acc hk hacc => ?_)
  have hal : acc.toList.length = ks.length := by rw [Array.length_toList, hacc.1, hlw]
  have hS : IntsAre acc.toList ks := ints_each hal fun j v e => by
    obtain ⟨k, x, e1, e2⟩ := hacc.2 j v (by rw [← e, Array.getElem?_toList])
    have e3 : (ks.map (Sum.inl : Int → Key))[j]? = some k := by rw [← hke, List.getElem?_map, e1]; rfl
    rw [List.getElem?_map] at e3
    obtain ⟨y, e4, e5⟩ := map_some' e3
    subst e5
    rcases keyIs_shape (show keyIs (Sum.inl y) v = true from e2) with ⟨i, t, ek, ev⟩ | ⟨z, t, ek, ev⟩
    · cases ek
      exact ⟨y, t, e4, ev⟩
    · cases ek
  have I1 : Inv X pins σ H { s with heap := h', toks := tk } := I.kept hk
  refine wpAny_bind (wpAny_newList ?_ (by rw [hal]; exact hz))
  have hoL : (h'.push (seqObj "list" acc.toList.toArray 0)).get? h'.objs.size = some (seqObj "list" acc.toList.toArray 0) := Heap.get?_push_size _ rfl
  show wpAny _ _ _ _ _ { s with heap := h'.push (seqObj "list" acc.toList.toArray 0), toks := tk }
  refine wpAny_bind (wpAny_holding (wpAny_call_entry PyProof.Rows.slot_list_sort ⟨_, hoL, rfl⟩ PyProof.Rows.entry_list_sort
    (SrtO.list_sort_ord (s := { s with heap := h'.push (seqObj "list" acc.toList.toArray 0), toks := tk }) SrtO.swo_int hoL (by rw [hal]; exact hz) (fun h2 => SrtO.ints_sortable hS h2) fun out h1 h2 => ⟨_, rfl, ?_⟩) (PyProof.Rows.args_list_sort _)))
  obtain ⟨k1, k2, k3⟩ := SrtO.ints_out hS h1 h2
  obtain ⟨e', he'⟩ := PyProof.Rows.sortedHeap_at (vs := acc.toList) (out := out.toArray) hoL
  have hlen : ((out.map SrtO.iv).map V.int).length ≤ sizeLine := by rw [List.length_map, k2.length_eq]; exact hz
  refine wpAny_pure ⟨_, rfl, .ref h'.objs.size, upd H h'.objs.size (.lst ((out.map SrtO.iv).map V.int)), I1.laid (t' := tk) (fun b u e => ?_) (Nat.le_refl _)
    (show ObjOk X.prog X.w _ _ _ (.lst ((out.map SrtO.iv).map V.int)) from ⟨hlen, out, e', vals_of_ints k1, he'⟩), rfl, q _ _ k2 k3 (I1.hok.fresh (Nat.le_refl _))⟩
  have hb : b < h'.objs.size := Heap.lt_size e
  rw [PyProof.Rows.sortedHeap_old (Nat.ne_of_lt hb) (by rw [size_push']; exact Nat.lt_succ_of_lt hb)]
  exact Heap.get?_push_of_some _ e
theorem cr_fact : CallR X (.builtin "math.factorial") (fun vs H Q => ∃ i : Int, vs = [.int i] ∧ 0 ≤ i ∧ i ≤ 1000 ∧ Q (.int (facN i.toNat)) H) := by
  intro pins s σ H vs us Q I r h
  obtain ⟨i, rfl, h0, h1, q⟩ := h
  obtain ⟨u, rfl, t, rfl⟩ := vals1 r
  refine PySem.W.mc_factorial h0 (by omega) fun _ => ⟨.int _, H, I.tok _, ⟨_, rfl⟩, ?_⟩
  rw [facN_eq]
  exact q
theorem op_bfM (hcalm : X.calm = true) (f : BF) : CallR X (bfVal f) (bfR X.K cA f) := by
  intro pins s σ H vs us Q I rs h
  obtain ⟨g, ds, r, cv, hb, q⟩ := h
  unfold bfD at hb
  split at hb
  · rename_i xs
    obtain ⟨v, rfl, c⟩ := cv.one
    obtain ⟨p, ws, rfl, hq, rl⟩ := c.lst
    cases hb
    exact call_len_seq pins s σ H _ us Q I rs ⟨p, ws, rfl, .inl hq.sq, q _ _ (.old rfl (by rw [rl.len]; rfl))⟩
  · rename_i xs
    obtain ⟨v, rfl, c⟩ := cv.one
    obtain ⟨p, ws, rfl, hq, rl⟩ := c.tup
    cases hb
    exact call_len_seq pins s σ H _ us Q I rs ⟨p, ws, rfl, .inr (SqT.of hq), q _ _ (.old rfl (by rw [rl.len]; rfl))⟩
  · rename_i x
    obtain ⟨v, rfl, c⟩ := cv.one
    have h2 : (if x.length ≤ szL then some (D.int x.length) else none) = some r := hb
    by_cases cz : x.length ≤ szL
    · rw [if_pos cz] at h2
      cases h2
      exact call_len_str pins s σ H _ us Q I rs ⟨x, by rw [c.str], cz, q _ _ (.old rfl rfl)⟩
    · rw [if_neg cz] at h2
      cases h2
  · rename_i xs
    obtain ⟨v, rfl, c⟩ := cv.one
    obtain ⟨p, ws, rfl, hq, rl⟩ := c.lst
    obtain ⟨bs, e1, e2⟩ := map_some' (show (boolsD xs).map (fun bs => D.bl (bs.all id)) = some r from hb)
    have ew := RepL.bools (vs := ws) rl e1
    subst ew
    exact cr_all hcalm pins s σ H _ us Q I rs ⟨p, bs, rfl, hq.sq, q _ _ (.old (by rw [← e2]; rfl) (by rw [← e2]; rfl))⟩
  · rename_i xs
    obtain ⟨v, rfl, c⟩ := cv.one
    obtain ⟨p, ws, rfl, hq, rl⟩ := c.lst
    obtain ⟨bs, e1, e2⟩ := map_some' (show (boolsD xs).map (fun bs => D.bl (bs.any id)) = some r from hb)
    have ew := RepL.bools (vs := ws) rl e1
    subst ew
    exact cr_any hcalm pins s σ H _ us Q I rs ⟨p, bs, rfl, hq.sq, q _ _ (.old (by rw [← e2]; rfl) (by rw [← e2]; rfl))⟩
  · rename_i xs
    obtain ⟨v, rfl, c⟩ := cv.one
    obtain ⟨p, ws, rfl, hq, rl⟩ := c.lst
    obtain ⟨bs, e1, e2⟩ := map_some' (show (intsD xs).map (fun is => D.int is.sum) = some r from hb)
    have ew := RepL.ints (vs := ws) rl e1
    subst ew
    exact cr_sum hcalm pins s σ H _ us Q I rs ⟨p, bs, rfl, hq.sq, q _ _ (.old (by rw [← e2]; rfl) (by rw [← e2]; rfl))⟩
  · rename_i i
    obtain ⟨v, rfl, c⟩ := cv.one
    cases hb
    exact call_int1 pins s σ H _ us Q I rs (.inl ⟨i, by rw [c.int], q _ _ (.old rfl rfl)⟩)
  · rename_i b
    obtain ⟨v, rfl, c⟩ := cv.one
    cases hb
    exact call_int1 pins s σ H _ us Q I rs (.inr ⟨b, by rw [c.bl], q _ _ (.old rfl rfl)⟩)
  · rename_i i
    obtain ⟨v, rfl, c⟩ := cv.one
    cases hb
    exact call_abs pins s σ H _ us Q I rs ⟨i, by rw [c.int], q _ _ (.old rfl rfl)⟩
  · rename_i xs
    obtain ⟨v, rfl, c⟩ := cv.one
    obtain ⟨p, ws, rfl, hq, rl⟩ := c.lst
    cases hb
    exact call_list_of pins s σ H _ us Q I rs ⟨p, ws, rfl, .inl hq.sq, fun l hl => q _ _ (.lst hl rl)⟩
  · rename_i xs
    obtain ⟨v, rfl, c⟩ := cv.one
    obtain ⟨p, ws, rfl, hq, rl⟩ := c.tup
    cases hb
    exact call_list_of pins s σ H _ us Q I rs ⟨p, ws, rfl, .inr (SqT.of hq), fun l hl => q _ _ (.lst hl rl)⟩
  · rename_i xs
    obtain ⟨v, rfl, c⟩ := cv.one
    obtain ⟨p, ws, rfl, hq, rl⟩ := c.lst
    cases hb
    exact call_tuple_of pins s σ H _ us Q I rs ⟨p, ws, rfl, .inl ⟨hq.sq, fun l hl => q _ _ (.tup hl rl)⟩⟩
  · rename_i xs
    obtain ⟨v, rfl, c⟩ := cv.one
    have c0 : Rep X.K cA H g (.tup xs) v := c.elim id fun ⟨_, _, z⟩ => z.elim
    obtain ⟨p, ws, rfl, hq, rl⟩ := c.tup
    cases hb
    exact call_tuple_of pins s σ H _ us Q I rs ⟨p, ws, rfl, .inr ⟨SqT.of hq, q _ _ (.old rfl c0)⟩⟩
  · rename_i d
    cases d with
    | lst xs =>
      obtain ⟨v, rfl, c⟩ := cv.one
      obtain ⟨p, ws, rfl, hq, rl⟩ := c.lst
      have h2 : (match intsD xs with
        | some is => some (D.lst ((sortI is).map .int))
        | none => none) = some r := hb
      cases e1 : intsD xs with
      | none => rw [e1] at h2; cases h2
      | some is =>
        rw [e1] at h2
        cases h2
        have ew := RepL.ints (vs := ws) rl e1
        subst ew
        refine cr_sortedI pins s σ H _ us Q I rs ⟨p, is, rfl, hq.sq, fun ns' p' k2 k3 hp => q _ _ ?_⟩
        rw [srt_unique (k2.trans (sortI_perm is).symm) k3 (sortI_srt is)]
        exact .lst hp (RepL.map D.int V.int (fun _ => rfl) _)
    | dK ks vs =>
      obtain ⟨v, rfl, c⟩ := cv.one
      obtain ⟨p, kvs, rfl, hq, e0, rl⟩ := c.dK
      have h2 : (match keysI ks with
        | some is => some (D.lst ((sortI is).map .int))
        | none => none) = some r := hb
      cases e1 : keysI ks with
      | none => rw [e1] at h2; cases h2
      | some is =>
        rw [e1] at h2
        cases h2
        refine call_sortDI hcalm pins s σ H _ us Q I rs ⟨p, kvs, is, rfl, hq, by rw [e0]; exact keysI_map e1, fun ns' p' k2 k3 hp => q _ _ ?_⟩
        rw [srt_unique (k2.trans (sortI_perm is).symm) k3 (sortI_srt is)]
        exact .lst hp (RepL.map D.int V.int (fun _ => rfl) _)
    | _ => cases hb
  · rename_i i
    obtain ⟨v, rfl, c⟩ := cv.one
    have h2 : (if (decide (0 ≤ i) && decide (i ≤ 1000)) = true then some (D.int (facN i.toNat)) else none) = some r := hb
    by_cases cz : (decide (0 ≤ i) && decide (i ≤ 1000)) = true
    · rw [if_pos cz] at h2
      cases h2
      simp only [Bool.and_eq_true, decide_eq_true_eq] at cz
      exact cr_fact pins s σ H _ us Q I rs ⟨i, by rw [c.int], cz.1, cz.2, q _ _ (.old rfl rfl)⟩
    · rw [if_neg cz] at h2
      cases h2
  · rename_i i j
    obtain ⟨v, u, rfl, c, c2⟩ := cv.two
    cases hb
    exact call_min2 hcalm pins s σ H _ us Q I rs ⟨i, j, by rw [c.int, c2.int], q _ _ (.old rfl rfl)⟩
  · rename_i i j
    obtain ⟨v, u, rfl, c, c2⟩ := cv.two
    cases hb
    exact call_max2 hcalm pins s σ H _ us Q I rs ⟨i, j, by rw [c.int, c2.int], q _ _ (.old rfl rfl)⟩
  · cases hb
end
end Mr
end
section
set_option Elab.async false
set_option linter.all false
set_option maxRecDepth 100000
/-! M2i: isinstance, methods of lists and dicts. -/
namespace Mr
open PySem PySem.Spec PyProof.Rows L2
/-! ### isinstance -/
structure Kit (K : PySem.W.Frag) (cA : Nat → Option Addr) : Prop where
  bb : ∀ t ∈ tyNames, ∀ u ∈ tyNames, PySem.W.kitOne K (.type t) (.type u) = some (t == u || (t == "bool" && u == "int"))
  bo : ∀ t ∈ tyNames, ∀ C a, cA C = some a → PySem.W.kitOne K (.type t) (.ref a) = some false
  ob : ∀ C a, cA C = some a → ∀ u ∈ tyNames, PySem.W.kitOne K (.ref a) (.type u) = some false
  oo : ∀ C a E b, cA C = some a → cA E = some b → PySem.W.kitOne K (.ref a) (.ref b) = some (E == C)
  cl : ∀ C a, cA C = some a → Cls K a ∧ PySem.W.findIn K (.ref a) "__class__" = some (some (.builtin "object.__class__")) ∧ PySem.W.specialIn K (.builtin "object.__class__") "__get__" = some (some (.builtin "getset_descriptor.__get__")) ∧
    PySem.W.takesIn K (.builtin "object.__class__") = some true ∧ PySem.W.mroIn K a (.type "object") = some true
def tcN : Tc → String
  | .int => "int" | .bool => "bool" | .str => "str" | .list => "list" | .tuple => "tuple" | .dict => "dict" | .own _ => "object"
/-- the class that a word of isinstance names -/
def tcV (cA : Nat → Option Addr) (c : Tc) (v : V) : Prop := match c with
  | .own C => ∃ a, cA C = some a ∧ v = .ref a
  | c => v = .ty (tcN c)
section
variable {K : PySem.W.Frag} {cA : Nat → Option Addr} {H : Hp} {g : Wd} {v : V}
theorem tcN_mem (c : Tc) (h : ∀ C, c ≠ .own C) : tcN c ∈ tyNames := by
  cases c <;> first | (simp [tcN, tyNames]; done) | exact absurd rfl (h _)
/-- the type of what is read -/
theorem ty_of (k : Kit K cA) {d : D} (c : Cv K cA H g d v) (h : canTy d = true) :
    ∃ t, TyX K H v t ∧ ∀ (tc : Tc) (u : V), tcV cA tc u → ∃ uu, ClsV u uu ∧ PySem.W.kitOne K t uu = some (isTy tc d) := by
  have bi : ∀ (n : String), n ∈ tyNames → (∀ tc : Tc, (∀ C, tc ≠ .own C) → isTy tc d = (n == tcN tc || (n == "bool" && tcN tc == "int"))) → (∀ C, isTy (.own C) d = false) →
      ∀ (tc : Tc) (u : V), tcV cA tc u → ∃ uu, ClsV u uu ∧ PySem.W.kitOne K (.type n) uu = some (isTy tc d) := by
    intro n hn h1 h2 tc u hu
    by_cases ho : ∃ C, tc = .own C
    · obtain ⟨C, rfl⟩ := ho
      obtain ⟨a, ea, rfl⟩ := hu
      exact ⟨_, .own a, by rw [h2 C]; exact k.bo n hn C a ea⟩
    · have hne : ∀ C, tc ≠ .own C := fun C e => ho ⟨C, e⟩
      have eu : u = .ty (tcN tc) := by cases tc <;> first | exact hu | exact absurd rfl (hne _)
      subst eu
      refine ⟨_, .ty _, ?_⟩
      rw [h1 tc hne]
      exact k.bb n hn _ (tcN_mem tc hne)
  cases d with
  | non => rw [c.non]; exact ⟨_, .base .non, bi _ (by decide) (fun tc h => by cases tc <;> first | rfl | exact absurd rfl (h _)) (fun _ => rfl)⟩
  | bl b => rw [c.bl]; exact ⟨_, .base (.bl _), bi _ (by decide) (fun tc h => by cases tc <;> first | rfl | exact absurd rfl (h _)) (fun _ => rfl)⟩
  | int b => rw [c.int]; exact ⟨_, .base (.int _), bi _ (by decide) (fun tc h => by cases tc <;> first | rfl | exact absurd rfl (h _)) (fun _ => rfl)⟩
  | str b => rw [c.str]; exact ⟨_, .base (.str _), bi _ (by decide) (fun tc h => by cases tc <;> first | rfl | exact absurd rfl (h _)) (fun _ => rfl)⟩
  | lst ds =>
    obtain ⟨a, vs, rfl, q, _⟩ := c.lst
    refine ⟨.type "list", ?_, bi _ (by decide) (fun tc h => by cases tc <;> first | rfl | exact absurd rfl (h _)) (fun _ => rfl)⟩
    rcases q with (q | ⟨o, q⟩) | ⟨its, n, e, _⟩
    · exact .base (.lst q)
    · exact .base (.frz q)
    · exact .kList e rfl
  | tup ds =>
    obtain ⟨a, vs, rfl, q, _⟩ := c.tup
    exact ⟨_, .base (.tup q), bi _ (by decide) (fun tc h => by cases tc <;> first | rfl | exact absurd rfl (h _)) (fun _ => rfl)⟩
  | ktup ds =>
    have c1 : Rep K cA H g (.ktup ds) v := c.elim id fun ⟨_, _, z⟩ => z.elim
    obtain ⟨a, vs, rfl, ⟨o, its, n, e1, e2, _⟩, _⟩ := c1
    exact ⟨_, .kTuple e1 e2, bi _ (by decide) (fun tc h => by cases tc <;> first | rfl | exact absurd rfl (h _)) (fun _ => rfl)⟩
  | dK ks vs =>
    obtain ⟨a, kvs, rfl, q, _⟩ := c.dK
    refine ⟨.type "dict", ?_, bi _ (by decide) (fun tc h => by cases tc <;> first | rfl | exact absurd rfl (h _)) (fun _ => rfl)⟩
    rcases q with q | ⟨o, q⟩
    · exact .base (.dK q)
    · exact .fDict q
  | ins C fs vs =>
    obtain ⟨a, ca, dx, kvs, rfl, ec, q, _⟩ := c.ins
    obtain ⟨h1, h2, h3, h4, h5⟩ := k.cl C ca ec
    refine ⟨_, .base (.ins q h1 h2 h3 h4 h5), fun tc u hu => ?_⟩
    by_cases ho : ∃ E, tc = .own E
    · obtain ⟨E, rfl⟩ := ho
      obtain ⟨b, eb, rfl⟩ := hu
      exact ⟨_, .own b, k.oo C ca E b ec eb⟩
    · have hne : ∀ E, tc ≠ .own E := fun E e => ho ⟨E, e⟩
      have eu : u = .ty (tcN tc) := by cases tc <;> first | exact hu | exact absurd rfl (hne _)
      subst eu
      refine ⟨_, .ty _, ?_⟩
      rw [show isTy tc (.ins C fs vs) = false by cases tc <;> first | rfl | exact absurd rfl (hne _)]
      exact k.ob C ca ec _ (tcN_mem tc hne)
  | _ => cases h
def tcVs (cA : Nat → Option Addr) : List Tc → List V → Prop
  | [], vs => vs = []
  | c :: cs, vs => ∃ v r, vs = v :: r ∧ tcV cA c v ∧ tcVs cA cs r
theorem kits {t : Value} {d : D} (h : ∀ (tc : Tc) (u : V), tcV cA tc u → ∃ uu, ClsV u uu ∧ PySem.W.kitOne K t uu = some (isTy tc d)) :
    ∀ {cs : List Tc} {vs : List V}, tcVs cA cs vs → ∃ us, Paired ClsV vs us ∧ PySem.W.kitAny K t us = some (cs.any fun c => isTy c d)
  | [], vs, e => by
    have e1 : vs = [] := e
    subst e1
    exact ⟨[], .nil, rfl⟩
  | c :: cs, vs, e => by
    obtain ⟨v, r, rfl, h1, h2⟩ := e
    obtain ⟨uu, k1, k2⟩ := h c v h1
    obtain ⟨us, k3, k4⟩ := kits h h2
    refine ⟨uu :: us, .cons k1 k3, ?_⟩
    unfold PySem.W.kitAny
    rw [k2, List.any_cons]
    cases isTy c d with
    | true => rfl
    | false => exact k4
end
section
variable {X : Cx} {cA : Nat → Option Addr} {gv : Nat → Option D} {c : Cal} {a b e : DE} {es : List DE} {ea eb ec : Expr} {xs : List Expr} {pos p p2 : Pos}
theorem isi_core (k : Kit X.K cA) {cs : List Tc} {σ : L2.St} {H : Hp} {Q : VK} (q : tE X.K cA (evalE gv c (.isi a cs)) σ H Q) :
    tE X.K cA (evalE gv c a) σ H fun x H1 => ∃ t b, TyX X.K H1 x t ∧ (∀ vs, tcVs cA cs vs → ∃ us, Paired ClsV vs us ∧ PySem.W.kitAny X.K t us = some b) ∧ Q (.bl b) H1 := by
  obtain ⟨g, fr, R, h⟩ := q
  refine ⟨g, fr, R, Pst.bind (show Pst X.K cA (rpX X.K cA σ) g H σ ((evalE gv c a fr).bind fun x fr => (opt (deref fr x) fr).bind fun d fr => if canTy d then .ok (.bl (cs.any fun t => isTy t d)) fr else .stk) Q from h) fun d1 fr1 g1 v1 H1 l1 k1 R1 p1 h1 => ?_⟩
  obtain ⟨d, e1, h2⟩ := Pst.optB h1
  obtain ⟨hc, h3⟩ := Pst.iteS h2
  obtain ⟨t, k2, k3⟩ := ty_of k (R1.cv p1 e1) hc
  exact ⟨t, _, k2, fun vs hv => kits k3 hv, Pst.ok h3 R1 rfl⟩
theorem kitAny1 {K : PySem.W.Frag} {t u : Value} {b : Bool} (h : PySem.W.kitAny K t [u] = some b) : PySem.W.kitOne K t u = some b := by
  unfold PySem.W.kitAny at h
  cases e : PySem.W.kitOne K t u with
  | none => rw [e] at h; cases h
  | some z =>
    rw [e] at h
    cases z with
    | true => exact h
    | false => exact h
theorem s_isi1 (k : Kit X.K cA) (hg : Gl X "isinstance") (hm : X.mg "isinstance" = none) {tc : Tc} {v : V} (ht : tcV cA tc v) (ha : (fun (d : DE) (x : Expr) => PE X x (tE X.K cA (evalE gv c d))) a ea) (hc : PE X ec (tC v)) (h1 : isStar ea = false) (h2 : isStar ec = false) :
    (fun (d : DE) (x : Expr) => PE X x (tE X.K cA (evalE gv c d))) (.isi a [tc]) (.Call (.Name "isinstance" p) [ea, ec] [] pos) := by
  have pa : PA X [ea, ec] (tCons (tE X.K cA (evalE gv c a)) (tCons (tC v) tNil)) := pa_cons ha (pa_cons hc pa_nil (star_each h2)) (star_each h1)
  refine PE.imp (pe_callB call_isi hg hm (by rfl) pa (by decide) (by decide) (star_each h1) (star_any (by simp [h2]))) fun σ H Q q => ?_
  obtain ⟨g, fr, R, h⟩ := isi_core k q
  refine ⟨g, fr, R, Pst.imp h fun x H1 ⟨t, b, hx, hk, q1⟩ => ?_⟩
  obtain ⟨us, hp, hk1⟩ := hk [v] ⟨v, [], rfl, ht, rfl⟩
  cases hp with
  | cons hu hn =>
    cases hn
    exact ⟨x, v, t, _, b, rfl, hu, hx, kitAny1 hk1, q1⟩
theorem s_isiN (k : Kit X.K cA) (hg : Gl X "isinstance") (hm : X.mg "isinstance" = none) {cs : List Tc} {vs : List V} (ht : tcVs cA cs vs) (hl : vs.length ≤ sizeLine) {n : Nat} (ha : (fun (d : DE) (x : Expr) => PE X x (tE X.K cA (evalE gv c d))) a ea) (hc : PA X xs (fun _ H Q => Q vs H)) (h1 : isStar ea = false) :
    (fun (d : DE) (x : Expr) => PE X x (tE X.K cA (evalE gv c d))) (.isi a cs) (.Call (.Name "isinstance" p) [ea, .Tuple xs n p2] [] pos) := by
  have pt : PE X (.Tuple xs n p2) (tTup (fun _ H Q => Q vs H)) := pe_tup hc
  have pa : PA X [ea, .Tuple xs n p2] (tCons (tE X.K cA (evalE gv c a)) (tCons (tTup (fun _ H Q => Q vs H)) tNil)) := pa_cons ha (pa_cons pt pa_nil (star_each rfl)) (star_each h1)
  refine PE.imp (pe_callB call_isiT hg hm (by rfl) pa (by decide) (by decide) (star_each h1) (star_any rfl)) fun σ H Q q => ?_
  have q' : tE X.K cA (evalE gv c (.isi a cs)) σ H Q := q
  obtain ⟨g, fr, R, h⟩ := q'
  refine ⟨g, fr, R, Pst.bind (show Pst X.K cA (rpX X.K cA σ) g H σ ((evalE gv c a fr).bind fun x fr => (opt (deref fr x) fr).bind fun d fr => if canTy d then .ok (.bl (cs.any fun t => isTy t d)) fr else .stk) Q from h) fun d1 fr1 g1 v1 H1 l1 k1 R1 p1 h1 => ?_⟩
  obtain ⟨d, e1, h2⟩ := Pst.optB h1
  obtain ⟨hcan, h3⟩ := Pst.iteS h2
  refine ⟨hl, fun tp hn => ?_⟩
  have q := R1.fresh hn
  have R2 := R1.other (H' := upd H1 tp (.tup vs)) q fun a h => upd_ne h
  have kp : Keep g1 H1 (upd H1 tp (.tup vs)) := fun a h => upd_ne fun z => h.elim (fun h => q.f (z ▸ h)) fun h => q.pr (z ▸ h)
  obtain ⟨t, k2, k3⟩ := ty_of k (R2.cv (p1.mono (Wd.le.refl g1) kp.f) e1) hcan
  obtain ⟨us, hp, hk1⟩ := kits k3 ht
  exact ⟨v1, tp, vs, t, us, _, rfl, upd_same, hp, k2, hk1, Pst.ok (Pst.mono h3 (Wd.le.refl g1) kp) R2 rfl⟩
end
end Mr
end
section
set_option Elab.async false
set_option linter.all false
set_option maxRecDepth 100000
/-! M2j: methods of lists and dicts; what is written. -/
namespace Mr
open PySem PySem.Spec PyProof.Rows L2
section
variable {K : PySem.W.Frag} {cA : Nat → Option Addr} {H H' : Hp} {g : Wd} {fr fr' : Fm} {σ : L2.St} {v : V} {x c0 c1 : D}
def isRef : D → Bool
  | .ref _ => true
  | .loc _ => true
  | _ => false
/-- what stands behind a place that may be written -/
theorem Rel.put (R : Rel K cA H g fr σ) (r : RepX K cA H g σ x v) (e : deref fr x = some c0) (pc : putC fr x c1 = some fr') :
    ∃ a, v = .ref a ∧ Con K cA H g a c0 ∧ ¬ g.F a ∧ ¬ g.P a ∧ ∀ H', (∀ b, b ≠ a → H' b = H b) → Con K cA H' g a c1 → Rel K cA H' g fr' σ := by
  cases x with
  | ref k =>
    obtain ⟨a, e1, rfl⟩ := r
    have e0 : fr.st[k]? = some c0 := e
    obtain ⟨cc, nf, np⟩ := R.cel k c0 a e0 e1
    have ef : fr' = ⟨fr.env, fr.st.set k c1⟩ := (Option.some.inj pc).symm
    subst ef
    refine ⟨a, rfl, cc, nf, np, fun H' hh hc => ?_⟩
    have kf : ∀ b, g.F b → H' b = H b := fun b h => hh b fun z => nf (z ▸ h)
    have l := Wd.le.refl g
    refine ⟨fun i d h => ?_, fun i d h => ?_, R.two, by show _ = (fr.st.set k c1).length; rw [List.length_set]; exact R.sto, fun j d b h1 h2 => ?_, R.nod, fun b h => ⟨?_, (R.fok b h).2⟩, fun b h => ?_, R.len⟩
    · obtain ⟨w, q, rr⟩ := R.val i d h
      exact ⟨w, q, rr.mono l kf⟩
    · obtain ⟨b, q, rr, z1, z2, z3⟩ := R.own i d h
      exact ⟨b, q, rr.mono l kf (hh b fun z => z3 (z ▸ List.mem_of_getElem? e1)), z1, z2, z3⟩
    · rcases set_get h1 with ⟨e2, e3⟩ | ⟨e2, e3⟩
      · subst e2 e3
        rw [e1] at h2
        cases h2
        exact ⟨hc, nf, np⟩
      · obtain ⟨rr, z1, z2⟩ := R.cel j d b e3 h2
        refine ⟨rr.mono l kf (hh b fun z => e2 ?_), z1, z2⟩
        subst z
        have hj := get_lt h2
        have hk := get_lt e1
        rw [List.getElem?_eq_getElem hj] at h2
        rw [List.getElem?_eq_getElem hk] at e1
        exact (List.getElem_inj R.nod).mp ((Option.some.inj h2).trans (Option.some.inj e1).symm)
    · rw [kf b h]; exact (R.fok b h).1
    · rw [hh b fun z => np (z ▸ h)]; exact R.pok b h
  | loc i =>
    have e0 : (match fr.env[i]? with
      | some (Sl.own d) => some d
      | _ => none) = some c0 := e
    cases q : fr.env[i]? with
    | none => rw [q] at e0; cases e0
    | some s =>
      cases s with
      | un => rw [q] at e0; cases e0
      | val _ => rw [q] at e0; cases e0
      | own d0 =>
        rw [q] at e0
        cases e0
        obtain ⟨a, e1, cc, nf, np, nm⟩ := R.own i c0 q
        have r' : σ[i]? = some (some v) := r
        rw [r'] at e1
        have ev : v = .ref a := Option.some.inj (Option.some.inj e1)
        subst ev
        have ef : fr' = ⟨fr.env.set i (.own c1), fr.st⟩ := (Option.some.inj pc).symm
        subst ef
        refine ⟨a, rfl, cc, nf, np, fun H' hh hc => ?_⟩
        have kf : ∀ b, g.F b → H' b = H b := fun b h => hh b fun z => nf (z ▸ h)
        have l := Wd.le.refl g
        refine ⟨fun j d h => ?_, fun j d h => ?_, fun j k d1 d2 b h1 h2 => ?_, R.sto, fun j d b h1 h2 => ?_, R.nod, fun b h => ⟨?_, (R.fok b h).2⟩, fun b h => ?_, by show (fr.env.set i _).length = _; rw [List.length_set]; exact R.len⟩
        · rcases set_get h with ⟨e2, e3⟩ | ⟨e2, e3⟩
          · cases e3
          · obtain ⟨w, q2, rr⟩ := R.val j d e3
            exact ⟨w, q2, rr.mono l kf⟩
        · rcases set_get h with ⟨e2, e3⟩ | ⟨e2, e3⟩
          · cases e3
            subst e2
            exact ⟨a, r', hc, nf, np, nm⟩
          · obtain ⟨b, q2, rr, z1, z2, z3⟩ := R.own j d e3
            exact ⟨b, q2, rr.mono l kf (hh b fun z => e2 (R.two j i d c0 a e3 q (z ▸ q2) r')), z1, z2, z3⟩
        · rcases set_get h1 with ⟨e2, e3⟩ | ⟨e2, e3⟩
          · cases e3
            rcases set_get h2 with ⟨e4, e5⟩ | ⟨e4, e5⟩
            · exact fun _ _ => e2.trans e4.symm
            · subst e2
              exact R.two j k c0 d2 b q e5
          · rcases set_get h2 with ⟨e4, e5⟩ | ⟨e4, e5⟩
            · cases e5
              subst e4
              exact R.two j k d1 c0 b e3 q
            · exact R.two j k d1 d2 b e3 e5
        · obtain ⟨rr, z1, z2⟩ := R.cel j d b h1 h2
          exact ⟨rr.mono l kf (hh b fun z => nm (z ▸ List.mem_of_getElem? h2)), z1, z2⟩
        · rw [kf b h]; exact (R.fok b h).1
        · rw [hh b fun z => np (z ▸ h)]; exact R.pok b h
  | _ => cases pc
/-- a write keeps what is frozen and protected -/
theorem keep_put {a : Addr} (nf : ¬ g.F a) (np : ¬ g.P a) (hh : ∀ b, b ≠ a → H' b = H b) : Keep g H H' := fun b h => hh b fun z => h.elim (fun h => nf (z ▸ h)) fun h => np (z ▸ h)
theorem RepL.droplast : ∀ {ds : List D} {vs : List V}, RepL K cA H g ds vs → RepL K cA H g ds.dropLast vs.dropLast := fun {ds vs} h => by
  rw [List.dropLast_eq_take, List.dropLast_eq_take, ← h.len]
  exact h.tk _
theorem RepL.erase : ∀ {ds : List D} {vs : List V} (i : Nat), RepL K cA H g ds vs → RepL K cA H g (ds.eraseIdx i) (vs.eraseIdx i)
  | [], vs, i, h => by
    have e : vs = [] := h
    rw [e]
    exact RepL.nil
  | d :: ds, _, 0, h => by
    obtain ⟨w, r, rfl, q, t⟩ := h
    exact t
  | d :: ds, _, i + 1, h => by
    obtain ⟨w, r, rfl, q, t⟩ := h
    exact ⟨w, _, rfl, q, RepL.erase i t⟩
end
/-! ### the first occurrence of an int -/
theorem erase_at : ∀ {xs ys : List D} {is : List Int} {k : Int}, intsD xs = some is → eraseFirst k xs = some ys → ∃ j : Nat, is[j]? = some k ∧ (∀ m : Nat, m < j → is[m]? ≠ some k) ∧ ys = xs.eraseIdx j
  | [], ys, is, k, h, e => by cases e
  | d :: ds, ys, is, k, h, e => by
    cases d with
    | int i =>
      obtain ⟨js, e1, e2⟩ := map_some' (show (intsD ds).map (i :: ·) = some is from h)
      subst e2
      have e3 : (if i = k then some ds else (eraseFirst k ds).map (.int i :: ·)) = some ys := e
      by_cases ck : i = k
      · rw [if_pos ck] at e3
        cases e3
        exact ⟨0, by rw [ck]; rfl, fun m hm => absurd hm (Nat.not_lt_zero m), rfl⟩
      · rw [if_neg ck] at e3
        obtain ⟨zs, e4, e5⟩ := map_some' e3
        obtain ⟨j, h1, h2, h3⟩ := erase_at e1 e4
        refine ⟨j + 1, h1, fun m hm => ?_, by rw [← e5, h3]; rfl⟩
        cases m with
        | zero => exact fun z => ck (Option.some.inj z)
        | succ m => exact h2 m (by omega)
    | _ => cases e
section
variable {X : Cx} {cA : Nat → Option Addr}
def rExtX (K : PySem.W.Frag) : V → List V → Hp → VK → Prop := fun x vs H Q => ∃ l b xs zs, x = .ref l ∧ vs = [.ref b] ∧ H l = some (.lst xs) ∧ LX K H b zs ∧ xs.length + zs.length ≤ sizeLine ∧ Q .non (upd H l (.lst (xs ++ zs)))
theorem mt_extX : MtR X "list.extend" (rExtX X.K) := by
  intro pins s σ H x vs v us Q I rx rv h
  obtain ⟨l, b, xs, zs, rfl, rfl, hH, hB, hz, q⟩ := h
  cases rx
  obtain ⟨u, rfl, ru⟩ := vals1 rv
  cases ru
  obtain ⟨zl, its, n, r, hl, e⟩ := I.lstM hH
  obtain ⟨jts, m, r2, hl2, _, e2⟩ := hB.at I
  have hsz : its.toArray.size + jts.toArray.size ≤ sizeLine := by rw [List.size_toArray, List.size_toArray, ← hl, ← hl2]; exact hz
  have nolong : ¬ (!its.toArray.isEmpty && Builtin.List.listTooLong (its.toArray.size + jts.toArray.size)) = true := by
    rw [notLongL hsz, Bool.and_false]
    simp
  have run := AutoSeq1.list_extend_list_list_0 l its.toArray n b jts.toArray m nolong (by rw [List.size_toArray, ← hl]; exact zl) (by omega)
  refine call_meets F.slot_list_extend ⟨_, e, rfl⟩ F.entry_list_extend (F.args_list_extend_2 _ _) run ⟨e, e2, .non, _, ?_, rfl, q⟩
  exact I.lset (its' := its ++ jts) hH e (by simp) (r.append r2) (by rw [List.length_append]; exact hz)

/-! ### the methods that change a list -/
theorem one_arg' {ds : List D} (h0 : ds ≠ []) (h2 : ∀ a b l, ds ≠ a :: b :: l) : ∃ d, ds = [d] := by
  cases ds with
  | nil => exact absurd rfl h0
  | cons d t =>
    cases t with
    | nil => exact ⟨d, rfl⟩
    | cons e l => exact absurd rfl (h2 d e l)
/-- what the run says of such a call -/
def bmR (K : PySem.W.Frag) (cA : Nat → Option Addr) (m : BM) : V → List V → Hp → VK → Prop := fun x vs H Q => ∃ g a c0 ds r c1, x = .ref a ∧ Con K cA H g a c0 ∧ CvL K cA H g ds vs ∧ (m = .extend ∨ RepL K cA H g ds vs) ∧ bmD m c0 ds = some (r, some c1) ∧ ¬ g.F a ∧
  ∀ v u, (Rep K cA H g r v) → (∀ H', H' = upd H a u → Con K cA H' g a c1) → Q v (upd H a u)
theorem keepF {g : Wd} {H : Hp} {a : Addr} {u : HO} (nf : ¬ g.F a) : ∀ b, g.F b → upd H a u b = H b := fun b h => upd_ne fun z => nf (z ▸ h)
theorem bm_append : MtR X "list.append" (bmR X.K cA .append) := by
  intro pins s σ H x vs v us Q I rx rv h
  obtain ⟨g, a, c0, ds, r, c1, rfl, cc, cl, cr, hb, nf, q⟩ := h
  cases c0 with
  | lst xs =>
    obtain ⟨d, rfl⟩ := one_arg' (ds := ds) (fun z => by subst z; cases hb) (fun a b l z => by subst z; cases a <;> cases hb)
    have h2 : (if xs.length < szL then some (D.non, some (D.lst (xs ++ [d]))) else none) = some (r, some c1) := hb
    by_cases cz : xs.length < szL
    · rw [if_pos cz] at h2
      cases h2
      obtain ⟨ws, hH, rl⟩ := cc
      have rd : RepL X.K cA H g [d] vs := cr.elim (fun z => by cases z) id
      obtain ⟨y, e0, rfl, ry, e1⟩ := rd
      have e1' : e0 = [] := e1
      subst e1'
      refine mt_append pins s σ H _ _ v us Q I rx rv ⟨a, ws, y, rfl, rfl, hH, by rw [← rl.len]; exact cz, q _ _ rfl fun H' e => ?_⟩
      subst e
      exact ⟨_, upd_same, (rl.app (RepL.one ry)).mono (Wd.le.refl g) (keepF nf) _ _⟩
    · rw [if_neg cz] at h2
      cases h2
  | _ => cases hb
theorem bm_extend : MtR X "list.extend" (bmR X.K cA .extend) := by
  intro pins s σ H x vs v us Q I rx rv h
  obtain ⟨g, a, c0, ds, r, c1, rfl, cc, cl, cr, hb, nf, q⟩ := h
  cases c0 with
  | lst xs =>
    obtain ⟨d, rfl⟩ := one_arg' (ds := ds) (fun z => by subst z; cases hb) (fun a b l z => by subst z; cases a <;> cases hb)
    cases d with
    | lst ys =>
      have h2 : (if xs.length + ys.length ≤ szL then some (D.non, some (D.lst (xs ++ ys))) else none) = some (r, some c1) := hb
      by_cases cz : xs.length + ys.length ≤ szL
      · rw [if_pos cz] at h2
        cases h2
        obtain ⟨ws, hH, rl⟩ := cc
        obtain ⟨y, rfl, cy⟩ := cl.one
        obtain ⟨b, zs, rfl, hB, rz⟩ := cy.lst
        refine mt_extX pins s σ H _ _ v us Q I rx rv ⟨a, b, ws, zs, rfl, rfl, hH, hB, by rw [← rl.len, ← rz.len]; exact cz, q _ _ rfl fun H' e => ?_⟩
        subst e
        exact ⟨_, upd_same, (rl.app rz).mono (Wd.le.refl g) (keepF nf) _ _⟩
      · rw [if_neg cz] at h2
        cases h2
    | _ => cases hb
  | _ => cases hb
theorem ix_seqI {n : Nat} {i : Int} {j : Nat} (h : mIx n i = some j) : seqIndex? i n = some j ∧ -(n : Int) ≤ i ∧ i < n := by
  obtain ⟨h1, h2, h3, h4⟩ := ixN_seq (show ixN n i = some j from h)
  exact ⟨h1, h3, h4⟩
theorem bm_popAt : MtR X "list.pop" (bmR X.K cA .popAt) := by
  intro pins s σ H x vs v us Q I rx rv h
  obtain ⟨g, a, c0, ds, r, c1, rfl, cc, cl, cr, hb, nf, q⟩ := h
  cases c0 with
  | lst xs =>
    obtain ⟨d, rfl⟩ := one_arg' (ds := ds) (fun z => by subst z; cases hb) (fun a b l z => by subst z; cases a <;> cases hb)
    cases d with
    | int i =>
      have h2 : (match mIx xs.length i with
        | some j => match xs[j]? with
          | some d => some (d, some (D.lst (xs.eraseIdx j)))
          | none => none
        | none => none) = some (r, some c1) := hb
      cases e1 : mIx xs.length i with
      | none => rw [e1] at h2; cases h2
      | some j =>
        simp only [e1] at h2
        cases e2 : xs[j]? with
        | none => rw [e2] at h2; cases h2
        | some d =>
          rw [e2] at h2
          cases h2
          obtain ⟨ws, hH, rl⟩ := cc
          obtain ⟨y, rfl, cy⟩ := cl.one
          obtain ⟨w, e3, rw'⟩ := rl.get e2
          have hz : ws.length ≤ sizeLine := (I.lstM hH).1
          have hs : (sizeLine : Nat) = 16777216 := sizeLine_eq
          rw [rl.len] at e1
          obtain ⟨k1, k2, k3⟩ := ix_seqI e1
          refine mt_popAt pins s σ H _ _ v us Q I rx rv ⟨a, ws, i, j, w, rfl, by rw [cy.int], hH, by omega, by omega, k1, e3, q _ _ rw' fun H' e => ?_⟩
          subst e
          exact ⟨_, upd_same, (rl.erase j).mono (Wd.le.refl g) (keepF nf) _ _⟩
    | _ => cases hb
  | _ => cases hb
theorem bm_pop : MtR X "list.pop" (bmR X.K cA .pop) := by
  intro pins s σ H x vs v us Q I rx rv h
  obtain ⟨g, a, c0, ds, r, c1, rfl, cc, cl, cr, hb, nf, q⟩ := h
  cases c0 with
  | lst xs =>
    cases ds with
    | cons d l => cases hb
    | nil =>
      have h2 : (match xs[xs.length - 1]? with
        | some d => some (d, some (D.lst xs.dropLast))
        | none => none) = some (r, some c1) := hb
      cases e2 : xs[xs.length - 1]? with
      | none => rw [e2] at h2; cases h2
      | some d =>
        rw [e2] at h2
        cases h2
        obtain ⟨ws, hH, rl⟩ := cc
        have ev : vs = [] := cl
        subst ev
        rw [rl.len] at e2
        obtain ⟨w, e3, rw'⟩ := rl.get e2
        refine mt_pop pins s σ H _ _ v us Q I rx rv ⟨a, ws, w, rfl, rfl, hH, e3, q _ _ rw' fun H' e => ?_⟩
        subst e
        exact ⟨_, upd_same, rl.droplast.mono (Wd.le.refl g) (keepF nf) _ _⟩
  | _ => cases hb
theorem bm_remove : MtR X "list.remove" (bmR X.K cA .remove) := by
  intro pins s σ H x vs v us Q I rx rv h
  obtain ⟨g, a, c0, ds, r, c1, rfl, cc, cl, cr, hb, nf, q⟩ := h
  cases c0 with
  | lst xs =>
    obtain ⟨d, rfl⟩ := one_arg' (ds := ds) (fun z => by subst z; cases hb) (fun a b l z => by subst z; cases a <;> cases hb)
    cases d with
    | int k =>
      have h2 : (match intsD xs, eraseFirst k xs with
        | some _, some ys => some (D.non, some (D.lst ys))
        | _, _ => none) = some (r, some c1) := hb
      cases e1 : intsD xs with
      | none => rw [e1] at h2; cases h2
      | some is =>
        cases e2 : eraseFirst k xs with
        | none => rw [e1, e2] at h2; cases h2
        | some ys =>
          rw [e1, e2] at h2
          cases h2
          obtain ⟨ws, hH, rl⟩ := cc
          obtain ⟨y, rfl, cy⟩ := cl.one
          have ew := RepL.ints (vs := ws) rl e1
          subst ew
          obtain ⟨j, k1, k2, k3⟩ := erase_at e1 e2
          refine mt_remove pins s σ H _ _ v us Q I rx rv ⟨a, is, k, j, rfl, by rw [cy.int], hH, k1, k2, q _ _ rfl fun H' e => ?_⟩
          subst e
          refine ⟨_, upd_same, ?_⟩
          rw [k3, ← erase_mapI]
          exact (rl.erase j).mono (Wd.le.refl g) (keepF nf) _ _
    | _ => cases hb
  | _ => cases hb
end
/-! ### as expressions -/
def bmStr : BM → Str
  | .append => ("append" : Str) | .extend => ("extend" : Str) | .pop => ("pop" : Str) | .popAt => ("pop" : Str) | .remove => ("remove" : Str) | .get1 => ("get" : Str) | .get2 => ("get" : Str)
def bmMut : BM → Bool
  | .get1 => false
  | .get2 => false
  | _ => true
theorem bmD_mut {m : BM} {x r : D} {ds : List D} {o : Option D} (h : bmD m x ds = some (r, o)) (hm : bmMut m = true) : ∃ c1, o = some c1 := by
  unfold bmD at h
  split at h
  · split at h <;> cases h
    exact ⟨_, rfl⟩
  · split at h <;> cases h
    exact ⟨_, rfl⟩
  · split at h <;> cases h
    exact ⟨_, rfl⟩
  · split at h
    · split at h <;> cases h
      exact ⟨_, rfl⟩
    · cases h
  · split at h <;> cases h
    exact ⟨_, rfl⟩
  · cases hm
  · cases hm
  · cases h
theorem bmD_lst {m : BM} {x r : D} {ds : List D} {o : Option D} (h : bmD m x ds = some (r, o)) (hm : bmMut m = true) : ∃ xs, x = .lst xs := by
  unfold bmD at h
  split at h
  · exact ⟨_, rfl⟩
  · exact ⟨_, rfl⟩
  · exact ⟨_, rfl⟩
  · exact ⟨_, rfl⟩
  · exact ⟨_, rfl⟩
  · cases hm
  · cases hm
  · cases h
theorem derefs_noloc {K : PySem.W.Frag} {cA : Nat → Option Addr} {H : Hp} {g : Wd} {σ : L2.St} : ∀ {ds : List D} {vs : List V}, RepXs K cA σ H g ds vs → ds.any isLoc = false → RepL K cA H g ds vs
  | [], vs, h, _ => h
  | d :: ds, vs, h, n => by
    obtain ⟨v, r, rfl, h1, h2⟩ := h
    rw [List.any_cons, Bool.or_eq_false_iff] at n
    exact ⟨v, r, rfl, h1.rep n.1, derefs_noloc h2 n.2⟩
section
variable {X : Cx} {cA : Nat → Option Addr} {gv : Nat → Option D} {c : Cal} {a b e : DE} {es : List DE} {ea eb ec : Expr} {xs : List Expr} {pos p p2 apos : Pos}
theorem CvL.ofRep {K : PySem.W.Frag} {H : Hp} {g : Wd} : ∀ {ds : List D} {vs : List V}, RepL K cA H g ds vs → CvL K cA H g ds vs
  | [], vs, h => h
  | d :: ds, vs, h => by
    obtain ⟨v, r, rfl, h1, h2⟩ := h
    exact ⟨v, r, rfl, .inl h1, CvL.ofRep h2⟩
theorem bm_core {m : BM} (hm : bmMut m = true) {σ : L2.St} {H : Hp} {Q : VK} (q : tE X.K cA (evalE gv c (.bm m e es)) σ H Q) :
    tBM X.K "list" (bmR X.K cA m) (tE X.K cA (evalE gv c e)) (tP X.K cA (evalPs gv c es)) σ H Q := by
  obtain ⟨g, fr, R, h⟩ := q
  refine ⟨g, fr, R, Pst.bind (show Pst X.K cA (rpX X.K cA σ) g H σ ((evalE gv c e fr).bind fun x fr => (opt (deref fr x) fr).bind fun k fr => if bmKind m k then (evalPs gv c es fr).bind fun ds fr =>
    (opt ((deref fr x).bind fun x => (bmArgs fr m ds).bind fun ds => bmD m x ds) fr).bind fun r fr => match r.2 with
    | none => .ok r.1 fr
    | some n => (opt (putC fr x n) fr).bind fun fr _ => .ok r.1 fr
    else .stk) Q from h) fun d1 fr1 g1 v1 H1 l1 k1 R1 p1 h1 => ?_⟩
  obtain ⟨c0, e1, h2⟩ := Pst.optB h1
  obtain ⟨hk, h3⟩ := Pst.iteS h2
  have hty : tyV X.K "list" v1 H1 := by
    have cv := R1.cv p1 e1
    cases c0 with
    | lst ds =>
      obtain ⟨p, vs, rfl, hq, _⟩ := cv.lst
      exact .inl ⟨rfl, vs, hq.sq⟩
    | _ => cases m <;> first | (cases hm; done) | cases hk
  refine ⟨hty, g1, fr1, R1, Pst.bind h3 fun ds fr2 g2 vs H2 l2 k2 R2 p2 h4 => ?_⟩
  obtain ⟨r, e2, h5⟩ := Pst.optB h4
  obtain ⟨x, e3, e4⟩ := bind_some e2
  obtain ⟨cs, e5, e6⟩ := bind_some e4
  obtain ⟨r1, r2⟩ := r
  obtain ⟨n, rfl⟩ := bmD_mut e6 hm
  obtain ⟨fr3, e7, h6⟩ := Pst.optB (show Pst X.K cA (rpX X.K cA σ) g2 H2 σ ((opt (putC fr2 d1 n) fr2).bind fun fr _ => .ok r1 fr) Q from h5)
  obtain ⟨a, rfl, cc, nf, np, put⟩ := R2.put (p1.mono l2 k2.f) e3 e7
  have args : CvL X.K cA H2 g2 cs vs ∧ (m = .extend ∨ RepL X.K cA H2 g2 cs vs) := by
    by_cases hx : m = .extend
    · subst hx
      refine ⟨?_, .inl rfl⟩
      match ds, e5 with
      | [d], e5 =>
        obtain ⟨y, e8, e9⟩ := map_some' (show (deref fr2 d).map ([·]) = some cs from e5)
        subst e9
        obtain ⟨w, r, rfl, h7, h8⟩ := p2
        exact ⟨w, r, rfl, R2.cv h7 e8, h8⟩
      | [], e5 =>
        have e8 : (if ([] : List D).any isLoc then none else some []) = some cs := e5
        cases e8
        exact p2
      | d1 :: d2 :: l, e5 =>
        have e8 : (if (d1 :: d2 :: l).any isLoc then none else some (d1 :: d2 :: l)) = some cs := e5
        cases hl : (d1 :: d2 :: l).any isLoc with
        | true => rw [hl] at e8; cases e8
        | false =>
          rw [hl] at e8
          cases e8
          exact CvL.ofRep (derefs_noloc p2 hl)
    · have e8 : (if ds.any isLoc then none else some ds) = some cs := by
        cases m <;> first | exact absurd rfl hx | exact e5
      cases hl : ds.any isLoc with
      | true => rw [hl] at e8; cases e8
      | false =>
        rw [hl] at e8
        cases e8
        exact ⟨CvL.ofRep (derefs_noloc p2 hl), .inr (derefs_noloc p2 hl)⟩
  refine ⟨g2, a, x, cs, r1, n, rfl, cc, args.1, args.2, e6, nf, fun v u rv hc => ?_⟩
  have hh : ∀ b, b ≠ a → upd H2 a u b = H2 b := fun b z => upd_ne z
  have kp := keep_put nf np hh
  exact Pst.ok (Pst.mono h6 (Wd.le.refl g2) kp) (put _ hh (hc _ rfl)) (Rep.mono (Wd.le.refl g2) kp.f _ _ rv).x
theorem line_ok {a b : Pos} (h : (a.endLine == b.line) = true) : (a.endLine == b.line) = true := h
end
end Mr
end
section
set_option Elab.async false
set_option linter.all false
set_option maxRecDepth 100000
/-! M2k: calls. -/
namespace Mr
open PySem PySem.Spec PyProof.Rows L2
theorem star_all {pos : Pos} {env : Env} : ∀ {es : List Expr}, es.any isStar = false → (backTo pos (starEach es env)).all (fun x => !x.1) = true
  | [], _ => rfl
  | e :: es, h => by
    rw [List.any_cons, Bool.or_eq_false_iff] at h
    rw [star_each h.1]
    show (!false && (backTo pos (starEach es env)).all (fun x => !x.1)) = true
    rw [star_all h.2]
    rfl
theorem few_ok {pos : Pos} {env : Env} {es : List Expr} (h : es.any isStar = false) (hl : es.length < 30) :
    ((backTo pos (starEach es env)).all (fun x => !x.1) && (backToKw pos (keywordEach [] env)).all (fun x => x.1.isSome) && decide (es.length + ([] : List Keyword).length + (if ([] : List Keyword).isEmpty then 0 else 1) < 30)) = true := by
  rw [star_all h]
  show (true && true && decide (es.length + 0 + 0 < 30)) = true
  simpa using hl
section
variable {X : Cx} {cA : Nat → Option Addr} {gv : Nat → Option D} {c : Cal} {a b e : DE} {es : List DE} {ea eb ec eo : Expr} {xs : List Expr} {pos p p2 apos : Pos}
/-! ### methods of lists -/
theorem s_bm1 {m : BM} {name : Str} {id : String} (slot : Slot "list" name id) (hty : typeOf (.builtin id) = pure (.type "method_descriptor")) (hmt : MtR X id (bmR X.K cA m)) (hm : bmMut m = true) (ho : (fun (d : DE) (x : Expr) => PE X x (tE X.K cA (evalE gv c d))) e eo) (ha : PA X (ea :: xs) (tP X.K cA (evalPs gv c es)))
    (hb : isCall eo = false) (hl : (apos.endLine == pos.line) = true) (h1 : isStar ea = false) (h2 : xs.any isStar = false) (h3 : (ea :: xs).length < 30) : (fun (d : DE) (x : Expr) => PE X x (tE X.K cA (evalE gv c d))) (.bm m e es) (.Call (.Attribute eo name apos) (ea :: xs) [] pos) :=
  PE.imp (pe_bm F.plainAttrs_list slot hty hmt ho ha (base_ok hb) (few_ok (by rw [List.any_cons, h1, h2]; rfl) h3) hl (star_each h1) (star_any h2)) fun σ H Q q => bm_core hm q
theorem s_bm0 {m : BM} {name : Str} {id : String} (slot : Slot "list" name id) (hty : typeOf (.builtin id) = pure (.type "method_descriptor")) (hmt : MtR X id (bmR X.K cA m)) (hm : bmMut m = true) (ho : (fun (d : DE) (x : Expr) => PE X x (tE X.K cA (evalE gv c d))) e eo)
    (hb : isCall eo = false) (hl : (apos.endLine == pos.line) = true) : (fun (d : DE) (x : Expr) => PE X x (tE X.K cA (evalE gv c d))) (.bm m e []) (.Call (.Attribute eo name apos) [] [] pos) := by
  refine PE.imp (pe_bm0 F.plainAttrs_list slot hty hmt ho (base_ok hb) hl) fun σ H Q q => ?_
  obtain ⟨g, fr, R, h⟩ := bm_core hm q
  refine ⟨g, fr, R, Pst.imp h fun x H1 ⟨hx, g1, fr1, R1, h1⟩ => ⟨hx, ?_⟩⟩
  exact h1 g1 [] H1 (Wd.le.refl g1) (Keep.refl g1 H1) R1 rfl
/-! ### d.get -/
theorem isD_of {K : PySem.W.Frag} {H : Hp} {g : Wd} {ks : List Key} {vs : List D} {v : V} (h : Cv K cA H g (.dK ks vs) v) : ∃ a, v = .ref a ∧ IsD H a := by
  obtain ⟨a, kvs, rfl, q, _⟩ := h.dK
  exact ⟨a, rfl, .inl ⟨kvs, q⟩⟩
theorem isdic_k {m : BM} {c0 : D} (hm : bmMut m = false) (h : bmKind m c0 = true) : ∃ ks vs, c0 = .dK ks vs := by
  cases c0 with
  | dK ks vs => exact ⟨ks, vs, rfl⟩
  | _ => cases m <;> first | (cases hm; done) | cases h
theorem bmD_get {m : BM} {x r : D} {ds : List D} {o : Option D} (h : bmD m x ds = some (r, o)) (hm : bmMut m = false) : o = none := by
  unfold bmD at h
  split at h
  · cases hm
  · cases hm
  · cases hm
  · cases hm
  · cases hm
  · split at h <;> cases h
    rfl
  · split at h <;> cases h
    rfl
  · cases h
theorem s_get1 (hu : X.A.units + 1 < cLine) (ho : (fun (d : DE) (x : Expr) => PE X x (tE X.K cA (evalE gv c d))) e eo) (ha : (fun (d : DE) (x : Expr) => PE X x (tE X.K cA (evalE gv c d))) a ea) (hb : isCall eo = false) (hl : (apos.endLine == pos.line) = true) (h1 : isStar ea = false) : (fun (d : DE) (x : Expr) => PE X x (tE X.K cA (evalE gv c d))) (.bm .get1 e [a]) (.Call (.Attribute eo "get" apos) [ea] [] pos) := by
  have m1 : M1 X eo "get" apos ea pos := ⟨base_ok hb, few_ok (by simp [h1]) (by show 1 < 30; omega), hl, by rw [star_each h1]; rfl⟩
  refine PE.imp (pe_dget1 hu ho ha m1) fun σ H Q q => ?_
  obtain ⟨g, fr, R, h⟩ := q
  refine ⟨g, fr, R, Pst.bind (show Pst X.K cA (rpX X.K cA σ) g H σ ((evalE gv c e fr).bind fun x fr => (opt (deref fr x) fr).bind fun k fr => if bmKind .get1 k then ((evalE gv c a fr).bind fun y fr => (evalPs gv c [] fr).bind fun ys fr => .ok (y :: ys) fr).bind fun ds fr =>
    (opt ((deref fr x).bind fun x => (bmArgs fr .get1 ds).bind fun ds => bmD .get1 x ds) fr).bind fun r fr => match r.2 with
    | none => .ok r.1 fr
    | some n => (opt (putC fr x n) fr).bind fun fr _ => .ok r.1 fr
    else .stk) Q from h) fun d1 fr1 g1 v1 H1 l1 k1 R1 p1 h1 => ?_⟩
  obtain ⟨c0, e1, h2⟩ := Pst.optB h1
  obtain ⟨hk, h3⟩ := Pst.iteS h2
  obtain ⟨ks, vs, rfl⟩ := isdic_k rfl hk
  obtain ⟨p, rfl, hd⟩ := isD_of (R1.cv p1 e1)
  refine ⟨p, rfl, hd, g1, fr1, R1, ?_⟩
  cases e2 : evalE gv c a fr1 with
  | stk => rw [e2] at h3; exact h3.elim
  | exc C ds f => rw [e2] at h3; exact h3.elim
  | ok y fr2 =>
    rw [e2] at h3
    have h4 : Pst X.K cA (rpX X.K cA σ) g1 H1 σ ((opt ((deref fr2 d1).bind fun x => (bmArgs fr2 .get1 [y]).bind fun ds => bmD .get1 x ds) fr2).bind fun r fr => match r.2 with
      | none => .ok r.1 fr
      | some n => (opt (putC fr d1 n) fr).bind fun fr _ => .ok r.1 fr) Q := h3
    intro g2 w H2 l2 k2 R2 p2
    obtain ⟨r, e3, h5⟩ := Pst.optB (Pst.mono h4 l2 k2)
    obtain ⟨x, e4, e5⟩ := bind_some e3
    obtain ⟨cs, e6, e7⟩ := bind_some e5
    obtain ⟨r1, r2⟩ := r
    have er := bmD_get e7 rfl
    subst er
    have h6 : Pst X.K cA (rpX X.K cA σ) g2 H2 σ (.ok r1 fr2) Q := h5
    have e8 : (if [y].any isLoc then none else some [y]) = some cs := e6
    cases hn : isLoc y with
    | true => simp [hn] at e8
    | false =>
      simp [hn] at e8
      subst e8
      have cx := R2.cv (p1.mono l2 k2.f) e4
      cases x with
      | dK ks' vs' =>
        have e9 : (match keyD y with
          | some k => some ((look ks' vs' k).getD .non, none)
          | none => none) = some (r1, (none : Option D)) := e7
        cases ek : keyD y with
        | none => rw [ek] at e9; cases e9
        | some k =>
          rw [ek] at e9
          cases e9
          obtain ⟨p', o, ev, hg, hv, hvn⟩ := dget_of cx (.inl (p2.rep hn)) (.inl ⟨ks', vs', k, rfl, ek, rfl⟩)
          cases ev
          refine ⟨o, hg, Pst.ok h6 R2 ?_⟩
          cases el : look ks' vs' k with
          | none =>
            rw [hvn el]
            exact rfl
          | some d =>
            obtain ⟨v, rfl, rv⟩ := hv d el
            exact rv.x
      | _ => cases e7
theorem s_get2 (hu : X.A.units + 1 < cLine) (ho : (fun (d : DE) (x : Expr) => PE X x (tE X.K cA (evalE gv c d))) e eo) (ha : (fun (d : DE) (x : Expr) => PE X x (tE X.K cA (evalE gv c d))) a ea) (hb2 : (fun (d : DE) (x : Expr) => PE X x (tE X.K cA (evalE gv c d))) b eb) (hb : isCall eo = false) (hl : (apos.endLine == pos.line) = true) (h1 : isStar ea = false) (h1' : isStar eb = false) : (fun (d : DE) (x : Expr) => PE X x (tE X.K cA (evalE gv c d))) (.bm .get2 e [a, b]) (.Call (.Attribute eo "get" apos) [ea, eb] [] pos) := by
  have m1 : M2 X eo "get" apos ea eb pos := ⟨base_ok hb, few_ok (by simp [h1, h1']) (by show 2 < 30; omega), hl, by rw [star_each h1, star_each h1']; rfl⟩
  refine PE.imp (pe_dget2 hu ho ha hb2 m1) fun σ H Q q => ?_
  obtain ⟨g, fr, R, h⟩ := q
  refine ⟨g, fr, R, Pst.bind (show Pst X.K cA (rpX X.K cA σ) g H σ ((evalE gv c e fr).bind fun x fr => (opt (deref fr x) fr).bind fun k fr => if bmKind .get2 k then ((evalE gv c a fr).bind fun y fr => ((evalE gv c b fr).bind fun z fr => (evalPs gv c [] fr).bind fun ys fr => .ok (z :: ys) fr).bind fun ys fr => .ok (y :: ys) fr).bind fun ds fr =>
    (opt ((deref fr x).bind fun x => (bmArgs fr .get2 ds).bind fun ds => bmD .get2 x ds) fr).bind fun r fr => match r.2 with
    | none => .ok r.1 fr
    | some n => (opt (putC fr x n) fr).bind fun fr _ => .ok r.1 fr
    else .stk) Q from h) fun d1 fr1 g1 v1 H1 l1 k1 R1 p1 h1 => ?_⟩
  obtain ⟨c0, e1, h2⟩ := Pst.optB h1
  obtain ⟨hk, h3⟩ := Pst.iteS h2
  obtain ⟨ks, vs, rfl⟩ := isdic_k rfl hk
  obtain ⟨p, rfl, hd⟩ := isD_of (R1.cv p1 e1)
  refine ⟨p, rfl, hd, g1, fr1, R1, ?_⟩
  cases e2 : evalE gv c a fr1 with
  | stk => rw [e2] at h3; exact h3.elim
  | exc C ds f => rw [e2] at h3; exact h3.elim
  | ok y fr2 =>
    rw [e2] at h3
    intro g2 w H2 l2 k2 R2 p2
    refine ⟨g2, fr2, R2, ?_⟩
    have h3' := Pst.mono h3 l2 k2
    cases e2' : evalE gv c b fr2 with
    | stk => simp only [Rs.bind, e2'] at h3'; exact h3'.elim
    | exc C ds f => simp only [Rs.bind, e2'] at h3'; exact h3'.elim
    | ok z fr3 =>
      simp only [Rs.bind, e2', evalPs] at h3'
      intro g3 w3 H3 l3 k3 R3 p3
      have h4 : Pst X.K cA (rpX X.K cA σ) g3 H3 σ ((opt ((deref fr3 d1).bind fun x => (bmArgs fr3 .get2 [y, z]).bind fun ds => bmD .get2 x ds) fr3).bind fun r fr => match r.2 with
        | none => .ok r.1 fr
        | some n => (opt (putC fr d1 n) fr).bind fun fr _ => .ok r.1 fr) Q := Pst.mono h3' l3 k3
      obtain ⟨r, e3, h5⟩ := Pst.optB h4
      obtain ⟨x, e4, e5⟩ := bind_some e3
      obtain ⟨cs, e6, e7⟩ := bind_some e5
      obtain ⟨r1, r2⟩ := r
      have er := bmD_get e7 rfl
      subst er
      have h6 : Pst X.K cA (rpX X.K cA σ) g3 H3 σ (.ok r1 fr3) Q := h5
      have e8 : (if [y, z].any isLoc then none else some [y, z]) = some cs := e6
      have hn : isLoc y = false ∧ isLoc z = false := by
        cases hy : isLoc y <;> cases hz : isLoc z <;> simp [hy, hz] at e8 ⊢
      simp [hn.1, hn.2] at e8
      subst e8
      have cx := R3.cv ((p1.mono l2 k2.f).mono l3 k3.f) e4
      cases x with
      | dK ks' vs' =>
        have e9 : (match keyD y with
          | some k => some ((look ks' vs' k).getD z, none)
          | none => none) = some (r1, (none : Option D)) := e7
        cases ek : keyD y with
        | none => rw [ek] at e9; cases e9
        | some k =>
          rw [ek] at e9
          cases e9
          obtain ⟨p', o, ev, hg, hv, hvn⟩ := dget_of cx (.inl ((p2.mono l3 k3.f).rep hn.1)) (.inl ⟨ks', vs', k, rfl, ek, rfl⟩)
          cases ev
          refine ⟨o, hg, Pst.ok h6 R3 ?_⟩
          cases el : look ks' vs' k with
          | none =>
            rw [hvn el]
            exact p3
          | some d =>
            obtain ⟨v, rfl, rv⟩ := hv d el
            exact rv.x
      | _ => cases e7
/-! ### built-in functions -/
theorem bf_core {f : BF} {t : L2.TA} {σ : L2.St} {H : Hp} {Q : VK} (q : tA X.K cA (evalE gv c (.bf f es)) σ H Q) : tCB (bfR X.K cA f) (tP X.K cA (evalPs gv c es)) σ H Q := by
  obtain ⟨g, fr, R, h⟩ := q
  refine ⟨g, fr, R, Pst.bind (show Pst X.K cA (rpA X.K cA σ) g H σ ((evalPs gv c es fr).bind fun ds fr => opt ((derefs fr ds).bind (bfD f)) fr) Q from h) fun ds fr1 g1 vs H1 l1 k1 R1 p1 h1 => ?_⟩
  obtain ⟨r, e1, h2⟩ := Pst.opt h1
  obtain ⟨cs, e2, e3⟩ := bind_some e1
  exact ⟨g1, cs, r, R1.cvL p1 e2, e3, fun v H' n => Pst.newA h2 R1 n⟩
theorem s_bfB {f : BF} {id : String} {x : Str} (hv : bfVal f = .builtin id) (hcalm : X.calm = true) (hg : Gl X x) (hm : X.mg x = none) (hb : bootBuiltins x = some (.builtin id)) (hn : x ≠ "__name__") (hdb : (x == ("__debug__" : Str)) = false)
    (ha : PA X (ea :: xs) (tP X.K cA (evalPs gv c es))) (h1 : isStar ea = false) (h2 : xs.any isStar = false) : (fun (d : DE) (x : Expr) => PE X x (tA X.K cA (evalE gv c d))) (.bf f es) (.Call (.Name x p) (ea :: xs) [] pos) := by
  have cr := op_bfM (X := X) (cA := cA) hcalm f
  rw [hv] at cr
  exact PE.imp (pe_callB cr hg hm hb ha hn hdb (star_each h1) (star_any h2)) fun σ H Q q => bf_core (t := tP X.K cA (evalPs gv c es)) q
theorem s_bfT {f : BF} {T : String} {x : Str} (hv : bfVal f = .type T) (hcalm : X.calm = true) (hg : Gl X x) (hm : X.mg x = none) (hb : bootBuiltins x = some (.type T)) (hn : x ≠ "__name__") (hdb : (x == ("__debug__" : Str)) = false)
    (ha : PA X (ea :: xs) (tP X.K cA (evalPs gv c es))) (h1 : isStar ea = false) (h2 : xs.any isStar = false) : (fun (d : DE) (x : Expr) => PE X x (tA X.K cA (evalE gv c d))) (.bf f es) (.Call (.Name x p) (ea :: xs) [] pos) := by
  have cr := op_bfM (X := X) (cA := cA) hcalm f
  rw [hv] at cr
  exact PE.imp (pe_callTy cr hg hm hb ha hn hdb (star_each h1) (star_any h2)) fun σ H Q q => bf_core (t := tP X.K cA (evalPs gv c es)) q
theorem s_bfG {f : BF} {id : String} {x : Str} (hv : bfVal f = .builtin id) (hcalm : X.calm = true) (hg : Gl X x) (hm : X.mg x = some (.builtin id)) (hdb : (x == ("__debug__" : Str)) = false)
    (ha : PA X (ea :: xs) (tP X.K cA (evalPs gv c es))) (h1 : isStar ea = false) (h2 : xs.any isStar = false) : (fun (d : DE) (x : Expr) => PE X x (tA X.K cA (evalE gv c d))) (.bf f es) (.Call (.Name x p) (ea :: xs) [] pos) := by
  have cr := op_bfM (X := X) (cA := cA) hcalm f
  rw [hv] at cr
  exact PE.imp (pe_callBfun cr hg hm ha hdb (star_each h1) (star_any h2)) fun σ H Q q => bf_core (t := tP X.K cA (evalPs gv c es)) q
/-! ### list(range(n)) -/
theorem rgV_rep {K : PySem.W.Frag} {H : Hp} {g : Wd} (n : Int) : RepL K cA H g (rangeD 0 n.toNat) (rgV 0 n) := by
  unfold rangeD rgV
  rw [Int.sub_zero]
  exact RepL.map (fun k : Nat => D.int (0 + (k : Int))) (fun k : Nat => V.int (0 + (k : Int))) (fun _ => rfl) _
theorem s_lrng (hc : X.calm = true) (hg : Gl X "list") (hm : X.mg "list" = none) (hg2 : Gl X "range") (hm2 : X.mg "range" = none) (ha : (fun (d : DE) (x : Expr) => PE X x (tE X.K cA (evalE gv c d))) a ea) (h1 : isStar ea = false) : (fun (d : DE) (x : Expr) => PE X x (tA X.K cA (evalE gv c d))) (.lrng a) (.Call (.Name "list" p) [.Call (.Name "range" p2) [ea] [] apos] [] pos) := by
  refine PE.imp (pe_listRg hc hg hm (prg_1 hg2 hm2 ha (star_each h1)) rfl) fun σ H Q q => ?_
  obtain ⟨g, fr, R, h⟩ := q
  refine ⟨g, fr, R, Pst.bind (show Pst X.K cA (rpA X.K cA σ) g H σ ((evalE gv c a fr).bind fun x fr => match x with
    | .int n => if decide (0 ≤ n) && decide (n ≤ 16777216) then .ok (.lst (rangeD 0 n.toNat)) fr else .stk
    | _ => .stk) Q from h) fun d1 fr1 g1 v1 H1 l1 k1 R1 p1 h1 => ?_⟩
  cases d1 with
  | int n =>
    obtain ⟨hz, h2⟩ := Pst.iteS (show Pst X.K cA (rpA X.K cA σ) g1 H1 σ (if (decide (0 ≤ n) && decide (n ≤ 16777216)) = true then .ok (.lst (rangeD 0 n.toNat)) fr1 else .stk) Q from h1)
    simp only [Bool.and_eq_true, decide_eq_true_eq] at hz
    exact ⟨n, p1, RgOk.of_le (by omega) hz.2 (by omega) hz.1, fun q hq => Pst.newA h2 R1 (.lst hq (rgV_rep n))⟩
  | _ => exact h1.elim
/-! ### a new cell of the store -/
theorem Rel.live {K : PySem.W.Frag} {H : Hp} {g : Wd} {fr : Fm} {σ : L2.St} {d : D} {q : Addr} (R : Rel K cA H g fr σ) (hc : Con K cA H g q d) (f : Fresh fr σ g q) :
    Rel K cA H ⟨g.F, g.P, g.m ++ [q]⟩ ⟨fr.env, fr.st ++ [d]⟩ σ := by
  have l : g.le ⟨g.F, g.P, g.m ++ [q]⟩ := ⟨fun _ h => h, rfl, [q], rfl⟩
  refine ⟨fun i e h => ?_, fun i e h => ?_, R.two, ?_, fun k e a h1 h2 => ?_, ?_, R.fok, R.pok, R.len⟩
  · obtain ⟨w, q1, rr⟩ := R.val i e h
    exact ⟨w, q1, rr.mono l fun _ _ => rfl⟩
  · obtain ⟨a, q1, rr, z1, z2, z3⟩ := R.own i e h
    refine ⟨a, q1, rr.mono l (fun _ _ => rfl) rfl, z1, z2, fun z => ?_⟩
    rcases List.mem_append.mp z with z | z
    · exact z3 z
    · exact f.o i e h (List.mem_singleton.mp z ▸ q1)
  · show (g.m ++ [q]).length = (fr.st ++ [d]).length
    rw [List.length_append, List.length_append, R.sto]
    rfl
  · have h1' : (fr.st ++ [d])[k]? = some e := h1
    have h2' : (g.m ++ [q])[k]? = some a := h2
    by_cases hk : k < fr.st.length
    · rw [List.getElem?_append_left hk] at h1'
      rw [List.getElem?_append_left (by rw [R.sto]; exact hk)] at h2'
      obtain ⟨rr, z⟩ := R.cel k e a h1' h2'
      exact ⟨rr.mono l (fun _ _ => rfl) rfl, z⟩
    · have ek : k = fr.st.length := by
        have := get_lt h1'
        rw [List.length_append] at this
        simp at this
        omega
      subst ek
      rw [List.getElem?_append_right (Nat.le_refl _), Nat.sub_self] at h1'
      rw [← R.sto, List.getElem?_append_right (Nat.le_refl _), Nat.sub_self] at h2'
      cases h1'
      cases h2'
      exact ⟨hc.mono l (fun _ _ => rfl) rfl, f.f, f.pr⟩
  · show (g.m ++ [q]).Nodup
    rw [List.nodup_append]
    refine ⟨R.nod, by simp, fun a ha b hb => ?_⟩
    rw [List.mem_singleton.mp hb]
    exact fun z => f.m (z ▸ ha)
theorem s_live (ha : (fun (d : DE) (x : Expr) => PE X x (tA X.K cA (evalE gv c d))) a ea) : (fun (d : DE) (x : Expr) => PE X x (tE X.K cA (evalE gv c d))) (.live a) ea := by
  refine PE.imp ha fun σ H Q q => ?_
  obtain ⟨g, fr, R, h⟩ := q
  refine ⟨g, fr, R, Pst.bind (show Pst X.K cA (rpX X.K cA σ) g H σ ((evalE gv c a fr).bind fun d fr => liveR d fr) Q from h) fun d1 fr1 g1 v1 H1 l1 k1 R1 p1 h1 => ?_⟩
  have key : isMut d1 = true → Pst X.K cA (rpX X.K cA σ) g1 H1 σ (.ok (.ref fr1.st.length) ⟨fr1.env, fr1.st ++ [d1]⟩) Q → Q v1 H1 := fun hm h2 => by
    rcases p1 with ⟨_, p, rfl, hc, hf⟩ | ⟨z, _⟩
    · refine h2 ⟨g1.F, g1.P, g1.m ++ [p]⟩ _ H1 ⟨fun _ h => h, rfl, [p], rfl⟩ (Keep.refl g1 H1) (R1.live hc hf) ?_
      refine ⟨p, ?_, rfl⟩
      show (g1.m ++ [p])[fr1.st.length]? = some p
      rw [← R1.sto, List.getElem?_append_right (Nat.le_refl _), Nat.sub_self]
      rfl
    · rw [hm] at z
      cases z
  cases d1 with
  | lst _ => exact key rfl h1
  | dK _ _ => exact key rfl h1
  | dT _ _ => exact key rfl h1
  | _ => exact h1.elim
end
end Mr
end
section
set_option Elab.async false
set_option linter.all false
set_option maxRecDepth 100000
/-! M2l: calls of the module's own defs and classes. -/
namespace Mr
open PySem PySem.Spec PyProof.Rows L2
def CX0 : CXT := fun _ _ _ _ _ _ => False
def E0 : XK := fun _ _ _ => False
section
variable (K : PySem.W.Frag) (cA : Nat → Option Addr)
def rcF (r : RC) (g : Wd) (H : Hp) (Q : VK) : Prop := match r with
  | .ok d st => ∀ g' v H', g.le g' → Keep g H H' → Rel K cA H' g' ⟨[], st⟩ [] → Rep K cA H' g' d v → Q v H'
  | _ => False
/-- a def's promise -/
def spF (np : Nat) (r : List D → List D → RC) : Sp := fun vs H Q _ => vs.length = np ∧ ∃ g ds st, RepL K cA H g ds vs ∧ Rel K cA H g ⟨[], st⟩ [] ∧ rcF K cA (r ds st) g H Q
/-- with one more cell -/
def Wd.cell (g : Wd) (x : Addr) : Wd := ⟨g.F, g.P, g.m ++ [x]⟩
/-- an __init__'s promise: the new object is a cell -/
def spI (np C : Nat) (r : List D → List D → RC) : Sp := fun vs H Q _ => vs.length = np ∧ ∃ x ws, vs = .ref x :: ws ∧ ∃ g ds st, RepL K cA H g ds ws ∧ Rel K cA H g ⟨[], st⟩ [] ∧ Con K cA H g x (.ins C [] []) ∧ ¬ g.F x ∧ ¬ g.P x ∧ x ∉ g.m ∧
  rcF K cA (r ds st) (g.cell x) H (fun v H' => v = .ref x → Q .non H')
end
/-- the defs and classes that may be called -/
structure Fns (prog : Program) (w : World) (K : PySem.W.Frag) (mg : Str → Option Value) (base : Heap) (nm : Nm) (cA : Nat → Option Addr) (c : Cal) (k : Nat) : Prop where
  fn : ∀ (f : Nat) (x : Str) (np : Nat), nm.fn[f]? = some (x, np) → ∃ (a : Addr) (fd : FuncData) (ps : List Str), ps.length = np ∧ mg x = some (.ref a) ∧ PySem.W.keepIn K (.ref a) = true ∧ FnOk prog w K mg base CX0 k a fd ps (spF K cA ps.length (c.fn f)) ∧ Binds K fd ps []
  cl : ∀ (C : Nat) (x : Str) (np : Nat), nm.cl[C]? = some (x, np) → ∃ (a f : Addr) (fd : FuncData) (ps : List Str), ps.length = np + 1 ∧ cA C = some a ∧ mg x = some (.ref a) ∧ Mk K a f ∧ FnOk prog w K mg base CX0 k f fd ps (spI K cA ps.length C (c.ini C)) ∧ Binds K fd ps []
section
variable {K : PySem.W.Frag} {cA : Nat → Option Addr} {H H' : Hp} {g g' : Wd} {fr : Fm} {σ : L2.St}
/-- the ghost that a callee gets: the caller's own objects are protected -/
def Wd.call (g : Wd) (fr : Fm) (σ : L2.St) : Wd := ⟨g.F, fun a => g.P a ∨ ∃ (i : Nat) (d : D), fr.env[i]? = some (Sl.own d) ∧ σ[i]? = some (some (.ref a)), g.m⟩
theorem Wd.sub_call (g : Wd) (fr : Fm) (σ : L2.St) : g.sub (g.call fr σ) := ⟨fun _ h => h, fun _ _ h => h⟩
theorem own_fact (R : Rel K cA H g fr σ) {a : Addr} (h : ∃ (i : Nat) (d : D), fr.env[i]? = some (Sl.own d) ∧ σ[i]? = some (some (.ref a))) : (∃ d, Con K cA H g a d) ∧ ¬ g.F a ∧ ¬ g.P a ∧ a ∉ g.m := by
  obtain ⟨i, d, h1, h2⟩ := h
  obtain ⟨b, h3, c, f, p, m⟩ := R.own i d h1
  rw [h2] at h3
  cases h3
  exact ⟨⟨d, c⟩, f, p, m⟩
theorem Rel.call (R : Rel K cA H g fr σ) : Rel K cA H (g.call fr σ) ⟨[], fr.st⟩ [] := by
  refine ⟨fun i d h => by simp at h, fun i d h => by simp at h, fun i j d e a h => by simp at h, R.sto, fun k d a h1 h2 => ?_, R.nod, fun a h => ?_, fun a h => ?_, rfl⟩
  · obtain ⟨c, f, p⟩ := R.cel k d a h1 h2
    refine ⟨c.mono0 (g.sub_call fr σ) (fun _ _ => rfl) rfl, f, fun z => z.elim p fun z => ?_⟩
    exact (own_fact R z).2.2.2 (List.mem_of_getElem? h2)
  · obtain ⟨h1, h2⟩ := R.fok a h
    exact ⟨h1, fun z => z.elim h2 fun z => (own_fact R z).2.1 h⟩
  · rcases h with h | h
    · exact R.pok a h
    · obtain ⟨⟨d, c⟩, _⟩ := own_fact R h
      exact c.some
/-- behind the call -/
def Wd.back (g g' : Wd) : Wd := ⟨g'.F, g.P, g'.m⟩
theorem Wd.le_back (g : Wd) (l : (g.call fr σ).le g') : g.le (g.back g') := ⟨fun a h => l.1 a h, rfl, l.2.2⟩
theorem Rel.back (R : Rel K cA H g fr σ) {st : List D} (l : (g.call fr σ).le g') (k : Keep (g.call fr σ) H H') (R' : Rel K cA H' g' ⟨[], st⟩ []) : Rel K cA H' (g.back g') ⟨fr.env, st⟩ σ ∧ Keep g H H' := by
  have kf : ∀ a, g.F a → H' a = H a := fun a h => k a (.inl h)
  have lb := Wd.le_back g l
  have s2 : g'.sub (g.back g') := ⟨fun _ h => h, fun _ _ h => h⟩
  have eP : g'.P = (g.call fr σ).P := l.2.1
  refine ⟨⟨fun i d h => ?_, fun i d h => ?_, R.two, R'.sto, fun n d a h1 h2 => ?_, R'.nod, fun a h => ?_, fun a h => ?_, R.len⟩, fun a h => k a (h.elim .inl fun h => .inr (.inl h))⟩
  · obtain ⟨w, q, rr⟩ := R.val i d h
    exact ⟨w, q, rr.mono lb kf⟩
  · obtain ⟨a, q, rr, z1, z2, z3⟩ := R.own i d h
    have pa : g'.P a := by rw [eP]; exact .inr ⟨i, d, h, q⟩
    refine ⟨a, q, rr.mono lb kf (k a (.inr (.inr ⟨i, d, h, q⟩))), fun z => (R'.fok a z).2 pa, z2, fun z => ?_⟩
    obtain ⟨n, hn, e⟩ := List.getElem_of_mem z
    have hn' : n < st.length := by
      have := R'.sto
      have e2 : g'.m.length = st.length := this
      rw [← e2]
      exact hn
    exact (R'.cel n st[n] a (List.getElem?_eq_getElem hn') (by rw [← e]; exact List.getElem?_eq_getElem hn)).2.2 pa
  · obtain ⟨c, f, p⟩ := R'.cel n d a h1 h2
    exact ⟨c.mono0 s2 (fun _ _ => rfl) rfl, f, fun z => p (by rw [eP]; exact .inl z)⟩
  · obtain ⟨h1, h2⟩ := R'.fok a h
    exact ⟨h1, fun z => h2 (by rw [eP]; exact .inl z)⟩
  · rw [k a (.inr (.inl h))]
    exact R.pok a h
end
section
variable {X : Cx} {cA : Nat → Option Addr} {gv : Nat → Option D} {c : Cal} {a b e : DE} {es : List DE} {ea eb ec eo : Expr} {xs : List Expr} {pos p p2 apos : Pos} {nm : Nm} {k : Nat}
theorem pass0 {E : XK} : Passes CX0 X E := fun _ _ _ _ _ _ _ z => z.elim
theorem call_core {f np : Nat} {σ : L2.St} {H : Hp} {Q : VK} {E : XK} (hl : es.any isStarD = false ∧ es.length = np) (q : tE X.K cA (evalE gv c (.call f es)) σ H Q) :
    tL X.K cA (evalEs gv c es) σ H fun vs H1 => (vs.length = np → spF X.K cA np (c.fn f) (vs ++ []) H1 Q E) := by
  obtain ⟨g, fr, R, h⟩ := q
  refine ⟨g, fr, R, Pst.bind (show Pst X.K cA (rpX X.K cA σ) g H σ ((evalEs gv c es fr).bind fun ds fr => ofRC fr.env (c.fn f ds fr.st)) Q from h) fun ds fr1 g1 vs H1 l1 k1 R1 p1 h1 => ?_⟩
  intro hn
  rw [List.append_nil]
  refine ⟨hn, g1.call fr1 σ, ds, fr1.st, RepL.mono0 (g1.sub_call fr1 σ) (fun _ _ => rfl) _ _ p1, R1.call, ?_⟩
  cases er : c.fn f ds fr1.st with
  | stk => rw [er] at h1; exact h1.elim
  | exc C ds st => rw [er] at h1; exact h1.elim
  | ok d st =>
    rw [er] at h1
    intro g' v H' l2 k2 R2 p2
    obtain ⟨R3, k3⟩ := R1.back l2 k2 R2
    exact h1 (g1.back g') v H' (Wd.le_back g1 l2) k3 R3 (Rep.mono0 (show g'.sub (g1.back g') from ⟨fun _ h => h, fun _ _ h => h⟩) (fun _ _ => rfl) _ _ p2).x
theorem evalEs_len : ∀ {es : List DE} {fr fr' : Fm} {ds : List D}, es.any isStarD = false → evalEs gv c es fr = .ok ds fr' → ds.length = es.length
  | [], fr, fr', ds, _, h => by
    cases h
    rfl
  | e :: es, fr, fr', ds, hs, h => by
    rw [List.any_cons, Bool.or_eq_false_iff] at hs
    rw [evalEs_cons hs.1] at h
    cases e1 : evalE gv c e fr with
    | stk => rw [e1] at h; cases h
    | exc C z f => rw [e1] at h; cases h
    | ok x fr1 =>
      rw [e1] at h
      have h2 : ((noLoc x fr1).bind fun x fr => (evalEs gv c es fr).bind fun ys fr => .ok (x :: ys) fr) = .ok ds fr' := h
      unfold noLoc at h2
      cases hn : isLoc x with
      | true => rw [hn] at h2; cases h2
      | false =>
        rw [hn] at h2
        have h3 : ((evalEs gv c es fr1).bind fun ys fr => .ok (x :: ys) fr) = .ok ds fr' := h2
        cases e2 : evalEs gv c es fr1 with
        | stk => rw [e2] at h3; cases h3
        | exc C z f => rw [e2] at h3; cases h3
        | ok ys fr2 =>
          rw [e2] at h3
          cases h3
          rw [List.length_cons, List.length_cons, evalEs_len hs.2 e2]
theorem tL_len {σ : L2.St} {H : Hp} {Q : List V → Hp → Prop} {np : Nat} (hl : es.any isStarD = false ∧ es.length = np) (q : tL X.K cA (evalEs gv c es) σ H fun vs H1 => (vs.length = np → Q vs H1)) : tL X.K cA (evalEs gv c es) σ H Q := by
  obtain ⟨g, fr, R, h⟩ := q
  refine ⟨g, fr, R, ?_⟩
  cases e : evalEs gv c es fr with
  | stk => rw [e] at h; exact h.elim
  | exc C z f => rw [e] at h; exact h.elim
  | ok ds fr1 =>
    rw [e] at h
    intro g1 vs H1 l1 k1 R1 p1
    refine h g1 vs H1 l1 k1 R1 p1 ?_
    rw [← RepL.len p1, evalEs_len hl.1 e]
    exact hl.2
theorem s_call {f : Nat} {x : Str} {np : Nat} (F : Fns X.prog X.w X.K X.mg X.base nm cA c k) (hf : nm.fn[f]? = some (x, np)) (hr : Room k X.A) (hg : Gl X x) (hdb : (x == ("__debug__" : Str)) = false)
    (ha : PA X (ea :: xs) (tL X.K cA (evalEs gv c es))) (h1 : isStar ea = false) (h2 : xs.any isStar = false) (hl : es.any isStarD = false ∧ es.length = np) : (fun (d : DE) (x : Expr) => PE X x (tE X.K cA (evalE gv c d))) (.call f es) (.Call (.Name x p) (ea :: xs) [] pos) := by
  obtain ⟨fa, fd, ps, hn, hm, hk, hF, hB⟩ := F.fn f x np hf
  subst hn
  exact PE.imp (pe_call hF hr hg hm hk hB .nil (pass0 (E := E0)) ha hdb (star_each h1) (star_any h2)) fun σ H Q q => tL_len hl (call_core hl q)
theorem s_call0 {f : Nat} {x : Str} (F : Fns X.prog X.w X.K X.mg X.base nm cA c k) (hf : nm.fn[f]? = some (x, 0)) (hr : Room k X.A) (hg : Gl X x) (hdb : (x == ("__debug__" : Str)) = false) : (fun (d : DE) (x : Expr) => PE X x (tE X.K cA (evalE gv c d))) (.call f []) (.Call (.Name x p) [] [] pos) := by
  obtain ⟨fa, fd, ps, hn, hm, hk, hF, hB⟩ := F.fn f x 0 hf
  refine PE.imp (pe_call0 hF hr hg hm hk hB .nil (pass0 (E := E0)) hdb) fun σ H Q q => ?_
  obtain ⟨g, fr, R, h⟩ := tL_len (es := []) ⟨rfl, hn.symm⟩ (call_core (E := E0) (es := []) ⟨rfl, hn.symm⟩ q)
  exact h g [] H (Wd.le.refl g) (Keep.refl g H) R RepL.nil
/-! ### new objects -/
theorem new_core {C np : Nat} {ca : Addr} {σ : L2.St} {H : Hp} {Q : VK} {E : XK} (ec : cA C = some ca) (q : tE X.K cA (evalE gv c (.new C es)) σ H Q) :
    tL X.K cA (evalEs gv c es) σ H fun vs H1 => (vs.length = np → ∀ x dx, H1 x = none → H1 dx = none → dx ≠ x → spI X.K cA (np + 1) C (c.ini C) (.ref x :: (vs ++ [])) (upd (upd H1 dx (.own x)) x (.ins ca dx [])) (fun v H2 => v = .non ∧ Q (.ref x) H2) E) := by
  obtain ⟨g, fr, R, h⟩ := q
  refine ⟨g, fr, R, Pst.bind (show Pst X.K cA (rpX X.K cA σ) g H σ ((evalEs gv c es fr).bind fun ds fr => ofRC fr.env (c.ini C ds fr.st)) Q from h) fun ds fr1 g1 vs H1 l1 k1 R1 p1 h1 => ?_⟩
  intro hn x dx hx hdx hne
  rw [List.append_nil]
  have qx := R1.fresh hx
  have qd := R1.fresh hdx
  have Ra : Rel X.K cA (upd H1 dx (.own x)) g1 fr1 σ := R1.other qd fun a h => upd_ne h
  have Rb : Rel X.K cA (upd (upd H1 dx (.own x)) x (.ins ca dx [])) g1 fr1 σ := Ra.other qx fun a h => upd_ne h
  have kk : Keep g1 H1 (upd (upd H1 dx (.own x)) x (.ins ca dx [])) := fun a h => by
    have n1 : a ≠ x := fun z => by subst z; exact h.elim qx.f qx.pr
    have n2 : a ≠ dx := fun z => by subst z; exact h.elim qd.f qd.pr
    rw [upd_ne n1, upd_ne n2]
  generalize hH : upd (upd H1 dx (.own x)) x (.ins ca dx []) = H0 at *
  have hx0 : H0 x = some (.ins ca dx []) := by rw [← hH, upd_same]
  have np' : ¬ (g1.call fr1 σ).P x := fun z => z.elim qx.pr fun ⟨i, d, h1, h2⟩ => qx.o i d h1 h2
  refine ⟨by rw [List.length_cons, hn], x, vs, rfl, g1.call fr1 σ, ds, fr1.st, RepL.mono0 (g1.sub_call fr1 σ) kk.f _ _ p1, Rb.call, ⟨ca, dx, [], ⟨ec, hx0⟩, rfl, rfl⟩, qx.f, np', qx.m, ?_⟩
  cases er : c.ini C ds fr1.st with
  | stk => rw [er] at h1; exact h1.elim
  | exc C ds st => rw [er] at h1; exact h1.elim
  | ok d st =>
    rw [er] at h1
    intro g' v H' l2 k2 R2 rv ev
    have l0 : (g1.call fr1 σ).le ((g1.call fr1 σ).cell x) := ⟨fun _ h => h, rfl, [x], rfl⟩
    obtain ⟨R3, k3⟩ := Rb.back (l0.trans l2) k2 R2
    subst ev
    exact ⟨rfl, h1 (g1.back g') (.ref x) H' (Wd.le_back g1 (l0.trans l2)) (Keep.trans (Wd.le.refl g1) kk k3) R3 (Rep.mono0 (show g'.sub (g1.back g') from ⟨fun _ h => h, fun _ _ h => h⟩) (fun _ _ => rfl) _ _ rv).x⟩
theorem s_new {C : Nat} {x : Str} {np : Nat} (F : Fns X.prog X.w X.K X.mg X.base nm cA c k) (hf : nm.cl[C]? = some (x, np)) (hr : Room (k + 1) X.A) (hg : Gl X x) (hdb : (x == ("__debug__" : Str)) = false)
    (ha : PA X (ea :: xs) (tL X.K cA (evalEs gv c es))) (h1 : isStar ea = false) (h2 : xs.any isStar = false) (hl : es.any isStarD = false ∧ es.length = np) : (fun (d : DE) (x : Expr) => PE X x (tE X.K cA (evalE gv c d))) (.new C es) (.Call (.Name x p) (ea :: xs) [] pos) := by
  obtain ⟨ca, fa, fd, ps, hn, hc, hm, hM, hF, hB⟩ := F.cl C x np hf
  refine PE.imp (pe_make hM hF hr hg hm hB .nil (pass0 (E := E0)) ha hdb (star_each h1) (star_any h2)) fun σ H Q q => ?_
  have q2 := tL_len hl (new_core (np := np) (E := E0) hc q)
  rw [hn]
  exact q2
end
end Mr
end
section
set_option Elab.async false
set_option linter.all false
set_option maxRecDepth 100000
/-! M2y: enumerate and zip over lists and tuples alike. -/
namespace Mr
open PySem PySem.Spec PyProof.Rows L2
def SqK (K : PySem.W.Frag) (k : Bool) (H : Hp) (a : Addr) (xs : List V) : Prop := match k with
  | true => SqT K H a xs
  | false => SqL K H a xs
def ItAt (k : Bool) (h : Heap) (it l : Addr) (i : Nat) : Prop := match k with
  | true => h.IsTupleIter it l i
  | false => h.IsListIter it l i
def SeqAt (k : Bool) (h : Heap) (l : Addr) (items : Array Value) : Prop := match k with
  | true => h.IsTuple l items
  | false => h.IsList l items
def itObj (k : Bool) (l : Addr) : Obj := match k with
  | true => { cls := .type "tuple_iterator", data := .fields #[.ref l, .int 0 0] }
  | false => { cls := .type "list_iterator", data := .fields #[.ref l, .int 0 0] }
theorem drawsK {prog : Program} {w : World} {A : Around} (hh : A.handled = none) (k : Bool) (it l : Addr) (hne : l ≠ it) (items : Array Value) :
    Draws prog w A it [it, l] items.size (fun i v => items[i]? = some v) (fun i h => ItAt k h it l i ∧ SeqAt k h l items) := by
  cases k with
  | true => exact Draws.tuple hh it l hne items
  | false => exact Draws.list hh it l hne items
theorem beginsK (k : Bool) (l : Addr) (items : Array Value) : Begins (.ref l) (itObj k l) fun h => SeqAt k h l items := by
  cases k with
  | true => exact begins_tuple l items
  | false => exact begins_list l items
theorem itObj_at {k : Bool} {h : Heap} {it l : Addr} (e : h.get? it = some (itObj k l)) : ItAt k h it l 0 := by
  cases k with
  | true => exact ⟨_, e, rfl, rfl⟩
  | false => exact ⟨_, e, rfl, rfl⟩
theorem ItAt.there {k : Bool} {h : Heap} {it l : Addr} {i : Nat} (st : ItAt k h it l i) : ∃ o, h.get? it = some o ∧ ∀ v, o.data ≠ .cell v := by
  cases k with
  | true =>
    obtain ⟨o, e, c, d⟩ := st
    exact ⟨o, e, fun v z => by rw [d] at z; cases z⟩
  | false =>
    obtain ⟨o, e, c, d⟩ := st
    exact ⟨o, e, fun v z => by rw [d] at z; cases z⟩
theorem ItAt.keep {k : Bool} {h h' : Heap} {it l : Addr} {i : Nat} (st : ItAt k h it l i) (kk : ∀ o, h.get? it = some o → h'.get? it = some o) : ItAt k h' it l i := by
  cases k with
  | true =>
    obtain ⟨o, e, r⟩ := st
    exact ⟨o, kk o e, r⟩
  | false =>
    obtain ⟨o, e, r⟩ := st
    exact ⟨o, kk o e, r⟩
section
variable {X : Cx} {pins : List (Addr × Obj)} {σ : L2.St} {H : Hp} {s : Shared} {a : Addr} {xs ys : List V} {k : Bool}
theorem inv_seqK (I : Inv X pins σ H s) (h : SqK X.K k H a xs) : ∃ its : List Value, Vals xs its ∧ SeqAt k s.heap a its.toArray ∧ a < s.heap.objs.size := by
  cases k with
  | true =>
    obtain ⟨its, r, p, _⟩ := I.tuple h
    obtain ⟨o, e, q⟩ := id p
    exact ⟨its, r, p, Heap.lt_size e⟩
  | false =>
    obtain ⟨its, r, p, _⟩ := I.list h
    exact ⟨its, r, p.isList, p.lt⟩
theorem inv_injK (I : Inv X pins σ H s) (h : SqK X.K k H a xs) (h' : SqK X.K k H a ys) : xs = ys := by
  cases k with
  | true => exact I.tuple_inj h h'
  | false => exact I.list_inj h h'
end
/-- the containers at a, b as they stand at each turn, the items in new pairs -/
def ItzK (K : PySem.W.Frag) (k1 k2 : Bool) (a b : Addr) : It :=
  ⟨fun i H => ∃ (xs ys : List V) (x y : V), SqK K k1 H a xs ∧ SqK K k2 H b ys ∧ xs[i]? = some x ∧ ys[i]? = some y,
    fun i H v H' => ∃ T x y, v = .ref T ∧ H T = none ∧ H' = upd H T (.tup [x, y]) ∧ (∀ xs, SqK K k1 H a xs → xs[i]? = some x) ∧ ∀ ys, SqK K k2 H b ys → ys[i]? = some y,
    fun i H => ∃ xs ys : List V, SqK K k1 H a xs ∧ SqK K k2 H b ys ∧ min xs.length ys.length = i⟩
theorem turn_zipK {P : Program} {w : World} {K : PySem.W.Frag} {elts : List Expr} {kk : Nat} {tpos : Pos} {k1 k2 : Bool} {a b z TI TO i1 i2 : Addr} (D : ZipApart z TI TO i1 i2 a b) :
    Turn P w K (.Tuple elts kk tpos) (ItzK K k1 k2 a b) [z, TI, TO, i1, i2] z (fun i h => IsZip h z TI TO .none ∧ IsTupOf2 h TI (.ref i1) (.ref i2) ∧ (∃ x y, IsTupOf2 h TO x y) ∧ ItAt k1 h i1 a i ∧ ItAt k2 h i2 b i) := by
  have S : ZipSep2 z TI TO i1 i2 [i1, a] [i2, b] := by
    constructor
    · exact D.TIz
    · exact D.TOz
    · exact D.TITO
    · exact D.TIi1
    · simp
    · simp [D.i1z.symm, D.l1z.symm]
    · simp [D.TOi1, D.l1TO.symm]
    · exact D.TIi2
    · simp
    · simp [D.i2z.symm, D.l2z.symm]
    · simp [D.TOi2, D.l2TO.symm]
    · simp [D.i12, D.l2i1.symm]
    · simp [D.i12.symm, D.l1i2.symm]
  have wsub : ∀ c, c ∉ [z, TI, TO, i1, i2] → c ∉ [z, TO, i1, i2] := fun c h q => h (by
    have q' : c = z ∨ c = TO ∨ c = i1 ∨ c = i2 := by simpa using q
    rcases q' with q' | q' | q' | q' <;> simp [q'])
  refine ⟨by simp, fun i h st c hc => ?_, fun i h h' st kp => ?_, ?_, ?_, fun A i s Q E st h => wpAny_pyIter_zip st.1 h⟩
  · obtain ⟨hz, hTI, ⟨x, y, hTO⟩, h1, h2⟩ := st
    have e' : c = z ∨ c = TI ∨ c = TO ∨ c = i1 ∨ c = i2 := by simpa using hc
    rcases e' with rfl | rfl | rfl | rfl | rfl
    · exact ⟨_, hz, fun v q => nomatch q⟩
    · exact ⟨_, hTI, fun v q => nomatch q⟩
    · exact ⟨_, hTO, fun v q => nomatch q⟩
    · exact h1.there
    · exact h2.there
  · obtain ⟨hz, hTI, ⟨x, y, hTO⟩, h1, h2⟩ := st
    exact ⟨kp z (by simp) _ hz, kp TI (by simp) _ hTI, ⟨x, y, kp TO (by simp) _ hTO⟩, h1.keep (kp i1 (by simp)), h2.keep (kp i2 (by simp))⟩
  · intro X hP hw hK hcalm i pins s σ H E I hf st hg
    subst hP hw hK
    obtain ⟨hz, hTI, hTO, h1, h2⟩ := st
    obtain ⟨xs, ys, x, y, qx, qy, ex, ey⟩ := hg
    obtain ⟨its, rv, p1, _⟩ := inv_seqK I qx
    obtain ⟨jts, rw', p2, _⟩ := inv_seqK I qy
    obtain ⟨u, hu, ru⟩ := rv.get ex
    obtain ⟨u2, hu2, ru2⟩ := rw'.get ey
    have hh : X.A.in1.handled = none := I.ok.hd hcalm
    have W := WalksT.zipD2 (prog := X.prog) (w := X.w) (A := X.A) S (drawsK hh k1 i1 a D.l1i1 its.toArray) (drawsK hh k2 i2 b D.l2i2 jts.toArray)
    have hlt : i < min its.toArray.size jts.toArray.size := by
      have := get_lt hu
      have := get_lt hu2
      simp only [List.size_toArray]
      omega
    refine W.item i s _ _ hlt ⟨hz, hTI, hTO, ⟨h1, p1⟩, ⟨h2, p2⟩⟩ fun T vals h' tk hP hT hTup hMid hk => ⟨_, rfl, ?_⟩
    have hTw := W.apart _ _ _ hMid
    refine W.go elts kk tpos i T _ _ _ hMid fun h'' hst' hk' => ?_
    obtain ⟨y1, y2, e1, e2, rfl⟩ := hP
    have ev1 : y1 = u := by
      have : its.toArray[i]? = some u := by simpa using hu
      rw [this] at e1
      exact (Option.some.inj e1).symm
    have ev2 : y2 = u2 := by
      have : jts.toArray[i]? = some u2 := by simpa using hu2
      rw [this] at e2
      exact (Option.some.inj e2).symm
    subst ev1 ev2
    obtain ⟨o, ho, hc, n, hd⟩ := hTup
    have new : ObjOk X.prog X.w (upd H T (.tup [x, y])) h'' T (.tup [x, y]) := ⟨by show 2 ≤ sizeLine; decide, [y1, y2], .cons ru (.cons ru2 .nil), ⟨o, hk' T o hTw ho, hc, n, hd⟩⟩
    have I1 : Inv X pins σ (upd H T (.tup [x, y])) { s with heap := h'', toks := tk } :=
      I.turnedNew (ch := [z, TI, TO, i1, i2]) (fun c o hc e => hk' c o (wsub c hc) (hk c o (wsub c hc) e)) hf hT new
    obtain ⟨kz, kTI, kTO, ⟨k1', _⟩, ⟨k2', _⟩⟩ := hst'
    refine ⟨.ref T, _, I1, rfl, ⟨T, x, y, rfl, I.hok.fresh hT, rfl, fun l hl => by rw [inv_injK I hl qx]; exact ex, fun l hl => by rw [inv_injK I hl qy]; exact ey⟩, ⟨kz, kTI, kTO, k1', k2'⟩, fun c hcm => ?_⟩
    have hlt : c < s.heap.objs.size := by
      have e' : c = z ∨ c = TI ∨ c = TO ∨ c = i1 ∨ c = i2 := by simpa using hcm
      obtain ⟨_, _, hTO⟩ := hTO
      rcases e' with q | q | q | q | q
      · rw [q]; exact Heap.lt_size hz
      · rw [q]; exact Heap.lt_size hTI
      · rw [q]; exact Heap.lt_size hTO
      · rw [q]; obtain ⟨_, e1, _⟩ := h1.there; exact Heap.lt_size e1
      · rw [q]; obtain ⟨_, e2, _⟩ := h2.there; exact Heap.lt_size e2
    rw [upd_ne (Nat.ne_of_lt (Nat.lt_of_lt_of_le hlt hT))]
    exact (hf c hcm).1
  · intro X hP hw hK hcalm i pins s σ H E I hf st hg
    subst hP hw hK
    obtain ⟨hz, hTI, hTO, h1, h2⟩ := st
    obtain ⟨xs, ys, qx, qy, he⟩ := hg
    obtain ⟨its, rv, p1, _⟩ := inv_seqK I qx
    obtain ⟨jts, rw', p2, _⟩ := inv_seqK I qy
    have hh : X.A.in1.handled = none := I.ok.hd hcalm
    have W := WalksT.zipD2 (prog := X.prog) (w := X.w) (A := X.A) S (drawsK hh k1 i1 a D.l1i1 its.toArray) (drawsK hh k2 i2 b D.l2i2 jts.toArray)
    have hi : i = min its.toArray.size jts.toArray.size := by rw [← he, rv.length, rw'.length]; simp
    subst hi
    exact W.done s _ _ ⟨hz, hTI, hTO, ⟨h1, p1⟩, ⟨h2, p2⟩⟩ fun h' tk hk => ⟨rfl, I.turnedL (t' := tk) (ch := [z, TI, TO, i1, i2]) (fun c o hc e => hk c o (wsub c hc) e) hf⟩
def iZipK (K : PySem.W.Frag) (ta : L2.TA) : TI := fun σ H R => ta σ H fun vs H1 => ∃ k1 k2 a b xs ys, vs = [.ref a, .ref b] ∧ SqK K k1 H1 a xs ∧ SqK K k2 H1 b ys ∧ R (ItzK K k1 k2 a b) H1
theorem pi_zipK {X : Cx} {e e2 : Expr} {ta : L2.TA} {p pos tpos : Pos} {elts : List Expr} {kk : Nat} (hg : Gl X "zip") (hm : X.mg "zip" = none) (ha : PA X [e, e2] ta) (h1 : isStar e = false) (h2 : isStar e2 = false) :
    PI X (.Tuple elts kk tpos) (.Call (.Name "zip" p) [e, e2] [] pos) (iZipK X.K ta) := by
  refine ⟨fun pins s σ H R I h => ?_⟩
  refine Call_ (ld_blt I hg hm PyProof.Rows.boot_zip (PyProof.Rows.callWith_type1 (thn (ha.run pos pins s σ H _ I h) fun us s1 ⟨vs, H1, I1, r1, q1⟩ => ?_) (star_each h1) (star_any (by simp [h2]))))
  obtain ⟨k1, k2, a, b, xs, ys, rfl, hqx, hqy, q⟩ := q1
  obtain ⟨u1, u2, rfl, r, r'⟩ := vals2 r1
  cases r
  cases r'
  obtain ⟨its, rv, p1, la⟩ := inv_seqK I1 hqx
  obtain ⟨jts, rw', p2, lb⟩ := inv_seqK I1 hqy
  refine zip_begins2 (beginsK k1 a its.toArray) (beginsK k2 b jts.toArray) p1 p2 fun h' hz hTI hTO o1 o2 hsz hk => wpAny_pyIter_zip hz ?_
  have I2 : Inv X pins σ H1 { s1 with heap := h' } := I1.kept (t' := s1.toks) hk
  refine ⟨s1.heap.objs.size + 4, _, _, _, H1, rfl, I2, turn_zipK (k1 := k1) (k2 := k2) (PySem.W.ktu_apart s1.heap.objs.size a b la lb), ⟨hz, hTI, ⟨_, _, hTO⟩, itObj_at o1, itObj_at o2⟩, fun c hcm => ?_, q⟩
  have hle : s1.heap.objs.size ≤ c := by
    have e' : c = s1.heap.objs.size + 4 ∨ c = s1.heap.objs.size + 2 ∨ c = s1.heap.objs.size + 3 ∨ c = s1.heap.objs.size ∨ c = s1.heap.objs.size + 1 := by simpa using hcm
    rcases e' with z | z | z | z | z <;> (rw [z]; first | exact Nat.le_add_right _ _ | exact Nat.le_refl _)
  exact I1.fpOk hle (I1.hok.fresh hle)

/-! ### enumerate -/
def IteK (K : PySem.W.Frag) (k : Bool) (a : Addr) : It :=
  ⟨fun i H => ∃ (xs : List V) (x : V), SqK K k H a xs ∧ xs[i]? = some x, fun i H v H' => ∃ T x, v = .ref T ∧ H T = none ∧ H' = upd H T (.tup [.int (i : Nat), x]) ∧ ∀ xs, SqK K k H a xs → xs[i]? = some x, fun i H => ∃ xs : List V, SqK K k H a xs ∧ xs.length = i⟩
theorem turn_enumK {P : Program} {w : World} {K : PySem.W.Frag} {elts : List Expr} {kk : Nat} {tpos : Pos} {k : Bool} {a e it : Addr} (hei : e ≠ it) (hea : e ≠ a) (hai : a ≠ it) :
    Turn P w K (.Tuple elts kk tpos) (IteK K k a) [e, it] e (fun i h => (∃ old, IsEnum h e it ((i : Nat) : Int) old) ∧ ItAt k h it a i) := by
  have hef : e ∉ [it, a] := by simp [hei, hea]
  refine ⟨by simp, fun i h st c hc => ?_, fun i h h' st kp => ?_, ?_, ?_, fun A i s Q E st h => let ⟨⟨_, he⟩, _⟩ := st; wpAny_pyIter_enum he h⟩
  · obtain ⟨⟨old, he⟩, h1⟩ := st
    have e' : c = e ∨ c = it := by simpa using hc
    rcases e' with rfl | rfl
    · exact ⟨_, he, fun v q => nomatch q⟩
    · exact h1.there
  · obtain ⟨⟨old, he⟩, h1⟩ := st
    exact ⟨⟨old, kp e (by simp) _ he⟩, h1.keep (kp it (by simp))⟩
  · intro X hP hw hK hcalm i pins s σ H E I hf st hg
    subst hP hw hK
    obtain ⟨he, h1⟩ := st
    obtain ⟨xs, x, qx, ex⟩ := hg
    obtain ⟨its, rv, p1, _⟩ := inv_seqK I qx
    obtain ⟨u, hu, ru⟩ := rv.get ex
    have hh : X.A.in1.handled = none := I.ok.hd hcalm
    have W := WalksT.enumerateD (drawsK (prog := X.prog) (w := X.w) hh k it a hai its.toArray) e hei hef (by simp)
    have hlt : i < its.toArray.size := by simpa using get_lt hu
    refine W.item i s _ _ hlt ⟨he, h1, p1⟩ fun T vals h' tk hP hT hTup hMid hk => ⟨_, rfl, ?_⟩
    have hTw := W.apart _ _ _ hMid
    refine W.go elts kk tpos i T _ _ _ hMid fun h'' hst' hk' => ?_
    obtain ⟨t, y1, e1, rfl⟩ := hP
    have ev1 : y1 = u := by
      have : its.toArray[i]? = some u := by simpa using hu
      rw [this] at e1
      exact (Option.some.inj e1).symm
    subst ev1
    obtain ⟨o, ho, hc, n, hd⟩ := hTup
    have new : ObjOk X.prog X.w (upd H T (.tup [.int (i : Nat), x])) h'' T (.tup [.int (i : Nat), x]) := ⟨by show 2 ≤ sizeLine; decide, [.int i t, y1], .cons ⟨t, rfl⟩ (.cons ru .nil), ⟨o, hk' T o hTw ho, hc, n, hd⟩⟩
    have I1 : Inv X pins σ (upd H T (.tup [.int (i : Nat), x])) { s with heap := h'', toks := tk } :=
      I.turnedNew (ch := [e, it]) (fun c o hc e => hk' c o hc (hk c o hc e)) hf hT new
    obtain ⟨ke, k1', _⟩ := hst'
    refine ⟨.ref T, _, I1, rfl, ⟨T, x, rfl, I.hok.fresh hT, rfl, fun l hl => by rw [inv_injK I hl qx]; exact ex⟩, ⟨ke, k1'⟩, fun c hcm => ?_⟩
    have hlt : c < s.heap.objs.size := by
      have e' : c = e ∨ c = it := by simpa using hcm
      obtain ⟨_, he⟩ := he
      rcases e' with q | q
      · rw [q]; exact Heap.lt_size he
      · rw [q]; obtain ⟨_, e1, _⟩ := h1.there; exact Heap.lt_size e1
    rw [upd_ne (Nat.ne_of_lt (Nat.lt_of_lt_of_le hlt hT))]
    exact (hf c hcm).1
  · intro X hP hw hK hcalm i pins s σ H E I hf st hg
    subst hP hw hK
    obtain ⟨he, h1⟩ := st
    obtain ⟨xs, qx, hl⟩ := hg
    obtain ⟨its, rv, p1, _⟩ := inv_seqK I qx
    have hh : X.A.in1.handled = none := I.ok.hd hcalm
    have W := WalksT.enumerateD (drawsK (prog := X.prog) (w := X.w) hh k it a hai its.toArray) e hei hef (by simp)
    have hi : i = its.toArray.size := by rw [← hl, rv.length]; simp
    subst hi
    exact W.done s _ _ ⟨he, h1, p1⟩ fun h' tk hk => ⟨rfl, I.turnedL (t' := tk) (ch := [e, it]) hk hf⟩
set_option maxHeartbeats 1000000 in
theorem meets_enum1 {v : Value} {o : Obj} {Hq : Heap → Prop} (B : Begins v o Hq) :
    Meets (Builtin.«enumerate.__new__» ⟨[.type "enumerate", v], []⟩) (fun _ R s => Hq s.heap ∧
      R (.ok (.ret (.ref (s.heap.push o).objs.size))) { s with heap := (s.heap.push o).push { cls := .type "enumerate", data := .fields #[.none, .bool false, .ref s.heap.objs.size, rawInt 0, .none, .none] } }) :=
  .of_wp fun prog w A R s h => by
    obtain ⟨hp, gs, dr, tk, os⟩ := s
    obtain ⟨h1, h⟩ := h
    have sub := sub_enumerate
    have it1 : ∀ {A' : Around} {E : Value → Shared → Prop} {Q : Value → Shared → Prop}, Q (.ref hp.objs.size) ⟨hp.push o, gs, dr, tk, os⟩ → wpAny (model prog w) A' (pyIter v) Q E ⟨hp, gs, dr, tk, os⟩ :=
      fun q => B.iter prog w _ _ ⟨hp, gs, dr, tk, os⟩ _ h1 q
    wp_walk using it1
    refine wpAny_stack_any fun st => wpAny_pure ?_
    split
    · rename_i c _ _ _ _ _
      cases hc : (c == Value.type "enumerate") <;> (wp_walk using it1; exact ⟨_, rfl, h⟩)
    · wp_walk using it1
      exact ⟨_, rfl, h⟩
def iEnumK (K : PySem.W.Frag) (ta : L2.TA) : TI := fun σ H R => ta σ H fun vs H1 => ∃ k a xs, vs = [.ref a] ∧ SqK K k H1 a xs ∧ R (IteK K k a) H1
theorem pi_enumK {X : Cx} {ex : Expr} {ta : L2.TA} {p pos tpos : Pos} {elts : List Expr} {kk : Nat} (hg : Gl X "enumerate") (hm : X.mg "enumerate" = none) (ha : PA X [ex] ta) (h1 : isStar ex = false) :
    PI X (.Tuple elts kk tpos) (.Call (.Name "enumerate" p) [ex] [] pos) (iEnumK X.K ta) := by
  refine ⟨fun pins s σ H R I h => ?_⟩
  refine Call_ (ld_blt I hg hm boot_enumerate (PyProof.Rows.callWith_type1 (thn (ha.run pos pins s σ H _ I h) fun us s1 ⟨vs, H1, I1, r1, q1⟩ => ?_) (star_each h1) rfl))
  obtain ⟨k, a, xs, rfl, hq, q⟩ := q1
  obtain ⟨u, rfl, r⟩ := vals1 r1
  cases r
  obtain ⟨its, rv, p1, la⟩ := inv_seqK I1 hq
  refine callType_new F.called_enumerate (by decide) (F.typeCall_enumerate_1 _) (F.newCall_enumerate_1 _) (fun obj => F.args_object_init_2 obj _) F.entry_enumerate_new (meets_enum1 (beginsK k a its.toArray)) ⟨p1, ?_⟩
  have hz : (s1.heap.push (itObj k a)).objs.size = s1.heap.objs.size + 1 := Heap.size_push ..
  show _ ∧ _
  rw [hz]
  generalize hh' : (s1.heap.push (itObj k a)).push { cls := .type "enumerate", data := .fields #[.none, .bool false, .ref s1.heap.objs.size, rawInt 0, .none, .none] } = h'
  have he : IsEnum h' (s1.heap.objs.size + 1) s1.heap.objs.size 0 .none := by
    rw [← hh', ← hz]
    exact Heap.get?_push_size _ rfl
  have hi : h'.get? s1.heap.objs.size = some (itObj k a) := by
    rw [← hh']
    exact Heap.get?_push_of_some _ (Heap.get?_push_size _ (by cases k <;> rfl))
  have hk : ∀ b o, s1.heap.get? b = some o → h'.get? b = some o := fun b o e => by
    rw [← hh']
    exact Heap.get?_push_of_some _ (Heap.get?_push_of_some _ e)
  refine ⟨⟨_, he, rfl⟩, wpAny_pyIter_enum he ?_⟩
  have I2 : Inv X pins σ H1 { s1 with heap := h' } := I1.kept (t' := s1.toks) hk
  refine ⟨s1.heap.objs.size + 1, _, _, _, H1, rfl, I2, turn_enumK (k := k) (a := a) (e := s1.heap.objs.size + 1) (it := s1.heap.objs.size) (Nat.succ_ne_self _) (Nat.ne_of_gt (Nat.lt_succ_of_lt la)) (Nat.ne_of_lt la), ⟨⟨_, he⟩, itObj_at hi⟩, fun c hcm => ?_, q⟩
  have e' : c = s1.heap.objs.size + 1 ∨ c = s1.heap.objs.size := by simpa using hcm
  have hle : s1.heap.objs.size ≤ c := by
    rcases e' with z | z <;> (rw [z]; first | exact Nat.le_add_right _ _ | exact Nat.le_refl _)
  exact I1.fpOk hle (I1.hok.fresh hle)
end Mr
end
section
set_option Elab.async false
set_option linter.all false
set_option maxRecDepth 100000
/-! M2m: targets, what a loop walks. -/
namespace Mr
open PySem PySem.Spec PyProof.Rows L2
section
variable {K : PySem.W.Frag} {cA : Nat → Option Addr} {H H' : Hp} {g g' : Wd} {fr : Fm} {σ : L2.St}
/-- a slot is given a kept value -/
theorem Rel.setV (R : Rel K cA H g fr σ) {i : Nat} {d : D} {v : V} (hi : i < fr.env.length) (r : Rep K cA H g d v) : Rel K cA H g ⟨fr.env.set i (.val d), fr.st⟩ (σ.set i (some v)) := by
  have hs : i < σ.length := by rw [← R.len]; exact hi
  refine ⟨fun j e h => ?_, fun j e h => ?_, fun j k c1 c2 b h1 h2 h3 h4 => ?_, R.sto, R.cel, R.nod, R.fok, R.pok, by show (fr.env.set i _).length = _; rw [List.length_set, List.length_set]; exact R.len⟩
  · rcases set_get h with ⟨e1, e2⟩ | ⟨e1, e2⟩
    · cases e2
      subst e1
      exact ⟨v, List.getElem?_set_self hs, r⟩
    · obtain ⟨w, q, rr⟩ := R.val j e e2
      exact ⟨w, by rw [List.getElem?_set_ne (Ne.symm e1)]; exact q, rr⟩
  · rcases set_get h with ⟨e1, e2⟩ | ⟨e1, e2⟩
    · cases e2
    · obtain ⟨a, q, rr⟩ := R.own j e e2
      exact ⟨a, by rw [List.getElem?_set_ne (Ne.symm e1)]; exact q, rr⟩
  · rcases set_get h1 with ⟨e1, e2⟩ | ⟨e1, e2⟩
    · cases e2
    · rcases set_get h2 with ⟨e3, e4⟩ | ⟨e3, e4⟩
      · cases e4
      · rw [List.getElem?_set_ne (Ne.symm e1)] at h3
        rw [List.getElem?_set_ne (Ne.symm e3)] at h4
        exact R.two j k c1 c2 b e2 e4 h3 h4
/-- a slot is given a fresh object of its own -/
theorem Rel.setO (R : Rel K cA H g fr σ) {i : Nat} {d : D} {p : Addr} (hi : i < fr.env.length) (c : Con K cA H g p d) (f : Fresh fr σ g p) : Rel K cA H g ⟨fr.env.set i (.own d), fr.st⟩ (σ.set i (some (.ref p))) := by
  have hs : i < σ.length := by rw [← R.len]; exact hi
  refine ⟨fun j e h => ?_, fun j e h => ?_, fun j k c1 c2 b h1 h2 h3 h4 => ?_, R.sto, R.cel, R.nod, R.fok, R.pok, by show (fr.env.set i _).length = _; rw [List.length_set, List.length_set]; exact R.len⟩
  · rcases set_get h with ⟨e1, e2⟩ | ⟨e1, e2⟩
    · cases e2
    · obtain ⟨w, q, rr⟩ := R.val j e e2
      exact ⟨w, by rw [List.getElem?_set_ne (Ne.symm e1)]; exact q, rr⟩
  · rcases set_get h with ⟨e1, e2⟩ | ⟨e1, e2⟩
    · cases e2
      subst e1
      exact ⟨p, List.getElem?_set_self hs, c, f.f, f.pr, f.m⟩
    · obtain ⟨a, q, rr⟩ := R.own j e e2
      exact ⟨a, by rw [List.getElem?_set_ne (Ne.symm e1)]; exact q, rr⟩
  · rcases set_get h1 with ⟨e1, e2⟩ | ⟨e1, e2⟩
    · rcases set_get h2 with ⟨e3, e4⟩ | ⟨e3, e4⟩
      · rw [e1, e3]
      · subst e1
        rw [List.getElem?_set_self hs] at h3
        cases h3
        rw [List.getElem?_set_ne (Ne.symm e3)] at h4
        exact absurd h4 (f.o k c2 e4)
    · rcases set_get h2 with ⟨e3, e4⟩ | ⟨e3, e4⟩
      · subst e3
        rw [List.getElem?_set_self hs] at h4
        cases h4
        rw [List.getElem?_set_ne (Ne.symm e1)] at h3
        exact absurd h3 (f.o j c1 e2)
      · rw [List.getElem?_set_ne (Ne.symm e1)] at h3
        rw [List.getElem?_set_ne (Ne.symm e3)] at h4
        exact R.two j k c1 c2 b e2 e4 h3 h4
end
/-! ### targets -/
mutual
def slots : DT → List Nat
  | .nm i => [i]
  | .tp ts => slotsL ts
def slotsL : List DT → List Nat
  | [] => []
  | t :: ts => slots t ++ slotsL ts
end
/-- only these slots changed -/
def Off (vs : List Nat) (σ σ' : L2.St) : Prop := σ'.length = σ.length ∧ ∀ i : Nat, i ∉ vs → σ'[i]? = σ[i]?
theorem Off.refl (vs : List Nat) (σ : L2.St) : Off vs σ σ := ⟨rfl, fun _ _ => rfl⟩
theorem Off.set (i : Nat) (σ : L2.St) (v : Option V) : Off [i] σ (σ.set i v) := ⟨List.length_set .., fun j h => List.getElem?_set_ne fun z => h (by simp [z])⟩
theorem Off.trans {vs ws : List Nat} {a b c : L2.St} (h : Off vs a b) (k : Off ws b c) : Off (vs ++ ws) a c :=
  ⟨k.1.trans h.1, fun i hi => (k.2 i fun z => hi (List.mem_append_right _ z)).trans (h.2 i fun z => hi (List.mem_append_left _ z))⟩
theorem Off.wipe {vs ws : List Nat} {a b : L2.St} (h : Off vs a b) (s : ∀ i ∈ vs, i ∈ ws) : L2.wipe b ws = L2.wipe a ws := by
  have key : ∀ (ws : List Nat) (a : L2.St) (i : Nat), (L2.wipe a ws)[i]? = if i ∈ ws then (if i < a.length then some none else none) else a[i]? := by
    intro ws
    induction ws with
    | nil => intro a i; simp [L2.wipe]
    | cons w ws ih =>
      intro a i
      show ((L2.wipe a ws).set w none)[i]? = _
      by_cases c : w = i
      · subst c
        rw [if_pos (by simp)]
        by_cases hl : w < a.length
        · rw [List.getElem?_set_self (by rw [wipe_length]; exact hl), if_pos hl]
        · rw [List.getElem?_eq_none (by rw [List.length_set, wipe_length]; omega), if_neg hl]
      · rw [List.getElem?_set_ne c, ih]
        by_cases m : i ∈ ws
        · rw [if_pos m, if_pos (List.mem_cons_of_mem _ m)]
        · rw [if_neg m, if_neg (by simp [m, Ne.symm c])]
  refine List.ext_getElem? fun i => ?_
  rw [key, key]
  by_cases m : i ∈ ws
  · rw [if_pos m, if_pos m, h.1]
  · rw [if_neg m, if_neg m, h.2 i fun z => m (s i z)]
section
variable (K : PySem.W.Frag) (cA : Nat → Option Addr)
/-- what is wanted of a run that ends in another state -/
def Pss {α : Type} (r : Rs α) (g : Wd) (H : Hp) (Q : α → Wd → Fm → L2.St → Hp → Prop) : Prop := match r with
  | .ok a fr => ∀ g' σ' H', g.le g' → Keep g H H' → Rel K cA H' g' fr σ' → Q a g' fr σ' H'
  | _ => False
def gT (t : DT) : TG := fun v σ H Q => ∃ g fr d, Rel K cA H g fr σ ∧ Rep K cA H g d v ∧ Pss K cA (asgT t d fr) g H fun _ _ _ σ' H' => Off (slots t) σ σ' → Q σ' H'
def gTs (ts : List DT) : TGs := fun vs σ H Q => ∃ g fr ds, Rel K cA H g fr σ ∧ RepL K cA H g ds vs ∧ vs.length = ts.length ∧ Pss K cA (asgTs ts ds fr) g H fun _ _ _ σ' H' => Off (slotsL ts) σ σ' → Q σ' H'
end
theorem PG.imp {X : Cx} {e : Expr} {t t' : TG} (h : PG X e t) (i : ∀ v σ H Q, t' v σ H Q → t v σ H Q) : PG X e t' := ⟨fun pins s σ H v u Q I r q => h.run pins s σ H v u Q I r (i v σ H Q q)⟩
theorem PGs.imp {X : Cx} {e : List Expr} {t t' : TGs} (h : PGs X e t) (i : ∀ v σ H Q, t' v σ H Q → t v σ H Q) : PGs X e t' := ⟨fun pins s σ H v u Q I r q => h.run pins s σ H v u Q I r (i v σ H Q q)⟩
theorem PG.either {X : Cx} {e : Expr} {t t' : TG} (h : PG X e t) (h' : PG X e t') : PG X e (fun v σ H Q => t v σ H Q ∨ t' v σ H Q) :=
  ⟨fun pins s σ H v u Q I r q => q.elim (h.run pins s σ H v u Q I r) (h'.run pins s σ H v u Q I r)⟩
section
variable {K : PySem.W.Frag} {cA : Nat → Option Addr} {α β : Type} {g g' : Wd} {H H' : Hp} {r : Rs α} {fr : Fm} {σ : L2.St}
theorem Pss.mono {Q : α → Wd → Fm → L2.St → Hp → Prop} (h : Pss K cA r g H Q) (l : g.le g') (k : Keep g H H') : Pss K cA r g' H' Q := by
  cases r with
  | ok a fr => exact fun g2 σ2 H2 l2 k2 R => h g2 σ2 H2 (l.trans l2) (k.trans l k2) R
  | exc C ds fr => exact h
  | stk => exact h
theorem Pss.bind {k : α → Fm → Rs β} {Q : β → Wd → Fm → L2.St → Hp → Prop} (h : Pss K cA (r.bind k) g H Q) : Pss K cA r g H fun a g' fr' σ' H' => Pss K cA (k a fr') g' H' Q := by
  cases r with
  | ok a fr => exact fun g2 σ2 H2 l2 k2 R => Pss.mono h l2 k2
  | exc C ds fr => exact h
  | stk => exact h
theorem Pss.imp {Q Q' : α → Wd → Fm → L2.St → Hp → Prop} (h : Pss K cA r g H Q) (i : ∀ a g' fr' σ' H', Q a g' fr' σ' H' → Q' a g' fr' σ' H') : Pss K cA r g H Q' := by
  cases r with
  | ok a fr => exact fun g2 σ2 H2 l2 k2 R => i _ _ _ _ _ (h g2 σ2 H2 l2 k2 R)
  | exc C ds fr => exact h
  | stk => exact h
/-- and what is known behind it -/
theorem Pss.impR {Q Q' : α → Wd → Fm → L2.St → Hp → Prop} (h : Pss K cA r g H Q) (i : ∀ a g' fr' σ' H', g.le g' → Keep g H H' → Rel K cA H' g' fr' σ' → Q a g' fr' σ' H' → Q' a g' fr' σ' H') : Pss K cA r g H Q' := by
  cases r with
  | ok a fr => exact fun g2 σ2 H2 l2 k2 R => i _ _ _ _ _ l2 k2 R (h g2 σ2 H2 l2 k2 R)
  | exc C ds fr => exact h
  | stk => exact h
end
section
variable {X : Cx} {cA : Nat → Option Addr} {pos : Pos} {es : List Expr} {e : Expr}
theorem g_nm {i : Nat} {x : Str} (hN : X.N.Nodup) (hi : X.N[i]? = some x) (hx : Loc X.env.scope x) (hf : X.fn x = true ∨ X.env.scope.names.lookup x = some .local) : PG X (.Name x pos) (gT X.K cA (.nm i)) := by
  refine ⟨fun pins s σ H v u Q I r h => ?_⟩
  refine (pg_name hN hi hx hf).run pins s σ H v u Q I r ?_
  obtain ⟨g, fr, d, R, rd, q⟩ := h
  have hl : i < fr.env.length := by
    have e1 : X.N.length = σ.length := I.len.symm
    rw [R.len, ← e1]
    exact get_lt hi
  exact q g _ H (Wd.le.refl g) (Keep.refl g H) (R.setV hl rd) (Off.set i σ _)
theorem gs_nil : PGs X [] (gTs X.K cA []) := PGs.imp pgs_nil fun vs σ H Q ⟨g, fr, ds, R, rd, hl, q⟩ => by
  have e : vs = [] := List.eq_nil_of_length_eq_zero hl
  refine ⟨e, ?_⟩
  cases ds with
  | nil => exact q g σ H (Wd.le.refl g) (Keep.refl g H) R (Off.refl _ _)
  | cons d ds => exact q g σ H (Wd.le.refl g) (Keep.refl g H) R (Off.refl _ _)
theorem assignEach_cons {e : Expr} {es : List Expr} {env : Env} (h : isStar e = false) : assignEach (e :: es) env = (false, assign e env) :: assignEach es env := by
  cases e <;> first | rfl | (cases h)
theorem gs_cons {t : DT} {ts : List DT} (h1 : PG X e (gT X.K cA t)) (h2 : PGs X es (gTs X.K cA ts)) (hs : isStar e = false) : PGs X (e :: es) (gTs X.K cA (t :: ts)) := by
  refine PGs.imp (pgs_cons h1 h2 (by rw [assignEach_cons hs]; rfl)) fun vs σ H Q ⟨g, fr, ds, R, rd, hl, q⟩ => ?_
  cases vs with
  | nil => cases hl
  | cons v vs =>
    cases ds with
    | nil =>
      have e1 : v :: vs = [] := rd
      cases e1
    | cons d ds =>
      obtain ⟨w, ws, e1, r1, r2⟩ := rd
      cases e1
      refine ⟨v, vs, rfl, g, fr, d, R, r1, ?_⟩
      have q' : Pss X.K cA ((asgT t d fr).bind fun _ fr => asgTs ts ds fr) g H _ := q
      refine Pss.impR (Pss.bind q') fun _ g' fr' σ' H' l k R' z => fun o1 => ?_
      exact ⟨g', fr', ds, R', r2.mono l k.f _ _, by simpa using hl, Pss.imp z fun _ _ _ σ2 H2 z2 o2 => z2 (o1.trans o2)⟩
theorem each_len {env : Env} : ∀ {es : List Expr}, es.any isStar = false → (assignEach es env).length = es.length ∧ (assignEach es env).findIdx? (·.1) = none
  | [], _ => ⟨rfl, rfl⟩
  | e :: es, h => by
    rw [List.any_cons, Bool.or_eq_false_iff] at h
    rw [assignEach_cons h.1]
    obtain ⟨h1, h2⟩ := each_len (env := env) h.2
    refine ⟨by rw [List.length_cons, List.length_cons, h1], ?_⟩
    rw [List.findIdx?_cons, h2]
    rfl
theorem g_tp {ts : List DT} {k : Nat} (hc : X.calm = true) (h : PGs X es (gTs X.K cA ts)) (hs : es.any isStar = false) (hl : es.length = ts.length) : PG X (.Tuple es k pos) (gT X.K cA (.tp ts)) := by
  obtain ⟨l1, l2⟩ := each_len (env := X.env) hs
  refine PG.imp (PG.either (pg_tup (n := es.length) hc h l1 l2) (pg_lst (n := es.length) hc h l1 l2)) fun v σ H Q ⟨g, fr, d, R, rd, q⟩ => ?_
  have q' : Pss X.K cA (match d with
    | .tup xs | .lst xs => if xs.length = ts.length then asgTs ts xs fr else .stk
    | _ => .stk) g H _ := q
  cases d with
  | tup xs =>
    obtain ⟨a, vs, rfl, hq, rl⟩ := Cv.tup (.inl rd)
    by_cases c : xs.length = ts.length
    · have q2 : Pss X.K cA (if xs.length = ts.length then asgTs ts xs fr else .stk) g H _ := q'
      rw [if_pos c] at q2
      exact .inl ⟨a, vs, rfl, SqT.of hq, by rw [← rl.len, hl]; exact c, g, fr, xs, R, rl, by rw [← rl.len]; exact c, q2⟩
    · have q2 : Pss X.K cA (if xs.length = ts.length then asgTs ts xs fr else .stk) g H _ := q'
      rw [if_neg c] at q2
      exact q2.elim
  | lst xs =>
    obtain ⟨a, vs, rfl, hq, rl⟩ := Cv.lst (.inl rd)
    by_cases c : xs.length = ts.length
    · have q2 : Pss X.K cA (if xs.length = ts.length then asgTs ts xs fr else .stk) g H _ := q'
      rw [if_pos c] at q2
      exact .inr ⟨a, vs, rfl, hq.sq, by rw [← rl.len, hl]; exact c, g, fr, xs, R, rl, by rw [← rl.len]; exact c, q2⟩
    · have q2 : Pss X.K cA (if xs.length = ts.length then asgTs ts xs fr else .stk) g H _ := q'
      rw [if_neg c] at q2
      exact q2.elim
  | _ => exact q'.elim
end
/-! ### what a loop walks -/
section
variable (K : PySem.W.Frag) (cA : Nat → Option Addr)
/-- what a turn yields: a kept value, or a new pair -/
inductive Got (H : Hp) (g : Wd) : D → V → Hp → Prop
  | old {d : D} {v : V} : Rep K cA H g d v → Got H g d v H
  | tup {ds : List D} {vs : List V} {p : Addr} : H p = none → RepL K cA H g ds vs → Got H g (.tup ds) (.ref p) (upd H p (.tup vs))
structure Items (J : It) (g : Wd) (H : Hp) (ds : List D) : Prop where
  stop : ∀ H', (∀ a, g.F a → H' a = H a) → J.stop ds.length H'
  go : ∀ i H', (∀ a, g.F a → H' a = H a) → i < ds.length → J.go i H'
  yld : ∀ i H' v H'' g', (∀ a, g.F a → H' a = H a) → g.le g' → i < ds.length → J.yld i H' v H'' → ∃ d, ds[i]? = some d ∧ Got K cA H' g' d v H''
def rpI : RP (List D) It := fun _ _ H g ds J => Items K cA J g H ds
abbrev tI (ev : Fm → Rs (List D)) : TI := tV K cA (rpI K cA) ev
end
theorem PI.imp {X : Cx} {tg it : Expr} {t t' : TI} (h : PI X tg it t) (i : ∀ σ H R, t' σ H R → t σ H R) : PI X tg it t' := ⟨fun pins s σ H R I q => h.run pins s σ H R I (i σ H R q)⟩
theorem PI.either {X : Cx} {tg it : Expr} {t t' : TI} (h : PI X tg it t) (h' : PI X tg it t') : PI X tg it (fun σ H R => t σ H R ∨ t' σ H R) := ⟨fun pins s σ H R I q => q.elim (h.run pins s σ H R I) (h'.run pins s σ H R I)⟩
theorem Got.frz {K : PySem.W.Frag} {cA : Nat → Option Addr} {H H' : Hp} {g : Wd} {fr : Fm} {σ : L2.St} {v : V} {d : D} (n : Got K cA H g d v H') (R : Rel K cA H g fr σ) : ∃ g', g.le g' ∧ Keep g H H' ∧ Rel K cA H' g' fr σ ∧ Rep K cA H' g' d v := by
  cases n with
  | old r => exact ⟨g, Wd.le.refl g, Keep.refl g H, R, r⟩
  | tup e r => exact (New.tup e r).frz R
section
variable {K : PySem.W.Frag} {cA : Nat → Option Addr} {H H' : Hp} {g : Wd} {a b : Addr}
theorem lx_mono {vs : List V} (h : (g.F a ∧ Rd H a (.lst vs)) ∨ KLst K a vs) (k : ∀ a, g.F a → H' a = H a) : SqL K H' a vs := by
  rcases h with h | h
  · exact LX.sq (.inl (Rd.eq (k a h.1) h.2))
  · exact LX.sq (.inr h)
/-- a kept sequence as an iterator's source -/
def KSeq (K : PySem.W.Frag) (cA : Nat → Option Addr) (H : Hp) (g : Wd) (k : Bool) (a : Addr) (ds : List D) (vs : List V) : Prop := (∀ H', (∀ a, g.F a → H' a = H a) → SqK K k H' a vs) ∧ RepL K cA H g ds vs
theorem kseq_lst {ds : List D} {v : V} (h : Rep K cA H g (.lst ds) v) : ∃ a vs, v = .ref a ∧ KSeq K cA H g false a ds vs := by
  obtain ⟨a, vs, rfl, q, r⟩ := h
  exact ⟨a, vs, rfl, fun H' k => lx_mono q k, r⟩
theorem kseq_tup {ds : List D} {v : V} (h : Rep K cA H g (.tup ds) v) : ∃ a vs, v = .ref a ∧ KSeq K cA H g true a ds vs := by
  obtain ⟨a, vs, rfl, f, q, r⟩ := h
  exact ⟨a, vs, rfl, fun H' k => SqT.of ((k a f).trans q), r⟩
theorem rep_up {d : D} {v : V} {g' : Wd} (r : Rep K cA H g d v) (k : ∀ a, g.F a → H' a = H a) (l : g.le g') : Rep K cA H' g' d v := Rep.mono l k d v r
theorem items_list {ds : List D} {vs : List V} (h : KSeq K cA H g false a ds vs) : Items K cA (Itl K a) g H ds := by
  obtain ⟨hs, r⟩ := h
  refine ⟨fun H' k => ⟨vs, hs H' k, by rw [r.len]; exact Nat.le_refl _⟩, fun i H' k hi => ?_, fun i H' v H'' g' k l hi hy => ?_⟩
  · obtain ⟨w, e, _⟩ := r.get (List.getElem?_eq_getElem hi)
    exact ⟨vs, w, hs H' k, e⟩
  · obtain ⟨rfl, e⟩ := hy
    obtain ⟨w, e1, rw'⟩ := r.get (List.getElem?_eq_getElem hi)
    have e2 := e vs (hs _ k)
    rw [e1] at e2
    cases e2
    exact ⟨_, List.getElem?_eq_getElem hi, .old (rep_up rw' k l)⟩
theorem items_tup {ds : List D} {vs : List V} (h : KSeq K cA H g true a ds vs) : Items K cA (Itt K a) g H ds := by
  obtain ⟨hs, r⟩ := h
  refine ⟨fun H' k => ⟨vs, hs H' k, by rw [r.len]; exact Nat.le_refl _⟩, fun i H' k hi => ?_, fun i H' v H'' g' k l hi hy => ?_⟩
  · obtain ⟨w, e, _⟩ := r.get (List.getElem?_eq_getElem hi)
    exact ⟨vs, w, hs H' k, e⟩
  · obtain ⟨rfl, e⟩ := hy
    obtain ⟨w, e1, rw'⟩ := r.get (List.getElem?_eq_getElem hi)
    have e2 := e vs (hs _ k)
    rw [e1] at e2
    cases e2
    exact ⟨_, List.getElem?_eq_getElem hi, .old (rep_up rw' k l)⟩
theorem items_range {lo : Int} {n : Nat} : Items K cA (Itr lo n) g H (rangeD lo n) := by
  have hl : (rangeD lo n).length = n := by unfold rangeD; rw [List.length_map, List.length_range]
  refine ⟨fun H' k => by rw [hl]; exact Nat.le_refl _, fun i H' k hi => by rw [hl] at hi; exact hi, fun i H' v H'' g' k l hi hy => ?_⟩
  obtain ⟨rfl, rfl⟩ := hy
  rw [hl] at hi
  refine ⟨.int (lo + i), ?_, .old rfl⟩
  unfold rangeD
  rw [List.getElem?_map, List.getElem?_range hi]
  rfl
theorem items_str {x : Str} : Items K cA (Its x) g H (x.cps.toList.map fun c => .str ⟨#[c]⟩) := by
  have hl : (x.cps.toList.map fun c => D.str ⟨#[c]⟩).length = x.cps.size := by rw [List.length_map, Array.length_toList]
  refine ⟨fun H' k => by rw [hl]; exact Nat.le_refl _, fun i H' k hi => by rw [hl] at hi; exact hi, fun i H' v H'' g' k l hi hy => ?_⟩
  obtain ⟨rfl, c, e, rfl⟩ := hy
  refine ⟨.str ⟨#[c]⟩, ?_, .old rfl⟩
  rw [List.getElem?_map, Array.getElem?_toList, e]
  rfl
theorem enumD_get : ∀ {ds : List D} {j i : Nat} {d : D}, ds[i]? = some d → (enumD j ds)[i]? = some (.tup [.int ((j + i : Nat) : Int), d])
  | [], _, _, _, h => by simp at h
  | e :: ds, j, 0, d, h => by
    cases h
    rfl
  | e :: ds, j, i + 1, d, h => by
    have q := enumD_get (ds := ds) (j := j + 1) (i := i) (d := d) (by simpa using h)
    have e1 : j + 1 + i = j + (i + 1) := by omega
    rw [e1] at q
    exact q
theorem enumD_len : ∀ {ds : List D} {j : Nat}, (enumD j ds).length = ds.length
  | [], _ => rfl
  | e :: ds, j => by
    show (enumD (j + 1) ds).length + 1 = _
    rw [enumD_len]
    rfl
theorem items_enum {k : Bool} {ds : List D} {vs : List V} (h : KSeq K cA H g k a ds vs) : Items K cA (IteK K k a) g H (enumD 0 ds) := by
  obtain ⟨hs, r⟩ := h
  refine ⟨fun H' kk => ⟨vs, hs H' kk, by rw [enumD_len, r.len]⟩, fun i H' kk hi => ?_, fun i H' v H'' g' kk l hi hy => ?_⟩
  · rw [enumD_len] at hi
    obtain ⟨w, e, _⟩ := r.get (List.getElem?_eq_getElem hi)
    exact ⟨vs, w, hs H' kk, e⟩
  · rw [enumD_len] at hi
    obtain ⟨T, x, rfl, hT, rfl, e⟩ := hy
    obtain ⟨w, e1, rw'⟩ := r.get (List.getElem?_eq_getElem hi)
    have e2 := e vs (hs _ kk)
    rw [e1] at e2
    cases e2
    refine ⟨_, enumD_get (List.getElem?_eq_getElem hi), .tup hT (RepL.cons ?_ (RepL.one (rep_up rw' kk l)))⟩
    rw [Nat.zero_add]
    rfl
theorem zipD_get : ∀ {xs ys : List D} {i : Nat} {x y : D}, xs[i]? = some x → ys[i]? = some y → (zipD xs ys)[i]? = some (.tup [x, y])
  | [], _, _, _, _, h, _ => by simp at h
  | _ :: _, [], _, _, _, _, h => by simp at h
  | a :: xs, b :: ys, 0, x, y, h, k => by
    cases h
    cases k
    rfl
  | a :: xs, b :: ys, i + 1, x, y, h, k => zipD_get (xs := xs) (ys := ys) (i := i) (by simpa using h) (by simpa using k)
theorem zipD_len : ∀ {xs ys : List D}, (zipD xs ys).length = min xs.length ys.length
  | [], ys => by
    show 0 = min 0 _
    omega
  | _ :: _, [] => by
    show 0 = min _ 0
    omega
  | a :: xs, b :: ys => by
    show (zipD xs ys).length + 1 = min (xs.length + 1) (ys.length + 1)
    rw [zipD_len]
    omega
theorem items_zip {k1 k2 : Bool} {xs ys : List D} {vs ws : List V} (h : KSeq K cA H g k1 a xs vs) (h' : KSeq K cA H g k2 b ys ws) : Items K cA (ItzK K k1 k2 a b) g H (zipD xs ys) := by
  obtain ⟨hs, r⟩ := h
  obtain ⟨hs', r'⟩ := h'
  refine ⟨fun H' kk => ⟨vs, ws, hs H' kk, hs' H' kk, by rw [zipD_len, r.len, r'.len]⟩, fun i H' kk hi => ?_, fun i H' v H'' g' kk l hi hy => ?_⟩
  · rw [zipD_len] at hi
    obtain ⟨w, e, _⟩ := r.get (List.getElem?_eq_getElem (show i < xs.length by omega))
    obtain ⟨w', e', _⟩ := r'.get (List.getElem?_eq_getElem (show i < ys.length by omega))
    exact ⟨vs, ws, w, w', hs H' kk, hs' H' kk, e, e'⟩
  · rw [zipD_len] at hi
    obtain ⟨T, x, y, rfl, hT, rfl, e, e'⟩ := hy
    obtain ⟨w, e1, rw1⟩ := r.get (List.getElem?_eq_getElem (show i < xs.length by omega))
    obtain ⟨w', e1', rw2⟩ := r'.get (List.getElem?_eq_getElem (show i < ys.length by omega))
    have e2 := e vs (hs _ kk)
    have e2' := e' ws (hs' _ kk)
    rw [e1] at e2
    rw [e1'] at e2'
    cases e2
    cases e2'
    exact ⟨_, zipD_get (List.getElem?_eq_getElem (by omega)) (List.getElem?_eq_getElem (by omega)), .tup hT (RepL.cons (rep_up rw1 kk l) (RepL.one (rep_up rw2 kk l)))⟩
end
section
variable {X : Cx} {cA : Nat → Option Addr} {gv : Nat → Option D} {c : Cal} {a b e : DE} {ea eb tg : Expr} {elts : List Expr} {pos p tpos : Pos}
theorem i_ex (ha : (fun (d : DE) (x : Expr) => PE X x (tE X.K cA (evalE gv c d))) a ea) : PI X tg ea (tI X.K cA (evalI gv c (.ex a))) := by
  refine PI.imp (PI.either (PI.either (pi_list ha) (pi_tup ha)) (pi_str ha)) fun σ H R q => ?_
  obtain ⟨g, fr, Rr, h⟩ := q
  have h0 : Pst X.K cA (rpI X.K cA σ) g H σ ((evalE gv c a fr).bind fun x fr => opt (iterD fr x) fr) R := h
  have key : ∀ (d1 : D) (fr1 : Fm) (g1 : Wd) (v1 : V) (H1 : Hp), evalE gv c a fr = .ok d1 fr1 → Rel X.K cA H1 g1 fr1 σ → Pst X.K cA (rpI X.K cA σ) g1 H1 σ (opt (iterD fr1 d1) fr1) R → ∃ ds, iterD fr1 d1 = some ds ∧ ∀ J, Items X.K cA J g1 H1 ds → R J H1 := fun d1 fr1 g1 v1 H1 y R1 h1 => by
    obtain ⟨ds, e1, h2⟩ := Pst.opt h1
    exact ⟨ds, e1, fun J hJ => Pst.ok (rp := rpI X.K cA σ) h2 R1 hJ⟩
  cases e0 : evalE gv c a fr with
  | stk => rw [e0] at h0; exact h0.elim
  | exc C ds f => rw [e0] at h0; exact h0.elim
  | ok d1 fr1 =>
    rw [e0] at h0
    have h1 : Pst X.K cA (rpI X.K cA σ) g H σ (opt (iterD fr1 d1) fr1) R := h0
    obtain ⟨ds, e1, h2⟩ := Pst.opt h1
    have fin : ∀ {g1 H1 J}, g.le g1 → Keep g H H1 → Rel X.K cA H1 g1 fr1 σ → Items X.K cA J g1 H1 ds → R J H1 := fun {g1 H1 J} l k R1 hJ => h2 g1 J H1 l k R1 hJ
    have fr0 : ∀ {Z : V → Hp → Prop}, (∀ g' v H', g.le g' → Keep g H H' → Rel X.K cA H' g' fr1 σ → RepX X.K cA H' g' σ d1 v → Z v H') → tE X.K cA (evalE gv c a) σ H Z := fun {Z} z => ⟨g, fr, Rr, by rw [e0]; exact z⟩
    cases d1 with
    | lst xs =>
      cases e1
      refine .inl (.inl (fr0 fun g1 v H1 l k R1 p1 => ?_))
      obtain ⟨ad, vs, rfl, ks⟩ := kseq_lst p1
      exact ⟨ad, rfl, ⟨vs, ks.1 H1 fun _ _ => rfl⟩, fin l k R1 (items_list ks)⟩
    | tup xs =>
      cases e1
      refine .inl (.inr (fr0 fun g1 v H1 l k R1 p1 => ?_))
      obtain ⟨ad, vs, rfl, ks⟩ := kseq_tup p1
      exact ⟨ad, rfl, ⟨vs, ks.1 H1 fun _ _ => rfl⟩, fin l k R1 (items_tup ks)⟩
    | str x =>
      cases e1
      exact .inr (fr0 fun g1 v H1 l k R1 p1 => ⟨x, p1, fin l k R1 items_str⟩)
    | _ => cases e1
theorem pa1 {K : PySem.W.Frag} {σ : L2.St} {H : Hp} {ta : L2.TE} {Q : List V → Hp → Prop} (h : ta σ H fun x H1 => Q [x] H1) : tCons ta tNil σ H Q := h
theorem i_rng (hg : Gl X "range") (hm : X.mg "range" = none) (ha : (fun (d : DE) (x : Expr) => PE X x (tE X.K cA (evalE gv c d))) a ea) (h1 : isStar ea = false) : PI X tg (.Call (.Name "range" p) [ea] [] pos) (tI X.K cA (evalI gv c (.rng a))) := by
  refine PI.imp (pi_range1 hg hm (pa_cons ha pa_nil (star_each h1)) (by rw [star_each h1]; rfl)) fun σ H R q => ?_
  obtain ⟨g, fr, Rr, h⟩ := q
  refine pa1 (K := X.K) ⟨g, fr, Rr, Pst.bind (show Pst X.K cA (rpI X.K cA σ) g H σ ((evalE gv c a fr).bind fun x fr => match x with
    | .int n => if decide (-4611686018427387904 ≤ n) && decide (n < 4611686018427387904) then .ok (rangeD 0 n.toNat) fr else .stk
    | _ => .stk) R from h) fun d1 fr1 g1 v1 H1 l1 k1 R1 p1 h1 => ?_⟩
  cases d1 with
  | int n =>
    obtain ⟨hz, h2⟩ := Pst.iteS (show Pst X.K cA (rpI X.K cA σ) g1 H1 σ (if (decide (-4611686018427387904 ≤ n) && decide (n < 4611686018427387904)) = true then .ok (rangeD 0 n.toNat) fr1 else .stk) R from h1)
    simp only [Bool.and_eq_true, decide_eq_true_eq] at hz
    have ev : v1 = .int n := p1
    exact ⟨n, by rw [ev], by omega, by omega, Pst.ok (rp := rpI X.K cA σ) h2 R1 items_range⟩
  | _ => exact h1.elim
theorem i_rng2 (hg : Gl X "range") (hm : X.mg "range" = none) (ha : (fun (d : DE) (x : Expr) => PE X x (tE X.K cA (evalE gv c d))) a ea) (hb : (fun (d : DE) (x : Expr) => PE X x (tE X.K cA (evalE gv c d))) b eb) (h1 : isStar ea = false) (h2 : isStar eb = false) : PI X tg (.Call (.Name "range" p) [ea, eb] [] pos) (tI X.K cA (evalI gv c (.rng2 a b))) := by
  refine PI.imp (pi_range2 hg hm (pa_cons ha (pa_cons hb pa_nil (star_each h2)) (star_each h1)) (by rw [star_each h1, star_each h2]; rfl) (by rw [star_each h2]; rfl)) fun σ H R q => ?_
  obtain ⟨g, fr, Rr, h⟩ := q
  refine ⟨g, fr, Rr, Pst.bind (show Pst X.K cA (rpI X.K cA σ) g H σ ((evalE gv c a fr).bind fun x fr => (evalE gv c b fr).bind fun y fr => match x, y with
    | .int m, .int n => if decide (-4611686018427387904 ≤ m) && decide (m < 4611686018427387904) && decide (-4611686018427387904 ≤ n) && decide (n < 4611686018427387904) then .ok (rangeD m (n - m).toNat) fr else .stk
    | _, _ => .stk) R from h) fun d1 fr1 g1 v1 H1 l1 k1 R1 p1 h1 => ⟨g1, fr1, R1, Pst.bind h1 fun d2 fr2 g2 v2 H2 l2 k2 R2 p2 h2 => ?_⟩⟩
  cases d1 with
  | int m =>
    cases d2 with
    | int n =>
      obtain ⟨hz, h3⟩ := Pst.iteS (show Pst X.K cA (rpI X.K cA σ) g2 H2 σ (if (decide (-4611686018427387904 ≤ m) && decide (m < 4611686018427387904) && decide (-4611686018427387904 ≤ n) && decide (n < 4611686018427387904)) = true then .ok (rangeD m (n - m).toNat) fr2 else .stk) R from h2)
      simp only [Bool.and_eq_true, decide_eq_true_eq] at hz
      have ev : v1 = .int m := p1
      have ev2 : v2 = .int n := p2
      exact ⟨m, n, by rw [ev, ev2], ⟨by omega, by omega, by omega, by omega⟩, Pst.ok (rp := rpI X.K cA σ) h3 R2 items_range⟩
    | _ => exact h2.elim
  | _ => exact h2.elim
theorem i_enm {kk : Nat} (hg : Gl X "enumerate") (hm : X.mg "enumerate" = none) (ha : (fun (d : DE) (x : Expr) => PE X x (tE X.K cA (evalE gv c d))) a ea) (h1 : isStar ea = false) : PI X (.Tuple elts kk tpos) (.Call (.Name "enumerate" p) [ea] [] pos) (tI X.K cA (evalI gv c (.enm a))) := by
  refine PI.imp (pi_enumK hg hm (pa_cons ha pa_nil (star_each h1)) h1) fun σ H R q => ?_
  obtain ⟨g, fr, Rr, h⟩ := q
  refine pa1 (K := X.K) ⟨g, fr, Rr, Pst.bind (show Pst X.K cA (rpI X.K cA σ) g H σ ((evalE gv c a fr).bind fun x fr => match x with
    | .lst xs | .tup xs => .ok (enumD 0 xs) fr
    | _ => .stk) R from h) fun d1 fr1 g1 v1 H1 l1 k1 R1 p1 h1 => ?_⟩
  cases d1 with
  | lst xs =>
    obtain ⟨ad, vs, rfl, ks⟩ := kseq_lst p1
    exact ⟨false, ad, vs, rfl, ks.1 H1 fun _ _ => rfl, Pst.ok (rp := rpI X.K cA σ) (show Pst X.K cA (rpI X.K cA σ) g1 H1 σ (.ok (enumD 0 xs) fr1) R from h1) R1 (items_enum ks)⟩
  | tup xs =>
    obtain ⟨ad, vs, rfl, ks⟩ := kseq_tup p1
    exact ⟨true, ad, vs, rfl, ks.1 H1 fun _ _ => rfl, Pst.ok (rp := rpI X.K cA σ) (show Pst X.K cA (rpI X.K cA σ) g1 H1 σ (.ok (enumD 0 xs) fr1) R from h1) R1 (items_enum ks)⟩
  | _ => exact h1.elim
theorem kseq_up {K : PySem.W.Frag} {H H' : Hp} {g g' : Wd} {k : Bool} {a : Addr} {ds : List D} {vs : List V} (h : KSeq K cA H g k a ds vs) (l : g.le g') (kk : ∀ a, g.F a → H' a = H a) : KSeq K cA H' g' k a ds vs :=
  ⟨fun H2 k2 => h.1 H2 fun a ha => (k2 a (l.1 a ha)).trans (kk a ha), h.2.mono l kk _ _⟩
theorem i_zip {kk : Nat} (hg : Gl X "zip") (hm : X.mg "zip" = none) (ha : (fun (d : DE) (x : Expr) => PE X x (tE X.K cA (evalE gv c d))) a ea) (hb : (fun (d : DE) (x : Expr) => PE X x (tE X.K cA (evalE gv c d))) b eb) (h1 : isStar ea = false) (h2 : isStar eb = false) : PI X (.Tuple elts kk tpos) (.Call (.Name "zip" p) [ea, eb] [] pos) (tI X.K cA (evalI gv c (.zip a b))) := by
  refine PI.imp (pi_zipK hg hm (pa_cons ha (pa_cons hb pa_nil (star_each h2)) (star_each h1)) h1 h2) fun σ H R q => ?_
  obtain ⟨g, fr, Rr, h⟩ := q
  refine ⟨g, fr, Rr, Pst.bind (show Pst X.K cA (rpI X.K cA σ) g H σ ((evalE gv c a fr).bind fun x fr => (evalE gv c b fr).bind fun y fr => match x, y with
    | .lst xs, .lst ys | .tup xs, .tup ys | .lst xs, .tup ys => .ok (zipD xs ys) fr
    | _, _ => .stk) R from h) fun d1 fr1 g1 v1 H1 l1 k1 R1 p1 h1 => ⟨g1, fr1, R1, Pst.bind h1 fun d2 fr2 g2 v2 H2 l2 k2 R2 p2 h2 => ?_⟩⟩
  have fin : ∀ {k1 k2 : Bool} {ad ad' : Addr} {xs ys : List D} {vs ws : List V}, KSeq X.K cA H2 g2 k1 ad xs vs → KSeq X.K cA H2 g2 k2 ad' ys ws → Pst X.K cA (rpI X.K cA σ) g2 H2 σ (.ok (zipD xs ys) fr2) R →
      ∃ k1 k2 a b xs ys, [V.ref ad, V.ref ad'] = [.ref a, .ref b] ∧ SqK X.K k1 H2 a xs ∧ SqK X.K k2 H2 b ys ∧ R (ItzK X.K k1 k2 a b) H2 := fun {k1 k2 ad ad' xs ys vs ws} q1 q2 h =>
    ⟨k1, k2, ad, ad', vs, ws, rfl, q1.1 H2 fun _ _ => rfl, q2.1 H2 fun _ _ => rfl, Pst.ok (rp := rpI X.K cA σ) h R2 (items_zip q1 q2)⟩
  cases d1 with
  | lst xs =>
    obtain ⟨ad, vs, rfl, ks⟩ := kseq_lst p1
    cases d2 with
    | lst ys =>
      obtain ⟨ad', ws, rfl, ks'⟩ := kseq_lst p2
      exact fin (kseq_up ks l2 k2.f) ks' h2
    | tup ys =>
      obtain ⟨ad', ws, rfl, ks'⟩ := kseq_tup p2
      exact fin (kseq_up ks l2 k2.f) ks' h2
    | _ => exact h2.elim
  | tup xs =>
    obtain ⟨ad, vs, rfl, ks⟩ := kseq_tup p1
    cases d2 with
    | tup ys =>
      obtain ⟨ad', ws, rfl, ks'⟩ := kseq_tup p2
      exact fin (kseq_up ks l2 k2.f) ks' h2
    | _ => exact h2.elim
  | _ => exact h2.elim
end
end Mr
end
section
set_option Elab.async false
set_option linter.all false
set_option maxRecDepth 100000
/-! M2n: list comprehensions. -/
namespace Mr
open PySem PySem.Spec PyProof.Rows L2
theorem wipe_get : ∀ (ws : List Nat) (a : L2.St) (i : Nat), (L2.wipe a ws)[i]? = if i ∈ ws then (if i < a.length then some none else none) else a[i]? := by
  intro ws
  induction ws with
  | nil => intro a i; simp [L2.wipe]
  | cons w ws ih =>
    intro a i
    show ((L2.wipe a ws).set w none)[i]? = _
    by_cases c : w = i
    · subst c
      rw [if_pos (by simp)]
      by_cases hl : w < a.length
      · rw [List.getElem?_set_self (by rw [wipe_length]; exact hl), if_pos hl]
      · rw [List.getElem?_eq_none (by rw [List.length_set, wipe_length]; omega), if_neg hl]
    · rw [List.getElem?_set_ne c, ih]
      by_cases m : i ∈ ws
      · rw [if_pos m, if_pos (List.mem_cons_of_mem _ m)]
      · rw [if_neg m, if_neg (by simp [m, Ne.symm c])]
theorem wipe_wipe (σ : L2.St) (vs : List Nat) : L2.wipe (L2.wipe σ vs) vs = L2.wipe σ vs := by
  refine List.ext_getElem? fun i => ?_
  rw [wipe_get, wipe_get, wipe_length]
  by_cases m : i ∈ vs
  · rw [if_pos m, if_pos m]
  · rw [if_neg m, if_neg m]
theorem wipeE_len (env : List Sl) : ∀ vs : List Nat, (wipeE env vs).length = env.length
  | [] => rfl
  | v :: vs => by
    show ((wipeE env vs).set v .un).length = _
    rw [List.length_set, wipeE_len env vs]
theorem wipeE_get : ∀ (ws : List Nat) (a : List Sl) (i : Nat), (wipeE a ws)[i]? = if i ∈ ws then (if i < a.length then some .un else none) else a[i]? := by
  intro ws
  induction ws with
  | nil => intro a i; simp [wipeE]
  | cons w ws ih =>
    intro a i
    show ((wipeE a ws).set w .un)[i]? = _
    by_cases c : w = i
    · subst c
      rw [if_pos (by simp)]
      by_cases hl : w < a.length
      · rw [List.getElem?_set_self (by rw [wipeE_len]; exact hl), if_pos hl]
      · rw [List.getElem?_eq_none (by rw [List.length_set, wipeE_len]; omega), if_neg hl]
    · rw [List.getElem?_set_ne c, ih]
      by_cases m : i ∈ ws
      · rw [if_pos m, if_pos (List.mem_cons_of_mem _ m)]
      · rw [if_neg m, if_neg (by simp [m, Ne.symm c])]
theorem backE_len (old env : List Sl) : ∀ vs : List Nat, (backE old env vs).length = env.length
  | [] => rfl
  | v :: vs => by
    show ((backE old env vs).set v _).length = _
    rw [List.length_set, backE_len old env vs]
theorem backE_get : ∀ (ws : List Nat) (old a : List Sl) (i : Nat), (backE old a ws)[i]? = if i ∈ ws then (if i < a.length then some (old[i]?.getD .un) else none) else a[i]? := by
  intro ws
  induction ws with
  | nil => intro old a i; simp [backE]
  | cons w ws ih =>
    intro old a i
    show ((backE old a ws).set w _)[i]? = _
    by_cases c : w = i
    · subst c
      rw [if_pos (by simp)]
      by_cases hl : w < a.length
      · rw [List.getElem?_set_self (by rw [backE_len]; exact hl), if_pos hl]
      · rw [List.getElem?_eq_none (by rw [List.length_set, backE_len]; omega), if_neg hl]
    · rw [List.getElem?_set_ne c, ih]
      by_cases m : i ∈ ws
      · rw [if_pos m, if_pos (List.mem_cons_of_mem _ m)]
      · rw [if_neg m, if_neg (by simp [m, Ne.symm c])]
section
variable {K : PySem.W.Frag} {cA : Nat → Option Addr} {H H' : Hp} {g g' : Wd} {fr : Fm} {σ : L2.St} {D0 : Addr}
theorem wipeE_some {env : List Sl} {own : List Nat} {i : Nat} {s : Sl} (h : (wipeE env own)[i]? = some s) (hs : s ≠ .un) : i ∉ own ∧ env[i]? = some s := by
  rw [wipeE_get] at h
  by_cases m : i ∈ own
  · rw [if_pos m] at h
    by_cases l : i < env.length
    · rw [if_pos l] at h
      exact absurd (Option.some.inj h).symm hs
    · rw [if_neg l] at h
      cases h
  · rw [if_neg m] at h
    exact ⟨m, h⟩
theorem Rel.wipe (R : Rel K cA H g fr σ) (own : List Nat) : Rel K cA H g ⟨wipeE fr.env own, fr.st⟩ (L2.wipe σ own) := by
  have ws : ∀ i, i ∉ own → (L2.wipe σ own)[i]? = σ[i]? := fun i m => by rw [wipe_get, if_neg m]
  refine ⟨fun i d h => ?_, fun i d h => ?_, fun i j d e a h1 h2 h3 h4 => ?_, R.sto, R.cel, R.nod, R.fok, R.pok, by show (wipeE fr.env own).length = _; rw [wipeE_len, wipe_length]; exact R.len⟩
  · obtain ⟨m, h2⟩ := wipeE_some h (fun z => by cases z)
    obtain ⟨v, q, r⟩ := R.val i d h2
    exact ⟨v, by rw [ws i m]; exact q, r⟩
  · obtain ⟨m, h2⟩ := wipeE_some h (fun z => by cases z)
    obtain ⟨v, q, r⟩ := R.own i d h2
    exact ⟨v, by rw [ws i m]; exact q, r⟩
  · obtain ⟨m1, k1⟩ := wipeE_some h1 (fun z => by cases z)
    obtain ⟨m2, k2⟩ := wipeE_some h2 (fun z => by cases z)
    rw [ws i m1] at h3
    rw [ws j m2] at h4
    exact R.two i j d e a k1 k2 h3 h4
/-- the same ghost, one more object protected -/
def Wd.prot (g : Wd) (D0 : Addr) : Wd := ⟨g.F, fun a => g.P a ∨ a = D0, g.m⟩
/-- .. and the protection as it was -/
def Wd.unp (g0 g : Wd) : Wd := ⟨g.F, g0.P, g.m⟩
theorem Rel.prot (R : Rel K cA H g fr σ) (f : Fresh fr σ g D0) (n : H D0 ≠ none) : Rel K cA H (g.prot D0) fr σ := by
  have s : g.sub (g.prot D0) := ⟨fun _ h => h, fun _ _ h => h⟩
  refine ⟨fun i d h => ?_, fun i d h => ?_, R.two, R.sto, fun k d a h1 h2 => ?_, R.nod, fun a h => ?_, fun a h => ?_, R.len⟩
  · obtain ⟨v, q, r⟩ := R.val i d h
    exact ⟨v, q, Rep.mono0 s (fun _ _ => rfl) _ _ r⟩
  · obtain ⟨a, q, r, z1, z2, z3⟩ := R.own i d h
    exact ⟨a, q, r.mono0 s (fun _ _ => rfl) rfl, z1, fun z => z.elim z2 fun z => f.o i d h (z ▸ q), z3⟩
  · obtain ⟨r, z1, z2⟩ := R.cel k d a h1 h2
    exact ⟨r.mono0 s (fun _ _ => rfl) rfl, z1, fun z => z.elim z2 fun z => f.m (z ▸ List.mem_of_getElem? h2)⟩
  · obtain ⟨z1, z2⟩ := R.fok a h
    exact ⟨z1, fun z => z.elim z2 fun z => f.f (z ▸ h)⟩
  · rcases h with h | h
    · exact R.pok a h
    · exact h ▸ n
theorem Rel.unp {g0 : Wd} (R : Rel K cA H g fr σ) (h : ∀ a, g0.P a → g.P a) : Rel K cA H (g0.unp g) fr σ := by
  have s : g.sub (g0.unp g) := ⟨fun _ h => h, fun _ _ h => h⟩
  refine ⟨fun i d q => ?_, fun i d q => ?_, R.two, R.sto, fun k d a h1 h2 => ?_, R.nod, fun a q => ?_, fun a q => R.pok a (h a q), R.len⟩
  · obtain ⟨v, q, r⟩ := R.val i d q
    exact ⟨v, q, Rep.mono0 s (fun _ _ => rfl) _ _ r⟩
  · obtain ⟨a, q, r, z1, z2, z3⟩ := R.own i d q
    exact ⟨a, q, r.mono0 s (fun _ _ => rfl) rfl, z1, fun z => z2 (h a z), z3⟩
  · obtain ⟨r, z1, z2⟩ := R.cel k d a h1 h2
    exact ⟨r.mono0 s (fun _ _ => rfl) rfl, z1, fun z => z2 (h a z)⟩
  · obtain ⟨z1, z2⟩ := R.fok a q
    exact ⟨z1, fun z => z2 (h a z)⟩
/-- a protected object is written by the construct that protects it -/
theorem Rel.atP (R : Rel K cA H g fr σ) (hp : g.P D0) (hh : ∀ a, a ≠ D0 → H' a = H a) (n : H' D0 ≠ none) : Rel K cA H' g fr σ ∧ ∀ a, g.F a → H' a = H a := by
  have kf : ∀ a, g.F a → H' a = H a := fun a h => hh a fun z => (R.fok a h).2 (z ▸ hp)
  have l := Wd.le.refl g
  refine ⟨⟨fun i d h => ?_, fun i d h => ?_, R.two, R.sto, fun k d a h1 h2 => ?_, R.nod, fun a h => ⟨?_, (R.fok a h).2⟩, fun a h => ?_, R.len⟩, kf⟩
  · obtain ⟨v, e1, r⟩ := R.val i d h
    exact ⟨v, e1, r.mono l kf⟩
  · obtain ⟨a, e1, c, z1, z2, z3⟩ := R.own i d h
    exact ⟨a, e1, c.mono l kf (hh a fun z => z2 (z ▸ hp)), z1, z2, z3⟩
  · obtain ⟨c, z1, z2⟩ := R.cel k d a h1 h2
    exact ⟨c.mono l kf (hh a fun z => z2 (z ▸ hp)), z1, z2⟩
  · rw [kf a h]; exact (R.fok a h).1
  · by_cases z : a = D0
    · exact z ▸ n
    · rw [hh a z]; exact R.pok a h
/-- behind a block: the slots of its own as they were -/
theorem Rel.backE {H0 : Hp} {g0 : Wd} {env0 : List Sl} {st0 : List D} {own : List Nat} (R0 : Rel K cA H0 g0 ⟨env0, st0⟩ σ) (no : noOwn env0 own = true) (l : g0.sub g) (k : ∀ a, g0.F a → H a = H0 a) (R : Rel K cA H g fr (L2.wipe σ own)) :
    Rel K cA H g ⟨backE env0 fr.env own, fr.st⟩ σ := by
  have hlen : fr.env.length = env0.length := by
    have h1 := R.len
    have h2 := R0.len
    rw [wipe_length] at h1
    have h2' : env0.length = σ.length := h2
    rw [h1, h2']
  have ws : ∀ i, i ∉ own → (L2.wipe σ own)[i]? = σ[i]? := fun i m => by rw [wipe_get, if_neg m]
  have no' : ∀ i ∈ own, ∀ d, env0[i]? ≠ some (Sl.own d) := fun i m d e => by
    have h := List.all_eq_true.mp no i m
    rw [e] at h
    cases h
  have cas : ∀ {i : Nat} {s : Sl}, (Mr.backE env0 fr.env own)[i]? = some s → s ≠ .un → (i ∈ own ∧ env0[i]? = some s) ∨ (i ∉ own ∧ fr.env[i]? = some s) := fun {i s} h hs => by
    rw [backE_get] at h
    by_cases m : i ∈ own
    · rw [if_pos m] at h
      by_cases hl : i < fr.env.length
      · rw [if_pos hl] at h
        cases e : env0[i]? with
        | none =>
          rw [e] at h
          exact absurd (Option.some.inj h).symm hs
        | some s' =>
          rw [e] at h
          exact .inl ⟨m, h⟩
      · rw [if_neg hl] at h
        cases h
    · rw [if_neg m] at h
      exact .inr ⟨m, h⟩
  refine ⟨fun i d h => ?_, fun i d h => ?_, fun i j d e a h1 h2 h3 h4 => ?_, R.sto, R.cel, R.nod, R.fok, R.pok, by show (Mr.backE env0 fr.env own).length = _; rw [backE_len, hlen]; exact R0.len⟩
  · rcases cas h (fun z => by cases z) with ⟨m, e⟩ | ⟨m, e⟩
    · obtain ⟨v, q, r⟩ := R0.val i d e
      exact ⟨v, q, Rep.mono0 l k _ _ r⟩
    · obtain ⟨v, q, r⟩ := R.val i d e
      exact ⟨v, by rw [← ws i m]; exact q, r⟩
  · rcases cas h (fun z => by cases z) with ⟨m, e⟩ | ⟨m, e⟩
    · exact absurd e (no' i m d)
    · obtain ⟨v, q, r⟩ := R.own i d e
      exact ⟨v, by rw [← ws i m]; exact q, r⟩
  · rcases cas h1 (fun z => by cases z) with ⟨m, e1⟩ | ⟨m, e1⟩
    · exact absurd e1 (no' i m d)
    · rcases cas h2 (fun z => by cases z) with ⟨m2, e2⟩ | ⟨m2, e2⟩
      · exact absurd e2 (no' j m2 e)
      · exact R.two i j d e a e1 e2 (by rw [ws i m]; exact h3) (by rw [ws j m2]; exact h4)
theorem Pst.noExc {α γ δ : Type} {rp : Fm → Hp → Wd → γ → δ → Prop} {r : Rs α} {k : α → Fm → Rs γ} {Q : δ → Hp → Prop} (h : Pst K cA rp g H σ ((Mr.noExc r).bind k) Q) : Pst K cA rp g H σ (r.bind k) Q := by
  cases r with
  | ok a fr => exact h
  | exc C ds fr => exact h
  | stk => exact h
end
/-- a turn of a comprehension -/
def stepL (gv : Nat → Option D) (c : Cal) (own : List Nat) (t : DT) (cs : List DE) (elt : DE) (d : D) (fr : Fm) : Rs (Option D) :=
  (asgT t d ⟨wipeE fr.env own, fr.st⟩).bind fun _ fr => (evalC gv c cs fr).bind fun k fr =>
    if k then (evalE gv c elt fr).bind fun y fr => (noLoc y fr).bind fun y fr => .ok (some y) ⟨wipeE fr.env own, fr.st⟩ else .ok none ⟨wipeE fr.env own, fr.st⟩
section
variable {K : PySem.W.Frag} {cA : Nat → Option Addr} {gv : Nat → Option D} {c : Cal} {own : List Nat} {t : DT} {cs : List DE} {elt : DE}
/-- one turn, from a kept item to what is behind the append -/
theorem turn_ok {σ : L2.St} {H : Hp} {g : Wd} {fr : Fm} {d : D} {v : V} {D0 : Addr} {ws : List V} {acc : List D} {Nx : Hp → Prop} {β : Type} {k : Option D → Fm → Rs β} {Fin : Rs β → Wd → Hp → Prop}
    (hF : ∀ {r : Rs β} {g g' : Wd} {H H' : Hp}, Fin r g H → g.le g' → Keep g H H' → Fin r g' H') (hF0 : ∀ {g : Wd} {H : Hp} {r : Rs β}, Fin r g H → ∃ a fr, r = .ok a fr)
    (hsl : ∀ i ∈ slots t, i ∈ own) (R : Rel K cA H g fr (L2.wipe σ own)) (rd : Rep K cA H g d v) (hP : g.P D0) (hD : H D0 = some (.lst ws)) (ra : RepL K cA H g acc ws)
    (h : Fin ((stepL gv c own t cs elt d fr).bind k) g H)
    (hno : ∀ g' fr' H', g.le g' → Keep g H H' → Rel K cA H' g' fr' (L2.wipe σ own) → H' D0 = some (.lst ws) → RepL K cA H' g' acc ws → Fin (k none fr') g' H' → Nx H')
    (hyes : ∀ g' fr' H' y w, g.le g' → Keep g H H' → Rel K cA H' g' fr' (L2.wipe σ own) → H' D0 = some (.lst ws) → RepL K cA H' g' (acc ++ [y]) (ws ++ [w]) → Fin (k (some y) fr') g' H' → ws.length < sizeLine ∧ Nx (upd H' D0 (.lst (ws ++ [w])))) :
    gT K cA t v (L2.wipe σ own) H fun σ2 H2 => L2.wipe σ2 own = L2.wipe σ own ∧ tT K cA (fun fr => evalC gv c cs fr) σ2 H2 fun b H3 =>
      if b = true then tE K cA (evalE gv c elt) σ2 H3 fun y H4 => ∃ ac, H4 D0 = some (.lst ac) ∧ ac.length < sizeLine ∧ Nx (upd H4 D0 (.lst (ac ++ [y]))) else Nx H3 := by
  have R1 := R.wipe own
  rw [wipe_wipe] at R1
  refine ⟨g, ⟨wipeE fr.env own, fr.st⟩, d, R1, rd, ?_⟩
  have hD' : ∀ {g' H'}, g.le g' → Keep g H H' → H' D0 = some (.lst ws) ∧ RepL K cA H' g' acc ws := fun {g' H'} l kk => ⟨(kk D0 (.inr hP)).trans hD, ra.mono l kk.f _ _⟩
  unfold stepL at h
  cases e1 : asgT t d ⟨wipeE fr.env own, fr.st⟩ with
  | stk => rw [e1] at h; obtain ⟨_, _, z⟩ := hF0 h; cases z
  | exc C ds f => rw [e1] at h; obtain ⟨_, _, z⟩ := hF0 h; cases z
  | ok u fr1 =>
    rw [e1] at h
    have h1 : Fin (((evalC gv c cs fr1).bind fun k fr => if k then (evalE gv c elt fr).bind fun y fr => (noLoc y fr).bind fun y fr => .ok (some y) ⟨wipeE fr.env own, fr.st⟩ else .ok none ⟨wipeE fr.env own, fr.st⟩).bind k) g H := h
    intro g1 σ1 H1 l1 k1 R1 o1
    have ew := Off.wipe o1 hsl
    rw [wipe_wipe] at ew
    refine ⟨ew, g1, fr1, R1, ?_⟩
    show Pst K cA (rpB σ1) g1 H1 σ1 (evalC gv c cs fr1) _
    cases e2 : evalC gv c cs fr1 with
    | stk => rw [e2] at h1; obtain ⟨_, _, z⟩ := hF0 h1; cases z
    | exc C ds f => rw [e2] at h1; obtain ⟨_, _, z⟩ := hF0 h1; cases z
    | ok b fr2 =>
      rw [e2] at h1
      intro g2 b' H2 l2 k2 R2 p2
      have eb : b = b' := p2
      subst eb
      have l12 := l1.trans l2
      have k12 := Keep.trans l1 k1 k2
      cases b with
      | false =>
        have h2 : Fin (k none ⟨wipeE fr2.env own, fr2.st⟩) g H := h1
        have R3 := R2.wipe own
        rw [ew] at R3
        obtain ⟨hd, hr⟩ := hD' l12 k12
        exact hno g2 _ H2 l12 k12 R3 hd hr (hF h2 l12 k12)
      | true =>
        have h2 : Fin (((evalE gv c elt fr2).bind fun y fr => (noLoc y fr).bind fun y fr => .ok (some y) ⟨wipeE fr.env own, fr.st⟩).bind k) g H := h1
        refine ⟨g2, fr2, R2, ?_⟩
        cases e3 : evalE gv c elt fr2 with
        | stk => rw [e3] at h2; obtain ⟨_, _, z⟩ := hF0 h2; cases z
        | exc C ds f => rw [e3] at h2; obtain ⟨_, _, z⟩ := hF0 h2; cases z
        | ok y fr3 =>
          rw [e3] at h2
          intro g3 w H3 l3 k3 R3 p3
          have l13 := l12.trans l3
          have k13 := Keep.trans l12 k12 k3
          have h3 : Fin (((noLoc y fr3).bind fun y fr => .ok (some y) ⟨wipeE fr.env own, fr.st⟩).bind k) g H := h2
          unfold noLoc at h3
          cases hn : isLoc y with
          | true => rw [hn] at h3; obtain ⟨_, _, z⟩ := hF0 h3; cases z
          | false =>
            rw [hn] at h3
            have h4 : Fin (k (some y) ⟨wipeE fr3.env own, fr3.st⟩) g H := h3
            have R4 := R3.wipe own
            rw [ew] at R4
            obtain ⟨hd, hr⟩ := hD' l13 k13
            obtain ⟨z1, z2⟩ := hyes g3 _ H3 y w l13 k13 R4 hd (hr.app (RepL.one (p3.rep hn))) (hF h4 l13 k13)
            exact ⟨ws, hd, z1, z2⟩
end
section
variable {K : PySem.W.Frag} {cA : Nat → Option Addr} {gv : Nat → Option D} {c : Cal} {own : List Nat} {t : DT} {cs : List DE} {elt : DE} {it : DI}
/-- what is wanted of the rest of a comprehension -/
def FinL (K : PySem.W.Frag) (cA : Nat → Option Addr) (σ : L2.St) (env0 : List Sl) (own : List Nat) (g0 : Wd) (Q : VK) (r : Rs (List D)) (g : Wd) (H : Hp) : Prop :=
  (∀ a, g0.P a → g.P a) ∧ Pst K cA (rpA K cA σ) (g0.unp g) H σ (r.bind fun ys fr2 => .ok (.lst ys) ⟨backE env0 fr2.env own, fr2.st⟩) Q
theorem FinL.mono {σ : L2.St} {env0 : List Sl} {g0 g g' : Wd} {Q : VK} {r : Rs (List D)} {H H' : Hp} (h : FinL K cA σ env0 own g0 Q r g H) (l : g.le g') (k : Keep g H H') : FinL K cA σ env0 own g0 Q r g' H' := by
  refine ⟨fun a ha => by rw [l.2.1]; exact h.1 a ha, Pst.mono h.2 ⟨l.1, rfl, l.2.2⟩ fun a ha => k a (ha.elim .inl fun ha => .inr (h.1 a ha))⟩
theorem FinL.ok {σ : L2.St} {env0 : List Sl} {g0 g : Wd} {Q : VK} {r : Rs (List D)} {H : Hp} (h : FinL K cA σ env0 own g0 Q r g H) : ∃ a fr, r = .ok a fr := by
  cases r with
  | ok a fr => exact ⟨a, fr, rfl⟩
  | exc C ds fr => exact h.2.elim
  | stk => exact h.2.elim
/-- the end: the new list is fresh -/
theorem FinL.fin {σ : L2.St} {env0 : List Sl} {st0 : List D} {g0 g : Wd} {Q : VK} {H0 H : Hp} {acc : List D} {ws : List V} {fr : Fm} {D0 : Addr} (h : FinL K cA σ env0 own g0 Q (.ok acc fr) g H) (R0 : Rel K cA H0 g0 ⟨env0, st0⟩ σ) (no : noOwn env0 own = true)
    (hn : H0 D0 = none) (l : g0.sub g) (k : ∀ a, g0.F a → H a = H0 a) (R : Rel K cA H g fr (L2.wipe σ own)) (hP : g.P D0) (hD : H D0 = some (.lst ws)) (ra : RepL K cA H g acc ws) : Q (.ref D0) H := by
  have q0 := R0.fresh hn
  have R2 := R0.backE no l k R
  have R3 : Rel K cA H (g0.unp g) ⟨backE env0 fr.env own, fr.st⟩ σ := R2.unp h.1
  have s : g.sub (g0.unp g) := ⟨fun _ h => h, fun _ _ h => h⟩
  have hf : Fresh ⟨backE env0 fr.env own, fr.st⟩ σ (g0.unp g) D0 := by
    refine ⟨fun z => (R.fok D0 z).2 hP, q0.pr, fun z => ?_, fun i d e z => ?_⟩
    · obtain ⟨n, hn, e⟩ := List.getElem_of_mem z
      have hs : n < fr.st.length := by rw [← R.sto]; exact hn
      exact (R.cel n fr.st[n] D0 (List.getElem?_eq_getElem hs) (by rw [← e]; exact List.getElem?_eq_getElem hn)).2.2 hP
    · obtain ⟨a, e1, _, _, e3, _⟩ := R2.own i d e
      rw [z] at e1
      cases e1
      exact e3 hP
  exact h.2 (g0.unp g) _ H (Wd.le.refl _) (Keep.refl _ _) R3 (.inl ⟨rfl, D0, rfl, ⟨ws, hD, RepL.mono0 s (fun _ _ => rfl) _ _ ra⟩, hf⟩)
theorem lc_core (hsl : ∀ i ∈ slots t, i ∈ own) {σ : L2.St} {H : Hp} {Q : VK} (q : tA K cA (evalE gv c (.lc own t it cs elt)) σ H Q) :
    tLc (tI K cA (evalI gv c it)) (gT K cA t) (tT K cA (fun fr => evalC gv c cs fr)) (tE K cA (evalE gv c elt)) own σ H Q := by
  obtain ⟨g, fr, R, h⟩ := q
  refine ⟨g, fr, R, Pst.bind (show Pst K cA (rpA K cA σ) g H σ ((evalI gv c it fr).bind fun ds fr => if noOwn fr.env own then
    (noExc (compL (stepL gv c own t cs elt) ds [] ⟨wipeE fr.env own, fr.st⟩)).bind fun ys fr2 => .ok (.lst ys) ⟨backE fr.env fr2.env own, fr2.st⟩ else .stk) Q from h) fun ds fr1 g1 J H1 l1 k1 R1 p1 h1 => ?_⟩
  have pI : Items K cA J g1 H1 ds := p1
  obtain ⟨no, h2⟩ := Pst.iteS h1
  have h3 := Pst.noExc h2
  intro D0 hn
  have q0 := R1.fresh hn
  have kp : Keep g1 H1 (upd H1 D0 (.lst [])) := fun a h => upd_ne fun z => h.elim (fun h => q0.f (z ▸ h)) fun h => q0.pr (z ▸ h)
  have Ra := ((R1.other (H' := upd H1 D0 (.lst [])) q0 fun a h => upd_ne h).prot q0 (by rw [upd_same]; simp)).wipe own
  refine ⟨fun i m Hc => m = ds.length - i ∧ i ≤ ds.length ∧ ∃ g fr acc ws, (g1.prot D0).le g ∧ Keep g1 H1 Hc ∧ Rel K cA Hc g fr (L2.wipe σ own) ∧ Hc D0 = some (.lst ws) ∧ RepL K cA Hc g acc ws ∧
    FinL K cA σ fr1.env own g1 Q (compL (stepL gv c own t cs elt) (ds.drop i) acc fr) g Hc, ⟨ds.length, rfl, Nat.zero_le _, g1.prot D0, _, [], [], Wd.le.refl _, kp, Ra, upd_same, RepL.nil, ?_⟩, ?_⟩
  · rw [List.drop_zero]
    exact ⟨fun a ha => .inl ha, Pst.mono h3 (Wd.le.refl g1) kp⟩
  · rintro i m Hc ⟨rfl, hi, gW, frW, acc, ws, lW, kW, RW, hD, ra, hF⟩
    have hP : gW.P D0 := by rw [lW.2.1]; exact .inr rfl
    have kF : ∀ a, g1.F a → Hc a = H1 a := fun a ha => kW a (.inl ha)
    by_cases hlt : i < ds.length
    · refine .inr ⟨pI.go i Hc kF hlt, fun H' => ∃ m', m' < ds.length - i ∧ (m' = ds.length - (i + 1) ∧ i + 1 ≤ ds.length ∧ ∃ g fr acc ws, (g1.prot D0).le g ∧ Keep g1 H1 H' ∧ Rel K cA H' g fr (L2.wipe σ own) ∧ H' D0 = some (.lst ws) ∧ RepL K cA H' g acc ws ∧
        FinL K cA σ fr1.env own g1 Q (compL (stepL gv c own t cs elt) (ds.drop (i + 1)) acc fr) g H'), fun H' z => z, fun x H' hy => ?_⟩
      obtain ⟨d, hd, got⟩ := pI.yld i Hc x H' (g1.unp gW) kF ⟨fun a ha => lW.1 a ha, rfl, lW.2.2⟩ hlt hy
      have got' : Got K cA Hc gW d x H' := by
        cases got with
        | old r => exact .old (Rep.mono0 (show (g1.unp gW).sub gW from ⟨fun _ h => h, fun _ _ h => h⟩) (fun _ _ => rfl) _ _ r)
        | tup e r => exact .tup e (RepL.mono0 (show (g1.unp gW).sub gW from ⟨fun _ h => h, fun _ _ h => h⟩) (fun _ _ => rfl) _ _ r)
      obtain ⟨g2, l2, k2, R2, r2⟩ := got'.frz RW
      have edrop : ds.drop i = d :: ds.drop (i + 1) := by
        rw [List.drop_eq_getElem_cons hlt]
        rw [List.getElem?_eq_getElem hlt] at hd
        rw [Option.some.inj hd]
      rw [edrop] at hF
      have hF2 := FinL.mono hF l2 k2
      have hP2 : g2.P D0 := by rw [l2.2.1]; exact hP
      have kk : ∀ {g3 H3}, g2.le g3 → Keep g2 H' H3 → Keep g1 H1 H3 := fun {g3 H3} l3 k3 a ha => by
        have z1 : gW.F a ∨ gW.P a := ha.elim (fun z => .inl (lW.1 a z)) fun z => .inr (by rw [lW.2.1]; exact .inl z)
        rw [k3 a (z1.elim (fun z => .inl (l2.1 a z)) fun z => .inr (by rw [l2.2.1]; exact z)), k2 a z1, kW a ha]
      refine turn_ok (Nx := _) (Fin := FinL K cA σ fr1.env own g1 Q) (k := fun o fr => match o with
        | some y => if acc.length < szL then compL (stepL gv c own t cs elt) (ds.drop (i + 1)) (acc ++ [y]) fr else .stk
        | none => compL (stepL gv c own t cs elt) (ds.drop (i + 1)) acc fr) FinL.mono FinL.ok hsl R2 r2 hP2 ((k2 D0 (.inr hP)).trans hD) (ra.mono l2 k2.f _ _) hF2 ?_ ?_
      · intro g3 fr3 H3 l3 k3 R3 hD3 ra3 hF3
        exact ⟨_, by omega, rfl, hlt, g3, fr3, acc, ws, (lW.trans l2).trans l3, kk l3 k3, R3, hD3, ra3, hF3⟩
      · intro g3 fr3 H3 y w l3 k3 R3 hD3 ra3 hF3
        have hF4 : FinL K cA σ fr1.env own g1 Q (if acc.length < szL then compL (stepL gv c own t cs elt) (ds.drop (i + 1)) (acc ++ [y]) fr3 else .stk) g3 H3 := hF3
        have hP3 : g3.P D0 := by rw [l3.2.1]; exact hP2
        by_cases cz : acc.length < szL
        · rw [if_pos cz] at hF4
          obtain ⟨R4, kf4⟩ := R3.atP (H' := upd H3 D0 (.lst (ws ++ [w]))) hP3 (fun a ha => upd_ne ha) (by rw [upd_same]; simp)
          have nF : ∀ a, g1.F a ∨ g1.P a → a ≠ D0 := fun a ha z => by subst z; exact ha.elim q0.f q0.pr
          have k4 : Keep g1 H1 (upd H3 D0 (.lst (ws ++ [w]))) := fun a ha => by
            rw [upd_ne (nF a ha)]
            exact kk l3 k3 a ha
          refine ⟨by rw [← ra.len]; exact cz, _, by omega, rfl, hlt, g3, fr3, acc ++ [y], ws ++ [w], (lW.trans l2).trans l3, k4, R4, upd_same, ra3.mono (Wd.le.refl g3) kf4 _ _, hF4.1, ?_⟩
          refine Pst.mono hF4.2 (Wd.le.refl _) fun a ha => ?_
          refine upd_ne fun z => ?_
          subst z
          exact ha.elim (fun z => (R3.fok a z).2 hP3) fun z => q0.pr z
        · rw [if_neg cz] at hF4
          obtain ⟨_, _, z⟩ := FinL.ok hF4
          cases z
    · have ei : i = ds.length := by omega
      subst ei
      refine .inl ⟨pI.stop Hc kF, ?_⟩
      rw [List.drop_length] at hF
      have l' : g1.sub gW := ⟨fun a ha => lW.1 a ha, fun k a e => lW.mem e⟩
      exact FinL.fin (D0 := D0) hF (show Rel K cA H1 g1 ⟨fr1.env, fr1.st⟩ σ from R1) no hn l' kF RW hP hD ra
/-- over the list that a slot owns -/
def iOwn (K : PySem.W.Frag) (sl : Nat) : TI := iList K (tVar sl)
theorem lco_core {sl : Nat} (hsl : ∀ i ∈ slots t, i ∈ own) (hso : sl ∉ own) {σ : L2.St} {H : Hp} {Q : VK} (q : tA K cA (evalE gv c (.lco own t sl cs elt)) σ H Q) :
    tLc (iOwn K sl) (gT K cA t) (tT K cA (fun fr => evalC gv c cs fr)) (tE K cA (evalE gv c elt)) own σ H Q := by
  obtain ⟨g1, fr1, R1, h⟩ := q
  obtain ⟨ds, e0, h1⟩ := Pst.optB (show Pst K cA (rpA K cA σ) g1 H σ ((opt (ownL fr1 sl) fr1).bind fun ds fr => if noOwn fr.env own then
    (noExc (compO (stepL gv c own t cs elt) sl ds.length ds.length [] ⟨wipeE fr.env own, fr.st⟩)).bind fun ys fr2 => .ok (.lst ys) ⟨backE fr.env fr2.env own, fr2.st⟩ else .stk) Q from h)
  obtain ⟨no, h2⟩ := Pst.iteS h1
  have h3 := Pst.noExc h2
  have own_of : ∀ {fr : Fm} {xs : List D}, ownL fr sl = some xs → fr.env[sl]? = some (Sl.own (.lst xs)) := fun {fr xs} e => by
    unfold ownL at e
    split at e
    · rename_i q
      cases e
      exact q
    · cases e
  obtain ⟨a, ea, ca, _⟩ := R1.own sl _ (own_of e0)
  obtain ⟨vs0, ha0, _⟩ := ca
  refine ⟨.ref a, ea, a, rfl, ⟨vs0, SqL.of ha0⟩, ?_⟩
  intro D0 hn
  have q0 := R1.fresh hn
  have kp : Keep g1 H (upd H D0 (.lst [])) := fun a h => upd_ne fun z => h.elim (fun h => q0.f (z ▸ h)) fun h => q0.pr (z ▸ h)
  have Ra := ((R1.other (H' := upd H D0 (.lst [])) q0 fun a h => upd_ne h).prot q0 (by rw [upd_same]; simp)).wipe own
  generalize hN : ds.length = n at *
  refine ⟨fun i m Hc => m = n - i ∧ i ≤ n ∧ ∃ g fr acc ws, (g1.prot D0).le g ∧ Keep g1 H Hc ∧ Rel K cA Hc g fr (L2.wipe σ own) ∧ Hc D0 = some (.lst ws) ∧ RepL K cA Hc g acc ws ∧
    FinL K cA σ fr1.env own g1 Q (compO (stepL gv c own t cs elt) sl n (n - i) acc fr) g Hc, ⟨n, rfl, Nat.zero_le _, g1.prot D0, _, [], [], Wd.le.refl _, kp, Ra, upd_same, RepL.nil, ?_⟩, ?_⟩
  · rw [Nat.sub_zero]
    exact ⟨fun a ha => .inl ha, Pst.mono h3 (Wd.le.refl g1) kp⟩
  · rintro i m Hc ⟨rfl, hi, gW, frW, acc, ws, lW, kW, RW, hD, ra, hF⟩
    have hP : gW.P D0 := by rw [lW.2.1]; exact .inr rfl
    have kF : ∀ a, g1.F a → Hc a = H a := fun a ha => kW a (.inl ha)
    have here : ∀ {xs : List D}, ownL frW sl = some xs → ∃ vs, Hc a = some (.lst vs) ∧ RepL K cA Hc gW xs vs := fun {xs} e => by
      obtain ⟨a', e1, cc, _⟩ := RW.own sl _ (own_of e)
      rw [wipe_get, if_neg hso, ea] at e1
      cases e1
      exact cc
    by_cases hlt : i < n
    · have ek : n - i = (n - (i + 1)) + 1 := by omega
      have hF' := hF
      rw [ek] at hF'
      have hF1 : FinL K cA σ fr1.env own g1 Q (match ownL frW sl with
        | some xs => if xs.length = n then (opt xs[n - ((n - (i + 1)) + 1)]? frW).bind fun d fr => (stepL gv c own t cs elt d fr).bind fun o fr => match o with
            | some y => if acc.length < szL then compO (stepL gv c own t cs elt) sl n (n - (i + 1)) (acc ++ [y]) fr else .stk
            | none => compO (stepL gv c own t cs elt) sl n (n - (i + 1)) acc fr
          else .stk
        | none => .stk) gW Hc := hF'
      cases eo : ownL frW sl with
      | none => rw [eo] at hF1; obtain ⟨_, _, z⟩ := FinL.ok hF1; cases z
      | some xs =>
        rw [eo] at hF1
        obtain ⟨vs, hv, rv⟩ := here eo
        by_cases cl : xs.length = n
        · have hF2 : FinL K cA σ fr1.env own g1 Q ((opt xs[n - ((n - (i + 1)) + 1)]? frW).bind fun d fr => (stepL gv c own t cs elt d fr).bind fun o fr => match o with
            | some y => if acc.length < szL then compO (stepL gv c own t cs elt) sl n (n - (i + 1)) (acc ++ [y]) fr else .stk
            | none => compO (stepL gv c own t cs elt) sl n (n - (i + 1)) acc fr) gW Hc := by
            simp only [if_pos cl] at hF1
            exact hF1
          have ei : n - ((n - (i + 1)) + 1) = i := by omega
          rw [ei] at hF2
          have hd : xs[i]? = some xs[i] := List.getElem?_eq_getElem (by omega)
          rw [hd] at hF2
          obtain ⟨w0, ew0, rw0⟩ := rv.get hd
          refine .inr ⟨⟨vs, w0, SqL.of hv, ew0⟩, fun H' => ∃ m', m' < n - i ∧ (m' = n - (i + 1) ∧ i + 1 ≤ n ∧ ∃ g fr acc ws, (g1.prot D0).le g ∧ Keep g1 H H' ∧ Rel K cA H' g fr (L2.wipe σ own) ∧ H' D0 = some (.lst ws) ∧ RepL K cA H' g acc ws ∧
            FinL K cA σ fr1.env own g1 Q (compO (stepL gv c own t cs elt) sl n (n - (i + 1)) acc fr) g H'), fun H' z => z, fun x H' hy => ?_⟩
          obtain ⟨rfl, hy⟩ := hy
          have ex := hy vs (SqL.of hv)
          rw [ew0] at ex
          cases ex
          have kk : ∀ {g3 H3}, gW.le g3 → Keep gW H' H3 → Keep g1 H H3 := fun {g3 H3} l3 k3 b hb => by
            have z1 : gW.F b ∨ gW.P b := hb.elim (fun z => .inl (lW.1 b z)) fun z => .inr (by rw [lW.2.1]; exact .inl z)
            rw [k3 b z1, kW b hb]
          refine turn_ok (Nx := _) (Fin := FinL K cA σ fr1.env own g1 Q) (k := fun o fr => match o with
            | some y => if acc.length < szL then compO (stepL gv c own t cs elt) sl n (n - (i + 1)) (acc ++ [y]) fr else .stk
            | none => compO (stepL gv c own t cs elt) sl n (n - (i + 1)) acc fr) FinL.mono FinL.ok hsl RW rw0 hP hD ra hF2 ?_ ?_
          · intro g3 fr3 H3 l3 k3 R3 hD3 ra3 hF3
            exact ⟨_, by omega, rfl, hlt, g3, fr3, acc, ws, lW.trans l3, kk l3 k3, R3, hD3, ra3, hF3⟩
          · intro g3 fr3 H3 y w l3 k3 R3 hD3 ra3 hF3
            have hF4 : FinL K cA σ fr1.env own g1 Q (if acc.length < szL then compO (stepL gv c own t cs elt) sl n (n - (i + 1)) (acc ++ [y]) fr3 else .stk) g3 H3 := hF3
            have hP3 : g3.P D0 := by rw [l3.2.1]; exact hP
            by_cases cz : acc.length < szL
            · rw [if_pos cz] at hF4
              obtain ⟨R4, kf4⟩ := R3.atP (H' := upd H3 D0 (.lst (ws ++ [w]))) hP3 (fun a ha => upd_ne ha) (by rw [upd_same]; simp)
              have nF : ∀ a, g1.F a ∨ g1.P a → a ≠ D0 := fun a ha z => by subst z; exact ha.elim q0.f q0.pr
              have k4 : Keep g1 H (upd H3 D0 (.lst (ws ++ [w]))) := fun a ha => by
                rw [upd_ne (nF a ha)]
                exact kk l3 k3 a ha
              refine ⟨by rw [← ra.len]; exact cz, _, by omega, rfl, hlt, g3, fr3, acc ++ [y], ws ++ [w], lW.trans l3, k4, R4, upd_same, ra3.mono (Wd.le.refl g3) kf4 _ _, hF4.1, ?_⟩
              refine Pst.mono hF4.2 (Wd.le.refl _) fun a ha => ?_
              refine upd_ne fun z => ?_
              subst z
              exact ha.elim (fun z => (R3.fok a z).2 hP3) fun z => q0.pr z
            · rw [if_neg cz] at hF4
              obtain ⟨_, _, z⟩ := FinL.ok hF4
              cases z
        · simp only [if_neg cl] at hF1
          obtain ⟨_, _, z⟩ := FinL.ok hF1
          cases z
    · have ei : i = n := by omega
      subst ei
      rw [Nat.sub_self] at hF
      have hF1 : FinL K cA σ fr1.env own g1 Q (match ownL frW sl with
        | some xs => if xs.length = i then .ok acc frW else .stk
        | none => .stk) gW Hc := hF
      cases eo : ownL frW sl with
      | none => rw [eo] at hF1; obtain ⟨_, _, z⟩ := FinL.ok hF1; cases z
      | some xs =>
        rw [eo] at hF1
        obtain ⟨vs, hv, rv⟩ := here eo
        by_cases cl : xs.length = i
        · simp only [if_pos cl] at hF1
          refine .inl ⟨⟨vs, SqL.of hv, by rw [← rv.len, cl]; exact Nat.le_refl _⟩, ?_⟩
          have l' : g1.sub gW := ⟨fun a ha => lW.1 a ha, fun k a e => lW.mem e⟩
          exact FinL.fin (D0 := D0) hF1 (show Rel K cA H g1 ⟨fr1.env, fr1.st⟩ σ from R1) no hn l' kF RW hP hD ra
        · simp only [if_neg cl] at hF1
          obtain ⟨_, _, z⟩ := FinL.ok hF1
          cases z
end
end Mr
end
section
set_option Elab.async false
set_option linter.all false
set_option maxRecDepth 100000
/-! M2o: statements. -/
namespace Mr
open PySem PySem.Spec PyProof.Rows L2
section
variable (K : PySem.W.Frag) (cA : Nat → Option Addr)
def Fpost (D : Ends) : Fl → Wd → Fm → L2.St → Hp → Prop := fun fl g' _ σ' H' => match fl with
  | .nx => D.nx σ' H'
  | .brk => D.bk σ' H'
  | .cnt => D.ct σ' H'
  | .ret d => ∀ v, Rep K cA H' g' d v → D.rt v H'
def Fst (D : Ends) (r : Rs Fl) (g : Wd) (H : Hp) : Prop := Pss K cA r g H (Fpost K cA D)
/-- a statement, by its run -/
def tS (ev : Fm → Rs Fl) : TS := fun D σ H => ∃ g fr, Rel K cA H g fr σ ∧ Fst K cA D (ev fr) g H
end
theorem PS.imp {X : Cx} {st : Stmt} {t t' : TS} (h : PS X st t) (i : ∀ D σ H, σ.length = X.N.length → t' D σ H → t D σ H) : PS X st t' := ⟨fun pins s σ H D I q => h.run pins s σ H D I (i D σ H I.len q)⟩
theorem PSs.imp {X : Cx} {st : List Stmt} {t t' : TS} (h : PSs X st t) (i : ∀ D σ H, σ.length = X.N.length → t' D σ H → t D σ H) : PSs X st t' := ⟨fun pins s σ H D I q => h.run pins s σ H D I (i D σ H I.len q)⟩
section
variable {K : PySem.W.Frag} {cA : Nat → Option Addr} {g g' : Wd} {H H' : Hp} {fr : Fm} {σ : L2.St} {D : Ends} {α : Type}
theorem Fst.ok {fl : Fl} (h : Fst K cA D (.ok fl fr) g H) (R : Rel K cA H g fr σ) : Fpost K cA D fl g fr σ H := h g σ H (Wd.le.refl g) (Keep.refl g H) R
theorem Fst.mono {r : Rs Fl} (h : Fst K cA D r g H) (l : g.le g') (k : Keep g H H') : Fst K cA D r g' H' := Pss.mono h l k
/-- from a run to the expression ahead of it -/
theorem Fst.expr {β : Type} {rp : RP α β} {r : Rs α} {k : α → Fm → Rs Fl} (h : Fst K cA D (r.bind k) g H) {Q : β → Hp → Prop} (f : ∀ a fr, r = .ok a fr → ∀ g' b H', g.le g' → Keep g H H' → Rel K cA H' g' fr σ → rp σ fr H' g' a b → Fst K cA D (k a fr) g' H' → Q b H') : Pst K cA (rp σ) g H σ r Q := by
  cases r with
  | ok a fr => exact fun g2 b H2 l2 k2 R p => f a fr rfl g2 b H2 l2 k2 R p (Fst.mono h l2 k2)
  | exc C ds fr => exact h
  | stk => exact h
theorem Fst.noLoc {d : Mr.D} {k : Mr.D → Fm → Rs Fl} (h : Fst K cA D ((Mr.noLoc d fr).bind k) g H) : isLoc d = false ∧ Fst K cA D (k d fr) g H := by
  unfold Mr.noLoc at h
  cases e : isLoc d with
  | true => rw [e] at h; exact h.elim
  | false => rw [e] at h; exact ⟨rfl, h⟩
theorem Fst.optB {γ : Type} {o : Option γ} {k : γ → Fm → Rs Fl} (h : Fst K cA D ((Mr.opt o fr).bind k) g H) : ∃ a, o = some a ∧ Fst K cA D (k a fr) g H := by
  cases o with
  | none => exact h.elim
  | some a => exact ⟨a, rfl, h⟩
end
section
variable {X : Cx} {cA : Nat → Option Addr} {gv : Nat → Option D} {c : Cal} {L : Nat} {a b e o : DE} {ss ts : List DS} {s : DS} {ea eb ec eo tg : Expr} {st : Stmt} {xs ys : List Stmt} {pos p tpos : Pos}
theorem x_nil : (fun (d : List DS) (x : List Stmt) => PSs X x (tS X.K cA (xSs gv c L d))) [] [] := PSs.imp pss_nil fun D σ H _ ⟨g, fr, R, h⟩ => Fst.ok h R
theorem x_cons (h1 : (fun (d : DS) (x : Stmt) => PS X x (tS X.K cA (xS gv c L d))) s st) (h2 : (fun (d : List DS) (x : List Stmt) => PSs X x (tS X.K cA (xSs gv c L d))) ss xs) : (fun (d : List DS) (x : List Stmt) => PSs X x (tS X.K cA (xSs gv c L d))) (s :: ss) (st :: xs) := by
  refine PSs.imp (pss_cons h1 h2) fun D σ H _ ⟨g, fr, R, h⟩ => ⟨g, fr, R, ?_⟩
  have h0 : Fst X.K cA D ((xS gv c L s fr).bind fun f fr => match f with
    | .nx => xSs gv c L ss fr
    | f => .ok f fr) g H := h
  refine Pss.impR (Pss.bind h0) fun fl g' fr' σ' H' l k R' z => ?_
  cases fl with
  | nx => exact ⟨g', fr', R', z⟩
  | brk => exact Fst.ok (fl := .brk) z R'
  | cnt => exact Fst.ok (fl := .cnt) z R'
  | ret d => exact Fst.ok (fl := .ret d) z R'
theorem x_pas : (fun (d : DS) (x : Stmt) => PS X x (tS X.K cA (xS gv c L d))) .pas (.Pass pos) := PS.imp ps_pass fun D σ H _ ⟨g, fr, R, h⟩ => Fst.ok (fl := .nx) h R
theorem x_brk : (fun (d : DS) (x : Stmt) => PS X x (tS X.K cA (xS gv c L d))) .brk (.Break pos) := PS.imp ps_break fun D σ H _ ⟨g, fr, R, h⟩ => Fst.ok (fl := .brk) h R
theorem x_cnt : (fun (d : DS) (x : Stmt) => PS X x (tS X.K cA (xS gv c L d))) .cnt (.Continue pos) := PS.imp ps_continue fun D σ H _ ⟨g, fr, R, h⟩ => Fst.ok (fl := .cnt) h R
theorem x_nev : (fun (d : DS) (x : Stmt) => PS X x (tS X.K cA (xS gv c L d))) .nev st := PS.imp ps_never fun D σ H _ ⟨g, fr, R, h⟩ => h
theorem x_rai {C : Nat} {es : List DE} : (fun (d : DS) (x : Stmt) => PS X x (tS X.K cA (xS gv c L d))) (.rai C es) st := PS.imp ps_never fun D σ H _ ⟨g, fr, R, h⟩ => h
theorem x_doc {x : Str} {j : Nat} : (fun (d : DS) (x : Stmt) => PS X x (tS X.K cA (xS gv c L d))) .pas (.Expr (.Constant (.str x) j pos) p) := PS.imp ps_doc fun D σ H _ ⟨g, fr, R, h⟩ => Fst.ok (fl := .nx) h R
theorem x_ex (ha : (fun (d : DE) (x : Expr) => PE X x (tE X.K cA (evalE gv c d))) a ea) (hs : swapsWith ea none pos.line X.env = pure false) : (fun (d : DS) (x : Stmt) => PS X x (tS X.K cA (xS gv c L d))) (.ex a) (.Expr ea pos) := by
  refine PS.imp (ps_expr ha hs) fun D σ H _ ⟨g, fr, R, h⟩ => ⟨g, fr, R, ?_⟩
  refine Fst.expr (rp := rpX X.K cA) (show Fst X.K cA D ((evalE gv c a fr).bind fun _ fr => .ok .nx fr) g H from h) fun d fr1 _ g1 v H1 l k R1 p1 h1 => ?_
  exact Fst.ok (fl := .nx) h1 R1
theorem x_ret (ha : (fun (d : DE) (x : Expr) => PE X x (tE X.K cA (evalE gv c d))) a ea) : (fun (d : DS) (x : Stmt) => PS X x (tS X.K cA (xS gv c L d))) (.ret a) (.Return (some ea) pos) := by
  refine PS.imp (ps_ret ha) fun D σ H _ ⟨g, fr, R, h⟩ => ⟨g, fr, R, ?_⟩
  refine Fst.expr (rp := rpX X.K cA) (show Fst X.K cA D ((evalE gv c a fr).bind fun d fr => (noLoc d fr).bind fun d fr => .ok (.ret d) fr) g H from h) fun d fr1 _ g1 v H1 l k R1 p1 h1 => ?_
  obtain ⟨n, h2⟩ := Fst.noLoc h1
  exact Fst.ok (fl := .ret d) h2 R1 v (p1.rep n)
theorem x_retN : (fun (d : DS) (x : Stmt) => PS X x (tS X.K cA (xS gv c L d))) .retN (.Return none pos) := PS.imp ps_retN fun D σ H _ ⟨g, fr, R, h⟩ => Fst.ok (fl := .ret .non) h R .non rfl
theorem tst_split {k : Bool → Fm → Rs Fl} {D : Ends} {fr : Fm} {g : Wd} {H : Hp} (h : Fst X.K cA D ((evalE gv c e fr).bind fun x fr => (test x fr).bind fun k' fr => k k' fr) g H) : Fst X.K cA D ((tstE gv c e fr).bind k) g H := by
  unfold tstE
  cases e1 : evalE gv c e fr with
  | stk => rw [e1] at h; exact h
  | exc C ds f => rw [e1] at h; exact h
  | ok d f => rw [e1] at h; exact h
theorem x_ite (hc : (fun (d : DE) (x : Expr) => PT X x (tT X.K cA (tstE gv c d))) e ec) (ha : (fun (d : List DS) (x : List Stmt) => PSs X x (tS X.K cA (xSs gv c L d))) ss xs) (hb : (fun (d : List DS) (x : List Stmt) => PSs X x (tS X.K cA (xSs gv c L d))) ts ys) : (fun (d : DS) (x : Stmt) => PS X x (tS X.K cA (xS gv c L d))) (.ite e ss ts) (.If ec xs ys pos) := by
  refine PS.imp (ps_if hc ha hb) fun D σ H _ ⟨g, fr, R, h⟩ => ⟨g, fr, R, ?_⟩
  have h0 : Fst X.K cA D ((evalE gv c e fr).bind fun x fr => (test x fr).bind fun k fr => if k then xSs gv c L ss fr else xSs gv c L ts fr) g H := h
  refine Fst.expr (rp := rpB) (k := fun k fr => if k then xSs gv c L ss fr else xSs gv c L ts fr) (tst_split h0) fun k fr1 _ g1 v H1 l kk R1 p1 h1 => ?_
  have p2 : k = v := p1
  subst p2
  cases k with
  | true => exact ⟨g1, fr1, R1, h1⟩
  | false => exact ⟨g1, fr1, R1, h1⟩
theorem while_W {D : Ends} {σ : L2.St} {H : Hp} {g : Wd} {fr : Fm} (R : Rel X.K cA H g fr σ) (h : Fst X.K cA D (whileL L (tstE gv c e) (fun fr => xSs gv c L ss fr) fr) g H) :
    tWhile (tT X.K cA (tstE gv c e)) (tS X.K cA (fun fr => xSs gv c L ss fr)) D σ H := by
  refine ⟨fun m σ H => ∃ g fr, Rel X.K cA H g fr σ ∧ Fst X.K cA D (whileL m (tstE gv c e) (fun fr => xSs gv c L ss fr) fr) g H, ⟨L, g, fr, R, h⟩, ?_⟩
  rintro m σ H ⟨g, fr, R, h⟩
  cases m with
  | zero => exact h.elim
  | succ m =>
    have h0 : Fst X.K cA D ((tstE gv c e fr).bind fun k fr => if k then (xSs gv c L ss fr).bind fun f fr => match f with
      | .nx | .cnt => whileL m (tstE gv c e) (fun fr => xSs gv c L ss fr) fr
      | .brk => .ok .nx fr
      | .ret d => .ok (.ret d) fr else .ok .nx fr) g H := h
    refine ⟨g, fr, R, Fst.expr (rp := rpB) h0 fun k fr1 _ g1 v H1 l kk R1 p1 h1 => ?_⟩
    have p2 : k = v := p1
    subst p2
    cases k with
    | false => exact Fst.ok (fl := .nx) h1 R1
    | true =>
      refine ⟨fun σ' H' => ∃ m', m' < m + 1 ∧ ∃ g fr, Rel X.K cA H' g fr σ' ∧ Fst X.K cA D (whileL m' (tstE gv c e) (fun fr => xSs gv c L ss fr) fr) g H', fun σ' H' z => z, g1, fr1, R1, ?_⟩
      have h2 : Fst X.K cA D ((xSs gv c L ss fr1).bind fun f fr => match f with
        | .nx | .cnt => whileL m (tstE gv c e) (fun fr => xSs gv c L ss fr) fr
        | .brk => .ok .nx fr
        | .ret d => .ok (.ret d) fr) g1 H1 := h1
      refine Pss.impR (Pss.bind h2) fun fl g' fr' σ' H' l k R' z => ?_
      cases fl with
      | nx => exact ⟨m, Nat.lt_succ_self m, g', fr', R', z⟩
      | cnt => exact ⟨m, Nat.lt_succ_self m, g', fr', R', z⟩
      | brk => exact Fst.ok (fl := .nx) z R'
      | ret d => exact Fst.ok (fl := .ret d) z R'
theorem x_whl (hp : PassesOwn (model X.prog X.w) X.A X.env X.xe) (hc : (fun (d : DE) (x : Expr) => PT X x (tT X.K cA (tstE gv c d))) e ec) (ha : (fun (d : List DS) (x : List Stmt) => PSs X x (tS X.K cA (xSs gv c L d))) ss xs) : (fun (d : DS) (x : Stmt) => PS X x (tS X.K cA (xS gv c L d))) (.whl e ss) (.While ec xs [] pos) :=
  PS.imp (ps_while hp hc ha) fun D σ H _ ⟨g, fr, R, h⟩ => while_W R h
theorem forL_W {t : DT} {D : Ends} {σ : L2.St} {H1 : Hp} {g1 : Wd} {fr1 : Fm} {J : It} {ds : List Mr.D} (R : Rel X.K cA H1 g1 fr1 σ) (pI : Items X.K cA J g1 H1 ds)
    (h : Fst X.K cA D (forL (fun d fr => (asgT t d fr).bind fun _ fr => xSs gv c L ss fr) ds fr1) g1 H1) :
    ∃ W : Nat → Nat → L2.St → Hp → Prop, (∃ m, W 0 m σ H1) ∧ ∀ i m σ H, W i m σ H →
      (J.stop i H ∧ D.nx σ H) ∨ (J.go i H ∧ ∃ N : L2.St → Hp → Prop, (∀ σ' H', N σ' H' → ∃ m', m' < m ∧ W (i + 1) m' σ' H') ∧ ∀ x H', J.yld i H x H' → gT X.K cA t x σ H' fun σ2 H2 => tS X.K cA (fun fr => xSs gv c L ss fr) { D with nx := N, ct := N, bk := D.nx } σ2 H2) := by
  refine ⟨fun i m σ H => m = ds.length - i ∧ i ≤ ds.length ∧ ∃ g fr, g1.le g ∧ Keep g1 H1 H ∧ Rel X.K cA H g fr σ ∧ Fst X.K cA D (forL (fun d fr => (asgT t d fr).bind fun _ fr => xSs gv c L ss fr) (ds.drop i) fr) g H,
    ⟨ds.length, rfl, Nat.zero_le _, g1, fr1, Wd.le.refl g1, Keep.refl g1 H1, R, by rw [List.drop_zero]; exact h⟩, ?_⟩
  rintro i m σ H ⟨rfl, hi, g, fr, l, k, R, h⟩
  by_cases hlt : i < ds.length
  · refine .inr ⟨pI.go i H k.f hlt, fun σ' H' => ∃ m', m' < ds.length - i ∧ m' = ds.length - (i + 1) ∧ i + 1 ≤ ds.length ∧ ∃ g fr, g1.le g ∧ Keep g1 H1 H' ∧ Rel X.K cA H' g fr σ' ∧ Fst X.K cA D (forL (fun d fr => (asgT t d fr).bind fun _ fr => xSs gv c L ss fr) (ds.drop (i + 1)) fr) g H',
      fun σ' H' z => z, fun x H' hy => ?_⟩
    obtain ⟨d, hd, got⟩ := pI.yld i H x H' g k.f l hlt hy
    obtain ⟨g2, l2, k2, R2, r2⟩ := got.frz R
    have edrop : ds.drop i = d :: ds.drop (i + 1) := by
      rw [List.drop_eq_getElem_cons hlt]
      rw [List.getElem?_eq_getElem hlt] at hd
      rw [Option.some.inj hd]
    rw [edrop] at h
    have h2 : Fst X.K cA D (((asgT t d fr).bind fun _ fr => xSs gv c L ss fr).bind fun f fr => match f with
      | .nx | .cnt => forL (fun d fr => (asgT t d fr).bind fun _ fr => xSs gv c L ss fr) (ds.drop (i + 1)) fr
      | .brk => .ok .nx fr
      | .ret d => .ok (.ret d) fr) g2 H' := Fst.mono h l2 k2
    refine ⟨g2, fr, d, R2, r2, ?_⟩
    cases ea : asgT t d fr with
    | stk => rw [ea] at h2; exact h2.elim
    | exc C ds f => rw [ea] at h2; exact h2.elim
    | ok u fr3 =>
      rw [ea] at h2
      intro g3 σ3 H3 l3 k3 R3 _
      refine ⟨g3, fr3, R3, ?_⟩
      have h3 : Fst X.K cA D ((xSs gv c L ss fr3).bind fun f fr => match f with
        | .nx | .cnt => forL (fun d fr => (asgT t d fr).bind fun _ fr => xSs gv c L ss fr) (ds.drop (i + 1)) fr
        | .brk => .ok .nx fr
        | .ret d => .ok (.ret d) fr) g3 H3 := Fst.mono h2 l3 k3
      have kb : Keep g1 H1 H3 := Keep.trans (l.trans l2) (Keep.trans l k k2) k3
      refine Pss.impR (Pss.bind h3) fun fl g' fr' σ' H4 l4 k4 R' z => ?_
      have nxt : Fst X.K cA D (forL (fun d fr => (asgT t d fr).bind fun _ fr => xSs gv c L ss fr) (ds.drop (i + 1)) fr') g' H4 → ∃ m', m' < ds.length - i ∧ m' = ds.length - (i + 1) ∧ i + 1 ≤ ds.length ∧ ∃ g fr, g1.le g ∧ Keep g1 H1 H4 ∧ Rel X.K cA H4 g fr σ' ∧ Fst X.K cA D (forL (fun d fr => (asgT t d fr).bind fun _ fr => xSs gv c L ss fr) (ds.drop (i + 1)) fr) g H4 := fun z =>
        ⟨_, by omega, rfl, hlt, g', fr', ((l.trans l2).trans l3).trans l4, Keep.trans ((l.trans l2).trans l3) kb k4, R', z⟩
      cases fl with
      | nx => exact nxt z
      | cnt => exact nxt z
      | brk => exact Fst.ok (fl := .nx) z R'
      | ret d => exact Fst.ok (fl := .ret d) z R'
  · have ei : i = ds.length := by omega
    subst ei
    rw [List.drop_length] at h
    exact .inl ⟨pI.stop H k.f, Fst.ok (fl := .nx) h R⟩
theorem x_for {t : DT} {it : DI} {iter : Expr} (hp : PassesOwn (model X.prog X.w) X.A X.env X.xe) (hc : X.calm = true) (hi : PI X tg iter (tI X.K cA (evalI gv c it))) (hg : PG X tg (gT X.K cA t)) (hb : (fun (d : List DS) (x : List Stmt) => PSs X x (tS X.K cA (xSs gv c L d))) ss xs) (hs : ∀ x, foldedSetIterable iter X.env x = pure x) :
    (fun (d : DS) (x : Stmt) => PS X x (tS X.K cA (xS gv c L d))) (.for t it ss) (.For tg iter xs [] pos) := by
  refine PS.imp (ps_for hp hc hi hg hb hs) fun D σ H _ ⟨g, fr, R, h⟩ => ⟨g, fr, R, ?_⟩
  have h0 : Fst X.K cA D ((evalI gv c it fr).bind fun ds fr => forL (fun d fr => (asgT t d fr).bind fun _ fr => xSs gv c L ss fr) ds fr) g H := h
  exact Fst.expr (rp := rpI X.K cA) h0 fun ds fr1 _ g1 J H1 l k R1 p1 h1 => forL_W R1 p1 h1
/-! ### assignments -/
theorem x_asg {t : DT} (ha : (fun (d : DE) (x : Expr) => PE X x (tE X.K cA (evalE gv c d))) a ea) (hg : PG X tg (gT X.K cA t)) (hs : swapsWithSole [tg] ea pos.line X.env = pure false) (hw : swappedStores [tg] ea X.env = pure none) (h1 : isStar tg = false) : (fun (d : DS) (x : Stmt) => PS X x (tS X.K cA (xS gv c L d))) (.asg t a) (.Assign [tg] ea pos) := by
  refine PS.imp (ps_asg ha hg hs hw (by rw [assignEach_cons h1]; rfl)) fun D σ H _ ⟨g, fr, R, h⟩ => ⟨g, fr, R, ?_⟩
  have h0 : Fst X.K cA D ((evalE gv c a fr).bind fun d fr => (noLoc d fr).bind fun d fr => (asgT t d fr).bind fun _ fr => .ok .nx fr) g H := h
  refine Fst.expr (rp := rpX X.K cA) h0 fun d fr1 _ g1 v H1 l k R1 p1 h1 => ?_
  obtain ⟨n, h2⟩ := Fst.noLoc h1
  refine ⟨g1, fr1, d, R1, p1.rep n, ?_⟩
  exact Pss.impR (Pss.bind h2) fun _ g' fr' σ' H' l k R' z _ => Fst.ok (fl := .nx) z R'
/-- behind name = value -/
theorem nm_post {i : Nat} {D : Ends} {σ : L2.St} {H : Hp} {x : Str} (hi : X.N[i]? = some x) (hl : σ.length = X.N.length) (q : tS X.K cA (xS gv c L (.asg (.nm i) a)) D σ H) : tE X.K cA (evalE gv c a) σ H fun v H1 => D.nx (σ.set i (some v)) H1 := by
  obtain ⟨g, fr, R, h⟩ := q
  have h0 : Fst X.K cA D ((evalE gv c a fr).bind fun d fr => (noLoc d fr).bind fun d fr => (asgT (.nm i) d fr).bind fun _ fr => .ok .nx fr) g H := h
  refine ⟨g, fr, R, Fst.expr (rp := rpX X.K cA) h0 fun d fr1 _ g1 v H1 l k R1 p1 h1 => ?_⟩
  obtain ⟨n, h2⟩ := Fst.noLoc h1
  have hlt : i < fr1.env.length := by rw [R1.len, hl]; exact get_lt hi
  exact Fst.ok (fl := .nx) (show Fst X.K cA D (.ok .nx ⟨fr1.env.set i (.val d), fr1.st⟩) g1 H1 from h2) (R1.setV hlt (p1.rep n))
theorem own_post {i : Nat} {D : Ends} {σ : L2.St} {H : Hp} {x : Str} (hi : X.N[i]? = some x) (hl : σ.length = X.N.length) (q : tS X.K cA (xS gv c L (.own i a)) D σ H) : tA X.K cA (evalE gv c a) σ H fun v H1 => D.nx (σ.set i (some v)) H1 := by
  obtain ⟨g, fr, R, h⟩ := q
  have h0 : Fst X.K cA D ((evalE gv c a fr).bind fun d fr => (ownS i d fr).bind fun _ fr => .ok .nx fr) g H := h
  refine ⟨g, fr, R, Fst.expr (rp := rpA X.K cA) h0 fun d fr1 _ g1 v H1 l k R1 p1 h1 => ?_⟩
  have hlt : i < fr1.env.length := by rw [R1.len, hl]; exact get_lt hi
  have key : isMut d = true → Fst X.K cA D (.ok .nx ⟨fr1.env.set i (.own d), fr1.st⟩) g1 H1 → D.nx (σ.set i (some v)) H1 := fun hm h2 => by
    rcases p1 with ⟨_, p, rfl, cc, ff⟩ | ⟨z, _⟩
    · exact Fst.ok (fl := .nx) h2 (R1.setO hlt cc ff)
    · rw [hm] at z
      cases z
  cases d with
  | lst _ => exact key rfl h1
  | dK _ _ => exact key rfl h1
  | dT _ _ => exact key rfl h1
  | _ => exact h1.elim
theorem x_nm {i : Nat} {x : Str} (hN : X.N.Nodup) (hi : X.N[i]? = some x) (hx : Loc X.env.scope x) (hf : X.fn x = true ∨ X.env.scope.names.lookup x = some .local) (ha : (fun (d : DE) (x : Expr) => PE X x (tE X.K cA (evalE gv c d))) a ea) (hs : swapsWith ea (some (.Name x p)) pos.line X.env = pure false) : (fun (d : DS) (x : Stmt) => PS X x (tS X.K cA (xS gv c L d))) (.asg (.nm i) a) (.Assign [.Name x p] ea pos) :=
  PS.imp (ps_set hN hi hx ha hs hf) fun D σ H hl q => nm_post hi hl q
theorem x_own {i : Nat} {x : Str} (hN : X.N.Nodup) (hi : X.N[i]? = some x) (hx : Loc X.env.scope x) (hf : X.fn x = true ∨ X.env.scope.names.lookup x = some .local) (ha : (fun (d : DE) (x : Expr) => PE X x (tA X.K cA (evalE gv c d))) a ea) (hs : swapsWith ea (some (.Name x p)) pos.line X.env = pure false) : (fun (d : DS) (x : Stmt) => PS X x (tS X.K cA (xS gv c L d))) (.own i a) (.Assign [.Name x p] ea pos) :=
  PS.imp (ps_set hN hi hx ha hs hf) fun D σ H hl q => own_post hi hl q
/-! ### stores into objects -/
theorem PSet.or {t t' : TSet} (h : PSet X t) (h' : PSet X t') : PSet X (fun o i v H Q => t o i v H Q ∨ t' o i v H Q) :=
  fun pins s σ H o i v ov iv u Q I ro ri rv q => q.elim (h pins s σ H o i v ov iv u Q I ro ri rv) (h' pins s σ H o i v ov iv u Q I ro ri rv)
theorem repD_rep {K : PySem.W.Frag} {H : Hp} {g : Wd} {κ : Type} [DecidableEq κ] {d : D} {v : V} (rd : Rep K cA H g d v) : ∀ {kvs : List (κ × V)} {ds : List D} {q : κ}, RepL K cA H g ds (kvs.map (·.2)) →
    RepL K cA H g (repD (kvs.map (·.1)) ds q d) ((kvs.map fun kv => if kv.1 = q then (kv.1, v) else kv).map (·.2))
  | [], ds, q, r => by
    have e2 : ds = [] := List.eq_nil_of_length_eq_zero (by rw [r.len]; rfl)
    subst e2
    exact RepL.nil
  | (k, w) :: kvs, ds, q, r => by
    cases ds with
    | nil =>
      have e1 : w :: kvs.map (·.2) = [] := r
      cases e1
    | cons d0 ds =>
      obtain ⟨w', ws, e1, r1, r2⟩ := r
      have e2 : w :: kvs.map (·.2) = w' :: ws := e1
      cases e2
      have ih := repD_rep (kvs := kvs) (q := q) rd r2
      show RepL K cA H g ((if k = q then d else d0) :: repD (kvs.map (·.1)) ds q d) ((if k = q then (k, v) else (k, w)).2 :: _)
      by_cases ck : k = q
      · rw [if_pos ck, if_pos ck]
        exact RepL.cons rd ih
      · rw [if_neg ck, if_neg ck]
        exact RepL.cons r1 ih
/-- what a dict holds behind a store -/
theorem put_rep {K : PySem.W.Frag} {H : Hp} {g : Wd} {κ : Type} [DecidableEq κ] {d : D} {v : V} (rd : Rep K cA H g d v) {kvs : List (κ × V)} {ks : List κ} {ds : List D} {q : κ} (e : kvs.map (·.1) = ks) (r : RepL K cA H g ds (kvs.map (·.2))) :
    (putK kvs q v).map (·.1) = (putD ks ds q d).1 ∧ RepL K cA H g (putD ks ds q d).2 ((putK kvs q v).map (·.2)) := by
  subst e
  have ea : ((kvs.map (·.1)).any fun k => decide (k = q)) = kvs.any fun kv => decide (kv.1 = q) := by
    rw [List.any_map]
    rfl
  unfold putK putD
  rw [ea]
  by_cases c : (kvs.any fun kv => decide (kv.1 = q)) = true
  · rw [if_pos c, if_pos c]
    refine ⟨?_, repD_rep rd r⟩
    show _ = kvs.map (·.1)
    rw [List.map_map]
    refine List.map_congr_left fun kv _ => ?_
    show (if kv.1 = q then (kv.1, v) else kv).1 = kv.1
    by_cases z : kv.1 = q
    · rw [if_pos z]
    · rw [if_neg z]
  · rw [if_neg c, if_neg c]
    refine ⟨by rw [List.map_append]; rfl, ?_⟩
    rw [List.map_append]
    exact RepL.app r (RepL.one rd)
theorem putA_rep {K : PySem.W.Frag} {H : Hp} {g : Wd} {d : D} {v : V} {q : Str} (rd : Rep K cA H g d v) : ∀ {kvs : List (Str × V)} {ks : List Str} {ds : List D}, kvs.map (·.1) = ks → RepL K cA H g ds (kvs.map (·.2)) →
    (putF q v kvs).map (·.1) = (putA ks ds q d).1 ∧ RepL K cA H g (putA ks ds q d).2 ((putF q v kvs).map (·.2))
  | [], ks, ds, e, r => by
    cases e
    have e2 : ds = [] := List.eq_nil_of_length_eq_zero (by rw [r.len]; rfl)
    subst e2
    exact ⟨rfl, RepL.one rd⟩
  | (k, w) :: kvs, ks, ds, e, r => by
    cases e
    cases ds with
    | nil =>
      have e1 : w :: kvs.map (·.2) = [] := r
      cases e1
    | cons d0 ds =>
      obtain ⟨w', ws, e1, r1, r2⟩ := r
      have e2 : w :: kvs.map (·.2) = w' :: ws := e1
      cases e2
      obtain ⟨i1, i2⟩ := putA_rep (kvs := kvs) rd rfl r2
      show ((if k = q then (k, v) :: kvs else (k, w) :: putF q v kvs).map (·.1)) = (if k = q then (k :: kvs.map (·.1), d :: ds) else ((k :: (putA (kvs.map (·.1)) ds q d).1), (d0 :: (putA (kvs.map (·.1)) ds q d).2)) : List Str × List D).1 ∧
        RepL K cA H g (if k = q then (k :: kvs.map (·.1), d :: ds) else ((k :: (putA (kvs.map (·.1)) ds q d).1), (d0 :: (putA (kvs.map (·.1)) ds q d).2)) : List Str × List D).2 ((if k = q then (k, v) :: kvs else (k, w) :: putF q v kvs).map (·.2))
      by_cases ck : k = q
      · rw [if_pos ck, if_pos ck]
        exact ⟨rfl, RepL.cons rd r2⟩
      · rw [if_neg ck, if_neg ck]
        exact ⟨by show k :: _ = k :: _; rw [i1], RepL.cons r1 i2⟩
theorem x_sub (hu : X.A.units + 1 < cLine) (ha : (fun (d : DE) (x : Expr) => PE X x (tE X.K cA (evalE gv c d))) a ea) (ho : (fun (d : DE) (x : Expr) => PE X x (tE X.K cA (evalE gv c d))) o eo) (hb : (fun (d : DE) (x : Expr) => PE X x (tE X.K cA (evalE gv c d))) b eb) (hs : swapsWithSole [.Subscript eo eb p] ea pos.line X.env = pure false) (hw : swappedStores [.Subscript eo eb p] ea X.env = pure none)
    (hA : ∀ v, assign (.Subscript eo eb p) X.env v = (do
      let ov ← holding [v] (eval eo X.env)
      let iv ← holding [v, ov] (eval eb X.env)
      standAt p
      holding [v, ov, iv] (setItem ov iv v)
      release [v, ov, iv] [])) : (fun (d : DS) (x : Stmt) => PS X x (tS X.K cA (xS gv c L d))) (.sub o b a) (.Assign [.Subscript eo eb p] ea pos) := by
  refine PS.imp (ps_asg ha (pg_sub ho hb (PSet.or set_list (set_dict hu)) hA) hs hw (by rfl)) fun D σ H _ ⟨g, fr, R, h⟩ => ⟨g, fr, R, ?_⟩
  have h0 : Fst X.K cA D ((evalE gv c a fr).bind fun d fr => (noLoc d fr).bind fun d fr => (evalE gv c o fr).bind fun x fr => (evalE gv c b fr).bind fun k fr =>
    (opt ((deref fr x).bind fun n => (setD n k d).bind (putC fr x)) fr).bind fun fr _ => .ok .nx fr) g H := h
  refine Fst.expr (rp := rpX X.K cA) h0 fun d fr1 _ g1 v H1 l1 k1 R1 p1 h1 => ?_
  obtain ⟨n, h2⟩ := Fst.noLoc h1
  refine ⟨g1, fr1, R1, Fst.expr (rp := rpX X.K cA) h2 fun x fr2 _ g2 ov H2 l2 k2 R2 p2 h3 => ⟨g2, fr2, R2, Fst.expr (rp := rpX X.K cA) h3 fun k fr3 _ g3 iv H3 l3 k3 R3 p3 h4 => ?_⟩⟩
  obtain ⟨fr4, e1, h5⟩ := Fst.optB h4
  obtain ⟨nn, e2, e3⟩ := bind_some e1
  obtain ⟨n1, e4, e5⟩ := bind_some e3
  obtain ⟨ad, rfl, cc, nf, np, put⟩ := R3.put (p2.mono l3 k3.f) e2 e5
  have rv : Rep X.K cA H3 g3 d v := Rep.mono l3 k3.f _ _ (Rep.mono l2 k2.f _ _ (p1.rep n))
  have fin : ∀ u, Con X.K cA (upd H3 ad u) g3 ad n1 → D.nx σ (upd H3 ad u) := fun u cu =>
    Fst.ok (fl := .nx) (Fst.mono (show Fst X.K cA D (.ok .nx fr4) g3 H3 from h5) (Wd.le.refl g3) (keep_put nf np fun b z => upd_ne z)) (put _ (fun b z => upd_ne z) cu)
  have kf : ∀ u b, g3.F b → upd H3 ad u b = H3 b := fun u => keepF nf
  cases nn with
  | lst xs =>
    cases k with
    | int i =>
      obtain ⟨j, e6, e7⟩ := map_some' (show (mIx xs.length i).map (fun j => Mr.D.lst (xs.set j d)) = some n1 from e4)
      obtain ⟨vs, hv, rl⟩ := cc
      refine .inl ⟨ad, vs, i, j, rfl, p3, hv, by rw [← rl.len]; exact e6, fin _ ?_⟩
      rw [← e7]
      exact ⟨_, upd_same, (rl.set j rv).mono (Wd.le.refl g3) (kf _) _ _⟩
    | _ => cases e4
  | dK ks vs =>
    have e6 : (match keyD k with
      | some q => if ks.length < szL then some (Mr.D.dK (putD ks vs q d).1 (putD ks vs q d).2) else none
      | none => none) = some n1 := by cases k <;> exact e4
    cases ek : keyD k with
    | none => rw [ek] at e6; cases e6
    | some q =>
      rw [ek] at e6
      have e7 : (if ks.length < szL then some (Mr.D.dK (putD ks vs q d).1 (putD ks vs q d).2) else none) = some n1 := e6
      by_cases cz : ks.length < szL
      · rw [if_pos cz] at e7
        cases e7
        obtain ⟨kvs, hv, er, rl⟩ := cc
        have ei : iv = kV q := keyD_kV (p3.rep (by cases k <;> first | rfl | (cases ek))) ek
        obtain ⟨r1, r2⟩ := put_rep (q := q) rv er rl
        have hlen : kvs.length < sizeLine := by
          have : ks.length = kvs.length := by rw [← er, List.length_map]
          rw [← this]
          exact cz
        exact .inr ⟨ad, _, rfl, .inl ⟨kvs, q, hv, ei, hlen, rfl⟩, fin _ ⟨_, upd_same, r1, r2.mono (Wd.le.refl g3) (kf _) _ _⟩⟩
      · rw [if_neg cz] at e7
        cases e7
  | dT ks vs =>
    cases k with
    | tup ds =>
      have e6 : (match keysD ds with
        | some q => if ks.length < szL then some (Mr.D.dT (putD ks vs q d).1 (putD ks vs q d).2) else none
        | none => none) = some n1 := e4
      cases ek : keysD ds with
      | none => rw [ek] at e6; cases e6
      | some q =>
        rw [ek] at e6
        have e7 : (if ks.length < szL then some (Mr.D.dT (putD ks vs q d).1 (putD ks vs q d).2) else none) = some n1 := e6
        by_cases cz : ks.length < szL
        · rw [if_pos cz] at e7
          cases e7
          obtain ⟨kvs, hv, er, rl⟩ := cc
          obtain ⟨bb, ws, rfl, hq, rw'⟩ := Cv.tup (.inl (p3 : Rep X.K cA H3 g3 (.tup ds) iv))
          have ew : ws = q.map kV := keysD_kV rw' ek
          obtain ⟨r1, r2⟩ := put_rep (q := q) rv er rl
          have hlen : kvs.length < sizeLine := by
            have : ks.length = kvs.length := by rw [← er, List.length_map]
            rw [← this]
            exact cz
          exact .inr ⟨ad, _, rfl, .inr ⟨kvs, q, bb, hv, rfl, by rw [hq, ew], hlen, rfl⟩, fin _ ⟨_, upd_same, r1, r2.mono (Wd.le.refl g3) (kf _) _ _⟩⟩
        · rw [if_neg cz] at e7
          cases e7
    | _ => cases e4
  | _ => cases k <;> cases e4
theorem x_atr {f : Str} (hc : ∀ C a, cA C = some a → Cls X.K a ∧ NoAttr X.K a f) (ha : (fun (d : DE) (x : Expr) => PE X x (tE X.K cA (evalE gv c d))) a ea) (ho : (fun (d : DE) (x : Expr) => PE X x (tE X.K cA (evalE gv c d))) o eo) (hs : swapsWith ea (some (.Attribute eo f p)) pos.line X.env = pure false) : (fun (d : DS) (x : Stmt) => PS X x (tS X.K cA (xS gv c L d))) (.atr o f a) (.Assign [.Attribute eo f p] ea pos) := by
  refine PS.imp (ps_fld ho ha hs) fun D σ H _ ⟨g, fr, R, h⟩ => ⟨g, fr, R, ?_⟩
  have h0 : Fst X.K cA D ((evalE gv c a fr).bind fun d fr => (noLoc d fr).bind fun d fr => (evalE gv c o fr).bind fun x fr =>
    (opt (match deref fr x with
      | some (.ins C fs vs) => if fs.length < 1000 then putC fr x (.ins C (putA fs vs f d).1 (putA fs vs f d).2) else none
      | _ => none) fr).bind fun fr _ => .ok .nx fr) g H := h
  refine Fst.expr (rp := rpX X.K cA) h0 fun d fr1 _ g1 v H1 l1 k1 R1 p1 h1 => ?_
  obtain ⟨n, h2⟩ := Fst.noLoc h1
  refine ⟨g1, fr1, R1, Fst.expr (rp := rpX X.K cA) h2 fun x fr2 _ g2 ov H2 l2 k2 R2 p2 h3 => ?_⟩
  obtain ⟨fr4, e1, h5⟩ := Fst.optB h3
  cases e2 : deref fr2 x with
  | none => rw [e2] at e1; cases e1
  | some nn =>
    rw [e2] at e1
    cases nn with
    | ins C fs vs =>
      have e3 : (if fs.length < 1000 then putC fr2 x (.ins C (putA fs vs f d).1 (putA fs vs f d).2) else none) = some fr4 := e1
      by_cases cz : fs.length < 1000
      · rw [if_pos cz] at e3
        obtain ⟨ad, rfl, cc, nf, np, put⟩ := R2.put p2 e2 e3
        have rv : Rep X.K cA H2 g2 d v := Rep.mono l2 k2.f _ _ (p1.rep n)
        obtain ⟨ca, dx, kvs, ⟨ec, hv⟩, er, rl⟩ := cc
        obtain ⟨r1, r2⟩ := putA_rep (q := f) rv er rl
        have hlen : kvs.length < 1000 := by
          have : fs.length = kvs.length := by rw [← er, List.length_map]
          rw [← this]
          exact cz
        refine ⟨ad, ca, dx, kvs, rfl, hv, (hc C ca ec).1, (hc C ca ec).2, hlen, ?_⟩
        exact Fst.ok (fl := .nx) (Fst.mono (show Fst X.K cA D (.ok .nx fr4) g2 H2 from h5) (Wd.le.refl g2) (keep_put nf np fun b z => upd_ne z)) (put _ (fun b z => upd_ne z) ⟨ca, dx, _, ⟨ec, upd_same⟩, r1, r2.mono (Wd.le.refl g2) (keepF nf) _ _⟩)
      · rw [if_neg cz] at e3
        cases e3
    | _ => cases e1
end
end Mr
end
section
set_option Elab.async false
set_option linter.all false
set_option maxRecDepth 100000
/-! M2p: comprehensions as expressions and in assignments; dict displays; parallel assignments. -/
namespace Mr
open PySem PySem.Spec PyProof.Rows L2
theorem PTs.imp {X : Cx} {es : List Expr} {t t' : TT} (h : PTs X es t) (i : ∀ σ H Q, t' σ H Q → t σ H Q) : PTs X es t' := ⟨fun pins s σ H Q I q => h.run pins s σ H Q I (i σ H Q q)⟩
section
variable {X : Cx} {cA : Nat → Option Addr} {gv : Nat → Option D} {c : Cal} {L : Nat} {a b e o elt : DE} {es cs : List DE} {t : DT} {it : DI} {own : List Nat} {ea eb ec eo tg iter ee : Expr} {ifs xs : List Expr} {scope : Scope} {ow : List (Str × Nat)} {pos p tpos spos : Pos}
theorem ts_nil : PTs X [] (tT X.K cA (fun fr => evalC gv c [] fr)) := PTs.imp pts_nil fun σ H Q ⟨g, fr, R, h⟩ => Pst.ok (rp := rpB σ) (show Pst X.K cA (rpB σ) g H σ (.ok true fr) Q from h) R rfl
theorem ts_one (h : PT X ea (tT X.K cA (tstE gv c a))) : PTs X [ea] (tT X.K cA (fun fr => evalC gv c [a] fr)) := PTs.imp (pts_one h) fun σ H Q q => q
section
variable (hc : X.calm = true) (hN : X.N.Nodup) (ok : BlkOk X.N X.env.scope scope ow) (ho : ow.map (·.2) = own) (hsl : ∀ i ∈ slots t, i ∈ own)
  (hg : ∀ (s : Shared) (H : Hp) (C : Addr) (cl : List (Str × Addr)) (fp : List Addr), PG (X.blk s H scope (compEnvC scope cl C X.env) fp) tg (gT X.K cA t))
  (ht : ∀ (s : Shared) (H : Hp) (C : Addr) (cl : List (Str × Addr)) (fp : List Addr), PTs (X.blk s H scope (compEnvC scope cl C X.env) fp) ifs (tT X.K cA (fun fr => evalC gv c cs fr)))
  (he : ∀ (s : Shared) (H : Hp) (C : Addr) (cl : List (Str × Addr)) (fp : List Addr), PE (X.blk s H scope (compEnvC scope cl C X.env) fp) ee (tE X.K cA (evalE gv c elt)))
  (hs : ∀ x, foldedSetIterable iter X.env x = pure x)
include hc hN ok ho hsl hg ht he hs
theorem s_lc (hi : PI X tg iter (tI X.K cA (evalI gv c it))) : (fun (d : DE) (x : Expr) => PE X x (tA X.K cA (evalE gv c d))) (.lc own t it cs elt) (.ListComp ee [⟨tg, iter, ifs, 0⟩] scope pos) := by
  subst ho
  exact PE.imp (pe_lc hc hN hi ok hg ht he hs) fun σ H Q q => lc_core hsl q
theorem s_lco {sl : Nat} (hso : sl ∉ own) (hi : PI X tg iter (iOwn X.K sl)) : (fun (d : DE) (x : Expr) => PE X x (tA X.K cA (evalE gv c d))) (.lco own t sl cs elt) (.ListComp ee [⟨tg, iter, ifs, 0⟩] scope pos) := by
  subst ho
  exact PE.imp (pe_lc hc hN hi ok hg ht he hs) fun σ H Q q => lco_core hsl hso q
theorem x_lcA {i : Nat} {y : Str} (hi : PI X tg iter (tI X.K cA (evalI gv c it))) (hy : X.N[i]? = some y) (hyl : X.env.scope.names.lookup y = some .local)
    (hsw : swapsWith (.ListComp ee [⟨tg, iter, ifs, 0⟩] scope pos) (some (.Name y p)) spos.line X.env = pure true) : (fun (d : DS) (x : Stmt) => PS X x (tS X.K cA (xS gv c L d))) (.asg (.nm i) (.lc own t it cs elt)) (.Assign [.Name y p] (.ListComp ee [⟨tg, iter, ifs, 0⟩] scope pos) spos) := by
  subst ho
  exact PS.imp (ps_setLc hc hN hy hyl hsw hi ok hg ht he hs) fun D σ H hl q => lc_core hsl (A_to_X (nm_post hy hl q))
theorem x_lcO {i : Nat} {y : Str} (hi : PI X tg iter (tI X.K cA (evalI gv c it))) (hy : X.N[i]? = some y) (hyl : X.env.scope.names.lookup y = some .local)
    (hsw : swapsWith (.ListComp ee [⟨tg, iter, ifs, 0⟩] scope pos) (some (.Name y p)) spos.line X.env = pure true) : (fun (d : DS) (x : Stmt) => PS X x (tS X.K cA (xS gv c L d))) (.own i (.lc own t it cs elt)) (.Assign [.Name y p] (.ListComp ee [⟨tg, iter, ifs, 0⟩] scope pos) spos) := by
  subst ho
  exact PS.imp (ps_setLc hc hN hy hyl hsw hi ok hg ht he hs) fun D σ H hl q => lc_core hsl (own_post hy hl q)
theorem x_lcoA {i sl : Nat} {y : Str} (hso : sl ∉ own) (hi : PI X tg iter (iOwn X.K sl)) (hy : X.N[i]? = some y) (hyl : X.env.scope.names.lookup y = some .local)
    (hsw : swapsWith (.ListComp ee [⟨tg, iter, ifs, 0⟩] scope pos) (some (.Name y p)) spos.line X.env = pure true) : (fun (d : DS) (x : Stmt) => PS X x (tS X.K cA (xS gv c L d))) (.asg (.nm i) (.lco own t sl cs elt)) (.Assign [.Name y p] (.ListComp ee [⟨tg, iter, ifs, 0⟩] scope pos) spos) := by
  subst ho
  exact PS.imp (ps_setLc hc hN hy hyl hsw hi ok hg ht he hs) fun D σ H hl q => lco_core hsl hso (A_to_X (nm_post hy hl q))
theorem x_lcoO {i sl : Nat} {y : Str} (hso : sl ∉ own) (hi : PI X tg iter (iOwn X.K sl)) (hy : X.N[i]? = some y) (hyl : X.env.scope.names.lookup y = some .local)
    (hsw : swapsWith (.ListComp ee [⟨tg, iter, ifs, 0⟩] scope pos) (some (.Name y p)) spos.line X.env = pure true) : (fun (d : DS) (x : Stmt) => PS X x (tS X.K cA (xS gv c L d))) (.own i (.lco own t sl cs elt)) (.Assign [.Name y p] (.ListComp ee [⟨tg, iter, ifs, 0⟩] scope pos) spos) := by
  subst ho
  exact PS.imp (ps_setLc hc hN hy hyl hsw hi ok hg ht he hs) fun D σ H hl q => lco_core hsl hso (own_post hy hl q)
end
theorem i_own {sl : Nat} {x : Str} (hN : X.N[sl]? = some x) (hv : Vis X.env.scope x) (hd : (x == ("__debug__" : Str)) = false) (hcd : (x == ("__classdict__" : Str)) = false) : PI X tg (.Name x pos) (iOwn X.K sl) := pi_list (pe_var hN hv hd hcd)
/-! ### dict displays -/
def trsOf (K : PySem.W.Frag) (cA : Nat → Option Addr) (gv : Nat → Option D) (c : Cal) : List DE → List (L2.TE × L2.TE)
  | k :: v :: r => (tE K cA (evalE gv c k), tE K cA (evalE gv c v)) :: trsOf K cA gv c r
  | _ => []
def rpK (K : PySem.W.Frag) (cA : Nat → Option Addr) : RP (List (Key × D)) (List (V × V)) := fun _ _ H g qs ps =>
  ∃ kvs : List (Key × V), ps = kvs.map (fun kv => (kV kv.1, kv.2)) ∧ kvs.map (·.1) = qs.map (·.1) ∧ RepL K cA H g (qs.map (·.2)) (kvs.map (·.2))
theorem keyD_rep {K : PySem.W.Frag} {H : Hp} {g : Wd} {σ : L2.St} {d : D} {v : V} {q : Key} (e : keyD d = some q) (r : RepX K cA H g σ d v) : v = kV q := keyD_kV (r.rep (by cases d <;> first | rfl | (cases e))) e
theorem pairs_ok {K : PySem.W.Frag} : ∀ {kvs : List DE} {σ : L2.St} {H : Hp} {Q : List (V × V) → Hp → Prop}, tV K cA (rpK K cA) (evalKV gv c kvs) σ H Q → tPairs (trsOf K cA gv c kvs) σ H Q
  | [], σ, H, Q, ⟨g, fr, R, h⟩ => Pst.ok (rp := rpK K cA σ) (b := []) (show Pst K cA (rpK K cA σ) g H σ (.ok [] fr) Q from h) R ⟨[], rfl, rfl, RepL.nil⟩
  | [k], σ, H, Q, ⟨g, fr, R, h⟩ => Pst.ok (rp := rpK K cA σ) (b := []) (show Pst K cA (rpK K cA σ) g H σ (.ok [] fr) Q from h) R ⟨[], rfl, rfl, RepL.nil⟩
  | k :: v :: kvs, σ, H, Q, ⟨g, fr, R, h⟩ => by
    have h0 : Pst K cA (rpK K cA σ) g H σ ((evalE gv c k fr).bind fun x fr => (evalE gv c v fr).bind fun y fr => (noLoc y fr).bind fun y fr => (opt (keyD x) fr).bind fun q fr =>
      (evalKV gv c kvs fr).bind fun r fr => .ok ((q, y) :: r) fr) Q := h
    refine ⟨g, fr, R, Pst.bind h0 fun x fr1 g1 v1 H1 l1 k1 R1 p1 h1 => ⟨g1, fr1, R1, Pst.bind h1 fun y fr2 g2 v2 H2 l2 k2 R2 p2 h2 => ?_⟩⟩
    obtain ⟨n, h3⟩ := Pst.noLoc h2
    obtain ⟨q, eq, h4⟩ := Pst.optB h3
    refine pairs_ok (kvs := kvs) ⟨g2, fr2, R2, Pst.bind h4 fun qs fr3 g3 ps H3 l3 k3 R3 p3 h5 => ?_⟩
    obtain ⟨kv, e1, e2, e3⟩ := p3
    refine Pst.ok (rp := rpK K cA σ) h5 R3 ⟨(q, v2) :: kv, ?_, ?_, RepL.cons (Rep.mono l3 k3.f _ _ (p2.rep n)) e3⟩
    · rw [List.map_cons, ← e1, keyD_rep eq p1]
    · rw [List.map_cons, List.map_cons, e2]
theorem mk_rep {K : PySem.W.Frag} {H : Hp} {g : Wd} : ∀ {qs : List (Key × D)} {more kvs : List (Key × V)} {r : List Key × List D}, kvs.map (·.1) = r.1 → RepL K cA H g r.2 (kvs.map (·.2)) → more.map (·.1) = qs.map (·.1) → RepL K cA H g (qs.map (·.2)) (more.map (·.2)) →
    (mergeK kvs more).map (·.1) = (mkDic qs r).1 ∧ RepL K cA H g (mkDic qs r).2 ((mergeK kvs more).map (·.2))
  | [], [], kvs, r, e1, e2, _, _ => ⟨e1, e2⟩
  | [], m :: more, kvs, r, _, _, e3, _ => by cases e3
  | q :: qs, [], kvs, r, _, _, e3, _ => by cases e3
  | q :: qs, m :: more, kvs, r, e1, e2, e3, e4 => by
    obtain ⟨w, ws, e5, r1, r2⟩ := e4
    have e6 : m.2 :: more.map (·.2) = w :: ws := e5
    have e7 : m.1 :: more.map (·.1) = q.1 :: qs.map (·.1) := e3
    cases e6
    have e8 : m.1 = q.1 := (List.cons.inj e7).1
    obtain ⟨p1, p2⟩ := put_rep (q := q.1) r1 e1 e2
    have ih := mk_rep (qs := qs) (more := more) (kvs := putK kvs q.1 m.2) (r := putD r.1 r.2 q.1 q.2) p1 p2 (List.cons.inj e7).2 r2
    have em : mergeK kvs (m :: more) = mergeK (putK kvs m.1 m.2) more := rfl
    rw [em, e8]
    exact ih
theorem s_dicK : (fun (d : DE) (x : Expr) => PE X x (tA X.K cA (evalE gv c d))) (.dic false []) (.Dict [] [] pos) := by
  refine PE.imp pe_dnewK fun σ H Q ⟨g, fr, R, h⟩ p hn => ?_
  have q := R.fresh hn
  have kf : Keep g H (upd H p (.dK [])) := fun a h => upd_ne fun z => h.elim (fun h => q.f (z ▸ h)) fun h => q.pr (z ▸ h)
  exact (show Pst X.K cA (rpA X.K cA σ) g H σ (.ok (.dK [] []) fr) Q from h) g _ _ (Wd.le.refl g) kf (R.other q fun a h => upd_ne h) (.inl ⟨rfl, p, rfl, ⟨[], upd_same, rfl, RepL.nil⟩, q⟩)
theorem s_dicT {kvs : List DE} : (fun (d : DE) (x : Expr) => PE X x (tA X.K cA (evalE gv c d))) (.dic true kvs) (.Dict [] [] pos) := by
  refine PE.imp pe_dnewT fun σ H Q ⟨g, fr, R, h⟩ p hn => ?_
  have q := R.fresh hn
  have kf : Keep g H (upd H p (.dT [])) := fun a h => upd_ne fun z => h.elim (fun h => q.f (z ▸ h)) fun h => q.pr (z ▸ h)
  exact (show Pst X.K cA (rpA X.K cA σ) g H σ (.ok (.dT [] []) fr) Q from h) g _ _ (Wd.le.refl g) kf (R.other q fun a h => upd_ne h) (.inl ⟨rfl, p, rfl, ⟨[], upd_same, rfl, RepL.nil⟩, q⟩)
theorem s_dic {kvs : List DE} {keys : List (Option Expr)} {values : List Expr} (hp : PPs X pos keys values (trsOf X.K cA gv c kvs)) (hall : keys.all (·.isSome) = true) (hl : keys.length = values.length) (h0 : keys ≠ []) (h15 : keys.length ≤ 15) : (fun (d : DE) (x : Expr) => PE X x (tA X.K cA (evalE gv c d))) (.dic false kvs) (.Dict keys values pos) := by
  refine PE.imp (pe_disp hp hall hl h0 h15) fun σ H Q ⟨g, fr, R, h⟩ p hn => ?_
  have q := R.fresh hn
  have kf : Keep g H (upd H p (.dK [])) := fun a h => upd_ne fun z => h.elim (fun h => q.f (z ▸ h)) fun h => q.pr (z ▸ h)
  have R1 := (R.other (H' := upd H p (.dK [])) q fun a h => upd_ne h).prot q (by rw [upd_same]; simp)
  have h0 : Pst X.K cA (rpA X.K cA σ) g H σ ((evalKV gv c kvs fr).bind fun ps fr => if ps.length ≤ 15 then .ok (.dK (mkDic ps ([], [])).1 (mkDic ps ([], [])).2) fr else .stk) Q := h
  refine pairs_ok ⟨g.prot p, fr, R1, ?_⟩
  cases ev : evalKV gv c kvs fr with
  | stk => rw [ev] at h0; exact h0.elim
  | exc C ds f => rw [ev] at h0; exact h0.elim
  | ok qs fr2 =>
    rw [ev] at h0
    obtain ⟨cz, h1⟩ := Pst.iteS (show Pst X.K cA (rpA X.K cA σ) g H σ (if qs.length ≤ 15 then .ok (.dK (mkDic qs ([], [])).1 (mkDic qs ([], [])).2) fr2 else .stk) Q from h0)
    intro g2 ps H2 l2 k2 R2 p2
    obtain ⟨kv, e1, e2, e3⟩ := p2
    have hP : g2.P p := by rw [l2.2.1]; exact .inr rfl
    have hlen : kv.length = qs.length := by
      have := congrArg List.length e2
      simpa using this
    refine ⟨(k2 p (.inr (.inr rfl))).trans upd_same, kv, e1, by rw [hlen]; exact cz, ?_⟩
    obtain ⟨m1, m2⟩ := mk_rep (kvs := []) (r := ([], [])) rfl RepL.nil e2 e3
    generalize hu : HO.dK (mergeK [] kv) = u
    obtain ⟨R3, kf3⟩ := R2.atP (H' := upd H2 p u) hP (fun a ha => upd_ne ha) (by rw [upd_same]; simp)
    have R4 : Rel X.K cA (upd H2 p u) (g.unp g2) fr2 σ := R3.unp fun a ha => by rw [l2.2.1]; exact .inl ha
    have s : g2.sub (g.unp g2) := ⟨fun _ h => h, fun _ _ h => h⟩
    have hf : Fresh fr2 σ (g.unp g2) p := by
      refine ⟨fun z => (R2.fok p z).2 hP, q.pr, fun z => ?_, fun i d e z => ?_⟩
      · obtain ⟨n, hn, e⟩ := List.getElem_of_mem z
        have hs : n < fr2.st.length := by rw [← R2.sto]; exact hn
        exact (R2.cel n fr2.st[n] p (List.getElem?_eq_getElem hs) (by rw [← e]; exact List.getElem?_eq_getElem hn)).2.2 hP
      · obtain ⟨a, e1, _, _, e3, _⟩ := R2.own i d e
        rw [z] at e1
        cases e1
        exact e3 hP
    refine h1 (g.unp g2) _ _ ⟨fun a ha => l2.1 a ha, rfl, l2.2.2⟩ (fun a ha => ?_) R4 (.inl ⟨rfl, p, rfl, ⟨mergeK [] kv, ?_, m1, RepL.mono0 s kf3 _ _ m2⟩, hf⟩)
    · have na : a ≠ p := fun z => by subst z; exact ha.elim q.f q.pr
      rw [upd_ne na, k2 a (ha.elim .inl fun ha => .inr (.inl ha)), upd_ne na]
    · rw [upd_same, hu]
end
end Mr
end
section
set_option Elab.async false
set_option linter.all false
set_option maxRecDepth 100000
/-! M2q: parallel assignments. -/
namespace Mr
open PySem PySem.Spec PyProof.Rows L2
def ownsOf : List (Nat × Bool) → List V → List V
  | (_, o) :: is, v :: vs => if o = true then v :: ownsOf is vs else ownsOf is vs
  | _, _ => []
section
variable (K : PySem.W.Frag) (cA : Nat → Option Addr)
def RepO (σ : L2.St) (fr : Fm) (H : Hp) (g : Wd) : List (Nat × Bool) → List D → List V → Prop
  | [], ds, vs => ds = [] ∧ vs = []
  | (_, o) :: is, d :: ds, vs => ∃ v r, vs = v :: r ∧ (if o = true then isMut d = true ∧ (∃ p, v = .ref p ∧ Con K cA H g p d ∧ Fresh fr σ g p) ∧ v ∉ ownsOf is r else Rep K cA H g d v) ∧ RepO σ fr H g is ds r
  | _ :: _, [], _ => False
def rpO (is : List (Nat × Bool)) : RP (List D) (List V) := fun σ fr H g ds vs => RepO K cA σ fr H g is ds vs
end
def setAll : L2.St → List (Nat × Bool) → List V → L2.St
  | σ, (i, _) :: is, v :: vs => setAll (σ.set i (some v)) is vs
  | σ, _, _ => σ
section
variable {K : PySem.W.Frag} {cA : Nat → Option Addr} {gv : Nat → Option D} {c : Cal}
theorem RepO.len {σ : L2.St} {fr : Fm} {H : Hp} {g : Wd} : ∀ {is : List (Nat × Bool)} {ds : List D} {vs : List V}, RepO K cA σ fr H g is ds vs → vs.length = is.length
  | [], ds, vs, h => by rw [h.2]; rfl
  | (_, o) :: is, d :: ds, vs, h => by
    obtain ⟨v, r, rfl, _, h2⟩ := h
    rw [List.length_cons, List.length_cons, RepO.len h2]
  | (_, o) :: is, [], vs, h => h.elim
/-- the owned ones are known to no one -/
theorem RepO.fresh {σ : L2.St} {fr : Fm} {H : Hp} {g : Wd} : ∀ {is : List (Nat × Bool)} {ds : List D} {vs : List V}, RepO K cA σ fr H g is ds vs → ∀ v ∈ ownsOf is vs, ∃ p, v = .ref p ∧ Fresh fr σ g p ∧ H p ≠ none
  | [], ds, vs, h, v, hv => by
    rw [h.2] at hv
    cases hv
  | (_, o) :: is, d :: ds, vs, h, v, hv => by
    obtain ⟨w, r, rfl, h1, h2⟩ := h
    have hv' : v ∈ (if o = true then w :: ownsOf is r else ownsOf is r) := hv
    by_cases ho : o = true
    · rw [if_pos ho] at hv' h1
      rcases List.mem_cons.mp hv' with e | hv'
      · obtain ⟨_, ⟨p, e1, c1, f1⟩, _⟩ := h1
        exact ⟨p, e.trans e1, f1, c1.some⟩
      · exact RepO.fresh h2 v hv'
    · rw [if_neg ho] at hv'
      exact RepO.fresh h2 v hv'
  | (_, o) :: is, [], vs, h, v, hv => h.elim
/-- the ghost's protection of p goes -/
theorem RepO.unp {σ : L2.St} {fr : Fm} {H : Hp} {g g0 : Wd} (hp : ∀ a, g0.P a → g.P a) : ∀ {is : List (Nat × Bool)} {ds : List D} {vs : List V}, RepO K cA σ fr H g is ds vs → RepO K cA σ fr H (g0.unp g) is ds vs
  | [], ds, vs, h => h
  | (_, o) :: is, d :: ds, vs, h => by
    obtain ⟨v, r, rfl, h1, h2⟩ := h
    have s : g.sub (g0.unp g) := ⟨fun _ h => h, fun _ _ h => h⟩
    refine ⟨v, r, rfl, ?_, RepO.unp hp h2⟩
    by_cases ho : o = true
    · rw [if_pos ho] at h1 ⊢
      obtain ⟨hm, ⟨p, e1, c1, f1⟩, nn⟩ := h1
      exact ⟨hm, ⟨p, e1, c1.mono0 s (fun _ _ => rfl) rfl, f1.f, fun z => f1.pr (hp p z), f1.m, f1.o⟩, nn⟩
    · rw [if_neg ho] at h1 ⊢
      exact Rep.mono0 s (fun _ _ => rfl) _ _ h1
  | (_, o) :: is, [], vs, h => h.elim
/-- a new object that is none of them -/
theorem RepO.other {σ : L2.St} {fr : Fm} {H H' : Hp} {g : Wd} (R : Rel K cA H g fr σ) {p : Addr} (hn : H p = none) (hh : ∀ a, a ≠ p → H' a = H a) : ∀ {is : List (Nat × Bool)} {ds : List D} {vs : List V}, RepO K cA σ fr H g is ds vs → RepO K cA σ fr H' g is ds vs
  | [], ds, vs, h => h
  | (_, o) :: is, d :: ds, vs, h => by
    obtain ⟨v, r, rfl, h1, h2⟩ := h
    have kf : ∀ a, g.F a → H' a = H a := fun a ha => hh a fun z => (R.fok a ha).1 (z ▸ hn)
    refine ⟨v, r, rfl, ?_, RepO.other R hn hh h2⟩
    by_cases ho : o = true
    · rw [if_pos ho] at h1 ⊢
      obtain ⟨hm, ⟨q, e1, c1, f1⟩, nn⟩ := h1
      exact ⟨hm, ⟨q, e1, c1.mono (Wd.le.refl g) kf (hh q fun z => by subst z; exact Con.some _ c1 hn), f1⟩, nn⟩
    · rw [if_neg ho] at h1 ⊢
      exact Rep.mono (Wd.le.refl g) kf _ _ h1
  | (_, o) :: is, [], vs, h => h.elim
/-- the stores, one by one -/
theorem par_set : ∀ {is : List (Nat × Bool)} {ds : List D} {vs : List V} {σ : L2.St} {fr : Fm} {H : Hp} {g : Wd}, (∀ i ∈ is, i.1 < σ.length) → Rel K cA H g fr σ → RepO K cA σ fr H g is ds vs → ∃ fr', parS is ds fr = .ok () fr' ∧ Rel K cA H g fr' (setAll σ is vs)
  | [], ds, vs, σ, fr, H, g, _, R, h => by
    rw [h.2]
    refine ⟨fr, ?_, R⟩
    cases ds <;> rfl
  | (i, o) :: is, d :: ds, vs, σ, fr, H, g, hl, R, h => by
    obtain ⟨v, r, rfl, h1, h2⟩ := h
    have hi : i < fr.env.length := by rw [R.len]; exact hl (i, o) (by simp)
    have hl' : ∀ j ∈ is, j.1 < (σ.set i (some v)).length := fun j hj => by rw [List.length_set]; exact hl j (List.mem_cons_of_mem _ hj)
    have tl : ∀ {s : Sl}, (∀ d', s = .own d' → ∃ p, v = .ref p ∧ ∀ w ∈ ownsOf is r, w ≠ v) → ∀ {is : List (Nat × Bool)} {ds : List D} {vs : List V}, (∀ w ∈ ownsOf is vs, (∀ d', s = .own d' → w ≠ v)) → RepO K cA σ fr H g is ds vs → RepO K cA (σ.set i (some v)) ⟨fr.env.set i s, fr.st⟩ H g is ds vs := by
      intro s hs is ds vs hw h
      induction is generalizing ds vs with
      | nil => exact h
      | cons jo is ih =>
        obtain ⟨j, o'⟩ := jo
        cases ds with
        | nil => exact h.elim
        | cons d' ds =>
          obtain ⟨w, r', rfl, k1, k2⟩ := h
          refine ⟨w, r', rfl, ?_, ih (fun u hu => hw u ?_) k2⟩
          · by_cases ho : o' = true
            · rw [if_pos ho] at k1 ⊢
              obtain ⟨hm, ⟨p, e1, c1, f1⟩, nn⟩ := k1
              refine ⟨hm, ⟨p, e1, c1, f1.f, f1.pr, f1.m, fun j' e' hj' hz => ?_⟩, nn⟩
              rcases set_get hj' with ⟨z1, z2⟩ | ⟨z1, z2⟩
              · subst z1
                have hσ : j' < σ.length := by rw [← R.len]; exact hi
                rw [List.getElem?_set_self hσ] at hz
                have : w ≠ v := hw w (by show w ∈ (if o' = true then w :: ownsOf is r' else ownsOf is r'); rw [if_pos ho]; simp) e' z2.symm
                exact this (e1.trans (Option.some.inj (Option.some.inj hz)).symm)
              · rw [List.getElem?_set_ne (Ne.symm z1)] at hz
                exact f1.o j' e' z2 hz
            · rw [if_neg ho] at k1 ⊢
              exact k1
          · show u ∈ (if o' = true then w :: ownsOf is r' else ownsOf is r')
            by_cases ho : o' = true
            · rw [if_pos ho]
              exact List.mem_cons_of_mem _ hu
            · rw [if_neg ho]
              exact hu
    by_cases ho : o = true
    · rw [if_pos ho] at h1
      obtain ⟨hm, ⟨p, rfl, c1, f1⟩, nn⟩ := h1
      have R2 := R.setO hi c1 f1
      have h3 := tl (s := .own d) (fun d' _ => ⟨p, rfl, fun w hw z => nn (z ▸ hw)⟩) (fun w hw d' _ z => nn (z ▸ hw)) h2
      obtain ⟨fr', e1, R3⟩ := par_set hl' R2 h3
      refine ⟨fr', ?_, R3⟩
      show ((if o = true then ownS i d fr else .ok () ⟨fr.env.set i (.val d), fr.st⟩).bind fun _ fr => parS is ds fr) = _
      rw [if_pos ho]
      have e2 : ownS i d fr = .ok () ⟨fr.env.set i (.own d), fr.st⟩ := by
        cases d <;> first | rfl | (cases hm)
      rw [e2]
      exact e1
    · rw [if_neg ho] at h1
      have R2 := R.setV hi h1
      have h3 := tl (s := .val d) (fun d' z => by cases z) (fun w hw d' z => by cases z) h2
      obtain ⟨fr', e1, R3⟩ := par_set hl' R2 h3
      refine ⟨fr', ?_, R3⟩
      show ((if o = true then ownS i d fr else .ok () ⟨fr.env.set i (.val d), fr.st⟩).bind fun _ fr => parS is ds fr) = _
      rw [if_neg ho]
      exact e1
  | (i, o) :: is, [], vs, σ, fr, H, g, _, R, h => h.elim
end
section
variable {X : Cx} {cA : Nat → Option Addr} {gv : Nat → Option D} {c : Cal} {L : Nat} {a b : DE} {es : List DE} {is : List (Nat × Bool)} {ea eb : Expr} {xs : List Expr} {pos p tpos : Pos}
abbrev tO'' (K : PySem.W.Frag) (cA : Nat → Option Addr) (is : List (Nat × Bool)) (ev : Fm → Rs (List D)) : L2.TA := tV K cA (rpO K cA is) ev
theorem pr_nil : PA X [] (tO'' X.K cA [] (evalPar gv c [] [])) := PA.imp pa_nil fun σ H Q ⟨g, fr, R, h⟩ => Pst.ok (rp := rpO X.K cA [] σ) (b := []) (show Pst X.K cA (rpO X.K cA [] σ) g H σ (.ok [] fr) Q from h) R ⟨rfl, rfl⟩
theorem pr_val {i : Nat} (ha : (fun (d : DE) (x : Expr) => PE X x (tE X.K cA (evalE gv c d))) a ea) (hr : PA X xs (tO'' X.K cA is (evalPar gv c is es))) (h2 : isStar ea = false) : PA X (ea :: xs) (tO'' X.K cA ((i, false) :: is) (evalPar gv c ((i, false) :: is) (a :: es))) := by
  refine PA.imp (pa_cons ha hr (star_each h2)) fun σ H Q ⟨g, fr, R, h⟩ => ?_
  have h0 : Pst X.K cA (rpO X.K cA ((i, false) :: is) σ) g H σ ((evalE gv c a fr).bind fun x fr => (noLoc x fr).bind fun x fr => if (false && !isMut x) = true then .stk else (evalPar gv c is es fr).bind fun ys fr => .ok (x :: ys) fr) Q := h
  refine ⟨g, fr, R, Pst.bind h0 fun d1 fr1 g1 v1 H1 l1 k1 R1 p1 h1 => ?_⟩
  obtain ⟨n, h2⟩ := Pst.noLoc h1
  rw [Bool.false_and, if_neg Bool.false_ne_true] at h2
  refine ⟨g1, fr1, R1, Pst.bind h2 fun ds fr2 g2 vs H2 l2 k2 R2 p2 h3 => ?_⟩
  refine Pst.ok (rp := rpO X.K cA ((i, false) :: is) σ) h3 R2 ⟨v1, vs, rfl, ?_, p2⟩
  rw [if_neg Bool.false_ne_true]
  exact Rep.mono l2 k2.f _ _ (p1.rep n)
theorem pr_own {i : Nat} (ha : (fun (d : DE) (x : Expr) => PE X x (tA X.K cA (evalE gv c d))) a ea) (hr : PA X xs (tO'' X.K cA is (evalPar gv c is es))) (h2 : isStar ea = false) : PA X (ea :: xs) (tO'' X.K cA ((i, true) :: is) (evalPar gv c ((i, true) :: is) (a :: es))) := by
  refine PA.imp (pa_cons ha hr (star_each h2)) fun σ H Q ⟨g, fr, R, h⟩ => ?_
  have h0 : Pst X.K cA (rpO X.K cA ((i, true) :: is) σ) g H σ ((evalE gv c a fr).bind fun x fr => (noLoc x fr).bind fun x fr => if (true && !isMut x) = true then .stk else (evalPar gv c is es fr).bind fun ys fr => .ok (x :: ys) fr) Q := h
  refine ⟨g, fr, R, Pst.bind h0 fun d1 fr1 g1 v1 H1 l1 k1 R1 p1 h1 => ?_⟩
  obtain ⟨n, h2⟩ := Pst.noLoc h1
  rw [Bool.true_and] at h2
  have hm : isMut d1 = true := by
    cases e : isMut d1 with
    | true => rfl
    | false => rw [e] at h2; exact h2.elim
  rw [hm] at h2
  have h3 : Pst X.K cA (rpO X.K cA ((i, true) :: is) σ) g1 H1 σ ((evalPar gv c is es fr1).bind fun ys fr => .ok (d1 :: ys) fr) Q := h2
  rcases p1 with ⟨_, q, rfl, cc, ff⟩ | ⟨z, _⟩
  · have R2 := R1.prot ff cc.some
    refine ⟨g1.prot q, fr1, R2, ?_⟩
    cases ev : evalPar gv c is es fr1 with
    | stk => rw [ev] at h3; exact h3.elim
    | exc C ds f => rw [ev] at h3; exact h3.elim
    | ok ds fr2 =>
      rw [ev] at h3
      have h4 : Pst X.K cA (rpO X.K cA ((i, true) :: is) σ) g1 H1 σ (.ok (d1 :: ds) fr2) Q := h3
      intro g2 vs H2 l2 k2 R3 p3
      have hP : g2.P q := by rw [l2.2.1]; exact .inr rfl
      have hp0 : ∀ a, g1.P a → g2.P a := fun a ha => by rw [l2.2.1]; exact .inl ha
      have R4 : Rel X.K cA H2 (g1.unp g2) fr2 σ := R3.unp hp0
      have kq : H2 q = H1 q := k2 q (.inr (.inr rfl))
      have kF : ∀ a, g1.F a → H2 a = H1 a := fun a ha => k2 a (.inl ha)
      have l' : g1.le (g1.unp g2) := ⟨fun a ha => l2.1 a ha, rfl, l2.2.2⟩
      have kk : Keep g1 H1 H2 := fun a ha => k2 a (ha.elim .inl fun z => .inr (.inl z))
      have hf : Fresh fr2 σ (g1.unp g2) q := by
        refine ⟨fun z => (R3.fok q z).2 hP, ff.pr, fun z => ?_, fun i d e z => ?_⟩
        · obtain ⟨n, hn, e⟩ := List.getElem_of_mem z
          have hs : n < fr2.st.length := by rw [← R3.sto]; exact hn
          exact (R3.cel n fr2.st[n] q (List.getElem?_eq_getElem hs) (by rw [← e]; exact List.getElem?_eq_getElem hn)).2.2 hP
        · obtain ⟨a, e1, _, _, e3, _⟩ := R3.own i d e
          rw [z] at e1
          cases e1
          exact e3 hP
      refine h4 (g1.unp g2) (.ref q :: vs) H2 l' kk R4 ⟨.ref q, vs, rfl, ?_, RepO.unp hp0 p3⟩
      rw [if_pos rfl]
      refine ⟨hm, ⟨q, rfl, cc.mono l' kF kq, hf⟩, fun z => ?_⟩
      obtain ⟨p', e1, f1, _⟩ := RepO.fresh p3 _ z
      cases e1
      exact f1.pr hP
  · rw [hm] at z
    cases z
/-- behind the stores -/
theorem par_post {D : Ends} {σ : L2.St} {H : Hp} (hl : ∀ i ∈ is, i.1 < σ.length) (q : tS X.K cA (xS gv c L (.par is es)) D σ H) :
    tO'' X.K cA is (evalPar gv c is es) σ H fun vs H1 => vs.length = is.length ∧ D.nx (setAll σ is vs) H1 ∧ ∀ p u, H1 p = none → D.nx (setAll σ is vs) (upd H1 p u) := by
  obtain ⟨g, fr, R, h⟩ := q
  have h0 : Fst X.K cA D ((evalPar gv c is es fr).bind fun ds fr => (parS is ds fr).bind fun _ fr => .ok .nx fr) g H := h
  refine ⟨g, fr, R, Fst.expr (rp := rpO X.K cA is) h0 fun ds fr1 _ g1 vs H1 l k R1 p1 h1 => ?_⟩
  have p1' : RepO X.K cA σ fr1 H1 g1 is ds vs := p1
  refine ⟨RepO.len p1', ?_, fun p u hn => ?_⟩
  · obtain ⟨fr2, e, R2⟩ := par_set hl R1 p1'
    rw [e] at h1
    exact Fst.ok (fl := .nx) h1 R2
  · have q0 := R1.fresh hn
    have hh : ∀ a, a ≠ p → upd H1 p u a = H1 a := fun a z => upd_ne z
    obtain ⟨fr2, e, R2⟩ := par_set hl (R1.other q0 hh) (RepO.other R1 hn hh p1')
    rw [e] at h1
    have h2 : Fst X.K cA D (.ok .nx fr2) g1 H1 := h1
    exact Fst.ok (fl := .nx) (Fst.mono h2 (Wd.le.refl g1) (keep_put q0.f q0.pr hh)) R2
theorem kind_l {env : Env} {x : Str} (h : env.scope.names.lookup x = some .local) : (env.kindOf x == some .local) = true := by
  show (env.scope.names.lookup x == some .local) = true
  rw [h]
  rfl
/-- two names, stored from the right -/
theorem x_par2 {i j : Nat} {oi oj : Bool} {x y : Str} {ax bx : Expr} {px py pt : Pos} {kt k2 : Nat} {pt2 : Pos} (hc : X.calm = true) (hN : X.N.Nodup) (hi : X.N[i]? = some x) (hj : X.N[j]? = some y) (hij : i ≠ j)
    (hx : X.env.scope.names.lookup x = some .local) (hy : X.env.scope.names.lookup y = some .local) (ha : PA X [ax, bx] (tO'' X.K cA [(i, oi), (j, oj)] (evalPar gv c [(i, oi), (j, oj)] es)))
    (hw : swappedStores [.Tuple [.Name x px, .Name y py] kt pt] (.Tuple [ax, bx] k2 pt2) X.env = pure (some [x, y]))
    (hs : swapsWithSole [.Tuple [.Name x px, .Name y py] kt pt] (.Tuple [ax, bx] k2 pt2) pos.line X.env = pure false) :
    (fun (d : DS) (x : Stmt) => PS X x (tS X.K cA (xS gv c L d))) (.par [(i, oi), (j, oj)] es) (.Assign [.Tuple [.Name x px, .Name y py] kt pt] (.Tuple [ax, bx] k2 pt2) pos) := by
  refine PS.imp (ps_par hc hN hi hj hij hx hy ha hw hs) fun D σ H hl q => ?_
  have h := par_post (fun z hz => ?_) q
  · obtain ⟨g, fr, R, h⟩ := h
    refine ⟨g, fr, R, Pst.imp h fun vs H1 ⟨hlen, h1, _⟩ => ?_⟩
    match vs, hlen, h1 with
    | [v, w], _, h1 => exact ⟨v, w, rfl, h1⟩
  · have e : z = (i, oi) ∨ z = (j, oj) := by simpa using hz
    rcases e with rfl | rfl
    · rw [hl]; exact get_lt hi
    · rw [hl]; exact get_lt hj
theorem x_par3 {i j l : Nat} {oi oj ol : Bool} {x y z : Str} {ax bx cx : Expr} {px py pz pt : Pos} {kt k2 : Nat} {pt2 : Pos} (hc : X.calm = true) (hN : X.N.Nodup) (hi : X.N[i]? = some x) (hj : X.N[j]? = some y) (hk : X.N[l]? = some z) (hij : i ≠ j) (hil : i ≠ l) (hjl : j ≠ l)
    (hx : X.env.scope.names.lookup x = some .local) (hy : X.env.scope.names.lookup y = some .local) (hz : X.env.scope.names.lookup z = some .local) (ha : PA X [ax, bx, cx] (tO'' X.K cA [(i, oi), (j, oj), (l, ol)] (evalPar gv c [(i, oi), (j, oj), (l, ol)] es)))
    (hw : swappedStores [.Tuple [.Name x px, .Name y py, .Name z pz] kt pt] (.Tuple [ax, bx, cx] k2 pt2) X.env = pure (some [x, y, z]))
    (hs : swapsWithSole [.Tuple [.Name x px, .Name y py, .Name z pz] kt pt] (.Tuple [ax, bx, cx] k2 pt2) pos.line X.env = pure false) :
    (fun (d : DS) (x : Stmt) => PS X x (tS X.K cA (xS gv c L d))) (.par [(i, oi), (j, oj), (l, ol)] es) (.Assign [.Tuple [.Name x px, .Name y py, .Name z pz] kt pt] (.Tuple [ax, bx, cx] k2 pt2) pos) := by
  refine PS.imp (ps_par3 hc hN hi hj hk hij hil hjl hx hy hz ha hw hs) fun D σ H hl q => ?_
  have h := par_post (fun z hz => ?_) q
  · obtain ⟨g, fr, R, h⟩ := h
    refine ⟨g, fr, R, Pst.imp h fun vs H1 ⟨hlen, h1, _⟩ => ?_⟩
    match vs, hlen, h1 with
    | [u, v, w], _, h1 => exact ⟨u, v, w, rfl, h1⟩
  · have e : z = (i, oi) ∨ z = (j, oj) ∨ z = (l, ol) := by simpa using hz
    rcases e with rfl | rfl | rfl
    · rw [hl]; exact get_lt hi
    · rw [hl]; exact get_lt hj
    · rw [hl]; exact get_lt hk
/-- any number of names, one after another (the tuple is made first) -/
def gNms (is : List (Nat × Bool)) : TGs := fun vs σ H Q => vs.length = is.length ∧ Q (setAll σ is vs) H
theorem gn_nil : PGs X [] (gNms []) := PGs.imp pgs_nil fun vs σ H Q ⟨hl, q⟩ => by
  have e : vs = [] := List.eq_nil_of_length_eq_zero hl
  subst e
  exact ⟨rfl, q⟩
theorem gn_cons {i : Nat} {oi : Bool} {x : Str} {xp : Pos} (hN : X.N.Nodup) (hi : X.N[i]? = some x) (hx : Loc X.env.scope x) (hf : X.fn x = true ∨ X.env.scope.names.lookup x = some .local) (h : PGs X xs (gNms is)) : PGs X (.Name x xp :: xs) (gNms ((i, oi) :: is)) :=
  PGs.imp (pgs_cons (pg_name hN hi hx hf) h (by rw [assignEach_cons rfl]; rfl)) fun vs σ H Q ⟨hl, q⟩ => by
    cases vs with
    | nil => cases hl
    | cons v vs => exact ⟨v, vs, rfl, by simpa using hl, q⟩
theorem x_parN {ts : List Expr} {kt k2 : Nat} {pt pt2 : Pos} (hc : X.calm = true) (hg : PGs X ts (gNms is)) (hst : ts.any isStar = false) (hlen : ts.length = is.length) (hsz : is.length ≤ sizeLine) (hl : ∀ i ∈ is, i.1 < X.N.length) (ha : PA X xs (tO'' X.K cA is (evalPar gv c is es)))
    (hw : swappedStores [.Tuple ts kt pt] (.Tuple xs k2 pt2) X.env = pure none) (hs : swapsWithSole [.Tuple ts kt pt] (.Tuple xs k2 pt2) pos.line X.env = pure false) :
    (fun (d : DS) (x : Stmt) => PS X x (tS X.K cA (xS gv c L d))) (.par is es) (.Assign [.Tuple ts kt pt] (.Tuple xs k2 pt2) pos) := by
  obtain ⟨l1, l2⟩ := each_len (env := X.env) hst
  refine PS.imp (ps_asg (pe_tup ha) (pg_tup (n := ts.length) hc hg l1 l2) hs hw (by rw [assignEach_cons rfl]; rfl)) fun D σ H hll q => ?_
  obtain ⟨g, fr, R, h⟩ := par_post (fun i hi => by rw [hll]; exact hl i hi) q
  refine ⟨g, fr, R, Pst.imp h fun vs H1 ⟨hv, _, h2⟩ => ⟨by rw [hv]; exact hsz, fun p hn => ⟨p, vs, rfl, SqT.of upd_same, by rw [hv, hlen], hv, h2 p _ hn⟩⟩⟩
end
end Mr
end
section
set_option Elab.async false
set_option linter.all false
set_option maxRecDepth 100000
/-! M2r: comparisons as tests; the order of the stores. -/
namespace Mr
open PySem PySem.Spec PyProof.Rows L2
section
variable {X : Cx} {cA : Nat → Option Addr} {gv : Nat → Option D} {c : Cal} {a b e : DE} {ea eb ec : Expr} {pos p : Pos}
theorem cmp_bool {o : CO} {fr fr' : Fm} {d : D} (h : evalE gv c (.cmp o a b) fr = .ok d fr') : ∃ k, d = .bl k := by
  have h0 : ((evalE gv c a fr).bind fun x fr => (evalE gv c b fr).bind fun y fr => opt ((deref fr x).bind fun x => (deref fr y).bind fun y => (cmpD o x y).map .bl) fr) = .ok d fr' := h
  cases e1 : evalE gv c a fr with
  | stk => rw [e1] at h0; cases h0
  | exc C ds f => rw [e1] at h0; cases h0
  | ok x fr1 =>
    rw [e1] at h0
    have h1 : ((evalE gv c b fr1).bind fun y fr => opt ((deref fr x).bind fun x => (deref fr y).bind fun y => (cmpD o x y).map .bl) fr) = .ok d fr' := h0
    cases e2 : evalE gv c b fr1 with
    | stk => rw [e2] at h1; cases h1
    | exc C ds f => rw [e2] at h1; cases h1
    | ok y fr2 =>
      rw [e2] at h1
      have h2 : opt ((deref fr2 x).bind fun x => (deref fr2 y).bind fun y => (cmpD o x y).map .bl) fr2 = .ok d fr' := h1
      cases e3 : (deref fr2 x).bind fun x => (deref fr2 y).bind fun y => (cmpD o x y).map D.bl with
      | none => rw [e3] at h2; cases h2
      | some r =>
        rw [e3] at h2
        cases h2
        obtain ⟨u, _, e4⟩ := bind_some e3
        obtain ⟨w, _, e5⟩ := bind_some e4
        obtain ⟨k, _, e6⟩ := map_some' e5
        exact ⟨k, e6.symm⟩
theorem t_cmp (o : CO) (hu : X.A.units + 66 < cLine) (hm : behindInMarks (coOp o) eb = false) (ha : (fun (d : DE) (x : Expr) => PE X x (tE X.K cA (evalE gv c d))) a ea) (hb : (fun (d : DE) (x : Expr) => PE X x (tE X.K cA (evalE gv c d))) b eb) : (fun (d : DE) (x : Expr) => PT X x (tT X.K cA (tstE gv c d))) (.cmp o a b) (.Compare ea [coOp o] [eb] pos) := by
  have hu1 : X.A.units + 1 < cLine := by omega
  have key : ∀ {x y : V} {H : Hp} {Q : VK} {k : CO}, rMemD X.K cA k x y H Q → (k = .mem ∧ ∃ p r, y = .ref p ∧ DGet H p x r ∧ Q (.bl r.isSome) H) ∨ (k = .nmem ∧ ∃ p r, y = .ref p ∧ DGet H p x r ∧ Q (.bl (!r.isSome)) H) := by
    intro x y H Q k h
    obtain ⟨g, d, e, b, cx, cy, hc, hd, q⟩ := h
    have fin : ∀ {b}, memD d e = some b → ∃ p r, y = .ref p ∧ DGet H p x r ∧ r.isSome = b := fun {b} h => by
      obtain ⟨r, e1, e2⟩ := memD_dic h hd
      obtain ⟨p, r', e3, e4, e5, e6⟩ := dget_of cy cx e2
      refine ⟨p, r', e3, e4, ?_⟩
      rw [← e1]
      exact some_none (fun e h => let ⟨v, h1, _⟩ := e5 e h; ⟨v, h1⟩) e6
    cases hk : isMem k with
    | false =>
      rw [cmp_nodic hc hk] at hd
      cases hd
    | true =>
      cases k with
      | mem =>
        obtain ⟨p, r, e1, e2, e3⟩ := fin hc
        exact .inl ⟨rfl, p, r, e1, e2, by rw [e3]; exact q⟩
      | nmem =>
        obtain ⟨b', e4, e5⟩ := map_some' (show (memD d e).map not = some b from hc)
        obtain ⟨p, r, e1, e2, e3⟩ := fin e4
        exact .inr ⟨rfl, p, r, e1, e2, by rw [e3, e5]; exact q⟩
      | _ => cases hk
  have split : ∀ {σ : L2.St} {H : Hp} {Q : Bool → Hp → Prop}, tT X.K cA (tstE gv c (.cmp o a b)) σ H Q → tTest (tOp (rCmp X.K cA o) (tE X.K cA (evalE gv c a)) (tE X.K cA (evalE gv c b))) σ H Q ∨ tTest (tOp (rMemD X.K cA o) (tE X.K cA (evalE gv c a)) (tE X.K cA (evalE gv c b))) σ H Q := by
    intro σ H Q q
    have q2 : tE X.K cA (evalE gv c (.cmp o a b)) σ H fun x H' => ∃ k, x = .bl k ∧ Q k H' := boolE (fun fr d fr' h => cmp_bool h) q
    refine split_ops (rp := rpX X.K cA) (f := fun x y => (cmpD o x y).map .bl) (pd := fun _ e => isDic e = true) q2 ?_ ?_
    · intro g fr H2 d e x y r R cx cy hf hn h
      obtain ⟨b', e1, e2⟩ := map_some' hf
      exact ⟨g, d, e, b', cx, cy, e1, Bool.eq_false_iff.mpr hn, Pst.ok h R (by rw [← e2]; rfl)⟩
    · intro g fr H2 d e x y r R cx cy hf hn h
      obtain ⟨b', e1, e2⟩ := map_some' hf
      exact ⟨g, d, e, b', cx, cy, e1, hn, Pst.ok h R (by rw [← e2]; rfl)⟩
  have two : PT X (.Compare ea [coOp o] [eb] pos) (tTest (tOp (rMemD X.K cA o) (tE X.K cA (evalE gv c a)) (tE X.K cA (evalE gv c b)))) := by
    by_cases c1 : o = .mem
    · subst c1
      refine PT.imp (pt_cmp (pc_din hu1 ha hb) hm) fun σ H Q q => ?_
      obtain ⟨g, fr, R, h⟩ := q
      refine ⟨g, fr, R, Pst.imp h fun y H1 q1 => ?_⟩
      obtain ⟨g2, fr2, R2, h2⟩ := q1
      refine ⟨g2, fr2, R2, Pst.imp h2 fun x H2 q2 => ?_⟩
      rcases key q2 with ⟨_, p, r, e1, e2, e3⟩ | ⟨z, _⟩
      · exact ⟨p, r, e1, e2, e3⟩
      · cases z
    · by_cases c2 : o = .nmem
      · subst c2
        refine PT.imp (pt_cmp (pc_dnotin hu1 ha hb) hm) fun σ H Q q => ?_
        obtain ⟨g, fr, R, h⟩ := q
        refine ⟨g, fr, R, Pst.imp h fun y H1 q1 => ?_⟩
        obtain ⟨g2, fr2, R2, h2⟩ := q1
        refine ⟨g2, fr2, R2, Pst.imp h2 fun x H2 q2 => ?_⟩
        rcases key q2 with ⟨z, _⟩ | ⟨_, p, r, e1, e2, e3⟩
        · cases z
        · exact ⟨p, r, e1, e2, e3⟩
      · refine PT.imp (pt_cmpR (op_cmpM (cA := cA) hu o) ha hb hm) fun σ H Q q => ?_
        obtain ⟨g, fr, R, h⟩ := q
        refine ⟨g, fr, R, Pst.imp h fun y H1 q1 => ?_⟩
        obtain ⟨g2, fr2, R2, h2⟩ := q1
        refine ⟨g2, fr2, R2, Pst.imp h2 fun x H2 q2 => ?_⟩
        rcases key q2 with ⟨z, _⟩ | ⟨z, _⟩
        · exact absurd z c1
        · exact absurd z c2
  exact PT.imp (PT.either (pt_cmpR (op_cmpM (cA := cA) hu o) ha hb hm) two) fun σ H Q q => split q
theorem t_isN {j : Nat} (ha : (fun (d : DE) (x : Expr) => PE X x (tE X.K cA (evalE gv c d))) a ea) : (fun (d : DE) (x : Expr) => PT X x (tT X.K cA (tstE gv c d))) (.isN a) (.Compare ea [.Is] [.Constant .none j p] pos) := by
  refine PT.imp (pt_cmp (pc_isN ha) rfl) fun σ H Q q => ?_
  obtain ⟨g, fr, R, h⟩ := q
  refine ⟨g, fr, R, ?_⟩
  have h0 : Pst X.K cA (rpB σ) g H σ (((evalE gv c a fr).bind fun x fr => (noLoc x fr).bind fun x fr => .ok (.bl (isNon x)) fr).bind fun x fr => test x fr) Q := h
  cases e1 : evalE gv c a fr with
  | stk => rw [e1] at h0; exact h0.elim
  | exc C ds f => rw [e1] at h0; exact h0.elim
  | ok d1 fr1 =>
    rw [e1] at h0
    have h1 : Pst X.K cA (rpB σ) g H σ (((noLoc d1 fr1).bind fun x fr => .ok (.bl (isNon x)) fr).bind fun x fr => test x fr) Q := h0
    intro g1 v1 H1 l1 k1 R1 p1
    unfold noLoc at h1
    cases hn : isLoc d1 with
    | true => rw [hn] at h1; exact h1.elim
    | false =>
      rw [hn] at h1
      have h2 : Pst X.K cA (rpB σ) g H σ (.ok (isNon d1) fr1) Q := h1
      refine ⟨_, rfl, h2 g1 _ H1 l1 k1 R1 ?_⟩
      show isNon d1 = _
      rw [rep_non (p1.rep hn)]
theorem t_isNn {j : Nat} (ha : (fun (d : DE) (x : Expr) => PE X x (tE X.K cA (evalE gv c d))) a ea) : (fun (d : DE) (x : Expr) => PT X x (tT X.K cA (tstE gv c d))) (.isNn a) (.Compare ea [.IsNot] [.Constant .none j p] pos) := by
  refine PT.imp (pt_cmp (pc_notN ha) rfl) fun σ H Q q => ?_
  obtain ⟨g, fr, R, h⟩ := q
  refine ⟨g, fr, R, ?_⟩
  have h0 : Pst X.K cA (rpB σ) g H σ (((evalE gv c a fr).bind fun x fr => (noLoc x fr).bind fun x fr => .ok (.bl (!isNon x)) fr).bind fun x fr => test x fr) Q := h
  cases e1 : evalE gv c a fr with
  | stk => rw [e1] at h0; exact h0.elim
  | exc C ds f => rw [e1] at h0; exact h0.elim
  | ok d1 fr1 =>
    rw [e1] at h0
    have h1 : Pst X.K cA (rpB σ) g H σ (((noLoc d1 fr1).bind fun x fr => .ok (.bl (!isNon x)) fr).bind fun x fr => test x fr) Q := h0
    intro g1 v1 H1 l1 k1 R1 p1
    unfold noLoc at h1
    cases hn : isLoc d1 with
    | true => rw [hn] at h1; exact h1.elim
    | false =>
      rw [hn] at h1
      have h2 : Pst X.K cA (rpB σ) g H σ (.ok (!isNon d1) fr1) Q := h1
      refine ⟨_, rfl, h2 g1 _ H1 l1 k1 R1 ?_⟩
      show (!isNon d1) = _
      rw [rep_non (p1.rep hn)]
theorem t_chn (o1 o2 : CO) (hu : X.A.units + 66 < cLine) (n1 : isMem o1 = false) (n2 : isMem o2 = false) (hm : lastMarks [coOp o1, coOp o2] [eb, ec] = false)
    (ha : (fun (d : DE) (x : Expr) => PE X x (tE X.K cA (evalE gv c d))) a ea) (hb : (fun (d : DE) (x : Expr) => PE X x (tE X.K cA (evalE gv c d))) b eb) (hc : (fun (d : DE) (x : Expr) => PE X x (tE X.K cA (evalE gv c d))) e ec) : (fun (d : DE) (x : Expr) => PT X x (tT X.K cA (tstE gv c d))) (.chn o1 o2 a b e) (.Compare ea [coOp o1, coOp o2] [eb, ec] pos) := by
  refine PT.imp (pt_chain (op_cmpM (cA := cA) hu o1) (op_cmpM (cA := cA) hu o2) ha hb hc hm) fun σ H Q q => ?_
  have q2 : tE X.K cA (evalE gv c (.chn o1 o2 a b e)) σ H fun x H' => ∃ k, x = .bl k ∧ Q k H' := by
    refine boolE (fun fr d fr' h => ?_) q
    have h0 : ((evalE gv c a fr).bind fun x fr => (evalE gv c b fr).bind fun y fr =>
      (opt ((deref fr x).bind fun x => (deref fr y).bind fun y => cmpD o1 x y) fr).bind fun k fr =>
        if k then (evalE gv c e fr).bind fun z fr => opt ((deref fr y).bind fun y => (deref fr z).bind fun z => (cmpD o2 y z).map .bl) fr
        else .ok (.bl false) fr) = .ok d fr' := h
    cases e1 : evalE gv c a fr with
    | stk => rw [e1] at h0; cases h0
    | exc C ds f => rw [e1] at h0; cases h0
    | ok x fr1 =>
      simp only [e1, Rs.bind] at h0
      cases e2 : evalE gv c b fr1 with
      | stk => simp only [e2] at h0; cases h0
      | exc C ds f => simp only [e2] at h0; cases h0
      | ok y fr2 =>
        simp only [e2] at h0
        cases e3 : (deref fr2 x).bind fun x => (deref fr2 y).bind fun y => cmpD o1 x y with
        | none => simp only [e3, opt] at h0; cases h0
        | some r =>
          simp only [e3, opt] at h0
          cases r with
          | false =>
            simp at h0
            exact ⟨false, h0.1.symm⟩
          | true =>
            simp only [if_true] at h0
            cases e4 : evalE gv c e fr2 with
            | stk => simp only [e4] at h0; cases h0
            | exc C ds f => simp only [e4] at h0; cases h0
            | ok z fr3 =>
              simp only [e4] at h0
              cases e5 : (deref fr3 y).bind fun y => (deref fr3 z).bind fun z => (cmpD o2 y z).map D.bl with
              | none => simp only [e5] at h0; cases h0
              | some w =>
                simp only [e5] at h0
                cases h0
                obtain ⟨u, _, e6⟩ := bind_some e5
                obtain ⟨t, _, e7⟩ := bind_some e6
                obtain ⟨k, _, e8⟩ := map_some' e7
                exact ⟨k, e8.symm⟩
  obtain ⟨g, fr, R, h⟩ := q2
  refine ⟨g, fr, R, Pst.bind h fun d1 fr1 g1 v1 H1 l1 k1 R1 p1 h1 => ⟨g1, fr1, R1, Pst.bind h1 fun d2 fr2 g2 v2 H2 l2 k2 R2 p2 h2 => ?_⟩⟩
  obtain ⟨r, e1, h3⟩ := Pst.optB h2
  obtain ⟨x, e2, e3⟩ := bind_some e1
  obtain ⟨y, e4, e5⟩ := bind_some e3
  refine ⟨g2, x, y, r, R2.cv (p1.mono l2 k2.f) e2, R2.cv p2 e4, e5, cmp_nodic e5 n1, r, rfl, ?_⟩
  cases r with
  | false => exact Pst.ok (rp := rpX X.K cA σ) (b := V.bl false) h3 R2 rfl
  | true =>
    refine ⟨g2, fr2, R2, Pst.bind h3 fun d3 fr3 g3 v3 H3 l3 k3 R3 p3 h4 => ?_⟩
    obtain ⟨r', e6, h5⟩ := Pst.opt h4
    obtain ⟨y', e7, e8⟩ := bind_some e6
    obtain ⟨z, e9, e10⟩ := bind_some e8
    obtain ⟨b', e11, e12⟩ := map_some' e10
    exact ⟨g3, y', z, b', R3.cv (p2.mono l3 k3.f) e7, R3.cv p3 e9, e11, cmp_nodic e11 n2, Pst.ok (rp := rpX X.K cA σ) (b := V.bl b') h5 R3 (by rw [← e12]; rfl)⟩
end
/-! ### the order of the stores -/
def nmsOf (sc : Scope) (ts : List Expr) : List Str :=
  ts.filterMap fun t => match t with
    | .Name id pos => if (sc.names.lookup id == some .local && pos.line == (ts.head?.map (·.pos.line)).getD 0) = true then some id else none
    | _ => none
def stB : Expr → Bool
  | .Starred _ _ => true
  | _ => false
def bkOf (sc : Scope) : ScopeKind := if sc.kind.isAnnotationScope then .function else sc.kind
/-- are the stores swapped? none: not known -/
def swapB (bk : ScopeKind) (sc : Scope) (ts vs : List Expr) : Option (Option (List Str)) :=
  if (!(ts.length == 2 || ts.length == 3) || vs.length != ts.length || bk != .function) = true then some none
  else if (vs.any stB) = true then some none
  else if ((nmsOf sc ts).length != ts.length || (nmsOf sc ts).eraseDups.length != (nmsOf sc ts).length) = true then some none
  else if (vs.all (foldedForSure 8)) = true then some none
  else if (vs.all (constantsAlone 8)) = true then none
  else some (some (nmsOf sc ts))
theorem swapB_ok {env : Env} {ts vs : List Expr} {kt k2 : Nat} {pt p2 : Pos} {r : Option (List Str)} (h : swapB env.blockKind env.scope ts vs = some r) : swappedStores [.Tuple ts kt pt] (.Tuple vs k2 p2) env = pure r := by
  unfold swapB at h
  have hst : (fun x : Expr => match x with
    | .Starred .. => true
    | _ => false) = stB := by
    funext x
    cases x <;> rfl
  unfold swappedStores
  show (if (!(ts.length == 2 || ts.length == 3) || vs.length != ts.length || env.blockKind != .function) = true then pure none else
    if (vs.any fun x : Expr => match x with
      | .Starred .. => true
      | _ => false) = true then pure none else
    if ((nmsOf env.scope ts).length != ts.length || (nmsOf env.scope ts).eraseDups.length != (nmsOf env.scope ts).length) = true then pure none else
    if (vs.all (foldedForSure 8)) = true then pure none else
    if (vs.all (constantsAlone 8)) = true then _ else pure (some (nmsOf env.scope ts))) = _
  rw [hst]
  by_cases c1 : (!(ts.length == 2 || ts.length == 3) || vs.length != ts.length || env.blockKind != .function) = true
  · rw [if_pos c1] at h ⊢
    rw [← Option.some.inj h]
  · rw [if_neg c1] at h ⊢
    by_cases c2 : (vs.any stB) = true
    · rw [if_pos c2] at h ⊢
      rw [← Option.some.inj h]
    · rw [if_neg c2] at h ⊢
      by_cases c3 : ((nmsOf env.scope ts).length != ts.length || (nmsOf env.scope ts).eraseDups.length != (nmsOf env.scope ts).length) = true
      · rw [if_pos c3] at h ⊢
        rw [← Option.some.inj h]
      · rw [if_neg c3] at h ⊢
        by_cases c4 : (vs.all (foldedForSure 8)) = true
        · rw [if_pos c4] at h ⊢
          rw [← Option.some.inj h]
        · rw [if_neg c4] at h ⊢
          by_cases c5 : (vs.all (constantsAlone 8)) = true
          · rw [if_pos c5] at h
            cases h
          · rw [if_neg c5] at h ⊢
            rw [← Option.some.inj h]
/-- is a comprehension's value dropped into the name on one line? none: not known -/
def swName (bk : ScopeKind) (sc : Scope) (e : Expr) (x : Str) (p : Pos) : Option Bool := match e with
  | .ListComp _ _ s _ => some (bk == .function && sc.names.lookup x == some .local && p.line == e.pos.line && !(s.names.any fun (n, k) => n == x && (k == .local || k == .cell)))
  | .SetComp _ _ _ _ => none
  | .DictComp _ _ _ _ _ => none
  | _ => some false
theorem swName_ok {env : Env} {e : Expr} {x : Str} {p : Pos} {l : Nat} {b : Bool} (h : swName env.blockKind env.scope e x p = some b) : swapsWith e (some (.Name x p)) l env = pure b := by
  cases e <;> first | (cases h; rfl) | (cases h)
def isComp : Expr → Bool
  | .ListComp _ _ _ _ => true
  | .SetComp _ _ _ _ => true
  | .DictComp _ _ _ _ _ => true
  | _ => false
theorem sw_none {env : Env} {e : Expr} {l : Nat} (h : isComp e = false) : swapsWith e none l env = pure false := by
  cases e <;> first | rfl | (cases h)
def isName : Expr → Bool
  | .Name _ _ => true
  | _ => false
theorem sw_other {env : Env} {e t : Expr} {l : Nat} (h : isName t = false) : swapsWith e (some t) l env = pure false := by
  cases t <;> first | (cases h; done) | (cases e <;> rfl)
def isTupE : Expr → Bool
  | .Tuple _ _ _ => true
  | .List _ _ => true
  | _ => false
theorem sst_none {env : Env} {e t : Expr} (h : isTupE t = false ∨ (∀ vs k p, e ≠ .Tuple vs k p)) : swappedStores [t] e env = pure none := by
  rcases h with h | h
  · cases t <;> first | (cases h; done) | rfl
  · cases e <;> first | exact absurd rfl (h _ _ _) | (cases t <;> rfl)
end Mr
end
section
set_option Elab.async false
set_option linter.all false
set_option maxRecDepth 100000
/-! M2s: the checker of expressions. -/
namespace Mr
open PySem PySem.Spec PyProof.Rows L2
structure Sc where
  sc : Scope
  ws : Option Scope
def visB (s : Sc) (x : Str) : Bool := match s.sc.names.lookup x with
  | some .local => true
  | some .cell => true
  | some .free => true
  | _ => false
def glB (s : Sc) (x : Str) : Bool := match s.sc.names.lookup x with
  | some .globalImplicit => true
  | _ => false
def nmB (x : Str) : Bool := !(x == ("__debug__" : Str)) && !(x == ("__classdict__" : Str))
def locB (s : Sc) (x : Str) : Bool := match s.sc.names.lookup x with
  | some .local => true
  | some .cell => (match s.ws with
    | none => true
    | some w => (match w.names.lookup x with
      | some .cell => true
      | _ => false))
  | _ => false
def slB (N : List Str) (i : Nat) (x : Str) : Bool := match N[i]? with
  | some y => x == y
  | none => false
def conB : D → Const → Bool
  | .non, .none => true
  | .bl b, .bool k => b == k
  | .int i, .int k => i == k
  | .str x, .str k => x == k
  | _, _ => false
def plainT : Expr → Bool
  | .UnaryOp .Not _ _ => false
  | .BoolOp _ _ _ => false
  | .IfExp _ _ _ _ => false
  | .Compare _ _ _ _ => false
  | _ => true
/-- a built-in name that the module does not hide -/
def bltB (nm : Nm) (s : Sc) (x y : Str) : Bool := x == y && glB s y && nm.fre.contains y
def clsB (nm : Nm) (s : Sc) (t : Tc) (e : Expr) : Bool := match e with
  | .Name x _ => (match t with
    | .own C => (match nm.cl[C]? with
      | some p => x == p.1 && glB s x && nmB x
      | none => false)
    | .int => bltB nm s x "int" | .bool => bltB nm s x "bool" | .str => bltB nm s x "str" | .list => bltB nm s x "list" | .tuple => bltB nm s x "tuple" | .dict => bltB nm s x "dict")
  | _ => false
def clssB (nm : Nm) (s : Sc) : List Tc → List Expr → Bool
  | [], [] => true
  | t :: ts, e :: es => clsB nm s t e && !isStar e && clssB nm s ts es
  | _, _ => false
def isSetE : Expr → Bool
  | .Set _ _ _ => true
  | _ => false
mutual
def chkG (N : List Str) : DT → Sc → Expr → Bool
  | .nm i, s, e => (match e with
    | .Name x _ => slB N i x && locB s x
    | _ => false)
  | .tp ts, s, e => (match e with
    | .Tuple es _ _ => chkGs N ts s es
    | _ => false)
def chkGs (N : List Str) : List DT → Sc → List Expr → Bool
  | [], _, es => es.isEmpty
  | t :: ts, s, es => (match es with
    | e :: es => chkG N t s e && !isStar e && chkGs N ts s es
    | [] => false)
end
def ownN (N : List Str) : List Nat → List (Str × Nat)
  | [] => []
  | i :: is => match N[i]? with
    | some x => (x, i) :: ownN N is
    | none => ownN N is
/-- forms that make a new object -/
def isAl : DE → Bool
  | .bin _ _ _ => true
  | .lst _ => true
  | .tup _ => true
  | .dic _ _ => true
  | .sl _ _ _ => true
  | .rev _ => true
  | .lc _ _ _ _ _ => true
  | .lco _ _ _ _ _ => true
  | .bf _ _ => true
  | .lrng _ => true
  | _ => false
def bfName : BF → Str
  | .len => "len" | .all => "all" | .any => "any" | .sum => "sum" | .int => "int" | .abs => "abs" | .list => "list" | .tuple => "tuple" | .sorted => "sorted" | .fact => "factorial" | .min2 => "min" | .max2 => "max"
def bfB (nm : Nm) (s : Sc) (f : BF) (x : Str) : Bool := match f with
  | .fact => (match nm.fac with
    | some y => x == y && glB s x && nmB x
    | none => false)
  | f => bltB nm s x (bfName f)
def lineB (a b : Pos) : Bool := a.endLine == b.line
mutual
def chkE (nm : Nm) (N : List Str) : DE → Bool → Sc → Expr → Bool
  | .var i, t, s, e => (match e with
    | .Name x _ => slB N i x && visB s x && nmB x
    | _ => false)
  | .pk i, t, s, e => (match e with
    | .Name x _ => slB N i x && visB s x && nmB x
    | _ => false)
  | .con d, t, s, e => (match e with
    | .Constant k _ _ => conB d k
    | _ => false)
  | .glb g, t, s, e => (match e with
    | .Name x _ => slB nm.gl g x && glB s x && nmB x
    | _ => false)
  | .bin o a b, t, s, e => (match e with
    | .BinOp ea op eb _ => decide (op = boOp o) && chkE nm N a false s ea && chkE nm N b false s eb
    | _ => false)
  | .neg a, t, s, e => (match e with
    | .UnaryOp op ea _ => decide (op = .USub) && chkE nm N a false s ea
    | _ => false)
  | .nt a, t, s, e => (match e with
    | .UnaryOp op ea _ => decide (op = .Not) && chkE nm N a t s ea
    | _ => false)
  | .cmp o a b, t, s, e => (match e with
    | .Compare ea ops cs _ => (match ops, cs with
      | [op], [eb] => decide (op = coOp o) && !behindInMarks op eb && chkE nm N a false s ea && chkE nm N b false s eb
      | _, _ => false)
    | _ => false)
  | .chn o1 o2 a b c, t, s, e => (match e with
    | .Compare ea ops cs _ => (match ops, cs with
      | [op1, op2], [eb, ec] => decide (op1 = coOp o1) && decide (op2 = coOp o2) && !isMem o1 && !isMem o2 && !lastMarks [op1, op2] [eb, ec] && chkE nm N a false s ea && chkE nm N b false s eb && chkE nm N c false s ec
      | _, _ => false)
    | _ => false)
  | .isN a, t, s, e => (match e with
    | .Compare ea ops cs _ => (match ops, cs with
      | [op], [.Constant k _ _] => decide (op = .Is) && decide (k = .none) && chkE nm N a false s ea
      | _, _ => false)
    | _ => false)
  | .isNn a, t, s, e => (match e with
    | .Compare ea ops cs _ => (match ops, cs with
      | [op], [.Constant k _ _] => decide (op = .IsNot) && decide (k = .none) && chkE nm N a false s ea
      | _, _ => false)
    | _ => false)
  | .and es, t, s, e => (match e with
    | .BoolOp op xs _ => decide (op = .And) && chkB nm N es t s xs
    | _ => false)
  | .or es, t, s, e => (match e with
    | .BoolOp op xs _ => decide (op = .Or) && chkB nm N es t s xs
    | _ => false)
  | .ite c a b, t, s, e => (match e with
    | .IfExp ec ea eb _ => !t && chkE nm N c true s ec && chkE nm N a false s ea && chkE nm N b false s eb
    | _ => false)
  | .lst es, t, s, e => (match e with
    | .List xs _ => chkA nm N es s xs
    | _ => false)
  | .tup es, t, s, e => (match e with
    | .Tuple xs _ _ => chkA nm N es s xs
    | _ => false)
  | .star _, _, _, _ => false
  | .dic k kvs, t, s, e => (match e with
    | .Dict keys values _ => if k then keys.isEmpty && values.isEmpty && kvs.isEmpty else if kvs.isEmpty then keys.isEmpty && values.isEmpty else decide (keys.length ≤ 15) && decide (keys.length = values.length) && !keys.isEmpty && keys.all (·.isSome) && chkK nm N kvs s keys values
    | _ => false)
  | .ix a b, t, s, e => (match e with
    | .Subscript ea eb _ => !isSl eb && chkE nm N a false s ea && chkE nm N b false s eb
    | _ => false)
  | .sl a lo hi, t, s, e => (match e with
    | .Subscript ea eb _ => (match eb with
      | .Slice el eh es _ => es.isNone && chkE nm N a false s ea && chkO nm N lo s el && chkO nm N hi s eh
      | _ => false)
    | _ => false)
  | .rev a, t, s, e => (match e with
    | .Subscript ea eb _ => (match eb with
      | .Slice none none (some (.UnaryOp op (.Constant k _ _) _)) _ => decide (op = .USub) && decide (k = .int 1) && chkE nm N a false s ea
      | _ => false)
    | _ => false)
  | .att a f, t, s, e => (match e with
    | .Attribute ea g _ => f == g && !isCall ea && nm.fl.contains f && chkE nm N a false s ea
    | _ => false)
  | .call f es, t, s, e => (match e with
    | .Call fe xs ks _ => (match fe with
      | .Name x _ => (match nm.fn[f]? with
        | some p => x == p.1 && glB s x && nmB x && ks.isEmpty && decide (es.length = p.2) && chkP nm N es s xs
        | none => false)
      | _ => false)
    | _ => false)
  | .new C es, t, s, e => (match e with
    | .Call fe xs ks _ => (match fe with
      | .Name x _ => (match nm.cl[C]? with
        | some p => x == p.1 && glB s x && nmB x && ks.isEmpty && !xs.isEmpty && decide (es.length = p.2) && chkP nm N es s xs
        | none => false)
      | _ => false)
    | _ => false)
  | .mth _ _ _, _, _, _ => false
  | .bf f es, t, s, e => (match e with
    | .Call fe xs ks _ => (match fe with
      | .Name x _ => bfB nm s f x && ks.isEmpty && !xs.isEmpty && chkP nm N es s xs
      | _ => false)
    | _ => false)
  | .bm m o es, t, s, e => (match e with
    | .Call fe xs ks cp => (match fe with
      | .Attribute eo x ap => x == bmStr m && ks.isEmpty && !isCall eo && lineB ap cp && decide (xs.length < 30) && (match m with
        | .pop => es.isEmpty
        | .get1 => decide (es.length = 1)
        | .get2 => decide (es.length = 2)
        | _ => !es.isEmpty) && chkE nm N o false s eo && chkP nm N es s xs
      | _ => false)
    | _ => false)
  | .isi a cs, t, s, e => (match e with
    | .Call fe xs ks _ => (match fe, xs with
      | .Name x _, [ea, ec] => bltB nm s x "isinstance" && ks.isEmpty && !isStar ea && chkE nm N a false s ea && (match ec with
        | .Tuple es _ _ => clssB nm s cs es && decide (cs.length < 100)
        | ec => (match cs with
          | [tc] => clsB nm s tc ec && !isStar ec
          | _ => false))
      | _, _ => false)
    | _ => false)
  | .lc own tg it cs elt, t, s, e => (match e with
    | .ListComp ee gens scope _ => (match gens with
      | [⟨te, iter, ifs, asy⟩] => decide (asy = 0) && decide ((ownN N own).map (·.2) = own) && blkC N s.sc scope (ownN N own) && (slots tg).all (own.contains ·) && !isSetE iter && chkG N tg ⟨relS scope s.sc, some scope⟩ te && chkI nm N it s te iter &&
        chkC nm N cs ⟨relS scope s.sc, some scope⟩ ifs && chkE nm N elt false ⟨relS scope s.sc, some scope⟩ ee
      | _ => false)
    | _ => false)
  | .lco own tg sl cs elt, t, s, e => (match e with
    | .ListComp ee gens scope _ => (match gens with
      | [⟨te, iter, ifs, asy⟩] => decide (asy = 0) && decide ((ownN N own).map (·.2) = own) && blkC N s.sc scope (ownN N own) && (slots tg).all (own.contains ·) && !own.contains sl && chkG N tg ⟨relS scope s.sc, some scope⟩ te &&
        (match iter with
          | .Name x _ => slB N sl x && visB s x && nmB x
          | _ => false) &&
        chkC nm N cs ⟨relS scope s.sc, some scope⟩ ifs && chkE nm N elt false ⟨relS scope s.sc, some scope⟩ ee
      | _ => false)
    | _ => false)
  | .live a, t, s, e => isAl a && !t && chkE nm N a false s e
  | .lrng a, t, s, e => (match e with
    | .Call fe xs ks _ => (match fe, xs with
      | .Name x _, [.Call fe2 ys ks2 _] => (match fe2, ys with
        | .Name y _, [ea] => bltB nm s x "list" && bltB nm s y "range" && ks.isEmpty && ks2.isEmpty && !isStar ea && chkE nm N a false s ea
        | _, _ => false)
      | _, _ => false)
    | _ => false)
/-- items of a display -/
def chkA (nm : Nm) (N : List Str) : List DE → Sc → List Expr → Bool
  | [], _, xs => xs.isEmpty
  | d :: ds, s, xs => (match xs with
    | x :: xs => (match d with
      | .star a => (match x with
        | .Starred ea _ => chkE nm N a false s ea
        | _ => false)
      | d => !isStar x && chkE nm N d false s x) && chkA nm N ds s xs
    | [] => false)
/-- arguments -/
def chkP (nm : Nm) (N : List Str) : List DE → Sc → List Expr → Bool
  | [], _, xs => xs.isEmpty
  | d :: ds, s, xs => (match xs with
    | x :: xs => !isStar x && chkE nm N d false s x && chkP nm N ds s xs
    | [] => false)
def chkB (nm : Nm) (N : List Str) : List DE → Bool → Sc → List Expr → Bool
  | [], _, _, _ => false
  | d :: ds, t, s, xs => (match xs with
    | x :: xs => chkE nm N d t s x && (if ds.isEmpty then xs.isEmpty else chkB nm N ds t s xs)
    | [] => false)
def chkK (nm : Nm) (N : List Str) : List DE → Sc → List (Option Expr) → List Expr → Bool
  | [], _, ks, vs => ks.isEmpty && vs.isEmpty
  | k :: kvs, s, ks, vs => (match kvs with
    | [] => false
    | v :: kvs => (match ks, vs with
      | some x :: ks, y :: vs => chkE nm N k false s x && chkE nm N v false s y && chkK nm N kvs s ks vs
      | _, _ => false))
def chkO (nm : Nm) (N : List Str) : List DE → Sc → Option Expr → Bool
  | [], _, x => x.isNone
  | d :: ds, s, x => (match x with
    | some x => ds.isEmpty && chkE nm N d false s x
    | none => false)
def chkC (nm : Nm) (N : List Str) : List DE → Sc → List Expr → Bool
  | [], _, xs => xs.isEmpty
  | d :: ds, s, xs => (match xs with
    | [x] => ds.isEmpty && chkE nm N d true s x
    | _ => false)
def chkI (nm : Nm) (N : List Str) : DI → Sc → Expr → Expr → Bool
  | .ex a, s, tg, e => chkE nm N a false s e
  | .rng a, s, tg, e => (match e with
    | .Call fe xs ks _ => (match fe, xs with
      | .Name x _, [ea] => bltB nm s x "range" && ks.isEmpty && !isStar ea && chkE nm N a false s ea
      | _, _ => false)
    | _ => false)
  | .rng2 a b, s, tg, e => (match e with
    | .Call fe xs ks _ => (match fe, xs with
      | .Name x _, [ea, eb] => bltB nm s x "range" && ks.isEmpty && !isStar ea && !isStar eb && chkE nm N a false s ea && chkE nm N b false s eb
      | _, _ => false)
    | _ => false)
  | .enm a, s, tg, e => (match tg with
    | .Tuple _ _ _ => (match e with
      | .Call fe xs ks _ => (match fe, xs with
        | .Name x _, [ea] => bltB nm s x "enumerate" && ks.isEmpty && !isStar ea && chkE nm N a false s ea
        | _, _ => false)
      | _ => false)
    | _ => false)
  | .zip a b, s, tg, e => (match tg with
    | .Tuple _ _ _ => (match e with
      | .Call fe xs ks _ => (match fe, xs with
        | .Name x _, [ea, eb] => bltB nm s x "zip" && ks.isEmpty && !isStar ea && !isStar eb && chkE nm N a false s ea && chkE nm N b false s eb
        | _, _ => false)
      | _ => false)
    | _ => false)
end
end Mr
end
section
set_option Elab.async false
set_option linter.all false
set_option maxRecDepth 100000
/-! M2t: what the checker says of expressions. -/
namespace Mr
open PySem PySem.Spec PyProof.Rows L2
structure En where
  nm : Nm
  N : List Str
  cA : Nat → Option Addr
  gv : Nat → Option D
  c : Cal
  k : Nat
structure Xo (E : En) (X : Cx) (s : Sc) : Prop where
  n : X.N = E.N
  nd : E.N.Nodup
  sc : X.env.scope = s.sc
  fnk : ∀ x, (match s.ws with
    | none => True
    | some w => w.names.lookup x = some .cell) → X.fn x = true
  calm : X.calm = true
  room : Room (E.k + 1) X.A
  fns : Fns X.prog X.w X.K X.mg X.base E.nm E.cA E.c E.k
  kit : Kit X.K E.cA
  at' : ∀ C a, E.cA C = some a → ∀ f ∈ E.nm.fl, NoAttr X.K a f
  fre : ∀ x ∈ E.nm.fre, X.mg x = none
  gl : ∀ (i : Nat) (x : Str) (d : D), E.nm.gl[i]? = some x → E.gv i = some d → ∃ u v, X.mg x = some u ∧ RelV v u ∧ ∀ H g, Rep X.K E.cA H g d v
  fac : ∀ x, E.nm.fac = some x → X.mg x = some (.builtin "math.factorial")
section
variable {E : En} {X : Cx} {s : Sc}
theorem Xo.hu (o : Xo E X s) : X.A.units + 66 < cLine := by
  have := o.room.un
  omega
theorem Xo.hu1 (o : Xo E X s) : X.A.units + 1 < cLine := by
  have := o.room.un
  omega
theorem Xo.roomK (o : Xo E X s) : Room E.k X.A := o.room.mono (Nat.le_succ _)
theorem Xo.sl (o : Xo E X s) {i : Nat} {x : Str} (h : slB E.N i x = true) : X.N[i]? = some x := by
  unfold slB at h
  rw [o.n]
  cases e : E.N[i]? with
  | none => rw [e] at h; cases h
  | some y =>
    rw [e] at h
    rw [beq_iff_eq.mp h]
theorem Xo.nd' (o : Xo E X s) : X.N.Nodup := by rw [o.n]; exact o.nd
theorem Xo.vis (o : Xo E X s) {x : Str} (h : visB s x = true) : Vis X.env.scope x := by
  rw [o.sc]
  unfold visB at h
  split at h
  · exact .inl (by assumption)
  · exact .inr (.inl (by assumption))
  · exact .inr (.inr (by assumption))
  · cases h
theorem Xo.glb (o : Xo E X s) {x : Str} (h : glB s x = true) : Gl X x := by
  show X.env.scope.names.lookup x = some .globalImplicit
  rw [o.sc]
  unfold glB at h
  split at h
  · assumption
  · cases h
theorem nmB_d {x : Str} (h : nmB x = true) : (x == ("__debug__" : Str)) = false := by
  unfold nmB at h
  simp only [Bool.and_eq_true, Bool.not_eq_true'] at h
  exact h.1
theorem nmB_c {x : Str} (h : nmB x = true) : (x == ("__classdict__" : Str)) = false := by
  unfold nmB at h
  simp only [Bool.and_eq_true, Bool.not_eq_true'] at h
  exact h.2
theorem Xo.loc (o : Xo E X s) {x : Str} (h : locB s x = true) : Loc X.env.scope x ∧ (X.fn x = true ∨ X.env.scope.names.lookup x = some .local) := by
  rw [o.sc]
  unfold locB at h
  split at h
  · rename_i e
    exact ⟨.inl e, .inr e⟩
  · rename_i e
    refine ⟨.inr e, .inl (o.fnk x ?_)⟩
    split at h
    · rename_i w
      first | trivial | (rw [w]; trivial)
    · rename_i w hw
      try rw [hw]
      split at h
      · assumption
      · cases h
  · cases h
theorem Xo.blt (o : Xo E X s) {x y : Str} (h : bltB E.nm s x y = true) : x = y ∧ Gl X y ∧ X.mg y = none := by
  unfold bltB at h
  simp only [Bool.and_eq_true] at h
  refine ⟨beq_iff_eq.mp h.1.1, o.glb h.1.2, o.fre y ?_⟩
  simpa using h.2
theorem Xo.blk (o : Xo E X s) (sh : Shared) (H : Hp) (scope : Scope) (C : Addr) (cl : List (Str × Addr)) (fp : List Addr) : Xo E (X.blk sh H scope (compEnvC scope cl C X.env) fp) ⟨relS scope s.sc, some scope⟩ where
  n := o.n
  nd := o.nd
  sc := by
    show relS scope X.env.scope = relS scope s.sc
    rw [o.sc]
  fnk := fun x h => by
    show (scope.names.lookup x == some .cell) = true
    have h' : scope.names.lookup x = some .cell := h
    rw [h']
    rfl
  calm := o.calm
  room := o.room
  fns := o.fns
  kit := o.kit
  at' := o.at'
  fre := o.fre
  gl := o.gl
  fac := o.fac
theorem ownN_ok {N : List Str} : ∀ {own : List Nat}, ∀ p ∈ ownN N own, N[p.2]? = some p.1
  | [], p, h => by cases h
  | i :: is, p, h => by
    unfold ownN at h
    split at h
    · rename_i x e
      rcases List.mem_cons.mp h with z | h
      · rw [z]; exact e
      · exact ownN_ok p h
    · exact ownN_ok p h
theorem Xo.blkOk (o : Xo E X s) {scope : Scope} {ow : List (Str × Nat)} (h : blkC E.N s.sc scope ow = true) : BlkOk X.N X.env.scope scope ow := by
  rw [o.n, o.sc]
  exact blkOk_by h
mutual
theorem okG (o : Xo E X s) : ∀ (t : DT) (e : Expr), chkG E.N t s e = true → PG X e (gT X.K E.cA t)
  | .nm i, e, h => by
    unfold chkG at h
    split at h
    · simp only [Bool.and_eq_true] at h
      obtain ⟨l1, l2⟩ := o.loc h.2
      exact g_nm o.nd' (o.sl h.1) l1 l2
    · cases h
  | .tp ts, e, h => by
    unfold chkG at h
    split at h
    · obtain ⟨h1, h2, h3⟩ := okGs o ts _ h
      exact g_tp o.calm h1 h2 h3
    · cases h
theorem okGs (o : Xo E X s) : ∀ (ts : List DT) (es : List Expr), chkGs E.N ts s es = true → PGs X es (gTs X.K E.cA ts) ∧ es.any isStar = false ∧ es.length = ts.length
  | [], es, h => by
    unfold chkGs at h
    have e : es = [] := List.isEmpty_iff.mp h
    subst e
    exact ⟨gs_nil, rfl, rfl⟩
  | t :: ts, es, h => by
    unfold chkGs at h
    split at h
    · simp only [Bool.and_eq_true, Bool.not_eq_true'] at h
      obtain ⟨h1, h2, h3⟩ := okGs o ts _ h.2
      refine ⟨gs_cons (okG o t _ h.1.1) h1 h.1.2, ?_, ?_⟩
      · rw [List.any_cons, h.1.2, h2]
        rfl
      · rw [List.length_cons, List.length_cons, h3]
    · cases h
end
/-- classes of isinstance -/
theorem ok_cls (o : Xo E X s) {t : Tc} {e : Expr} (h : clsB E.nm s t e = true) : ∃ v, tcV E.cA t v ∧ PE X e (tC v) := by
  unfold clsB at h
  split at h
  · split at h
    · split at h
      · rename_i p hp
        simp only [Bool.and_eq_true] at h
        obtain ⟨a, f, fd, ps, _, hc, hm, _⟩ := o.fns.cl _ p.1 p.2 hp
        obtain rfl := beq_iff_eq.mp h.1.1
        exact ⟨.ref a, ⟨a, hc, rfl⟩, pe_glob (o.glb h.1.2) hm rfl (nmB_d h.2)⟩
      · cases h
    all_goals
      obtain ⟨rfl, h1, h2⟩ := o.blt h
      exact ⟨.ty _, rfl, pe_bltn h1 h2 (by rfl) rfl⟩
  · cases h
theorem ok_clss (o : Xo E X s) : ∀ {ts : List Tc} {es : List Expr}, clssB E.nm s ts es = true → ∃ vs, tcVs E.cA ts vs ∧ PA X es (fun _ H Q => Q vs H) ∧ vs.length = ts.length
  | [], [], _ => ⟨[], rfl, pa_nil, rfl⟩
  | [], _ :: _, h => by cases h
  | _ :: _, [], h => by cases h
  | t :: ts, e :: es, h => by
    unfold clssB at h
    simp only [Bool.and_eq_true, Bool.not_eq_true'] at h
    obtain ⟨v, h1, h2⟩ := ok_cls o h.1.1
    obtain ⟨vs, h3, h4, h5⟩ := ok_clss o h.2
    exact ⟨v :: vs, ⟨v, vs, rfl, h1, h3⟩, pa_cons h2 h4 (star_each h.1.2), by rw [List.length_cons, List.length_cons, h5]⟩
end
end Mr
end
section
set_option Elab.async false
set_option linter.all false
set_option maxRecDepth 100000
set_option maxHeartbeats 2000000
/-! M2u: what is checked is shown (expressions). -/
namespace Mr
open PySem PySem.Spec PyProof.Rows L2
def OkE (E : En) (X : Cx) (d : DE) (t : Bool) (e : Expr) : Prop := match t with
  | true => PT X e (tT X.K E.cA (tstE E.gv E.c d))
  | false => PE X e (tE X.K E.cA (evalE E.gv E.c d)) ∧ (isAl d = true → PE X e (tA X.K E.cA (evalE E.gv E.c d)))
section
variable {E : En} {X : Cx} {d : DE} {t : Bool} {e : Expr}
theorem plain_ok {env : Env} (h : plainT e = true) : ∀ whole, isTrue e env whole = (do let v ← whole; standAt e.pos; holding [v] (truthy v)) := by
  intro whole
  cases e with
  | UnaryOp op a p => cases op <;> first | rfl | (cases h)
  | BoolOp _ _ _ => cases h
  | IfExp _ _ _ _ => cases h
  | Compare _ _ _ _ => cases h
  | _ => rfl
theorem OkE.ofE (h : PE X e (tE X.K E.cA (evalE E.gv E.c d))) (ha : isAl d = false) (he : plainT e = true) : OkE E X d t e := by
  cases t with
  | false => exact ⟨h, fun z => by rw [ha] at z; cases z⟩
  | true => exact t_val h (plain_ok he)
theorem OkE.ofA (h : PE X e (tA X.K E.cA (evalE E.gv E.c d))) (he : plainT e = true) : OkE E X d t e := by
  cases t with
  | false => exact ⟨SA_SE h, fun _ => h⟩
  | true => exact t_val (SA_SE h) (plain_ok he)
theorem OkE.toE (h : OkE E X d false e) : PE X e (tE X.K E.cA (evalE E.gv E.c d)) := h.1
theorem OkE.toT (h : OkE E X d true e) : PT X e (tT X.K E.cA (tstE E.gv E.c d)) := h
theorem OkE.toA (h : OkE E X d false e) (ha : isAl d = true) : PE X e (tA X.K E.cA (evalE E.gv E.c d)) := h.2 ha
theorem OkE.ofV (h : PE X e (tE X.K E.cA (evalE E.gv E.c d))) (ha : isAl d = false) (ht : PT X e (tT X.K E.cA (tstE E.gv E.c d))) : OkE E X d t e := by
  cases t with
  | false => exact ⟨h, fun z => by rw [ha] at z; cases z⟩
  | true => exact ht
end
/-- lists of tests, of values -/
def OkB (E : En) (X : Cx) (op : BoolOp) (ds : List DE) (t : Bool) (xs : List Expr) : Prop := ∀ pos, match op, t with
  | .And, true => PW X (.BoolOp .And xs pos) (tT X.K E.cA (tsA E.gv E.c ds))
  | .Or, true => PW X (.BoolOp .Or xs pos) (tT X.K E.cA (tsO E.gv E.c ds))
  | .And, false => PE X (.BoolOp .And xs pos) (tE X.K E.cA (evalAnd E.gv E.c ds))
  | .Or, false => PE X (.BoolOp .Or xs pos) (tE X.K E.cA (evalOr E.gv E.c ds))
theorem conB_ok {X : Cx} {E : En} {dd : D} {k : Const} {j : Nat} {p : Pos} (h : conB dd k = true) : PE X (.Constant k j p) (tE X.K E.cA (evalE E.gv E.c (.con dd))) := by
  unfold conB at h
  split at h
  · exact s_con pe_non fun _ _ => rfl
  · obtain rfl := beq_iff_eq.mp h
    exact s_con pe_bl fun _ _ => rfl
  · obtain rfl := beq_iff_eq.mp h
    exact s_con pe_int fun _ _ => rfl
  · obtain rfl := beq_iff_eq.mp h
    exact s_con pe_str fun _ _ => rfl
  · cases h
theorem glb_ok {E : En} {X : Cx} {s : Sc} (o : Xo E X s) {i : Nat} {x : Str} {p : Pos} (h1 : slB E.nm.gl i x = true) (h2 : glB s x = true) (h3 : nmB x = true) : PE X (.Name x p) (tE X.K E.cA (evalE E.gv E.c (.glb i))) := by
  have hi : E.nm.gl[i]? = some x := by
    unfold slB at h1
    cases e : E.nm.gl[i]? with
    | none => rw [e] at h1; cases h1
    | some y => rw [e] at h1; rw [beq_iff_eq.mp h1]
  cases e : E.gv i with
  | none =>
    refine ⟨fun pins s' σ H Q I q => ?_⟩
    obtain ⟨g, fr, R, h⟩ := q
    have h0 : Pst X.K E.cA (rpX X.K E.cA σ) g H σ (opt (E.gv i) fr) Q := h
    rw [e] at h0
    exact h0.elim
  | some d =>
    obtain ⟨u, v, hm, r, hr⟩ := o.gl i x d hi e
    exact s_glb (o.glb h2) hm r (fun d' e' => by rw [e] at e'; cases e'; exact hr) (nmB_d h3)
theorem bf_ok {E : En} {X : Cx} {s : Sc} (o : Xo E X s) {f : BF} {x : Str} {p pos : Pos} {ea : Expr} {xs : List Expr} {es : List DE} (h : bfB E.nm s f x = true) (ha : PA X (ea :: xs) (tP X.K E.cA (evalPs E.gv E.c es))) (h1 : isStar ea = false) (h2 : xs.any isStar = false) :
    PE X (.Call (.Name x p) (ea :: xs) [] pos) (tA X.K E.cA (evalE E.gv E.c (.bf f es))) := by
  cases f with
  | fact =>
    have h' : (match E.nm.fac with
      | some y => x == y && glB s x && nmB x
      | none => false) = true := h
    cases e : E.nm.fac with
    | none => rw [e] at h'; cases h'
    | some y =>
      rw [e] at h'
      simp only [Bool.and_eq_true] at h'
      obtain rfl := beq_iff_eq.mp h'.1.1
      exact s_bfG (id := "math.factorial") rfl o.calm (o.glb h'.1.2) (o.fac _ e) (nmB_d h'.2) ha h1 h2
  | len => obtain ⟨rfl, g1, g2⟩ := o.blt h; exact s_bfB (id := "len") rfl o.calm g1 g2 (by rfl) (by decide) (by rfl) ha h1 h2
  | all => obtain ⟨rfl, g1, g2⟩ := o.blt h; exact s_bfB (id := "all") rfl o.calm g1 g2 (by rfl) (by decide) (by rfl) ha h1 h2
  | any => obtain ⟨rfl, g1, g2⟩ := o.blt h; exact s_bfB (id := "any") rfl o.calm g1 g2 (by rfl) (by decide) (by rfl) ha h1 h2
  | sum => obtain ⟨rfl, g1, g2⟩ := o.blt h; exact s_bfB (id := "sum") rfl o.calm g1 g2 (by rfl) (by decide) (by rfl) ha h1 h2
  | abs => obtain ⟨rfl, g1, g2⟩ := o.blt h; exact s_bfB (id := "abs") rfl o.calm g1 g2 (by rfl) (by decide) (by rfl) ha h1 h2
  | sorted => obtain ⟨rfl, g1, g2⟩ := o.blt h; exact s_bfB (id := "sorted") rfl o.calm g1 g2 (by rfl) (by decide) (by rfl) ha h1 h2
  | min2 => obtain ⟨rfl, g1, g2⟩ := o.blt h; exact s_bfB (id := "min") rfl o.calm g1 g2 (by rfl) (by decide) (by rfl) ha h1 h2
  | max2 => obtain ⟨rfl, g1, g2⟩ := o.blt h; exact s_bfB (id := "max") rfl o.calm g1 g2 (by rfl) (by decide) (by rfl) ha h1 h2
  | int => obtain ⟨rfl, g1, g2⟩ := o.blt h; exact s_bfT (T := "int") rfl o.calm g1 g2 (by rfl) (by decide) (by rfl) ha h1 h2
  | list => obtain ⟨rfl, g1, g2⟩ := o.blt h; exact s_bfT (T := "list") rfl o.calm g1 g2 (by rfl) (by decide) (by rfl) ha h1 h2
  | tuple => obtain ⟨rfl, g1, g2⟩ := o.blt h; exact s_bfT (T := "tuple") rfl o.calm g1 g2 (by rfl) (by decide) (by rfl) ha h1 h2
theorem fold_ok {e : Expr} {env : Env} (h : isSetE e = false) : ∀ x, foldedSetIterable e env x = pure x := by
  intro x
  cases e <;> first | rfl | (cases h)
theorem mem_of_all {own : List Nat} {t : DT} (h : (slots t).all (own.contains ·) = true) : ∀ i ∈ slots t, i ∈ own := fun i hi => by
  have := List.all_eq_true.mp h i hi
  simpa using this
theorem es_ps {E : En} : ∀ {ds : List DE} {fr fr' : Fm} {xs : List D}, ds.any isStarD = false → evalEs E.gv E.c ds fr = .ok xs fr' → evalPs E.gv E.c ds fr = .ok xs fr' ∧ xs.any isLoc = false
  | [], fr, fr', xs, _, h => by
    cases h
    exact ⟨rfl, rfl⟩
  | d :: ds, fr, fr', xs, hs, h => by
    rw [List.any_cons, Bool.or_eq_false_iff] at hs
    rw [evalEs_cons hs.1] at h
    show ((evalE E.gv E.c d fr).bind fun x fr => (evalPs E.gv E.c ds fr).bind fun ys fr => .ok (x :: ys) fr) = _ ∧ _
    cases e1 : evalE E.gv E.c d fr with
    | stk => rw [e1] at h; cases h
    | exc C z f => rw [e1] at h; cases h
    | ok x fr1 =>
      rw [e1] at h
      have h2 : ((noLoc x fr1).bind fun x fr => (evalEs E.gv E.c ds fr).bind fun ys fr => .ok (x :: ys) fr) = .ok xs fr' := h
      unfold noLoc at h2
      cases hn : isLoc x with
      | true => rw [hn] at h2; cases h2
      | false =>
        rw [hn] at h2
        have h3 : ((evalEs E.gv E.c ds fr1).bind fun ys fr => .ok (x :: ys) fr) = .ok xs fr' := h2
        cases e2 : evalEs E.gv E.c ds fr1 with
        | stk => rw [e2] at h3; cases h3
        | exc C z f => rw [e2] at h3; cases h3
        | ok ys fr2 =>
          rw [e2] at h3
          cases h3
          obtain ⟨q1, q2⟩ := es_ps hs.2 e2
          refine ⟨?_, by rw [List.any_cons, hn, q2]; rfl⟩
          show ((evalPs E.gv E.c ds fr1).bind fun ys fr => .ok (x :: ys) fr) = _
          rw [q1]
          rfl
theorem okPA {X : Cx} {E : En} {ds : List DE} {xs : List Expr} (hd : ds.any isStarD = false) (h : PA X xs (tP X.K E.cA (evalPs E.gv E.c ds))) : PA X xs (tL X.K E.cA (evalEs E.gv E.c ds)) := by
  refine PA.imp h fun σ H Q ⟨g, fr, R, q⟩ => ⟨g, fr, R, ?_⟩
  cases e : evalEs E.gv E.c ds fr with
  | stk => rw [e] at q; exact q.elim
  | exc C z f => rw [e] at q; exact q.elim
  | ok ys fr1 =>
    rw [e] at q
    obtain ⟨q1, q2⟩ := es_ps hd e
    rw [q1]
    intro g1 vs H1 l1 k1 R1 p1
    exact q g1 vs H1 l1 k1 R1 (derefs_noloc p1 q2)
theorem chkP_nil {nm : Nm} {N : List Str} {s : Sc} {xs : List Expr} (h : chkP nm N [] s xs = true) : xs = [] := by
  unfold chkP at h
  exact List.isEmpty_iff.mp h
theorem chkP_cons {nm : Nm} {N : List Str} {s : Sc} {xs : List Expr} {a : DE} {ds : List DE} (h : chkP nm N (a :: ds) s xs = true) : ∃ x r, xs = x :: r ∧ chkP nm N ds s r = true := by
  unfold chkP at h
  cases xs with
  | nil => cases h
  | cons x r =>
    simp only [Bool.and_eq_true] at h
    exact ⟨x, r, rfl, h.2⟩
theorem one_more {nm : Nm} {N : List Str} {s : Sc} {x : Expr} {xs : List Expr} {a : DE} (h : chkP nm N [a] s (x :: xs) = true) : xs = [] := by
  obtain ⟨y, r, e, h2⟩ := chkP_cons h
  cases e
  exact chkP_nil h2
theorem two_more {nm : Nm} {N : List Str} {s : Sc} {xs : List Expr} {a b : DE} (h : chkP nm N [a, b] s xs = true) : ∃ x y, xs = [x, y] := by
  obtain ⟨x, r, rfl, h2⟩ := chkP_cons h
  obtain ⟨y, r2, rfl, h3⟩ := chkP_cons h2
  rw [chkP_nil h3]
  exact ⟨x, y, rfl⟩
theorem len2 {α : Type} {l : List α} (h : l.length = 2) : ∃ a b, l = [a, b] := by
  match l, h with
  | [a, b], _ => exact ⟨a, b, rfl⟩
mutual
theorem okE {E : En} : ∀ (d : DE) (X : Cx) (s : Sc) (t : Bool) (e : Expr), Xo E X s → chkE E.nm E.N d t s e = true → OkE E X d t e
  | .var i, X, s, t, e, o, h => by
    unfold chkE at h
    split at h
    · simp only [Bool.and_eq_true] at h
      exact .ofE (s_var (o.sl h.1.1) (o.vis h.1.2) (nmB_d h.2) (nmB_c h.2)) rfl rfl
    · cases h
  | .pk i, X, s, t, e, o, h => by
    unfold chkE at h
    split at h
    · simp only [Bool.and_eq_true] at h
      exact .ofE (s_pk (o.sl h.1.1) (o.vis h.1.2) (nmB_d h.2) (nmB_c h.2)) rfl rfl
    · cases h
  | .con dd, X, s, t, e, o, h => by
    unfold chkE at h
    split at h
    · exact .ofE (conB_ok h) rfl rfl
    · cases h
  | .glb i, X, s, t, e, o, h => by
    unfold chkE at h
    split at h
    · simp only [Bool.and_eq_true] at h
      exact .ofE (glb_ok o h.1.1 h.1.2 h.2) rfl rfl
    · cases h
  | .bin op a b, X, s, t, e, o, h => by
    unfold chkE at h
    split at h
    · simp only [Bool.and_eq_true, decide_eq_true_eq] at h
      obtain ⟨⟨rfl, h1⟩, h2⟩ := h
      exact .ofA (s_bin op (okE a X s false _ o h1).toE (okE b X s false _ o h2).toE) rfl
    · cases h
  | .neg a, X, s, t, e, o, h => by
    unfold chkE at h
    split at h
    · simp only [Bool.and_eq_true, decide_eq_true_eq] at h
      obtain ⟨rfl, h1⟩ := h
      exact .ofE (s_neg (okE a X s false _ o h1).toE) rfl rfl
    · cases h
  | .nt a, X, s, t, e, o, h => by
    unfold chkE at h
    split at h
    · simp only [Bool.and_eq_true, decide_eq_true_eq] at h
      obtain ⟨rfl, h1⟩ := h
      cases t with
      | true => exact t_not (okE a X s true _ o h1).toT
      | false => exact ⟨s_nt (okE a X s false _ o h1).toE, fun z => by cases z⟩
    · cases h
  | .cmp op a b, X, s, t, e, o, h => by
    unfold chkE at h
    split at h
    · split at h
      · simp only [Bool.and_eq_true, decide_eq_true_eq, Bool.not_eq_true'] at h
        obtain ⟨⟨⟨rfl, h1⟩, h2⟩, h3⟩ := h
        have ha := (okE a X s false _ o h2).toE
        have hb := (okE b X s false _ o h3).toE
        exact .ofV (s_cmp op o.hu h1 ha hb) rfl (t_cmp op o.hu h1 ha hb)
      · cases h
    · cases h
  | .chn o1 o2 a b c, X, s, t, e, o, h => by
    unfold chkE at h
    split at h
    · split at h
      · simp only [Bool.and_eq_true, decide_eq_true_eq, Bool.not_eq_true'] at h
        obtain ⟨⟨⟨⟨⟨⟨⟨rfl, rfl⟩, n1⟩, n2⟩, hm⟩, h1⟩, h2⟩, h3⟩ := h
        have ha := (okE a X s false _ o h1).toE
        have hb := (okE b X s false _ o h2).toE
        have hc := (okE c X s false _ o h3).toE
        exact .ofV (s_chn o1 o2 o.hu n1 n2 hm ha hb hc) rfl (t_chn o1 o2 o.hu n1 n2 hm ha hb hc)
      · cases h
    · cases h
  | .isN a, X, s, t, e, o, h => by
    unfold chkE at h
    split at h
    · split at h
      · simp only [Bool.and_eq_true, decide_eq_true_eq] at h
        obtain ⟨⟨rfl, rfl⟩, h1⟩ := h
        have ha := (okE a X s false _ o h1).toE
        exact .ofV (s_isN ha) rfl (t_isN ha)
      · cases h
    · cases h
  | .isNn a, X, s, t, e, o, h => by
    unfold chkE at h
    split at h
    · split at h
      · simp only [Bool.and_eq_true, decide_eq_true_eq] at h
        obtain ⟨⟨rfl, rfl⟩, h1⟩ := h
        have ha := (okE a X s false _ o h1).toE
        exact .ofV (s_isNn ha) rfl (t_isNn ha)
      · cases h
    · cases h
  | .and es, X, s, t, e, o, h => by
    unfold chkE at h
    split at h
    · simp only [Bool.and_eq_true, decide_eq_true_eq] at h
      obtain ⟨rfl, h1⟩ := h
      have q := okB .And es X s t _ o h1
      cases t with
      | true => exact PW.pt (q _)
      | false => exact ⟨q _, fun z => by cases z⟩
    · cases h
  | .or es, X, s, t, e, o, h => by
    unfold chkE at h
    split at h
    · simp only [Bool.and_eq_true, decide_eq_true_eq] at h
      obtain ⟨rfl, h1⟩ := h
      have q := okB .Or es X s t _ o h1
      cases t with
      | true => exact PW.pt (q _)
      | false => exact ⟨q _, fun z => by cases z⟩
    · cases h
  | .ite c a b, X, s, t, e, o, h => by
    unfold chkE at h
    split at h
    · simp only [Bool.and_eq_true, Bool.not_eq_true'] at h
      obtain ⟨⟨⟨rfl, h1⟩, h2⟩, h3⟩ := h
      exact ⟨s_ite (okE c X s true _ o h1).toT (okE a X s false _ o h2).toE (okE b X s false _ o h3).toE, fun z => by cases z⟩
    · cases h
  | .lst es, X, s, t, e, o, h => by
    unfold chkE at h
    split at h
    · exact .ofA (s_lst (okA es X s _ o h)) rfl
    · cases h
  | .tup es, X, s, t, e, o, h => by
    unfold chkE at h
    split at h
    · exact .ofA (s_tup (okA es X s _ o h)) rfl
    · cases h
  | .star a, X, s, t, e, o, h => by
    unfold chkE at h
    cases h
  | .dic k kvs, X, s, t, e, o, h => by
    unfold chkE at h
    split at h
    · cases k with
      | true =>
        simp only [if_true, Bool.and_eq_true, List.isEmpty_iff] at h
        obtain ⟨⟨rfl, rfl⟩, rfl⟩ := h
        exact .ofA s_dicT rfl
      | false =>
        simp only [Bool.false_eq_true, if_false] at h
        cases hk : kvs.isEmpty with
        | true =>
          rw [hk] at h
          simp only [if_true, Bool.and_eq_true, List.isEmpty_iff] at h hk
          obtain ⟨rfl, rfl⟩ := h
          subst hk
          exact .ofA s_dicK rfl
        | false =>
          rw [hk] at h
          simp only [Bool.false_eq_true, if_false, Bool.and_eq_true, decide_eq_true_eq, Bool.not_eq_true'] at h
          obtain ⟨⟨⟨⟨h15, hl⟩, h0⟩, hall⟩, h1⟩ := h
          exact .ofA (s_dic (okK kvs X s _ _ _ o h1) hall hl (fun z => by rw [z] at h0; cases h0) h15) rfl
    · cases h
  | .ix a b, X, s, t, e, o, h => by
    unfold chkE at h
    split at h
    · simp only [Bool.and_eq_true, Bool.not_eq_true'] at h
      exact .ofE (s_ix o.hu h.1.1 (okE a X s false _ o h.1.2).toE (okE b X s false _ o h.2).toE) rfl rfl
    · cases h
  | .sl a lo hi, X, s, t, e, o, h => by
    unfold chkE at h
    split at h
    · split at h
      · simp only [Bool.and_eq_true, Option.isNone_iff_eq_none] at h
        obtain ⟨⟨⟨rfl, h1⟩, h2⟩, h3⟩ := h
        exact .ofA (s_sl (okE a X s false _ o h1).toE (okO lo X s _ o h2) (okO hi X s _ o h3)) rfl
      · cases h
    · cases h
  | .rev a, X, s, t, e, o, h => by
    unfold chkE at h
    split at h
    · split at h
      · simp only [Bool.and_eq_true, decide_eq_true_eq] at h
        obtain ⟨⟨rfl, rfl⟩, h1⟩ := h
        exact .ofA (s_rev (okE a X s false _ o h1).toE) rfl
      · cases h
    · cases h
  | .att a f, X, s, t, e, o, h => by
    unfold chkE at h
    split at h
    · simp only [Bool.and_eq_true, Bool.not_eq_true'] at h
      obtain ⟨⟨⟨h1, h2⟩, h3⟩, h4⟩ := h
      obtain rfl := beq_iff_eq.mp h1
      have hf : f ∈ E.nm.fl := by simpa using h3
      exact .ofE (s_att (fun C a ha => ⟨(o.kit.cl C a ha).1, o.at' C a ha f hf⟩) h2 (okE a X s false _ o h4).toE) rfl rfl
    · cases h
  | .call f es, X, s, t, e, o, h => by
    unfold chkE at h
    split at h
    · split at h
      · split at h
        · rename_i p hp
          simp only [Bool.and_eq_true, decide_eq_true_eq, List.isEmpty_iff] at h
          obtain ⟨⟨⟨⟨⟨h1, h2⟩, h3⟩, rfl⟩, h5⟩, h6⟩ := h
          obtain rfl := beq_iff_eq.mp h1
          obtain ⟨q1, q2, q3, q4⟩ := okP es X s _ o h6
          obtain ⟨px, pn⟩ := p
          cases es with
          | nil =>
            have e0 := q3 rfl
            subst e0
            have e1 : pn = 0 := h5.symm
            subst e1
            exact .ofE (s_call0 o.fns hp o.roomK (o.glb h2) (nmB_d h3)) rfl rfl
          | cons d0 ds =>
            obtain ⟨xa, xs, rfl, hs1, hs2, hd⟩ := q2 (by simp)
            exact .ofE (s_call o.fns hp o.roomK (o.glb h2) (nmB_d h3) (okPA hd q1) hs1 hs2 ⟨hd, h5⟩) rfl rfl
        · cases h
      · cases h
    · cases h
  | .new C es, X, s, t, e, o, h => by
    unfold chkE at h
    split at h
    · split at h
      · split at h
        · rename_i p hp
          simp only [Bool.and_eq_true, decide_eq_true_eq, List.isEmpty_iff, Bool.not_eq_true'] at h
          obtain ⟨⟨⟨⟨⟨⟨h1, h2⟩, h3⟩, rfl⟩, h4⟩, h5⟩, h6⟩ := h
          obtain rfl := beq_iff_eq.mp h1
          obtain ⟨q1, q2, q3, q4⟩ := okP es X s _ o h6
          obtain ⟨px, pn⟩ := p
          cases es with
          | nil =>
            have e0 := q3 rfl
            subst e0
            cases h4
          | cons d0 ds =>
            obtain ⟨xa, xs, rfl, hs1, hs2, hd⟩ := q2 (by simp)
            exact .ofE (s_new o.fns hp o.room (o.glb h2) (nmB_d h3) (okPA hd q1) hs1 hs2 ⟨hd, h5⟩) rfl rfl
        · cases h
      · cases h
    · cases h
  | .mth _ _ _, X, s, t, e, o, h => by
    unfold chkE at h
    cases h
  | .bf f es, X, s, t, e, o, h => by
    unfold chkE at h
    split at h
    · split at h
      · simp only [Bool.and_eq_true, List.isEmpty_iff, Bool.not_eq_true'] at h
        obtain ⟨⟨⟨h1, rfl⟩, h2⟩, h3⟩ := h
        obtain ⟨q1, q2, q3, q4⟩ := okP es X s _ o h3
        cases es with
        | nil =>
          have e0 := q3 rfl
          subst e0
          cases h2
        | cons d0 ds =>
          obtain ⟨xa, xs, rfl, hs1, hs2, hd⟩ := q2 (by simp)
          exact .ofA (bf_ok o h1 q1 hs1 hs2) rfl
      · cases h
    · cases h
  | .bm m ob es, X, s, t, e, o, h => by
    unfold chkE at h
    split at h
    · split at h
      · simp only [Bool.and_eq_true, decide_eq_true_eq, List.isEmpty_iff, Bool.not_eq_true'] at h
        obtain ⟨⟨⟨⟨⟨⟨⟨h1, rfl⟩, h2⟩, h3⟩, h4⟩, h5⟩, h6⟩, h7⟩ := h
        obtain rfl := beq_iff_eq.mp h1
        obtain ⟨q1, q2, q3, q4⟩ := okP es X s _ o h7
        have ho := (okE ob X s false _ o h6).toE
        cases m with
        | append =>
          obtain ⟨xa, xs, rfl, hs1, hs2, hd⟩ := q2 (by simpa using h5)
          exact .ofE (s_bm1 F.slot_list_append F.type_list_append bm_append rfl ho q1 h2 h3 hs1 hs2 h4) rfl rfl
        | extend =>
          obtain ⟨xa, xs, rfl, hs1, hs2, hd⟩ := q2 (by simpa using h5)
          exact .ofE (s_bm1 F.slot_list_extend F.type_list_extend bm_extend rfl ho q1 h2 h3 hs1 hs2 h4) rfl rfl
        | popAt =>
          obtain ⟨xa, xs, rfl, hs1, hs2, hd⟩ := q2 (by simpa using h5)
          exact .ofE (s_bm1 F.slot_list_pop F.type_list_pop bm_popAt rfl ho q1 h2 h3 hs1 hs2 h4) rfl rfl
        | remove =>
          obtain ⟨xa, xs, rfl, hs1, hs2, hd⟩ := q2 (by simpa using h5)
          exact .ofE (s_bm1 F.slot_list_remove F.type_list_remove bm_remove rfl ho q1 h2 h3 hs1 hs2 h4) rfl rfl
        | pop =>
          have ee : es = [] := by simpa using h5
          subst ee
          have e0 := q3 rfl
          subst e0
          exact .ofE (s_bm0 F.slot_list_pop F.type_list_pop bm_pop rfl ho h2 h3) rfl rfl
        | get1 =>
          have h5' : es.length = 1 := by simpa using h5
          obtain ⟨xa, xs, rfl, hs1, hs2, hd⟩ := q2 (fun z => by rw [z] at h5'; cases h5')
          obtain ⟨a, rfl⟩ := List.length_eq_one_iff.mp h5'
          have exs := one_more h7
          subst exs
          obtain ⟨ha, _⟩ := q4 (a, xa) (by simp)
          exact .ofE (s_get1 o.hu1 ho ha h2 h3 hs1) rfl rfl
        | get2 =>
          have h5' : es.length = 2 := by simpa using h5
          obtain ⟨a, b, rfl⟩ := len2 h5'
          obtain ⟨xa, xb, rfl⟩ := two_more h7
          obtain ⟨ha, sa⟩ := q4 (a, xa) (by simp)
          obtain ⟨hb, sb⟩ := q4 (b, xb) (by simp)
          exact .ofE (s_get2 o.hu1 ho ha hb h2 h3 sa sb) rfl rfl
      · cases h
    · cases h
  | .isi a cs, X, s, t, e, o, h => by
    unfold chkE at h
    split at h
    · split at h
      · simp only [Bool.and_eq_true, List.isEmpty_iff, Bool.not_eq_true'] at h
        obtain ⟨⟨⟨⟨h1, rfl⟩, h2⟩, h3⟩, h4⟩ := h
        obtain ⟨rfl, g1, g2⟩ := o.blt h1
        have ha := (okE a X s false _ o h3).toE
        split at h4
        · simp only [Bool.and_eq_true, decide_eq_true_eq] at h4
          obtain ⟨vs, k1, k2, k3⟩ := ok_clss o h4.1
          exact .ofE (s_isiN o.kit g1 g2 k1 (by rw [k3, sizeLine_eq]; omega) ha k2 h2) rfl rfl
        · split at h4
          · simp only [Bool.and_eq_true, Bool.not_eq_true'] at h4
            obtain ⟨v, k1, k2⟩ := ok_cls o h4.1
            exact .ofE (s_isi1 o.kit g1 g2 k1 ha k2 h2 h4.2) rfl rfl
          · cases h4
      · cases h
    · cases h
  | .lc own tg it cs elt, X, s, t, e, o, h => by
    unfold chkE at h
    split at h
    · split at h
      · simp only [Bool.and_eq_true, decide_eq_true_eq, Bool.not_eq_true'] at h
        obtain ⟨⟨⟨⟨⟨⟨⟨⟨rfl, h1⟩, h2⟩, h3⟩, h4⟩, h5⟩, h6⟩, h7⟩, h8⟩ := h
        exact .ofA (s_lc o.calm o.nd' (o.blkOk h2) h1 (mem_of_all h3) (fun sh H C cl fp => okG (o.blk sh H _ C cl fp) tg _ h5) (fun sh H C cl fp => okC cs _ _ _ (o.blk sh H _ C cl fp) h7)
          (fun sh H C cl fp => (okE elt _ _ false _ (o.blk sh H _ C cl fp) h8).toE) (fold_ok h4) (okI it X s _ _ o h6)) rfl
      · cases h
    · cases h
  | .lco own tg sl cs elt, X, s, t, e, o, h => by
    unfold chkE at h
    split at h
    · split at h
      · simp only [Bool.and_eq_true, decide_eq_true_eq, Bool.not_eq_true'] at h
        obtain ⟨⟨⟨⟨⟨⟨⟨⟨rfl, h1⟩, h2⟩, h3⟩, h4⟩, h5⟩, h6⟩, h7⟩, h8⟩ := h
        split at h6
        · simp only [Bool.and_eq_true] at h6
          exact .ofA (s_lco o.calm o.nd' (o.blkOk h2) h1 (mem_of_all h3) (fun sh H C cl fp => okG (o.blk sh H _ C cl fp) tg _ h5) (fun sh H C cl fp => okC cs _ _ _ (o.blk sh H _ C cl fp) h7)
            (fun sh H C cl fp => (okE elt _ _ false _ (o.blk sh H _ C cl fp) h8).toE) (fold_ok rfl) (by simpa using h4) (i_own (o.sl h6.1.1) (o.vis h6.1.2) (nmB_d h6.2) (nmB_c h6.2))) rfl
        · cases h6
      · cases h
    · cases h
  | .live a, X, s, t, e, o, h => by
    unfold chkE at h
    simp only [Bool.and_eq_true, Bool.not_eq_true'] at h
    obtain ⟨⟨h1, rfl⟩, h2⟩ := h
    exact ⟨s_live ((okE a X s false _ o h2).toA h1), fun z => by cases z⟩
  | .lrng a, X, s, t, e, o, h => by
    unfold chkE at h
    split at h
    · split at h
      · split at h
        · simp only [Bool.and_eq_true, List.isEmpty_iff, Bool.not_eq_true'] at h
          obtain ⟨⟨⟨⟨⟨h1, h2⟩, rfl⟩, rfl⟩, h3⟩, h4⟩ := h
          obtain ⟨rfl, g1, g2⟩ := o.blt h1
          obtain ⟨rfl, g3, g4⟩ := o.blt h2
          exact .ofA (s_lrng o.calm g1 g2 g3 g4 (okE a X s false _ o h4).toE h3) rfl
        · cases h
      · cases h
    · cases h
theorem okA {E : En} : ∀ (ds : List DE) (X : Cx) (s : Sc) (xs : List Expr), Xo E X s → chkA E.nm E.N ds s xs = true → PA X xs (tL X.K E.cA (evalEs E.gv E.c ds))
  | [], X, s, xs, o, h => by
    unfold chkA at h
    have e := List.isEmpty_iff.mp h
    subst e
    exact a_nil
  | d :: ds, X, s, xs, o, h => by
    unfold chkA at h
    split at h
    · simp only [Bool.and_eq_true] at h
      have hr := okA ds X s _ o h.2
      have h1 := h.1
      split at h1
      · split at h1
        · exact a_star (okE _ X s false _ o h1).toE hr
        · cases h1
      · rename_i dn
        simp only [Bool.and_eq_true, Bool.not_eq_true'] at h1
        refine a_cons (okE d X s false _ o h1.2).toE hr ?_ h1.1
        cases d <;> first | rfl | exact absurd rfl (dn _)
    · cases h
theorem okP {E : En} : ∀ (ds : List DE) (X : Cx) (s : Sc) (xs : List Expr), Xo E X s → chkP E.nm E.N ds s xs = true → PA X xs (tP X.K E.cA (evalPs E.gv E.c ds)) ∧ (ds ≠ [] → ∃ x r, xs = x :: r ∧ isStar x = false ∧ r.any isStar = false ∧ ds.any isStarD = false) ∧ (ds = [] → xs = []) ∧ ∀ p ∈ ds.zip xs, PE X p.2 (tE X.K E.cA (evalE E.gv E.c p.1)) ∧ isStar p.2 = false
  | [], X, s, xs, o, h => by
    unfold chkP at h
    have e := List.isEmpty_iff.mp h
    subst e
    exact ⟨p_nil, fun z => absurd rfl z, fun _ => rfl, fun p hp => by cases hp⟩
  | d :: ds, X, s, xs, o, h => by
    unfold chkP at h
    split at h
    · simp only [Bool.and_eq_true, Bool.not_eq_true'] at h
      obtain ⟨q1, q2, q3, q4⟩ := okP ds X s _ o h.2
      have hE := (okE d X s false _ o h.1.2).toE
      refine ⟨p_cons hE q1 h.1.1, fun _ => ⟨_, _, rfl, h.1.1, ?_, ?_⟩, (fun z => by cases z), fun p hp => ?_⟩
      rotate_left 2
      · rw [List.zip_cons_cons] at hp
        rcases List.mem_cons.mp hp with z | hp
        · rw [z]
          exact ⟨hE, h.1.1⟩
        · exact q4 p hp
      · cases ds with
        | nil => rw [q3 rfl]; rfl
        | cons d' ds =>
          obtain ⟨x', r', rfl, z1, z2, _⟩ := q2 (by simp)
          rw [List.any_cons, z1, z2]
          rfl
      · have nd : isStarD d = false := by
          cases d <;> first | rfl | (have := h.1.2; unfold chkE at this; cases this)
        cases ds with
        | nil => rw [List.any_cons, nd]; rfl
        | cons d' ds =>
          obtain ⟨x', r', _, _, _, z3⟩ := q2 (by simp)
          rw [List.any_cons, nd, z3]
          rfl
    · cases h
theorem okB {E : En} : ∀ (op : BoolOp) (ds : List DE) (X : Cx) (s : Sc) (t : Bool) (xs : List Expr), Xo E X s → chkB E.nm E.N ds t s xs = true → OkB E X op ds t xs
  | op, [], X, s, t, xs, o, h => by
    unfold chkB at h
    cases h
  | op, [d], X, s, t, xs, o, h => by
    unfold chkB at h
    split at h
    · simp only [Bool.and_eq_true, List.isEmpty_nil, if_true, List.isEmpty_iff] at h
      obtain ⟨h1, rfl⟩ := h
      have q := okE d X s t _ o h1
      intro pos
      cases op <;> cases t
      · exact s_and1 q.toE
      · exact t_and1 q.toT
      · exact s_or1 q.toE
      · exact t_or1 q.toT
    · cases h
  | op, d :: d2 :: ds, X, s, t, xs, o, h => by
    unfold chkB at h
    split at h
    · simp only [Bool.and_eq_true, List.isEmpty_cons, Bool.false_eq_true, if_false] at h
      obtain ⟨h1, h2⟩ := h
      have q := okE d X s t _ o h1
      have r := okB op (d2 :: ds) X s t _ o h2
      rename_i x xs
      have h3 := h2
      unfold chkB at h3
      split at h3
      · intro pos
        have r' := r pos
        cases op <;> cases t
        · exact s_and2 q.toE r'
        · exact t_and2 q.toT r'
        · exact s_or2 q.toE r'
        · exact t_or2 q.toT r'
      · cases h3
    · cases h
theorem okK {E : En} : ∀ (kvs : List DE) (X : Cx) (s : Sc) (ks : List (Option Expr)) (vs : List Expr) (pos : Pos), Xo E X s → chkK E.nm E.N kvs s ks vs = true → PPs X pos ks vs (trsOf X.K E.cA E.gv E.c kvs)
  | [], X, s, ks, vs, pos, o, h => by
    unfold chkK at h
    simp only [Bool.and_eq_true, List.isEmpty_iff] at h
    obtain ⟨rfl, rfl⟩ := h
    exact pps_nil
  | [k], X, s, ks, vs, pos, o, h => by
    unfold chkK at h
    cases h
  | k :: v :: kvs, X, s, ks, vs, pos, o, h => by
    unfold chkK at h
    simp only at h
    split at h
    · simp only [Bool.and_eq_true] at h
      exact pps_cons (okE k X s false _ o h.1.1).toE (okE v X s false _ o h.1.2).toE (okK kvs X s _ _ pos o h.2)
    · cases h
theorem okO {E : En} : ∀ (ds : List DE) (X : Cx) (s : Sc) (x : Option Expr), Xo E X s → chkO E.nm E.N ds s x = true → PO X x (tO' X.K E.cA (evalO E.gv E.c ds))
  | [], X, s, x, o, h => by
    unfold chkO at h
    have e := Option.isNone_iff_eq_none.mp h
    subst e
    exact o_none
  | d :: ds, X, s, x, o, h => by
    unfold chkO at h
    split at h
    · simp only [Bool.and_eq_true, List.isEmpty_iff] at h
      obtain ⟨rfl, h1⟩ := h
      exact o_some (okE d X s false _ o h1).toE
    · cases h
theorem okC {E : En} : ∀ (cs : List DE) (X : Cx) (s : Sc) (xs : List Expr), Xo E X s → chkC E.nm E.N cs s xs = true → PTs X xs (tT X.K E.cA (fun fr => evalC E.gv E.c cs fr))
  | [], X, s, xs, o, h => by
    unfold chkC at h
    have e := List.isEmpty_iff.mp h
    subst e
    exact ts_nil
  | d :: ds, X, s, xs, o, h => by
    unfold chkC at h
    split at h
    · simp only [Bool.and_eq_true, List.isEmpty_iff] at h
      obtain ⟨rfl, h1⟩ := h
      exact ts_one (okE d X s true _ o h1).toT
    · cases h
theorem okI {E : En} : ∀ (it : DI) (X : Cx) (s : Sc) (tg e : Expr), Xo E X s → chkI E.nm E.N it s tg e = true → PI X tg e (tI X.K E.cA (evalI E.gv E.c it))
  | .ex a, X, s, tg, e, o, h => by
    unfold chkI at h
    exact i_ex (okE a X s false _ o h).toE
  | .rng a, X, s, tg, e, o, h => by
    unfold chkI at h
    split at h
    · split at h
      · simp only [Bool.and_eq_true, List.isEmpty_iff, Bool.not_eq_true'] at h
        obtain ⟨⟨⟨h1, rfl⟩, h2⟩, h3⟩ := h
        obtain ⟨rfl, g1, g2⟩ := o.blt h1
        exact i_rng g1 g2 (okE a X s false _ o h3).toE h2
      · cases h
    · cases h
  | .rng2 a b, X, s, tg, e, o, h => by
    unfold chkI at h
    split at h
    · split at h
      · simp only [Bool.and_eq_true, List.isEmpty_iff, Bool.not_eq_true'] at h
        obtain ⟨⟨⟨⟨⟨h1, rfl⟩, h2⟩, h3⟩, h4⟩, h5⟩ := h
        obtain ⟨rfl, g1, g2⟩ := o.blt h1
        exact i_rng2 g1 g2 (okE a X s false _ o h4).toE (okE b X s false _ o h5).toE h2 h3
      · cases h
    · cases h
  | .enm a, X, s, tg, e, o, h => by
    unfold chkI at h
    split at h
    · split at h
      · split at h
        · simp only [Bool.and_eq_true, List.isEmpty_iff, Bool.not_eq_true'] at h
          obtain ⟨⟨⟨h1, rfl⟩, h2⟩, h3⟩ := h
          obtain ⟨rfl, g1, g2⟩ := o.blt h1
          exact i_enm g1 g2 (okE a X s false _ o h3).toE h2
        · cases h
      · cases h
    · cases h
  | .zip a b, X, s, tg, e, o, h => by
    unfold chkI at h
    split at h
    · split at h
      · split at h
        · simp only [Bool.and_eq_true, List.isEmpty_iff, Bool.not_eq_true'] at h
          obtain ⟨⟨⟨⟨⟨h1, rfl⟩, h2⟩, h3⟩, h4⟩, h5⟩ := h
          obtain ⟨rfl, g1, g2⟩ := o.blt h1
          exact i_zip g1 g2 (okE a X s false _ o h4).toE (okE b X s false _ o h5).toE h2 h3
        · cases h
      · cases h
    · cases h
end
end Mr
end
section
set_option Elab.async false
set_option linter.all false
set_option maxRecDepth 100000
set_option maxHeartbeats 2000000
/-! M2v: the checker of statements, what it shows. -/
namespace Mr
open PySem PySem.Spec PyProof.Rows L2
def chkPar (nm : Nm) (N : List Str) (s : Sc) : List (Nat × Bool) → List DE → List Expr → Bool
  | [], [], [] => true
  | (i, o) :: is, d :: ds, x :: xs => chkE nm N d false s x && (!o || isAl d) && !isStar x && chkPar nm N s is ds xs
  | _, _, _ => false
def chkNs (N : List Str) (s : Sc) : List (Nat × Bool) → List Expr → Bool
  | [], [] => true
  | (i, _) :: is, e :: es => (match e with
    | .Name x _ => slB N i x && locB s x
    | _ => false) && chkNs N s is es
  | _, _ => false
def lkL (s : Sc) (x : Str) : Bool := match s.sc.names.lookup x with
  | some .local => true
  | _ => false
def isTupT : Expr → Bool
  | .Tuple _ _ _ => true
  | _ => false
def isLc : DE → Bool
  | .lc _ _ _ _ _ => true
  | .lco _ _ _ _ _ => true
  | _ => false
mutual
def chkS (nm : Nm) (N : List Str) (s : Sc) : DS → Stmt → Bool
  | .ex a, st => (match st with
    | .Expr e _ => !isComp e && chkE nm N a false s e
    | _ => false)
  | .asg t a, st => (match st with
    | .Assign tgs e _ => (match tgs with
      | [tg] => (match tg with
        | .Name x p => (match t with
          | .nm i => slB N i x && chkE nm N a false s e && (match swName (bkOf s.sc) s.sc e x p with
            | some false => locB s x
            | some true => lkL s x && isLc a
            | none => false)
          | _ => false)
        | tg => !isName tg && !isStar tg && !isTupT e && chkG N t s tg && chkE nm N a false s e)
      | _ => false)
    | _ => false)
  | .own i a, st => (match st with
    | .Assign tgs e _ => (match tgs with
      | [tg] => (match tg with
        | .Name x p => slB N i x && isAl a && chkE nm N a false s e && (match swName (bkOf s.sc) s.sc e x p with
            | some false => locB s x
            | some true => lkL s x && isLc a
            | none => false)
        | _ => false)
      | _ => false)
    | _ => false)
  | .par is es, st => (match st with
    | .Assign tgs e _ => (match tgs with
      | [tg] => (match tg, e with
        | .Tuple ts _ _, .Tuple xs _ _ => chkPar nm N s is es xs && decide (is.length ≤ 100) && (match swapB (bkOf s.sc) s.sc ts xs with
          | some none => chkNs N s is ts
          | some (some ns) => (match is, ts, xs with
            | [(i, _), (j, _)], [.Name x _, .Name y _], [_, _] => decide (ns = [x, y]) && slB N i x && slB N j y && decide (i ≠ j) && lkL s x && lkL s y
            | [(i, _), (j, _), (l, _)], [.Name x _, .Name y _, .Name z _], [_, _, _] => decide (ns = [x, y, z]) && slB N i x && slB N j y && slB N l z && decide (i ≠ j) && decide (i ≠ l) && decide (j ≠ l) && lkL s x && lkL s y && lkL s z
            | _, _, _ => false)
          | none => false)
        | _, _ => false)
      | _ => false)
    | _ => false)
  | .sub o i a, st => (match st with
    | .Assign tgs e _ => (match tgs with
      | [tg] => (match tg with
        | .Subscript eo eb _ => !isSl eb && chkE nm N a false s e && chkE nm N o false s eo && chkE nm N i false s eb
        | _ => false)
      | _ => false)
    | _ => false)
  | .atr o f a, st => (match st with
    | .Assign tgs e _ => (match tgs with
      | [tg] => (match tg with
        | .Attribute eo g _ => f == g && nm.fl.contains f && chkE nm N a false s e && chkE nm N o false s eo
        | _ => false)
      | _ => false)
    | _ => false)
  | .ret a, st => (match st with
    | .Return (some e) _ => chkE nm N a false s e
    | _ => false)
  | .retN, st => (match st with
    | .Return none _ => true
    | _ => false)
  | .ite c a b, st => (match st with
    | .If ec xs ys _ => chkE nm N c true s ec && chkSs nm N s a xs && chkSs nm N s b ys
    | _ => false)
  | .whl c b, st => (match st with
    | .While ec xs ys _ => ys.isEmpty && chkE nm N c true s ec && chkSs nm N s b xs
    | _ => false)
  | .for t it b, st => (match st with
    | .For tg iter xs ys _ => ys.isEmpty && chkG N t s tg && chkI nm N it s tg iter && !isSetE iter && chkSs nm N s b xs
    | _ => false)
  | .rai _ _, st => true
  | .nev, st => true
  | .pas, st => (match st with
    | .Pass _ => true
    | .Expr (.Constant (.str _) _ _) _ => true
    | _ => false)
  | .brk, st => (match st with
    | .Break _ => true
    | _ => false)
  | .cnt, st => (match st with
    | .Continue _ => true
    | _ => false)
def chkSs (nm : Nm) (N : List Str) (s : Sc) : List DS → List Stmt → Bool
  | [], xs => xs.isEmpty
  | d :: ds, xs => (match xs with
    | x :: xs => chkS nm N s d x && chkSs nm N s ds xs
    | [] => false)
end
section
variable {E : En} {X : Cx} {s : Sc} {L : Nat}
theorem Xo.lk (o : Xo E X s) {x : Str} (h : lkL s x = true) : X.env.scope.names.lookup x = some .local := by
  rw [o.sc]
  unfold lkL at h
  split at h
  · assumption
  · cases h
theorem Xo.bk (o : Xo E X s) : X.env.blockKind = bkOf s.sc := by
  show bkOf X.env.scope = _
  rw [o.sc]
theorem Xo.sw (o : Xo E X s) {e : Expr} {x : Str} {p : Pos} {l : Nat} {b : Bool} (h : swName (bkOf s.sc) s.sc e x p = some b) : swapsWith e (some (.Name x p)) l X.env = pure b := by
  refine swName_ok ?_
  rw [o.bk, o.sc]
  exact h
theorem Xo.sst (o : Xo E X s) {ts vs : List Expr} {kt k2 : Nat} {pt p2 : Pos} {r : Option (List Str)} (h : swapB (bkOf s.sc) s.sc ts vs = some r) : swappedStores [.Tuple ts kt pt] (.Tuple vs k2 p2) X.env = pure r := by
  refine swapB_ok ?_
  rw [o.bk, o.sc]
  exact h
/-- [..] into a name on one line -/
theorem ok_lcS (o : Xo E X s) {i : Nat} {x : Str} {p pos : Pos} {a : DE} {e : Expr} (hl : isLc a = true) (hi : slB E.N i x = true) (hx : lkL s x = true) (h : chkE E.nm E.N a false s e = true) (hw : swName (bkOf s.sc) s.sc e x p = some true) :
    PS X (.Assign [.Name x p] e pos) (tS X.K E.cA (xS E.gv E.c L (.asg (.nm i) a))) ∧ PS X (.Assign [.Name x p] e pos) (tS X.K E.cA (xS E.gv E.c L (.own i a))) := by
  have hsw := o.sw (l := pos.line) hw
  cases a with
  | lc own tg it cs elt =>
    unfold chkE at h
    split at h
    · split at h
      · simp only [Bool.and_eq_true, decide_eq_true_eq, Bool.not_eq_true'] at h
        obtain ⟨⟨⟨⟨⟨⟨⟨⟨rfl, h1⟩, h2⟩, h3⟩, h4⟩, h5⟩, h6⟩, h7⟩, h8⟩ := h
        have hg := fun sh H C cl fp => okG (o.blk sh H _ C cl fp) tg _ h5
        have ht := fun sh H C cl fp => okC cs _ _ _ (o.blk sh H _ C cl fp) h7
        have he := fun sh H C cl fp => (okE elt _ _ false _ (o.blk sh H _ C cl fp) h8).toE
        exact ⟨x_lcA o.calm o.nd' (o.blkOk h2) h1 (mem_of_all h3) hg ht he (fold_ok h4) (okI it X s _ _ o h6) (o.sl hi) (o.lk hx) hsw,
          x_lcO o.calm o.nd' (o.blkOk h2) h1 (mem_of_all h3) hg ht he (fold_ok h4) (okI it X s _ _ o h6) (o.sl hi) (o.lk hx) hsw⟩
      · cases h
    · cases h
  | lco own tg sl cs elt =>
    unfold chkE at h
    split at h
    · split at h
      · simp only [Bool.and_eq_true, decide_eq_true_eq, Bool.not_eq_true'] at h
        obtain ⟨⟨⟨⟨⟨⟨⟨⟨rfl, h1⟩, h2⟩, h3⟩, h4⟩, h5⟩, h6⟩, h7⟩, h8⟩ := h
        split at h6
        · simp only [Bool.and_eq_true] at h6
          have hg := fun sh H C cl fp => okG (o.blk sh H _ C cl fp) tg _ h5
          have ht := fun sh H C cl fp => okC cs _ _ _ (o.blk sh H _ C cl fp) h7
          have he := fun sh H C cl fp => (okE elt _ _ false _ (o.blk sh H _ C cl fp) h8).toE
          exact ⟨x_lcoA o.calm o.nd' (o.blkOk h2) h1 (mem_of_all h3) hg ht he (fold_ok rfl) (by simpa using h4) (i_own (o.sl h6.1.1) (o.vis h6.1.2) (nmB_d h6.2) (nmB_c h6.2)) (o.sl hi) (o.lk hx) hsw,
            x_lcoO o.calm o.nd' (o.blkOk h2) h1 (mem_of_all h3) hg ht he (fold_ok rfl) (by simpa using h4) (i_own (o.sl h6.1.1) (o.vis h6.1.2) (nmB_d h6.2) (nmB_c h6.2)) (o.sl hi) (o.lk hx) hsw⟩
        · cases h6
      · cases h
    · cases h
  | _ => cases hl
theorem ok_par (o : Xo E X s) : ∀ {is : List (Nat × Bool)} {ds : List DE} {xs : List Expr}, chkPar E.nm E.N s is ds xs = true → PA X xs (tO'' X.K E.cA is (evalPar E.gv E.c is ds))
  | [], [], [], _ => pr_nil
  | (i, b) :: is, d :: ds, x :: xs, h => by
    unfold chkPar at h
    simp only [Bool.and_eq_true, Bool.not_eq_true'] at h
    obtain ⟨⟨⟨h1, h2⟩, h3⟩, h4⟩ := h
    have hE := okE d X s false _ o h1
    cases b with
    | false => exact pr_val hE.toE (ok_par o h4) h3
    | true => exact pr_own (hE.toA (by simpa using h2)) (ok_par o h4) h3
  | [], [], _ :: _, h => by cases h
  | [], _ :: _, _, h => by cases h
  | _ :: _, [], _, h => by cases h
  | _ :: _, _ :: _, [], h => by cases h
theorem ok_ns (o : Xo E X s) : ∀ {is : List (Nat × Bool)} {es : List Expr}, chkNs E.N s is es = true → PGs X es (gNms is) ∧ es.any isStar = false ∧ es.length = is.length ∧ ∀ i ∈ is, i.1 < X.N.length
  | [], [], _ => ⟨gn_nil, rfl, rfl, fun i h => by cases h⟩
  | (i, b) :: is, e :: es, h => by
    unfold chkNs at h
    rw [Bool.and_eq_true] at h
    obtain ⟨h1, h2⟩ := h
    obtain ⟨q1, q2, q3, q4⟩ := ok_ns o h2
    split at h1
    · simp only [Bool.and_eq_true] at h1
      obtain ⟨l1, l2⟩ := o.loc h1.2
      refine ⟨gn_cons o.nd' (o.sl h1.1) l1 l2 q1, by rw [List.any_cons, q2]; rfl, by rw [List.length_cons, List.length_cons, q3], fun j hj => ?_⟩
      rcases List.mem_cons.mp hj with z | hj
      · rw [z]; exact get_lt (o.sl h1.1)
      · exact q4 j hj
    · cases h1
  | [], _ :: _, h => by cases h
  | _ :: _, [], h => by cases h
theorem sw_sole {env : Env} {e t : Expr} {l : Nat} (h : isName t = false) : swapsWithSole [t] e l env = pure false := sw_other h
theorem assign_sub {o i : Expr} {p : Pos} {env : Env} (h : isSl i = false) : ∀ v, assign (.Subscript o i p) env v = (do
      let ov ← holding [v] (eval o env)
      let iv ← holding [v, ov] (eval i env)
      standAt p
      holding [v, ov, iv] (setItem ov iv v)
      release [v, ov, iv] []) := by
  intro v
  cases i <;> first | rfl | (cases h)
mutual
theorem okS (o : Xo E X s) (hp : PassesOwn (model X.prog X.w) X.A X.env X.xe) : ∀ (d : DS) (st : Stmt), chkS E.nm E.N s d st = true → PS X st (tS X.K E.cA (xS E.gv E.c L d))
  | .ex a, st, h => by
    unfold chkS at h
    split at h
    · simp only [Bool.and_eq_true, Bool.not_eq_true'] at h
      exact x_ex (okE a X s false _ o h.2).toE (sw_none h.1)
    · cases h
  | .asg t a, st, h => by
    unfold chkS at h
    split at h
    · split at h
      · split at h
        · split at h
          · simp only [Bool.and_eq_true] at h
            obtain ⟨⟨h1, h2⟩, h3⟩ := h
            split at h3
            · rename_i hw
              obtain ⟨l1, l2⟩ := o.loc h3
              exact x_nm o.nd' (o.sl h1) l1 l2 (okE a X s false _ o h2).toE (o.sw hw)
            · rename_i hw
              simp only [Bool.and_eq_true] at h3
              exact (ok_lcS o h3.2 h1 h3.1 h2 hw).1
            · cases h3
          · cases h
        · simp only [Bool.and_eq_true, Bool.not_eq_true'] at h
          obtain ⟨⟨⟨⟨h1, h2⟩, h3⟩, h4⟩, h5⟩ := h
          refine x_asg (okE a X s false _ o h5).toE (okG o t _ h4) (sw_sole h1) (sst_none (.inr fun vs k p z => ?_)) h2
          rw [z] at h3
          cases h3
      · cases h
    · cases h
  | .own i a, st, h => by
    unfold chkS at h
    split at h
    · split at h
      · split at h
        · simp only [Bool.and_eq_true] at h
          obtain ⟨⟨⟨h1, h0⟩, h2⟩, h3⟩ := h
          split at h3
          · rename_i hw
            obtain ⟨l1, l2⟩ := o.loc h3
            exact x_own o.nd' (o.sl h1) l1 l2 ((okE a X s false _ o h2).toA h0) (o.sw hw)
          · rename_i hw
            simp only [Bool.and_eq_true] at h3
            exact (ok_lcS o h3.2 h1 h3.1 h2 hw).2
          · cases h3
        · cases h
      · cases h
    · cases h
  | .par is es, st, h => by
    unfold chkS at h
    split at h
    · split at h
      · split at h
        · simp only [Bool.and_eq_true, decide_eq_true_eq] at h
          obtain ⟨⟨h1, hz⟩, h2⟩ := h
          have ha := ok_par o h1
          split at h2
          · rename_i hw
            obtain ⟨q1, q2, q3, q4⟩ := ok_ns o h2
            exact x_parN o.calm q1 q2 q3 (by rw [sizeLine_eq]; omega) q4 ha (o.sst hw) (sw_sole rfl)
          · rename_i ns hw
            split at h2
            · simp only [Bool.and_eq_true, decide_eq_true_eq] at h2
              obtain ⟨⟨⟨⟨⟨rfl, k1⟩, k2⟩, k3⟩, k4⟩, k5⟩ := h2
              exact x_par2 o.calm o.nd' (o.sl k1) (o.sl k2) k3 (o.lk k4) (o.lk k5) ha (o.sst hw) (sw_sole rfl)
            · simp only [Bool.and_eq_true, decide_eq_true_eq] at h2
              obtain ⟨⟨⟨⟨⟨⟨⟨⟨⟨rfl, k1⟩, k2⟩, k3⟩, n1⟩, n2⟩, n3⟩, k4⟩, k5⟩, k6⟩ := h2
              exact x_par3 o.calm o.nd' (o.sl k1) (o.sl k2) (o.sl k3) n1 n2 n3 (o.lk k4) (o.lk k5) (o.lk k6) ha (o.sst hw) (sw_sole rfl)
            · cases h2
          · cases h2
        · cases h
      · cases h
    · cases h
  | .sub ob i a, st, h => by
    unfold chkS at h
    split at h
    · split at h
      · split at h
        · simp only [Bool.and_eq_true, Bool.not_eq_true'] at h
          obtain ⟨⟨⟨h1, h2⟩, h3⟩, h4⟩ := h
          exact x_sub o.hu1 (okE a X s false _ o h2).toE (okE ob X s false _ o h3).toE (okE i X s false _ o h4).toE (sw_sole rfl) (sst_none (.inl rfl)) (assign_sub h1)
        · cases h
      · cases h
    · cases h
  | .atr ob f a, st, h => by
    unfold chkS at h
    split at h
    · split at h
      · split at h
        · simp only [Bool.and_eq_true] at h
          obtain ⟨⟨⟨h1, h2⟩, h3⟩, h4⟩ := h
          obtain rfl := beq_iff_eq.mp h1
          have hf : f ∈ E.nm.fl := by simpa using h2
          exact x_atr (fun C a ha => ⟨(o.kit.cl C a ha).1, o.at' C a ha f hf⟩) (okE a X s false _ o h3).toE (okE ob X s false _ o h4).toE (sw_other rfl)
        · cases h
      · cases h
    · cases h
  | .ret a, st, h => by
    unfold chkS at h
    split at h
    · exact x_ret (okE a X s false _ o h).toE
    · cases h
  | .retN, st, h => by
    unfold chkS at h
    split at h
    · exact x_retN
    · cases h
  | .ite c a b, st, h => by
    unfold chkS at h
    split at h
    · simp only [Bool.and_eq_true] at h
      exact x_ite (okE c X s true _ o h.1.1).toT (okSs o hp a _ h.1.2) (okSs o hp b _ h.2)
    · cases h
  | .whl c b, st, h => by
    unfold chkS at h
    split at h
    · simp only [Bool.and_eq_true, List.isEmpty_iff] at h
      obtain ⟨⟨rfl, h1⟩, h2⟩ := h
      exact x_whl hp (okE c X s true _ o h1).toT (okSs o hp b _ h2)
    · cases h
  | .for t it b, st, h => by
    unfold chkS at h
    split at h
    · simp only [Bool.and_eq_true, List.isEmpty_iff, Bool.not_eq_true'] at h
      obtain ⟨⟨⟨⟨rfl, h1⟩, h2⟩, h3⟩, h4⟩ := h
      exact x_for hp o.calm (okI it X s _ _ o h2) (okG o t _ h1) (okSs o hp b _ h4) (fold_ok h3)
    · cases h
  | .rai C es, st, h => x_rai
  | .nev, st, h => x_nev
  | .pas, st, h => by
    unfold chkS at h
    split at h
    · exact x_pas
    · exact x_doc
    · cases h
  | .brk, st, h => by
    unfold chkS at h
    split at h
    · exact x_brk
    · cases h
  | .cnt, st, h => by
    unfold chkS at h
    split at h
    · exact x_cnt
    · cases h
theorem okSs (o : Xo E X s) (hp : PassesOwn (model X.prog X.w) X.A X.env X.xe) : ∀ (ds : List DS) (xs : List Stmt), chkSs E.nm E.N s ds xs = true → PSs X xs (tS X.K E.cA (xSs E.gv E.c L ds))
  | [], xs, h => by
    unfold chkSs at h
    have e := List.isEmpty_iff.mp h
    subst e
    exact x_nil
  | d :: ds, xs, h => by
    unfold chkSs at h
    split at h
    · simp only [Bool.and_eq_true] at h
      exact x_cons (okS o hp d _ h.1) (okSs o hp ds _ h.2)
    · cases h
end
end
end Mr
end
section
set_option Elab.async false
set_option linter.all false
set_option maxRecDepth 100000
/-! M2w: the defs of a program keep their promises. -/
namespace Mr
open PySem PySem.Spec PyProof.Rows L2
section
variable {K : PySem.W.Frag} {cA : Nat → Option Addr} {H : Hp} {g : Wd} {fr : Fm} {σ : L2.St}
theorem Rel.drop (R : Rel K cA H g fr σ) : Rel K cA H g ⟨[], fr.st⟩ [] :=
  ⟨fun i d h => by simp at h, fun i d h => by simp at h, fun i j d e a h => by simp at h, R.sto, R.cel, R.nod, R.fok, R.pok, rfl⟩
theorem Rel.start {st : List D} {N : List Str} {ds : List D} {vs : List V} (R : Rel K cA H g ⟨[], st⟩ []) (r : RepL K cA H g ds vs) (hl : vs.length ≤ N.length) :
    Rel K cA H g ⟨ds.map Sl.val ++ unS (N.length - vs.length), st⟩ (L2.start N vs) := by
  have hlen : ds.length = vs.length := r.len
  have un : ∀ {i : Nat} {s : Sl}, (ds.map Sl.val ++ unS (N.length - vs.length))[i]? = some s → s ≠ .un → ∃ d, ds[i]? = some d ∧ s = .val d := fun {i s} h hs => by
    by_cases hi : i < ds.length
    · rw [List.getElem?_append_left (by rw [List.length_map]; exact hi), List.getElem?_map, List.getElem?_eq_getElem hi] at h
      exact ⟨_, List.getElem?_eq_getElem hi, (Option.some.inj h).symm⟩
    · rw [List.getElem?_append_right (by rw [List.length_map]; omega)] at h
      unfold unS at h
      rw [List.getElem?_replicate] at h
      split at h
      · exact absurd (Option.some.inj h).symm hs
      · cases h
  refine ⟨fun i d h => ?_, fun i d h => ?_, fun i j d e a h => ?_, R.sto, R.cel, R.nod, R.fok, R.pok, ?_⟩
  · obtain ⟨d', h1, h2⟩ := un h (fun z => by cases z)
    cases h2
    obtain ⟨w, e1, r1⟩ := r.get h1
    refine ⟨w, ?_, r1⟩
    unfold L2.start
    rw [List.getElem?_append_left (by rw [List.length_map]; exact get_lt e1), List.getElem?_map, e1]
    rfl
  · obtain ⟨d', _, h2⟩ := un h (fun z => by cases z)
    cases h2
  · obtain ⟨d', _, h2⟩ := un h (fun z => by cases z)
    cases h2
  · show (ds.map Sl.val ++ unS (N.length - vs.length)).length = _
    unfold L2.start unS
    rw [List.length_append, List.length_append, List.length_map, List.length_map, List.length_replicate, List.length_replicate, hlen]
end
/-- what the module says, and how -/
structure Mod0 (K : PySem.W.Frag) (mg : Str → Option Value) (nm : Nm) (cA : Nat → Option Addr) (gv : Nat → Option D) : Prop where
  kit : Kit K cA
  at' : ∀ C a, cA C = some a → ∀ f ∈ nm.fl, NoAttr K a f
  fre : ∀ x ∈ nm.fre, mg x = none
  gl : ∀ (i : Nat) (x : Str) (d : D), nm.gl[i]? = some x → gv i = some d → ∃ u v, mg x = some u ∧ RelV v u ∧ ∀ H g, Rep K cA H g d v
  fac : ∀ x, nm.fac = some x → mg x = some (.builtin "math.factorial")
structure FD (K : PySem.W.Frag) (mg : Str → Option Value) (nm : Nm) (P : Prog) (f : Nat) (x : Str) (np : Nat) (qual : Str) (params : Arguments) (body : List Stmt) (scope : Scope) (kws : List (Str × V)) (a : Addr) (fd : FuncData) (N ps : List Str) (d : Def) : Prop where
  mg : mg x = some (.ref a)
  fn : FunD K x qual params body scope [] kws a fd
  sc : FnScope N ps scope
  pl : ps.length = np
  bi : Binds K fd ps []
  df : P.defs[f]? = some d
  dn : d.np = np
  dl : d.nl = N.length
  ch : chkSs nm N ⟨scope, none⟩ d.body body = true
structure CD (K : PySem.W.Frag) (mg : Str → Option Value) (nm : Nm) (cA : Nat → Option Addr) (P : Prog) (C : Nat) (x : Str) (np : Nat) (iname qual : Str) (params : Arguments) (body : List Stmt) (scope : Scope) (kws : List (Str × V)) (ca a : Addr) (fd : FuncData) (N ps : List Str) (d : Def) : Prop where
  cad : cA C = some ca
  mg : mg x = some (.ref ca)
  mkc : Mk K ca a
  fn : FunD K iname qual params body scope [] kws a fd
  sc : FnScope N ps scope
  pl : ps.length = np + 1
  bi : Binds K fd ps []
  df : P.inits[C]? = some d
  dn : d.np = np + 1
  dl : d.nl = N.length
  ch : chkSs nm N ⟨scope, none⟩ d.body body = true
section
variable {prog : Program} {w : World} {K : PySem.W.Frag} {mg : Str → Option Value} {base : Heap} {nm : Nm} {cA : Nat → Option Addr} {P : Prog} {L n k : Nat}
theorem rcF.imp {r : RC} {g : Wd} {H : Hp} {Q Q' : VK} (h : rcF K cA r g H Q) (i : ∀ v H', Q v H' → Q' v H') : rcF K cA r g H Q' := by
  cases r with
  | ok d st => exact fun g' v H' l kk R p => i _ _ (h g' v H' l kk R p)
  | exc C ds st => exact h
  | stk => exact h
/-- the context of a body -/
theorem xo_of (M : Mod0 K mg nm cA (fun g => P.gl[g]?)) (F : Fns prog w K mg base nm cA (callD P L n) k) {N ps : List Str} {scope : Scope} (S : FnScope N ps scope) {qual : Str} {f : Addr} {cdv : Value} {A : Around} {outer : List Env} {s : Shared} {H : Hp} {E : XK}
    (hr : Room (k + 1) (A.deeper (envOfC qual scope s.heap.objs.size f cdv))) : Xo ⟨nm, N, cA, fun g => P.gl[g]?, callD P L n, k⟩ (cxOf CX0 prog w K mg base N qual scope f cdv A outer s H E) ⟨scope, none⟩ where
  n := rfl
  nd := S.nd
  sc := rfl
  fnk := fun _ _ => rfl
  calm := rfl
  room := hr
  fns := F
  kit := M.kit
  at' := M.at'
  fre := M.fre
  gl := M.gl
  fac := M.fac
theorem fn_ok' (M : Mod0 K mg nm cA (fun g => P.gl[g]?)) (F : Fns prog w K mg base nm cA (callD P L n) k) {f np : Nat} {x qual : Str} {params : Arguments} {body : List Stmt} {scope : Scope} {kws : List (Str × V)} {a : Addr} {fd : FuncData} {N ps : List Str} {d : Def}
    (h : FD K mg nm P f x np qual params body scope kws a fd N ps d) : FnOk prog w K mg base CX0 (k + 2) a fd ps (spF K cA ps.length ((callD P L (n + 1)).fn f)) := by
  refine h.fn.ok h.sc (fun vs H Q E q => q.1) fun cdv A outer s H vs Q E hr hsp => ?_
  obtain ⟨hl, g, ds, st, rl, R0, hc⟩ := hsp
  have o := xo_of (prog := prog) (w := w) (base := base) (outer := outer) (H := H) (E := E) M F h.sc hr
  refine ⟨_, okSs (L := L) o (passes_of rfl) d.body body h.ch, ?_⟩
  have hpl : ps.length ≤ N.length := by
    have := congrArg List.length h.sc.pre
    rw [List.length_take] at this
    omega
  have R1 := R0.start (N := N) rl (by rw [hl]; exact hpl)
  refine ⟨g, _, R1, ?_⟩
  have hdl : ds.length = d.np := by rw [rl.len, hl, h.pl, h.dn]
  have e0 : (callD P L (n + 1)).fn f ds st = endFn (xSs (fun g => P.gl[g]?) (callD P L n) L d.body ⟨ds.map Sl.val ++ unS (d.nl - d.np), st⟩) := by
    show (match P.defs[f]? with
      | some d => if ds.length = d.np then endFn (xSs (fun g => P.gl[g]?) (callD P L n) L d.body ⟨ds.map Sl.val ++ unS (d.nl - d.np), st⟩) else .stk
      | none => .stk) = _
    rw [h.df]
    show (if ds.length = d.np then _ else _) = _
    rw [if_pos hdl]
  have e1 : N.length - vs.length = d.nl - d.np := by rw [h.dl, ← hdl, rl.len]
  rw [e0, ← e1] at hc
  show Fst K cA _ (xSs (fun g => P.gl[g]?) (callD P L n) L d.body ⟨ds.map Sl.val ++ unS (N.length - vs.length), st⟩) g H
  cases er : xSs (fun g => P.gl[g]?) (callD P L n) L d.body ⟨ds.map Sl.val ++ unS (N.length - vs.length), st⟩ with
  | stk => rw [er] at hc; exact hc.elim
  | exc C es fr => rw [er] at hc; exact hc.elim
  | ok fl fr =>
    rw [er] at hc
    intro g' σ' H' l kk R'
    cases fl with
    | nx => exact (show rcF K cA (.ok .non fr.st) g H Q from hc) g' .non H' l kk R'.drop rfl
    | ret dv => exact fun v rv => (show rcF K cA (.ok dv fr.st) g H Q from hc) g' v H' l kk R'.drop rv
    | brk => exact (show False from hc).elim
    | cnt => exact (show False from hc).elim
theorem ini_ok' (M : Mod0 K mg nm cA (fun g => P.gl[g]?)) (F : Fns prog w K mg base nm cA (callD P L n) k) {C np : Nat} {x iname qual : Str} {params : Arguments} {body : List Stmt} {scope : Scope} {kws : List (Str × V)} {ca a : Addr} {fd : FuncData} {N ps : List Str} {d : Def}
    (h : CD K mg nm cA P C x np iname qual params body scope kws ca a fd N ps d) : FnOk prog w K mg base CX0 (k + 2) a fd ps (spI K cA ps.length C ((callD P L (n + 1)).ini C)) := by
  refine h.fn.ok h.sc (fun vs H Q E q => q.1) fun cdv A outer s H vs Q E hr hsp => ?_
  obtain ⟨hl, xa, ws, rfl, g, ds, st, rl, R0, cx, nf, np', nm', hc⟩ := hsp
  have o := xo_of (prog := prog) (w := w) (base := base) (outer := outer) (H := H) (E := E) M F h.sc hr
  refine ⟨_, okSs (L := L) o (passes_of rfl) d.body body h.ch, ?_⟩
  have hpl : ps.length ≤ N.length := by
    have := congrArg List.length h.sc.pre
    rw [List.length_take] at this
    omega
  -- the new object is a cell
  have Rx : Rel K cA H (g.cell xa) ⟨[], st ++ [.ins C [] []]⟩ [] := R0.live cx ⟨nf, np', nm', fun i d h => by simp at h⟩
  have l0 : g.le (g.cell xa) := ⟨fun _ h => h, rfl, [xa], rfl⟩
  have rx : Rep K cA H (g.cell xa) (.ref st.length) (.ref xa) := by
    refine ⟨xa, ?_, rfl⟩
    show (g.m ++ [xa])[st.length]? = some xa
    have e : g.m.length = st.length := R0.sto
    rw [← e, List.getElem?_append_right (Nat.le_refl _), Nat.sub_self]
    rfl
  have rl2 : RepL K cA H (g.cell xa) (.ref st.length :: ds) (.ref xa :: ws) := RepL.cons rx (rl.mono l0 (fun _ _ => rfl) _ _)
  have R1 := Rx.start (N := N) rl2 (by rw [hl]; exact hpl)
  refine ⟨g.cell xa, _, R1, ?_⟩
  have hdl : ds.length + 1 = d.np := by
    have e1 : (V.ref xa :: ws).length = np + 1 := by rw [hl, h.pl]
    rw [rl.len, h.dn, ← e1]
    rfl
  have e0 : (callD P L (n + 1)).ini C ds st = endIni st.length (xSs (fun g => P.gl[g]?) (callD P L n) L d.body ⟨(D.ref st.length :: ds).map Sl.val ++ unS (d.nl - d.np), st ++ [D.ins C [] []]⟩) := by
    show (match P.inits[C]? with
      | some d => if ds.length + 1 = d.np then endIni st.length (xSs (fun g => P.gl[g]?) (callD P L n) L d.body ⟨(D.ref st.length :: ds).map Sl.val ++ unS (d.nl - d.np), st ++ [D.ins C [] []]⟩) else .stk
      | none => .stk) = _
    rw [h.df]
    show (if ds.length + 1 = d.np then _ else _) = _
    rw [if_pos hdl]
  have e1 : N.length - (V.ref xa :: ws).length = d.nl - d.np := by
    rw [h.dl, ← hdl, rl.len]
    rfl
  rw [e0, ← e1] at hc
  show Fst K cA _ (xSs (fun g => P.gl[g]?) (callD P L n) L d.body ⟨(D.ref st.length :: ds).map Sl.val ++ unS (N.length - (V.ref xa :: ws).length), st ++ [D.ins C [] []]⟩) (g.cell xa) H
  cases er : xSs (fun g => P.gl[g]?) (callD P L n) L d.body ⟨(D.ref st.length :: ds).map Sl.val ++ unS (N.length - (V.ref xa :: ws).length), st ++ [D.ins C [] []]⟩ with
  | stk => rw [er] at hc; exact hc.elim
  | exc C es fr => rw [er] at hc; exact hc.elim
  | ok fl fr =>
    rw [er] at hc
    intro g' σ' H' l kk R'
    cases fl with
    | nx =>
      refine (show rcF K cA (.ok (.ref st.length) fr.st) (g.cell xa) H (fun v H' => v = .ref xa → Q .non H') from hc) g' (.ref xa) H' l kk R'.drop ?_ rfl
      exact rx.mono l kk.f
    | ret dv => exact (show False from hc).elim
    | brk => exact (show False from hc).elim
    | cnt => exact (show False from hc).elim
/-- all of them, by the depth of calls -/
theorem fns_ok (M : Mod0 K mg nm cA (fun g => P.gl[g]?))
    (hf : ∀ (f : Nat) (x : Str) (np : Nat), nm.fn[f]? = some (x, np) → ∃ qual params body scope kws a fd N ps d, FD K mg nm P f x np qual params body scope kws a fd N ps d)
    (hc : ∀ (C : Nat) (x : Str) (np : Nat), nm.cl[C]? = some (x, np) → ∃ iname qual params body scope kws ca a fd N ps d, CD K mg nm cA P C x np iname qual params body scope kws ca a fd N ps d) :
    ∀ n : Nat, Fns prog w K mg base nm cA (callD P L n) (2 * n)
  | 0 => by
    refine ⟨fun f x np h => ?_, fun C x np h => ?_⟩
    · obtain ⟨qual, params, body, scope, kws, a, fd, N, ps, d, F⟩ := hf f x np h
      exact ⟨a, fd, ps, F.pl, F.mg, F.fn.kp, ⟨fun vs H Q E q => q.1, fun A outer s H args us vs Q E hr he hb r hsp => by
        obtain ⟨_, g, ds, st, _, _, z⟩ := hsp
        exact z.elim⟩, F.bi⟩
    · obtain ⟨iname, qual, params, body, scope, kws, ca, a, fd, N, ps, d, F⟩ := hc C x np h
      exact ⟨ca, a, fd, ps, F.pl, F.cad, F.mg, F.mkc, ⟨fun vs H Q E q => q.1, fun A outer s H args us vs Q E hr he hb r hsp => by
        obtain ⟨_, x', ws, _, g, ds, st, _, _, _, _, _, _, z⟩ := hsp
        exact z.elim⟩, F.bi⟩
  | n + 1 => by
    have ih := fns_ok M hf hc n
    refine ⟨fun f x np h => ?_, fun C x np h => ?_⟩
    · obtain ⟨qual, params, body, scope, kws, a, fd, N, ps, d, F⟩ := hf f x np h
      exact ⟨a, fd, ps, F.pl, F.mg, F.fn.kp, fn_ok' M ih F, F.bi⟩
    · obtain ⟨iname, qual, params, body, scope, kws, ca, a, fd, N, ps, d, F⟩ := hc C x np h
      exact ⟨ca, a, fd, ps, F.pl, F.cad, F.mg, F.mkc, ini_ok' M ih F, F.bi⟩
end
end Mr
end
section
set_option Elab.async false
set_option linter.all false
set_option maxRecDepth 100000
/-! M2x: what is checked of a def's scope. -/
namespace Mr
open PySem PySem.Spec PyProof.Rows L2
def fnScB (N ps : List Str) (sc : Scope) : Bool :=
  (match sc.kind with
    | .function => true
    | _ => false) && !sc.isCoroutine && !sc.isGenerator && decide (N.Nodup) && decide (N.take ps.length = ps) && ps.all (fun x => match sc.names.lookup x with
    | some .local => true
    | some .cell => true
    | _ => false) && sc.names.all fun y => match y.2 with
    | .free => false
    | _ => true
theorem fnScB_ok {N ps : List Str} {sc : Scope} (h : fnScB N ps sc = true) : FnScope N ps sc := by
  unfold fnScB at h
  simp only [Bool.and_eq_true, decide_eq_true_eq, Bool.not_eq_true', List.all_eq_true] at h
  obtain ⟨⟨⟨⟨⟨⟨h1, h2⟩, h3⟩, h4⟩, h5⟩, h6⟩, h7⟩ := h
  refine ⟨?_, h2, h3, h4, h5, fun x hx => ?_, fun y hy e => ?_⟩
  · split at h1
    · assumption
    · cases h1
  · have := h6 x hx
    split at this
    · exact .inl (by assumption)
    · exact .inr (by assumption)
    · cases this
  · have := h7 y hy
    rw [e] at this
    cases this
end Mr
end
section
set_option Elab.async false
set_option linter.all false
set_option maxRecDepth 100000
/-! M2z: the head by one Bool; a law's end. -/
namespace Mr
open PySem PySem.Spec PyProof.Rows L2
/-! ### what the module says -/
mutual
theorem repKB_ok {K : PySem.W.Frag} {cA : Nat → Option Addr} : ∀ (d : D) (u : Value), repKB K d u = true → ∃ v, RelV v u ∧ ∀ H g, Rep K cA H g d v
  | .non, u, h => by
    unfold repKB at h
    split at h
    · exact ⟨.non, rfl, fun _ _ => rfl⟩
    · cases h
  | .bl b, u, h => by
    unfold repKB at h
    split at h
    · exact ⟨.bl b, by rw [beq_iff_eq.mp h]; rfl, fun _ _ => rfl⟩
    · cases h
  | .int i, u, h => by
    unfold repKB at h
    split at h
    · exact ⟨.int i, ⟨_, by rw [beq_iff_eq.mp h]⟩, fun _ _ => rfl⟩
    · cases h
  | .str x, u, h => by
    unfold repKB at h
    split at h
    · exact ⟨.str x, ⟨_, by rw [beq_iff_eq.mp h]⟩, fun _ _ => rfl⟩
    · cases h
  | .ktup ds, u, h => by
    unfold repKB at h
    split at h
    · rename_i a
      split at h
      · rename_i o ho
        simp only [Bool.and_eq_true, decide_eq_true_eq] at h
        obtain ⟨h1, h2⟩ := h
        split at h2
        · rename_i its n hd
          simp only [Bool.and_eq_true, decide_eq_true_eq] at h2
          obtain ⟨vs, k1, k2⟩ := repKL_ok (cA := cA) ds _ h2.2
          exact ⟨.ref a, rfl, fun H g => ⟨a, vs, rfl, ⟨o, its, n, ho, h1, hd, h2.1, k1⟩, k2 H g⟩⟩
        · cases h2
      · cases h
    · cases h
  | .lst _, u, h => by unfold repKB at h; cases h
  | .tup _, u, h => by unfold repKB at h; cases h
  | .dK _ _, u, h => by unfold repKB at h; cases h
  | .dT _ _, u, h => by unfold repKB at h; cases h
  | .ins _ _ _, u, h => by unfold repKB at h; cases h
  | .ref _, u, h => by unfold repKB at h; cases h
  | .loc _, u, h => by unfold repKB at h; cases h
theorem repKL_ok {K : PySem.W.Frag} {cA : Nat → Option Addr} : ∀ (ds : List D) (us : List Value), repKL K ds us = true → ∃ vs, Vals vs us ∧ ∀ H g, RepL K cA H g ds vs
  | [], us, h => by
    unfold repKL at h
    have e := List.isEmpty_iff.mp h
    subst e
    exact ⟨[], .nil, fun _ _ => RepL.nil⟩
  | d :: ds, us, h => by
    unfold repKL at h
    split at h
    · simp only [Bool.and_eq_true] at h
      obtain ⟨v, r1, r2⟩ := repKB_ok (cA := cA) d _ h.1
      obtain ⟨vs, k1, k2⟩ := repKL_ok (cA := cA) ds _ h.2
      exact ⟨v :: vs, .cons r1 k1, fun H g => RepL.cons (r2 H g) (k2 H g)⟩
    · cases h
end
theorem glsB_ok {K : PySem.W.Frag} {cA : Nat → Option Addr} : ∀ {xs : List Str} {ds : List D}, glsB K xs ds = true → ∀ (i : Nat) (x : Str) (d : D), xs[i]? = some x → ds[i]? = some d → ∃ u v, PySem.W.nsIn K mainGlobals x = some (some u) ∧ RelV v u ∧ ∀ H g, Rep K cA H g d v
  | [], _, _, i, x, d, h, _ => by simp at h
  | _ :: _, [], _, i, x, d, _, h => by simp at h
  | y :: xs, e :: ds, hb, 0, x, d, h, k => by
    cases h
    cases k
    unfold glsB at hb
    rw [Bool.and_eq_true] at hb
    have h1 := hb.1
    split at h1
    · rename_i u hu
      obtain ⟨v, r1, r2⟩ := repKB_ok (cA := cA) _ u h1
      exact ⟨u, v, hu, r1, r2⟩
    · cases h1
  | y :: xs, e :: ds, hb, i + 1, x, d, h, k => by
    unfold glsB at hb
    rw [Bool.and_eq_true] at hb
    exact glsB_ok hb.2 i x d (by simpa using h) (by simpa using k)
/-- where the classes stand -/
def cAof (nm : Nm) (K : PySem.W.Frag) : Nat → Option Addr := fun C => (nm.cl[C]?).map fun p => He.ga K p.1
theorem cA_some {nm : Nm} {K : PySem.W.Frag} {C : Nat} {a : Addr} (h : cAof nm K C = some a) : ∃ p, nm.cl[C]? = some p ∧ a = He.ga K p.1 := by
  obtain ⟨p, h1, h2⟩ := map_some' h
  exact ⟨p, h1, h2.symm⟩
theorem mod_ok {nm : Nm} {P : Prog} {K : PySem.W.Frag} {h : Heap} {mg : Str → Option Value} (X : K.In h) (G : h.Ns mainGlobals mg) (c : okM nm P.gl K = true) :
    Mod0 K mg nm (cAof nm K) (fun g => P.gl[g]?) ∧ (∀ p ∈ nm.fn, mg p.1 = some (.ref (He.ga K p.1))) ∧ ∀ p ∈ nm.cl, mg p.1 = some (.ref (He.ga K p.1)) ∧ Mk K (He.ga K p.1) (He.ma K (He.ga K p.1) "__init__") := by
  unfold okM at c
  simp only [Bool.and_eq_true] at c
  obtain ⟨⟨⟨⟨⟨⟨c1, c2⟩, c3⟩, c4⟩, c5⟩, c6⟩, c7⟩ := c
  have cl : ∀ p ∈ nm.cl, clB nm K p.1 = true := fun p hp => List.all_eq_true.mp c3 p hp
  have cl' : ∀ {C : Nat} {a : Addr}, cAof nm K C = some a → ∃ x, a = He.ga K x ∧ clB nm K x = true := fun {C a} h => by
    obtain ⟨p, h1, h2⟩ := cA_some h
    exact ⟨p.1, h2, cl p (List.mem_of_getElem? h1)⟩
  refine ⟨⟨⟨fun t ht u hu => ?_, fun t ht C a hC => ?_, fun C a hC u hu => ?_, fun C a E b hC hE => ?_, fun C a hC => ?_⟩, fun C a hC f hf => ?_, fun x hx => ?_, fun i x d h1 h2 => ?_, fun x hx => ?_⟩, fun p hp => ?_, fun p hp => ?_⟩
  · exact of_decide_eq_true (List.all_eq_true.mp (List.all_eq_true.mp c6 t ht) u hu)
  · obtain ⟨x, rfl, k⟩ := cl' hC
    unfold clB at k
    simp only [Bool.and_eq_true] at k
    exact of_decide_eq_true (List.all_eq_true.mp k.1.2 t ht)
  · obtain ⟨x, rfl, k⟩ := cl' hC
    unfold clB at k
    simp only [Bool.and_eq_true] at k
    exact of_decide_eq_true (List.all_eq_true.mp k.2 u hu)
  · obtain ⟨p, h1, rfl⟩ := cA_some hC
    obtain ⟨q, h2, rfl⟩ := cA_some hE
    have m1 : (p, C) ∈ nm.cl.zipIdx := by
      rw [List.mem_zipIdx_iff_getElem?]
      exact h1
    have m2 : (q, E) ∈ nm.cl.zipIdx := by
      rw [List.mem_zipIdx_iff_getElem?]
      exact h2
    exact of_decide_eq_true (List.all_eq_true.mp (List.all_eq_true.mp c7 (p, C) m1) (q, E) m2)
  · obtain ⟨x, rfl, k⟩ := cl' hC
    unfold clB at k
    simp only [Bool.and_eq_true, decide_eq_true_eq] at k
    obtain ⟨⟨⟨⟨⟨⟨⟨⟨⟨k1, k2⟩, k3⟩, k4⟩, k5⟩, k6⟩, k7⟩, k8⟩, k9⟩, k10⟩ := k
    exact ⟨He.cls_ok k1, k4, k5, k6, k7⟩
  · obtain ⟨x, rfl, k⟩ := cl' hC
    unfold clB at k
    simp only [Bool.and_eq_true, decide_eq_true_eq] at k
    exact He.noat_ok (List.all_eq_true.mp k.1.1.2 f hf)
  · exact He.free_ok X G (List.all_eq_true.mp c1 x hx)
  · obtain ⟨u, v, k1, k2, k3⟩ := glsB_ok (cA := cAof nm K) c4 i x d h1 h2
    exact ⟨u, v, PySem.W.mg_of X G k1, k2, k3⟩
  · rw [hx] at c5
    exact PySem.W.mg_of X G (of_decide_eq_true c5)
  · exact He.glo_ok X G (List.all_eq_true.mp c2 p hp)
  · have k := cl p hp
    unfold clB at k
    simp only [Bool.and_eq_true, decide_eq_true_eq] at k
    obtain ⟨⟨⟨⟨⟨⟨⟨⟨⟨k1, k2⟩, k3⟩, k4⟩, k5⟩, k6⟩, k7⟩, k8⟩, k9⟩, k10⟩ := k
    exact ⟨He.glo_ok X G k3, He.mkr_ok k2⟩
/-! ### a law's end -/
theorem end_M {l : PySem.W.OpenLaw} {n k : Nat} {q : Program} {loose : List Str} {XP : (Str → Option Value) → Heap → Prop} {YP : World → Heap → Prop} {d : DefRec} {x : Str}
    (h63 : l.most = some n) (hsz : n ≤ sizeLine) (nodf : d.params.defaults = []) (room : Room k callerA)
    (F : ∀ (w : World) (mg : Str → Option Value) (fa : Addr) (h : Heap), YP w h → h.Ns mainGlobals mg → mg d.name = some (.ref fa) →
      ∃ (K : PySem.W.Frag) (cA : Nat → Option Addr) (fd : FuncData) (r : List D → List D → RC), K.In h ∧ (∀ (s : Shared) (u : Value), BindsTo s fd ⟨[u], []⟩ [(x, u)]) ∧
        (∀ ns : List Int, ns.length ≤ n → ∃ st, r [.lst (ns.map D.int)] [] = .ok (.bl true) st) ∧
        ∀ base : Heap, K.In base → base.Ns mainGlobals mg → FnOk l.prog w K mg base CX0 k fa fd [x] (spF K cA 1 r)) :
    PySem.W.WalkO q loose XP YP l.row.toRowW d [] (fun f vs => PySem.call f vs) := by
  refine Att.attach_call h63 nodf fun w s0 s1 mg mb fa ob pm cd doc ad vs ns G hY hob hdat hcode hname hscript hints hcount hgens => ?_
  obtain ⟨K, cA, fd, r, KX, hb, hr, hF⟩ := F w mg fa _ hY G.T.g hname
  refine law_call KX G.T.g G.T.b G.T.builtins G.T.nolimit hgens hscript hints (Nat.le_trans hcount hsz) room hF hb (fun H hO hS => ?_) fun H e s' z => z
  obtain ⟨st, hrun⟩ := hr ns hcount
  have hlen : ns.length ≤ sizeLine := Nat.le_trans hcount hsz
  have rl : ∀ g : Wd, RepL K cA H g (ns.map D.int) (ns.map V.int) := fun g => RepL.map D.int V.int (fun _ => rfl) ns
  refine ⟨rfl, ⟨fun b => H b ≠ none, fun _ => False, []⟩, [.lst (ns.map D.int)], [], RepL.one ?_, ?_, ?_⟩
  · refine ⟨ad, ns.map V.int, rfl, ?_, rl _⟩
    rcases hS with hS | ⟨o, its, m, hk, hc, hd, hs, hz, rv⟩
    · refine .inl ⟨?_, hS⟩
      rcases hS with e | ⟨o, e⟩ <;> (show H ad ≠ none; rw [e]; simp)
    · have e := KX ad o hk
      rw [hscript] at e
      cases e
      refine .inr ⟨its.toList, m, ?_, by rw [List.length_map]; exact hlen, rv⟩
      rw [hk]
      have hs' : Data.seq vs.toArray _ = Data.seq its m := hs
      cases hs'
      rfl
  · refine ⟨fun i d h => by simp at h, fun i d h => by simp at h, fun i j d e a h => by simp at h, rfl, fun k d a h => by simp at h, by simp, fun a h => ⟨h, fun z => z⟩, fun a h => h.elim, rfl⟩
  · rw [hrun]
    exact fun g' v H' _ _ _ rv => rv
end Mr
end
section
set_option Elab.async false
set_option linter.all false
set_option maxRecDepth 100000
set_option maxHeartbeats 0
namespace Mr
open PySem PySem.Spec PyProof.Rows L2
namespace K81
theorem k_is_list : chkSs nm n_is_list ⟨defScope (top 4), none⟩ d_is_list.body (defBody (top 4)) = true := by decide +kernel
theorem sc_is_list : fnScB n_is_list [s_thing] (defScope (top 4)) = true := by decide +kernel
theorem k_is_whole : chkSs nm n_is_whole ⟨defScope (top 5), none⟩ d_is_whole.body (defBody (top 5)) = true := by decide +kernel
theorem sc_is_whole : fnScB n_is_whole [s_thing] (defScope (top 5)) = true := by decide +kernel
theorem k_is_natural : chkSs nm n_is_natural ⟨defScope (top 6), none⟩ d_is_natural.body (defBody (top 6)) = true := by decide +kernel
theorem sc_is_natural : fnScB n_is_natural [s_thing] (defScope (top 6)) = true := by decide +kernel
theorem k_is_word : chkSs nm n_is_word ⟨defScope (top 7), none⟩ d_is_word.body (defBody (top 7)) = true := by decide +kernel
theorem sc_is_word : fnScB n_is_word [s_thing] (defScope (top 7)) = true := by decide +kernel
theorem k_as_tuples : chkSs nm n_as_tuples ⟨defScope (top 8), none⟩ d_as_tuples.body (defBody (top 8)) = true := by decide +kernel
theorem sc_as_tuples : fnScB n_as_tuples [s_thing] (defScope (top 8)) = true := by decide +kernel
theorem k_is_pattern : chkSs nm n_is_pattern ⟨defScope (top 18), none⟩ d_is_pattern.body (defBody (top 18)) = true := by decide +kernel
theorem sc_is_pattern : fnScB n_is_pattern [s_thing] (defScope (top 18)) = true := by decide +kernel
theorem k_is_instruction : chkSs nm n_is_instruction ⟨defScope (top 19), none⟩ d_is_instruction.body (defBody (top 19)) = true := by decide +kernel
theorem sc_is_instruction : fnScB n_is_instruction [s_thing] (defScope (top 19)) = true := by decide +kernel
theorem k_leaves_of : chkSs nm n_leaves_of ⟨defScope (top 20), none⟩ d_leaves_of.body (defBody (top 20)) = true := by decide +kernel
theorem sc_leaves_of : fnScB n_leaves_of [s_pattern] (defScope (top 20)) = true := by decide +kernel
theorem k_instruction_of : chkSs nm n_instruction_of ⟨defScope (top 22), none⟩ d_instruction_of.body (defBody (top 22)) = true := by decide +kernel
theorem sc_instruction_of : fnScB n_instruction_of [s_machine, s_word] (defScope (top 22)) = true := by decide +kernel
theorem k_is_operand : chkSs nm n_is_operand ⟨defScope (top 24), none⟩ d_is_operand.body (defBody (top 24)) = true := by decide +kernel
theorem sc_is_operand : fnScB n_is_operand [s_leaf, s_operand, s_written] (defScope (top 24)) = true := by decide +kernel
theorem k_is_right_row : chkSs nm n_is_right_row ⟨defScope (top 25), none⟩ d_is_right_row.body (defBody (top 25)) = true := by decide +kernel
theorem sc_is_right_row : fnScB n_is_right_row [s_machine, s_thing, s_written] (defScope (top 25)) = true := by decide +kernel
theorem k_bad_row : chkSs nm n_bad_row ⟨defScope (top 26), none⟩ d_bad_row.body (defBody (top 26)) = true := by decide +kernel
theorem sc_bad_row : fnScB n_bad_row [s_machine, s_thing] (defScope (top 26)) = true := by decide +kernel
theorem k_rows_told : chkSs nm n_rows_told ⟨defScope (top 27), none⟩ d_rows_told.body (defBody (top 27)) = true := by decide +kernel
theorem sc_rows_told : fnScB n_rows_told [s_machine, s_rows] (defScope (top 27)) = true := by decide +kernel
theorem k_sources_of : chkSs nm n_sources_of ⟨defScope (top 28), none⟩ d_sources_of.body (defBody (top 28)) = true := by decide +kernel
theorem sc_sources_of : fnScB n_sources_of [s_machine, s_rows] (defScope (top 28)) = true := by decide +kernel
theorem k_bad_result : chkSs nm n_bad_result ⟨defScope (top 29), none⟩ d_bad_result.body (defBody (top 29)) = true := by decide +kernel
theorem sc_bad_result : fnScB n_bad_result [s_machine, s_rows] (defScope (top 29)) = true := by decide +kernel
theorem k_code_told : chkSs nm n_code_told ⟨defScope (top 31), none⟩ d_code_told.body (defBody (top 31)) = true := by decide +kernel
theorem sc_code_told : fnScB n_code_told [s_machine, s_rows] (defScope (top 31)) = true := by decide +kernel
theorem k_orders_of : chkSs nm n_orders_of ⟨defScope (top 32), none⟩ d_orders_of.body (defBody (top 32)) = true := by decide +kernel
theorem sc_orders_of : fnScB n_orders_of [s_machine, s_rows] (defScope (top 32)) = true := by decide +kernel
theorem k__law_start : chkSs nm n__law_start ⟨defScope (top 34), none⟩ d__law_start.body (defBody (top 34)) = true := by decide +kernel
theorem sc__law_start : fnScB n__law_start [s__law_script] (defScope (top 34)) = true := by decide +kernel
theorem k__law_draw : chkSs nm n__law_draw ⟨defScope (top 35), none⟩ d__law_draw.body (defBody (top 35)) = true := by decide +kernel
theorem sc__law_draw : fnScB n__law_draw [s__law_stream, s__law_many] (defScope (top 35)) = true := by decide +kernel
theorem k__law_pick : chkSs nm n__law_pick ⟨defScope (top 36), none⟩ d__law_pick.body (defBody (top 36)) = true := by decide +kernel
theorem sc__law_pick : fnScB n__law_pick [s__law_stream, s__law_things] (defScope (top 36)) = true := by decide +kernel
theorem k__law_mixed : chkSs nm n__law_mixed ⟨defScope (top 37), none⟩ d__law_mixed.body (defBody (top 37)) = true := by decide +kernel
theorem sc__law_mixed : fnScB n__law_mixed [s__law_stream, s__law_things] (defScope (top 37)) = true := by decide +kernel
theorem k__law_same : chkSs nm n__law_same ⟨defScope (top 38), none⟩ d__law_same.body (defBody (top 38)) = true := by decide +kernel
theorem sc__law_same : fnScB n__law_same [s__law_found, s__law_due] (defScope (top 38)) = true := by decide +kernel
theorem k__law_loose : chkSs nm n__law_loose ⟨defScope (top 39), none⟩ d__law_loose.body (defBody (top 39)) = true := by decide +kernel
theorem sc__law_loose : fnScB n__law_loose [s__law_stream, s__law_thing] (defScope (top 39)) = true := by decide +kernel
theorem k__law_c_tree : chkSs nm n__law_c_tree ⟨defScope (top 40), none⟩ d__law_c_tree.body (defBody (top 40)) = true := by decide +kernel
theorem sc__law_c_tree : fnScB n__law_c_tree [s__law_stream, s__law_leaves] (defScope (top 40)) = true := by decide +kernel
theorem k__law_c_machine : chkSs nm n__law_c_machine ⟨defScope (top 41), none⟩ d__law_c_machine.body (defBody (top 41)) = true := by decide +kernel
theorem sc__law_c_machine : fnScB n__law_c_machine [s__law_stream, s__law_most, s__law_is_plain] (defScope (top 41)) = true := by decide +kernel
theorem k__law_c_at : chkSs nm n__law_c_at ⟨defScope (top 42), none⟩ d__law_c_at.body (defBody (top 42)) = true := by decide +kernel
theorem sc__law_c_at : fnScB n__law_c_at [s__law_tree, s__law_path] (defScope (top 42)) = true := by decide +kernel
theorem k__law_c_fits : chkSs nm n__law_c_fits ⟨defScope (top 43), none⟩ d__law_c_fits.body (defBody (top 43)) = true := by decide +kernel
theorem sc__law_c_fits : fnScB n__law_c_fits [s__law_pattern, s__law_tree, s__law_path] (defScope (top 43)) = true := by decide +kernel
theorem k__law_r_cover : chkSs nm n__law_r_cover ⟨defScope (top 58), none⟩ d__law_r_cover.body (defBody (top 58)) = true := by decide +kernel
theorem sc__law_r_cover : fnScB n__law_r_cover [s__law_stream, s__law_machine, s__law_tree, s__law_path, s__law_place, s__law_deep] (defScope (top 58)) = true := by decide +kernel
theorem k__law_r_flat : chkSs nm n__law_r_flat ⟨defScope (top 59), none⟩ d__law_r_flat.body (defBody (top 59)) = true := by decide +kernel
theorem sc__law_r_flat : fnScB n__law_r_flat [s__law_cover] (defScope (top 59)) = true := by decide +kernel
theorem k__law_r_named : chkSs nm n__law_r_named ⟨defScope (top 60), none⟩ d__law_r_named.body (defBody (top 60)) = true := by decide +kernel
theorem sc__law_r_named : fnScB n__law_r_named [s__law_stream, s__law_flat, s__law_order, s__law_is_least] (defScope (top 60)) = true := by decide +kernel
theorem k__law_r_order : chkSs nm n__law_r_order ⟨defScope (top 61), none⟩ d__law_r_order.body (defBody (top 61)) = true := by decide +kernel
theorem sc__law_r_order : fnScB n__law_r_order [s__law_stream, s__law_flat] (defScope (top 61)) = true := by decide +kernel
theorem k__law_r_bits : chkSs nm n__law_r_bits ⟨defScope (top 62), none⟩ d__law_r_bits.body (defBody (top 62)) = true := by decide +kernel
theorem sc__law_r_bits : fnScB n__law_r_bits [] (defScope (top 62)) = true := by decide +kernel
theorem k__law_r_reads : chkSs nm n__law_r_reads ⟨defScope (top 63), none⟩ d__law_r_reads.body (defBody (top 63)) = true := by decide +kernel
theorem sc__law_r_reads : fnScB n__law_r_reads [s__law_flat] (defScope (top 63)) = true := by decide +kernel
theorem k__law_r_ready : chkSs nm n__law_r_ready ⟨defScope (top 64), none⟩ d__law_r_ready.body (defBody (top 64)) = true := by decide +kernel
theorem sc__law_r_ready : fnScB n__law_r_ready [s__law_reads, s__law_many] (defScope (top 64)) = true := by decide +kernel
theorem k__law_all_orders : chkSs nm n__law_all_orders ⟨defScope (top 65), none⟩ d__law_all_orders.body (defBody (top 65)) = true := by decide +kernel
theorem sc__law_all_orders : fnScB n__law_all_orders [s__law_flat] (defScope (top 65)) = true := by decide +kernel
theorem k__law_by_sizes : chkSs nm n__law_by_sizes ⟨defScope (top 66), none⟩ d__law_by_sizes.body (defBody (top 66)) = true := by decide +kernel
theorem sc__law_by_sizes : fnScB n__law_by_sizes [s__law_flat] (defScope (top 66)) = true := by decide +kernel
theorem k_law : chkSs nm n_law ⟨defScope (top 67), none⟩ d_law.body (defBody (top 67)) = true := by decide +kernel
theorem sc_law : fnScB n_law [s__law_script] (defScope (top 67)) = true := by decide +kernel
theorem ki_Machine : chkSs nm ni_Machine ⟨defScope (mth (top 21) 0), none⟩ i_Machine.body (defBody (mth (top 21) 0)) = true := by decide +kernel
theorem sci_Machine : fnScB ni_Machine [s_self, s_instructions] (defScope (mth (top 21) 0)) = true := by decide +kernel
end K81
end Mr
end
section
set_option Elab.async false
set_option linter.all false
set_option maxRecDepth 100000
set_option maxHeartbeats 0
namespace Mr
open PySem PySem.Spec PyProof.Rows L2
namespace K81
section
variable {K : PySem.W.Frag} {h : Heap} {mg : Str → Option Value} (X : K.In h) (G : h.Ns mainGlobals mg) (c : obsB ok fn K = He.valD fn)
include X G c
theorem glo (x : Str) (np : Nat) (hx : (x, np) ∈ nm.fn) : mg x = some (.ref (He.ga K x)) := (mod_ok X G (says_ok c)).2.1 _ hx
theorem fd_is_list : ∃ fd, FD K mg nm P 0 s_is_list 1 s_is_list (defArgs (top 4)) (defBody (top 4)) (defScope (top 4)) [] (He.ga K s_is_list) fd n_is_list [s_thing] d_is_list := by
  obtain ⟨fd, F⟩ := says_def c (d := dd 4 s_is_list) (List.mem_of_getElem? (i := 0) rfl)
  exact ⟨fd, glo X G c s_is_list 1 (List.mem_of_getElem? (i := 0) rfl), F, fnScB_ok sc_is_list, rfl, FunD.bindsN F fun _ _ _ _ _ _ us hl => match us, hl with | [_], _ => rfl, rfl, rfl, rfl, k_is_list⟩
theorem fd_is_whole : ∃ fd, FD K mg nm P 1 s_is_whole 1 s_is_whole (defArgs (top 5)) (defBody (top 5)) (defScope (top 5)) [] (He.ga K s_is_whole) fd n_is_whole [s_thing] d_is_whole := by
  obtain ⟨fd, F⟩ := says_def c (d := dd 5 s_is_whole) (List.mem_of_getElem? (i := 1) rfl)
  exact ⟨fd, glo X G c s_is_whole 1 (List.mem_of_getElem? (i := 1) rfl), F, fnScB_ok sc_is_whole, rfl, FunD.bindsN F fun _ _ _ _ _ _ us hl => match us, hl with | [_], _ => rfl, rfl, rfl, rfl, k_is_whole⟩
theorem fd_is_natural : ∃ fd, FD K mg nm P 2 s_is_natural 1 s_is_natural (defArgs (top 6)) (defBody (top 6)) (defScope (top 6)) [] (He.ga K s_is_natural) fd n_is_natural [s_thing] d_is_natural := by
  obtain ⟨fd, F⟩ := says_def c (d := dd 6 s_is_natural) (List.mem_of_getElem? (i := 2) rfl)
  exact ⟨fd, glo X G c s_is_natural 1 (List.mem_of_getElem? (i := 2) rfl), F, fnScB_ok sc_is_natural, rfl, FunD.bindsN F fun _ _ _ _ _ _ us hl => match us, hl with | [_], _ => rfl, rfl, rfl, rfl, k_is_natural⟩
theorem fd_is_word : ∃ fd, FD K mg nm P 3 s_is_word 1 s_is_word (defArgs (top 7)) (defBody (top 7)) (defScope (top 7)) [] (He.ga K s_is_word) fd n_is_word [s_thing] d_is_word := by
  obtain ⟨fd, F⟩ := says_def c (d := dd 7 s_is_word) (List.mem_of_getElem? (i := 3) rfl)
  exact ⟨fd, glo X G c s_is_word 1 (List.mem_of_getElem? (i := 3) rfl), F, fnScB_ok sc_is_word, rfl, FunD.bindsN F fun _ _ _ _ _ _ us hl => match us, hl with | [_], _ => rfl, rfl, rfl, rfl, k_is_word⟩
theorem fd_as_tuples : ∃ fd, FD K mg nm P 4 s_as_tuples 1 s_as_tuples (defArgs (top 8)) (defBody (top 8)) (defScope (top 8)) [] (He.ga K s_as_tuples) fd n_as_tuples [s_thing] d_as_tuples := by
  obtain ⟨fd, F⟩ := says_def c (d := dd 8 s_as_tuples) (List.mem_of_getElem? (i := 4) rfl)
  exact ⟨fd, glo X G c s_as_tuples 1 (List.mem_of_getElem? (i := 4) rfl), F, fnScB_ok sc_as_tuples, rfl, FunD.bindsN F fun _ _ _ _ _ _ us hl => match us, hl with | [_], _ => rfl, rfl, rfl, rfl, k_as_tuples⟩
theorem fd_is_pattern : ∃ fd, FD K mg nm P 5 s_is_pattern 1 s_is_pattern (defArgs (top 18)) (defBody (top 18)) (defScope (top 18)) [] (He.ga K s_is_pattern) fd n_is_pattern [s_thing] d_is_pattern := by
  obtain ⟨fd, F⟩ := says_def c (d := dd 18 s_is_pattern) (List.mem_of_getElem? (i := 5) rfl)
  exact ⟨fd, glo X G c s_is_pattern 1 (List.mem_of_getElem? (i := 5) rfl), F, fnScB_ok sc_is_pattern, rfl, FunD.bindsN F fun _ _ _ _ _ _ us hl => match us, hl with | [_], _ => rfl, rfl, rfl, rfl, k_is_pattern⟩
theorem fd_is_instruction : ∃ fd, FD K mg nm P 6 s_is_instruction 1 s_is_instruction (defArgs (top 19)) (defBody (top 19)) (defScope (top 19)) [] (He.ga K s_is_instruction) fd n_is_instruction [s_thing] d_is_instruction := by
  obtain ⟨fd, F⟩ := says_def c (d := dd 19 s_is_instruction) (List.mem_of_getElem? (i := 6) rfl)
  exact ⟨fd, glo X G c s_is_instruction 1 (List.mem_of_getElem? (i := 6) rfl), F, fnScB_ok sc_is_instruction, rfl, FunD.bindsN F fun _ _ _ _ _ _ us hl => match us, hl with | [_], _ => rfl, rfl, rfl, rfl, k_is_instruction⟩
theorem fd_leaves_of : ∃ fd, FD K mg nm P 7 s_leaves_of 1 s_leaves_of (defArgs (top 20)) (defBody (top 20)) (defScope (top 20)) [] (He.ga K s_leaves_of) fd n_leaves_of [s_pattern] d_leaves_of := by
  obtain ⟨fd, F⟩ := says_def c (d := dd 20 s_leaves_of) (List.mem_of_getElem? (i := 7) rfl)
  exact ⟨fd, glo X G c s_leaves_of 1 (List.mem_of_getElem? (i := 7) rfl), F, fnScB_ok sc_leaves_of, rfl, FunD.bindsN F fun _ _ _ _ _ _ us hl => match us, hl with | [_], _ => rfl, rfl, rfl, rfl, k_leaves_of⟩
theorem fd_instruction_of : ∃ fd, FD K mg nm P 8 s_instruction_of 2 s_instruction_of (defArgs (top 22)) (defBody (top 22)) (defScope (top 22)) [] (He.ga K s_instruction_of) fd n_instruction_of [s_machine, s_word] d_instruction_of := by
  obtain ⟨fd, F⟩ := says_def c (d := dd 22 s_instruction_of) (List.mem_of_getElem? (i := 8) rfl)
  exact ⟨fd, glo X G c s_instruction_of 2 (List.mem_of_getElem? (i := 8) rfl), F, fnScB_ok sc_instruction_of, rfl, FunD.bindsN F fun _ _ _ _ _ _ us hl => match us, hl with | [_, _], _ => rfl, rfl, rfl, rfl, k_instruction_of⟩
theorem fd_is_operand : ∃ fd, FD K mg nm P 9 s_is_operand 3 s_is_operand (defArgs (top 24)) (defBody (top 24)) (defScope (top 24)) [] (He.ga K s_is_operand) fd n_is_operand [s_leaf, s_operand, s_written] d_is_operand := by
  obtain ⟨fd, F⟩ := says_def c (d := dd 24 s_is_operand) (List.mem_of_getElem? (i := 9) rfl)
  exact ⟨fd, glo X G c s_is_operand 3 (List.mem_of_getElem? (i := 9) rfl), F, fnScB_ok sc_is_operand, rfl, FunD.bindsN F fun _ _ _ _ _ _ us hl => match us, hl with | [_, _, _], _ => rfl, rfl, rfl, rfl, k_is_operand⟩
theorem fd_is_right_row : ∃ fd, FD K mg nm P 10 s_is_right_row 3 s_is_right_row (defArgs (top 25)) (defBody (top 25)) (defScope (top 25)) [] (He.ga K s_is_right_row) fd n_is_right_row [s_machine, s_thing, s_written] d_is_right_row := by
  obtain ⟨fd, F⟩ := says_def c (d := dd 25 s_is_right_row) (List.mem_of_getElem? (i := 10) rfl)
  exact ⟨fd, glo X G c s_is_right_row 3 (List.mem_of_getElem? (i := 10) rfl), F, fnScB_ok sc_is_right_row, rfl, FunD.bindsN F fun _ _ _ _ _ _ us hl => match us, hl with | [_, _, _], _ => rfl, rfl, rfl, rfl, k_is_right_row⟩
theorem fd_bad_row : ∃ fd, FD K mg nm P 11 s_bad_row 2 s_bad_row (defArgs (top 26)) (defBody (top 26)) (defScope (top 26)) [] (He.ga K s_bad_row) fd n_bad_row [s_machine, s_thing] d_bad_row := by
  obtain ⟨fd, F⟩ := says_def c (d := dd 26 s_bad_row) (List.mem_of_getElem? (i := 11) rfl)
  exact ⟨fd, glo X G c s_bad_row 2 (List.mem_of_getElem? (i := 11) rfl), F, fnScB_ok sc_bad_row, rfl, FunD.bindsN F fun _ _ _ _ _ _ us hl => match us, hl with | [_, _], _ => rfl, rfl, rfl, rfl, k_bad_row⟩
theorem fd_rows_told : ∃ fd, FD K mg nm P 12 s_rows_told 2 s_rows_told (defArgs (top 27)) (defBody (top 27)) (defScope (top 27)) [] (He.ga K s_rows_told) fd n_rows_told [s_machine, s_rows] d_rows_told := by
  obtain ⟨fd, F⟩ := says_def c (d := dd 27 s_rows_told) (List.mem_of_getElem? (i := 12) rfl)
  exact ⟨fd, glo X G c s_rows_told 2 (List.mem_of_getElem? (i := 12) rfl), F, fnScB_ok sc_rows_told, rfl, FunD.bindsN F fun _ _ _ _ _ _ us hl => match us, hl with | [_, _], _ => rfl, rfl, rfl, rfl, k_rows_told⟩
theorem fd_sources_of : ∃ fd, FD K mg nm P 13 s_sources_of 2 s_sources_of (defArgs (top 28)) (defBody (top 28)) (defScope (top 28)) [] (He.ga K s_sources_of) fd n_sources_of [s_machine, s_rows] d_sources_of := by
  obtain ⟨fd, F⟩ := says_def c (d := dd 28 s_sources_of) (List.mem_of_getElem? (i := 13) rfl)
  exact ⟨fd, glo X G c s_sources_of 2 (List.mem_of_getElem? (i := 13) rfl), F, fnScB_ok sc_sources_of, rfl, FunD.bindsN F fun _ _ _ _ _ _ us hl => match us, hl with | [_, _], _ => rfl, rfl, rfl, rfl, k_sources_of⟩
theorem fd_bad_result : ∃ fd, FD K mg nm P 14 s_bad_result 2 s_bad_result (defArgs (top 29)) (defBody (top 29)) (defScope (top 29)) [] (He.ga K s_bad_result) fd n_bad_result [s_machine, s_rows] d_bad_result := by
  obtain ⟨fd, F⟩ := says_def c (d := dd 29 s_bad_result) (List.mem_of_getElem? (i := 14) rfl)
  exact ⟨fd, glo X G c s_bad_result 2 (List.mem_of_getElem? (i := 14) rfl), F, fnScB_ok sc_bad_result, rfl, FunD.bindsN F fun _ _ _ _ _ _ us hl => match us, hl with | [_, _], _ => rfl, rfl, rfl, rfl, k_bad_result⟩
theorem fd_code_told : ∃ fd, FD K mg nm P 15 s_code_told 2 s_code_told (defArgs (top 31)) (defBody (top 31)) (defScope (top 31)) [] (He.ga K s_code_told) fd n_code_told [s_machine, s_rows] d_code_told := by
  obtain ⟨fd, F⟩ := says_def c (d := dd 31 s_code_told) (List.mem_of_getElem? (i := 15) rfl)
  exact ⟨fd, glo X G c s_code_told 2 (List.mem_of_getElem? (i := 15) rfl), F, fnScB_ok sc_code_told, rfl, FunD.bindsN F fun _ _ _ _ _ _ us hl => match us, hl with | [_, _], _ => rfl, rfl, rfl, rfl, k_code_told⟩
theorem fd_orders_of : ∃ fd, FD K mg nm P 16 s_orders_of 2 s_orders_of (defArgs (top 32)) (defBody (top 32)) (defScope (top 32)) [] (He.ga K s_orders_of) fd n_orders_of [s_machine, s_rows] d_orders_of := by
  obtain ⟨fd, F⟩ := says_def c (d := dd 32 s_orders_of) (List.mem_of_getElem? (i := 16) rfl)
  exact ⟨fd, glo X G c s_orders_of 2 (List.mem_of_getElem? (i := 16) rfl), F, fnScB_ok sc_orders_of, rfl, FunD.bindsN F fun _ _ _ _ _ _ us hl => match us, hl with | [_, _], _ => rfl, rfl, rfl, rfl, k_orders_of⟩
theorem fd__law_start : ∃ fd, FD K mg nm P 17 s__law_start 1 s__law_start (defArgs (top 34)) (defBody (top 34)) (defScope (top 34)) [] (He.ga K s__law_start) fd n__law_start [s__law_script] d__law_start := by
  obtain ⟨fd, F⟩ := says_def c (d := dd 34 s__law_start) (List.mem_of_getElem? (i := 17) rfl)
  exact ⟨fd, glo X G c s__law_start 1 (List.mem_of_getElem? (i := 17) rfl), F, fnScB_ok sc__law_start, rfl, FunD.bindsN F fun _ _ _ _ _ _ us hl => match us, hl with | [_], _ => rfl, rfl, rfl, rfl, k__law_start⟩
theorem fd__law_draw : ∃ fd, FD K mg nm P 18 s__law_draw 2 s__law_draw (defArgs (top 35)) (defBody (top 35)) (defScope (top 35)) [] (He.ga K s__law_draw) fd n__law_draw [s__law_stream, s__law_many] d__law_draw := by
  obtain ⟨fd, F⟩ := says_def c (d := dd 35 s__law_draw) (List.mem_of_getElem? (i := 18) rfl)
  exact ⟨fd, glo X G c s__law_draw 2 (List.mem_of_getElem? (i := 18) rfl), F, fnScB_ok sc__law_draw, rfl, FunD.bindsN F fun _ _ _ _ _ _ us hl => match us, hl with | [_, _], _ => rfl, rfl, rfl, rfl, k__law_draw⟩
theorem fd__law_pick : ∃ fd, FD K mg nm P 19 s__law_pick 2 s__law_pick (defArgs (top 36)) (defBody (top 36)) (defScope (top 36)) [] (He.ga K s__law_pick) fd n__law_pick [s__law_stream, s__law_things] d__law_pick := by
  obtain ⟨fd, F⟩ := says_def c (d := dd 36 s__law_pick) (List.mem_of_getElem? (i := 19) rfl)
  exact ⟨fd, glo X G c s__law_pick 2 (List.mem_of_getElem? (i := 19) rfl), F, fnScB_ok sc__law_pick, rfl, FunD.bindsN F fun _ _ _ _ _ _ us hl => match us, hl with | [_, _], _ => rfl, rfl, rfl, rfl, k__law_pick⟩
theorem fd__law_mixed : ∃ fd, FD K mg nm P 20 s__law_mixed 2 s__law_mixed (defArgs (top 37)) (defBody (top 37)) (defScope (top 37)) [] (He.ga K s__law_mixed) fd n__law_mixed [s__law_stream, s__law_things] d__law_mixed := by
  obtain ⟨fd, F⟩ := says_def c (d := dd 37 s__law_mixed) (List.mem_of_getElem? (i := 20) rfl)
  exact ⟨fd, glo X G c s__law_mixed 2 (List.mem_of_getElem? (i := 20) rfl), F, fnScB_ok sc__law_mixed, rfl, FunD.bindsN F fun _ _ _ _ _ _ us hl => match us, hl with | [_, _], _ => rfl, rfl, rfl, rfl, k__law_mixed⟩
theorem fd__law_same : ∃ fd, FD K mg nm P 21 s__law_same 2 s__law_same (defArgs (top 38)) (defBody (top 38)) (defScope (top 38)) [] (He.ga K s__law_same) fd n__law_same [s__law_found, s__law_due] d__law_same := by
  obtain ⟨fd, F⟩ := says_def c (d := dd 38 s__law_same) (List.mem_of_getElem? (i := 21) rfl)
  exact ⟨fd, glo X G c s__law_same 2 (List.mem_of_getElem? (i := 21) rfl), F, fnScB_ok sc__law_same, rfl, FunD.bindsN F fun _ _ _ _ _ _ us hl => match us, hl with | [_, _], _ => rfl, rfl, rfl, rfl, k__law_same⟩
theorem fd__law_loose : ∃ fd, FD K mg nm P 22 s__law_loose 2 s__law_loose (defArgs (top 39)) (defBody (top 39)) (defScope (top 39)) [] (He.ga K s__law_loose) fd n__law_loose [s__law_stream, s__law_thing] d__law_loose := by
  obtain ⟨fd, F⟩ := says_def c (d := dd 39 s__law_loose) (List.mem_of_getElem? (i := 22) rfl)
  exact ⟨fd, glo X G c s__law_loose 2 (List.mem_of_getElem? (i := 22) rfl), F, fnScB_ok sc__law_loose, rfl, FunD.bindsN F fun _ _ _ _ _ _ us hl => match us, hl with | [_, _], _ => rfl, rfl, rfl, rfl, k__law_loose⟩
theorem fd__law_c_tree : ∃ fd, FD K mg nm P 23 s__law_c_tree 2 s__law_c_tree (defArgs (top 40)) (defBody (top 40)) (defScope (top 40)) [] (He.ga K s__law_c_tree) fd n__law_c_tree [s__law_stream, s__law_leaves] d__law_c_tree := by
  obtain ⟨fd, F⟩ := says_def c (d := dd 40 s__law_c_tree) (List.mem_of_getElem? (i := 23) rfl)
  exact ⟨fd, glo X G c s__law_c_tree 2 (List.mem_of_getElem? (i := 23) rfl), F, fnScB_ok sc__law_c_tree, rfl, FunD.bindsN F fun _ _ _ _ _ _ us hl => match us, hl with | [_, _], _ => rfl, rfl, rfl, rfl, k__law_c_tree⟩
theorem fd__law_c_machine : ∃ fd, FD K mg nm P 24 s__law_c_machine 3 s__law_c_machine (defArgs (top 41)) (defBody (top 41)) (defScope (top 41)) [] (He.ga K s__law_c_machine) fd n__law_c_machine [s__law_stream, s__law_most, s__law_is_plain] d__law_c_machine := by
  obtain ⟨fd, F⟩ := says_def c (d := dd 41 s__law_c_machine) (List.mem_of_getElem? (i := 24) rfl)
  exact ⟨fd, glo X G c s__law_c_machine 3 (List.mem_of_getElem? (i := 24) rfl), F, fnScB_ok sc__law_c_machine, rfl, FunD.bindsN F fun _ _ _ _ _ _ us hl => match us, hl with | [_, _, _], _ => rfl, rfl, rfl, rfl, k__law_c_machine⟩
theorem fd__law_c_at : ∃ fd, FD K mg nm P 25 s__law_c_at 2 s__law_c_at (defArgs (top 42)) (defBody (top 42)) (defScope (top 42)) [] (He.ga K s__law_c_at) fd n__law_c_at [s__law_tree, s__law_path] d__law_c_at := by
  obtain ⟨fd, F⟩ := says_def c (d := dd 42 s__law_c_at) (List.mem_of_getElem? (i := 25) rfl)
  exact ⟨fd, glo X G c s__law_c_at 2 (List.mem_of_getElem? (i := 25) rfl), F, fnScB_ok sc__law_c_at, rfl, FunD.bindsN F fun _ _ _ _ _ _ us hl => match us, hl with | [_, _], _ => rfl, rfl, rfl, rfl, k__law_c_at⟩
theorem fd__law_c_fits : ∃ fd, FD K mg nm P 26 s__law_c_fits 3 s__law_c_fits (defArgs (top 43)) (defBody (top 43)) (defScope (top 43)) [] (He.ga K s__law_c_fits) fd n__law_c_fits [s__law_pattern, s__law_tree, s__law_path] d__law_c_fits := by
  obtain ⟨fd, F⟩ := says_def c (d := dd 43 s__law_c_fits) (List.mem_of_getElem? (i := 26) rfl)
  exact ⟨fd, glo X G c s__law_c_fits 3 (List.mem_of_getElem? (i := 26) rfl), F, fnScB_ok sc__law_c_fits, rfl, FunD.bindsN F fun _ _ _ _ _ _ us hl => match us, hl with | [_, _, _], _ => rfl, rfl, rfl, rfl, k__law_c_fits⟩
theorem fd__law_r_cover : ∃ fd, FD K mg nm P 27 s__law_r_cover 6 s__law_r_cover (defArgs (top 58)) (defBody (top 58)) (defScope (top 58)) [] (He.ga K s__law_r_cover) fd n__law_r_cover [s__law_stream, s__law_machine, s__law_tree, s__law_path, s__law_place, s__law_deep] d__law_r_cover := by
  obtain ⟨fd, F⟩ := says_def c (d := dd 58 s__law_r_cover) (List.mem_of_getElem? (i := 27) rfl)
  exact ⟨fd, glo X G c s__law_r_cover 6 (List.mem_of_getElem? (i := 27) rfl), F, fnScB_ok sc__law_r_cover, rfl, FunD.bindsN F fun _ _ _ _ _ _ us hl => match us, hl with | [_, _, _, _, _, _], _ => rfl, rfl, rfl, rfl, k__law_r_cover⟩
theorem fd__law_r_flat : ∃ fd, FD K mg nm P 28 s__law_r_flat 1 s__law_r_flat (defArgs (top 59)) (defBody (top 59)) (defScope (top 59)) [] (He.ga K s__law_r_flat) fd n__law_r_flat [s__law_cover] d__law_r_flat := by
  obtain ⟨fd, F⟩ := says_def c (d := dd 59 s__law_r_flat) (List.mem_of_getElem? (i := 28) rfl)
  exact ⟨fd, glo X G c s__law_r_flat 1 (List.mem_of_getElem? (i := 28) rfl), F, fnScB_ok sc__law_r_flat, rfl, FunD.bindsN F fun _ _ _ _ _ _ us hl => match us, hl with | [_], _ => rfl, rfl, rfl, rfl, k__law_r_flat⟩
theorem fd__law_r_named : ∃ fd, FD K mg nm P 29 s__law_r_named 4 s__law_r_named (defArgs (top 60)) (defBody (top 60)) (defScope (top 60)) [] (He.ga K s__law_r_named) fd n__law_r_named [s__law_stream, s__law_flat, s__law_order, s__law_is_least] d__law_r_named := by
  obtain ⟨fd, F⟩ := says_def c (d := dd 60 s__law_r_named) (List.mem_of_getElem? (i := 29) rfl)
  exact ⟨fd, glo X G c s__law_r_named 4 (List.mem_of_getElem? (i := 29) rfl), F, fnScB_ok sc__law_r_named, rfl, FunD.bindsN F fun _ _ _ _ _ _ us hl => match us, hl with | [_, _, _, _], _ => rfl, rfl, rfl, rfl, k__law_r_named⟩
theorem fd__law_r_order : ∃ fd, FD K mg nm P 30 s__law_r_order 2 s__law_r_order (defArgs (top 61)) (defBody (top 61)) (defScope (top 61)) [] (He.ga K s__law_r_order) fd n__law_r_order [s__law_stream, s__law_flat] d__law_r_order := by
  obtain ⟨fd, F⟩ := says_def c (d := dd 61 s__law_r_order) (List.mem_of_getElem? (i := 30) rfl)
  exact ⟨fd, glo X G c s__law_r_order 2 (List.mem_of_getElem? (i := 30) rfl), F, fnScB_ok sc__law_r_order, rfl, FunD.bindsN F fun _ _ _ _ _ _ us hl => match us, hl with | [_, _], _ => rfl, rfl, rfl, rfl, k__law_r_order⟩
theorem fd__law_r_bits : ∃ fd, FD K mg nm P 31 s__law_r_bits 0 s__law_r_bits (defArgs (top 62)) (defBody (top 62)) (defScope (top 62)) [] (He.ga K s__law_r_bits) fd n__law_r_bits [] d__law_r_bits := by
  obtain ⟨fd, F⟩ := says_def c (d := dd 62 s__law_r_bits) (List.mem_of_getElem? (i := 31) rfl)
  exact ⟨fd, glo X G c s__law_r_bits 0 (List.mem_of_getElem? (i := 31) rfl), F, fnScB_ok sc__law_r_bits, rfl, FunD.bindsN F fun _ _ _ _ _ _ us hl => match us, hl with | [], _ => rfl, rfl, rfl, rfl, k__law_r_bits⟩
theorem fd__law_r_reads : ∃ fd, FD K mg nm P 32 s__law_r_reads 1 s__law_r_reads (defArgs (top 63)) (defBody (top 63)) (defScope (top 63)) [] (He.ga K s__law_r_reads) fd n__law_r_reads [s__law_flat] d__law_r_reads := by
  obtain ⟨fd, F⟩ := says_def c (d := dd 63 s__law_r_reads) (List.mem_of_getElem? (i := 32) rfl)
  exact ⟨fd, glo X G c s__law_r_reads 1 (List.mem_of_getElem? (i := 32) rfl), F, fnScB_ok sc__law_r_reads, rfl, FunD.bindsN F fun _ _ _ _ _ _ us hl => match us, hl with | [_], _ => rfl, rfl, rfl, rfl, k__law_r_reads⟩
theorem fd__law_r_ready : ∃ fd, FD K mg nm P 33 s__law_r_ready 2 s__law_r_ready (defArgs (top 64)) (defBody (top 64)) (defScope (top 64)) [] (He.ga K s__law_r_ready) fd n__law_r_ready [s__law_reads, s__law_many] d__law_r_ready := by
  obtain ⟨fd, F⟩ := says_def c (d := dd 64 s__law_r_ready) (List.mem_of_getElem? (i := 33) rfl)
  exact ⟨fd, glo X G c s__law_r_ready 2 (List.mem_of_getElem? (i := 33) rfl), F, fnScB_ok sc__law_r_ready, rfl, FunD.bindsN F fun _ _ _ _ _ _ us hl => match us, hl with | [_, _], _ => rfl, rfl, rfl, rfl, k__law_r_ready⟩
theorem fd__law_all_orders : ∃ fd, FD K mg nm P 34 s__law_all_orders 1 s__law_all_orders (defArgs (top 65)) (defBody (top 65)) (defScope (top 65)) [] (He.ga K s__law_all_orders) fd n__law_all_orders [s__law_flat] d__law_all_orders := by
  obtain ⟨fd, F⟩ := says_def c (d := dd 65 s__law_all_orders) (List.mem_of_getElem? (i := 34) rfl)
  exact ⟨fd, glo X G c s__law_all_orders 1 (List.mem_of_getElem? (i := 34) rfl), F, fnScB_ok sc__law_all_orders, rfl, FunD.bindsN F fun _ _ _ _ _ _ us hl => match us, hl with | [_], _ => rfl, rfl, rfl, rfl, k__law_all_orders⟩
theorem fd__law_by_sizes : ∃ fd, FD K mg nm P 35 s__law_by_sizes 1 s__law_by_sizes (defArgs (top 66)) (defBody (top 66)) (defScope (top 66)) [] (He.ga K s__law_by_sizes) fd n__law_by_sizes [s__law_flat] d__law_by_sizes := by
  obtain ⟨fd, F⟩ := says_def c (d := dd 66 s__law_by_sizes) (List.mem_of_getElem? (i := 35) rfl)
  exact ⟨fd, glo X G c s__law_by_sizes 1 (List.mem_of_getElem? (i := 35) rfl), F, fnScB_ok sc__law_by_sizes, rfl, FunD.bindsN F fun _ _ _ _ _ _ us hl => match us, hl with | [_], _ => rfl, rfl, rfl, rfl, k__law_by_sizes⟩
theorem fd_law : ∃ fd, FD K mg nm P 36 s_law 1 s_law (defArgs (top 67)) (defBody (top 67)) (defScope (top 67)) [] (He.ga K s_law) fd n_law [s__law_script] d_law := by
  obtain ⟨fd, F⟩ := says_def c (d := dd 67 s_law) (List.mem_of_getElem? (i := 36) rfl)
  exact ⟨fd, glo X G c s_law 1 (List.mem_of_getElem? (i := 36) rfl), F, fnScB_ok sc_law, rfl, FunD.bindsN F fun _ _ _ _ _ _ us hl => match us, hl with | [_], _ => rfl, rfl, rfl, rfl, k_law⟩
theorem cd_Machine : ∃ fd, CD K mg nm (cAof nm K) P 0 s_Machine 1 "__init__" "Machine.__init__" (defArgs (mth (top 21) 0)) (defBody (mth (top 21) 0)) (defScope (mth (top 21) 0)) [] (He.ga K s_Machine) (He.ma K (He.ga K s_Machine) "__init__") fd ni_Machine [s_self, s_instructions] i_Machine := by
  obtain ⟨fd, F⟩ := says_def c (d := di 21 0 s_Machine "Machine.__init__") (List.mem_of_getElem? (i := 37) rfl)
  obtain ⟨h1, h2⟩ := (mod_ok X G (says_ok c)).2.2 (s_Machine, 1) (List.mem_of_getElem? (i := 0) rfl)
  exact ⟨fd, rfl, h1, h2, F, fnScB_ok sci_Machine, rfl, FunD.bindsN F fun _ _ _ _ _ _ us hl => match us, hl with | [_, _], _ => rfl, rfl, rfl, rfl, ki_Machine⟩
theorem hf : ∀ (f : Nat) (x : Str) (np : Nat), nm.fn[f]? = some (x, np) → ∃ qual params body scope kws a fd N ps d, FD K mg nm P f x np qual params body scope kws a fd N ps d := by
  intro f x np hx
  match f, hx with
  | 0, hx => cases hx; obtain ⟨fd, F⟩ := fd_is_list X G c; exact ⟨_, _, _, _, _, _, _, _, _, _, F⟩
  | 1, hx => cases hx; obtain ⟨fd, F⟩ := fd_is_whole X G c; exact ⟨_, _, _, _, _, _, _, _, _, _, F⟩
  | 2, hx => cases hx; obtain ⟨fd, F⟩ := fd_is_natural X G c; exact ⟨_, _, _, _, _, _, _, _, _, _, F⟩
  | 3, hx => cases hx; obtain ⟨fd, F⟩ := fd_is_word X G c; exact ⟨_, _, _, _, _, _, _, _, _, _, F⟩
  | 4, hx => cases hx; obtain ⟨fd, F⟩ := fd_as_tuples X G c; exact ⟨_, _, _, _, _, _, _, _, _, _, F⟩
  | 5, hx => cases hx; obtain ⟨fd, F⟩ := fd_is_pattern X G c; exact ⟨_, _, _, _, _, _, _, _, _, _, F⟩
  | 6, hx => cases hx; obtain ⟨fd, F⟩ := fd_is_instruction X G c; exact ⟨_, _, _, _, _, _, _, _, _, _, F⟩
  | 7, hx => cases hx; obtain ⟨fd, F⟩ := fd_leaves_of X G c; exact ⟨_, _, _, _, _, _, _, _, _, _, F⟩
  | 8, hx => cases hx; obtain ⟨fd, F⟩ := fd_instruction_of X G c; exact ⟨_, _, _, _, _, _, _, _, _, _, F⟩
  | 9, hx => cases hx; obtain ⟨fd, F⟩ := fd_is_operand X G c; exact ⟨_, _, _, _, _, _, _, _, _, _, F⟩
  | 10, hx => cases hx; obtain ⟨fd, F⟩ := fd_is_right_row X G c; exact ⟨_, _, _, _, _, _, _, _, _, _, F⟩
  | 11, hx => cases hx; obtain ⟨fd, F⟩ := fd_bad_row X G c; exact ⟨_, _, _, _, _, _, _, _, _, _, F⟩
  | 12, hx => cases hx; obtain ⟨fd, F⟩ := fd_rows_told X G c; exact ⟨_, _, _, _, _, _, _, _, _, _, F⟩
  | 13, hx => cases hx; obtain ⟨fd, F⟩ := fd_sources_of X G c; exact ⟨_, _, _, _, _, _, _, _, _, _, F⟩
  | 14, hx => cases hx; obtain ⟨fd, F⟩ := fd_bad_result X G c; exact ⟨_, _, _, _, _, _, _, _, _, _, F⟩
  | 15, hx => cases hx; obtain ⟨fd, F⟩ := fd_code_told X G c; exact ⟨_, _, _, _, _, _, _, _, _, _, F⟩
  | 16, hx => cases hx; obtain ⟨fd, F⟩ := fd_orders_of X G c; exact ⟨_, _, _, _, _, _, _, _, _, _, F⟩
  | 17, hx => cases hx; obtain ⟨fd, F⟩ := fd__law_start X G c; exact ⟨_, _, _, _, _, _, _, _, _, _, F⟩
  | 18, hx => cases hx; obtain ⟨fd, F⟩ := fd__law_draw X G c; exact ⟨_, _, _, _, _, _, _, _, _, _, F⟩
  | 19, hx => cases hx; obtain ⟨fd, F⟩ := fd__law_pick X G c; exact ⟨_, _, _, _, _, _, _, _, _, _, F⟩
  | 20, hx => cases hx; obtain ⟨fd, F⟩ := fd__law_mixed X G c; exact ⟨_, _, _, _, _, _, _, _, _, _, F⟩
  | 21, hx => cases hx; obtain ⟨fd, F⟩ := fd__law_same X G c; exact ⟨_, _, _, _, _, _, _, _, _, _, F⟩
  | 22, hx => cases hx; obtain ⟨fd, F⟩ := fd__law_loose X G c; exact ⟨_, _, _, _, _, _, _, _, _, _, F⟩
  | 23, hx => cases hx; obtain ⟨fd, F⟩ := fd__law_c_tree X G c; exact ⟨_, _, _, _, _, _, _, _, _, _, F⟩
  | 24, hx => cases hx; obtain ⟨fd, F⟩ := fd__law_c_machine X G c; exact ⟨_, _, _, _, _, _, _, _, _, _, F⟩
  | 25, hx => cases hx; obtain ⟨fd, F⟩ := fd__law_c_at X G c; exact ⟨_, _, _, _, _, _, _, _, _, _, F⟩
  | 26, hx => cases hx; obtain ⟨fd, F⟩ := fd__law_c_fits X G c; exact ⟨_, _, _, _, _, _, _, _, _, _, F⟩
  | 27, hx => cases hx; obtain ⟨fd, F⟩ := fd__law_r_cover X G c; exact ⟨_, _, _, _, _, _, _, _, _, _, F⟩
  | 28, hx => cases hx; obtain ⟨fd, F⟩ := fd__law_r_flat X G c; exact ⟨_, _, _, _, _, _, _, _, _, _, F⟩
  | 29, hx => cases hx; obtain ⟨fd, F⟩ := fd__law_r_named X G c; exact ⟨_, _, _, _, _, _, _, _, _, _, F⟩
  | 30, hx => cases hx; obtain ⟨fd, F⟩ := fd__law_r_order X G c; exact ⟨_, _, _, _, _, _, _, _, _, _, F⟩
  | 31, hx => cases hx; obtain ⟨fd, F⟩ := fd__law_r_bits X G c; exact ⟨_, _, _, _, _, _, _, _, _, _, F⟩
  | 32, hx => cases hx; obtain ⟨fd, F⟩ := fd__law_r_reads X G c; exact ⟨_, _, _, _, _, _, _, _, _, _, F⟩
  | 33, hx => cases hx; obtain ⟨fd, F⟩ := fd__law_r_ready X G c; exact ⟨_, _, _, _, _, _, _, _, _, _, F⟩
  | 34, hx => cases hx; obtain ⟨fd, F⟩ := fd__law_all_orders X G c; exact ⟨_, _, _, _, _, _, _, _, _, _, F⟩
  | 35, hx => cases hx; obtain ⟨fd, F⟩ := fd__law_by_sizes X G c; exact ⟨_, _, _, _, _, _, _, _, _, _, F⟩
  | 36, hx => cases hx; obtain ⟨fd, F⟩ := fd_law X G c; exact ⟨_, _, _, _, _, _, _, _, _, _, F⟩
  | n + 37, hx => cases hx
theorem hc : ∀ (C : Nat) (x : Str) (np : Nat), nm.cl[C]? = some (x, np) → ∃ iname qual params body scope kws ca a fd N ps d, CD K mg nm (cAof nm K) P C x np iname qual params body scope kws ca a fd N ps d := by
  intro C x np hx
  match C, hx with
  | 0, hx => cases hx; obtain ⟨fd, F⟩ := cd_Machine X G c; exact ⟨_, _, _, _, _, _, _, _, _, _, _, _, F⟩
  | n + 1, hx => cases hx
theorem law_fn (prog : Program) (w : World) (n : Nat) : ∃ fd, (∀ (s : Shared) (u : Value), BindsTo s fd ⟨[u], []⟩ [(s__law_script, u)]) ∧ ∀ base : Heap, FnOk prog w K mg base CX0 (2 * n + 2) (He.ga K s_law) fd [s__law_script] (spF K (cAof nm K) 1 ((callD P 1000000 (n + 1)).fn 36)) := by
  obtain ⟨fd, F⟩ := fd_law X G c
  have M := (mod_ok (P := P) X G (says_ok c)).1
  refine ⟨fd, fun s u => FunD.bindsA (ps := [s__law_script]) F.fn (fun _ _ _ _ _ _ us hl => match us, hl with | [_], _ => rfl) s [u] rfl, fun base => ?_⟩
  exact fn_ok' (L := 1000000) M (fns_ok M (hf X G c) (hc X G c) n) F
end
end K81
end Mr
open PySem PySem.W PySem.Calls PyProof.Rows
namespace Mr.K81
theorem main (hlaw : ∀ ns : List Int, ns.length ≤ 63 → ∃ st, (callD P 1000000 100).fn 36 [.lst (ns.map D.int)] [] = .ok (.bl true) st) : PySem.Challenge.rw_anyprice_k81_whole_orders_of_code.Holds := by
  w_on; o_law
  refine HandSHeadRun.head_imp (r := R) (q := view R.prog [0, 67]) (H := hk) (ob := ob) (M := 12000) (loose := loose) (d := HandSHeadRun.topDef R.prog 67) (kwd := []) ob_eq
    run (by kernel_rfl) (by kernel_rfl) (by kernel_rfl) (by rfl) (by first | assumption | decide +kernel) (by decide +kernel) ⟨rfl, rfl, rfl, rfl, rfl, by decide +kernel⟩ ?hw ?hc
  case hw => w_witness2
  case hc =>
    refine end_M (l := PySem.Challenge.rw_anyprice_k81_whole_orders_of_code) (n := 63) (k := 200) (x := s__law_script) rfl (by decide) (by kernel_rfl) ⟨rfl, by decide, by decide⟩ ?F
    intro w mg fa h Y G hmg0
    obtain ⟨K, KX, c⟩ := Y
    have hmg : mg s_law = some (.ref fa) := by
      have e : (HandSHeadRun.topDef R.prog 67).name = s_law := by kernel_rfl
      rw [← e]
      exact hmg0
    have e := hmg.symm.trans (glo KX G c s_law 1 (List.mem_of_getElem? (i := 36) rfl))
    cases e
    obtain ⟨fd, hb, hF⟩ := law_fn KX G c (PySem.Challenge.rw_anyprice_k81_whole_orders_of_code).prog w 99
    exact ⟨K, cAof nm K, fd, _, KX, hb, hlaw, fun base _ _ => hF base⟩
end Mr.K81
end
section
set_option linter.all false
set_option maxRecDepth 100000
namespace Mr
open PySem
namespace K81
/-! Z0: how the plain evaluation is stepped through -/
abbrev LL : Nat := 1000000
def cc (n : Nat) : Cal := callD P LL n
abbrev gg : Nat → Option D := fun g => P.gl[g]?

theorem fn_def (n f : Nat) (ds : List D) (st : List D) (d : Def) (h : P.defs[f]? = some d) (hl : ds.length = d.np) :
    (cc (n + 1)).fn f ds st = endFn (xSs gg (cc n) LL d.body ⟨ds.map Sl.val ++ unS (d.nl - d.np), st⟩) := by
  show (match P.defs[f]? with
      | some d => if ds.length = d.np then endFn (xSs (fun g => P.gl[g]?) (callD P LL n) LL d.body ⟨ds.map Sl.val ++ unS (d.nl - d.np), st⟩) else .stk
      | none => .stk) = _
  rw [h]
  show (if ds.length = d.np then _ else _) = _
  rw [if_pos hl]
  rfl
/-- a turn of a for -/
def forT (c : Cal) (t : DT) (b : List DS) (d : D) (fr : Fm) : Rs Fl := (asgT t d fr).bind fun _ fr => xSs gg c LL b fr
/-- a turn of a comprehension -/
def lcT (c : Cal) (own : List Nat) (t : DT) (cs : List DE) (elt : DE) (d : D) (fr : Fm) : Rs (Option D) :=
  (asgT t d ⟨wipeE fr.env own, fr.st⟩).bind fun _ fr => (evalC gg c cs fr).bind fun k fr =>
    if k then (evalE gg c elt fr).bind fun y fr => (noLoc y fr).bind fun y fr => .ok (some y) ⟨wipeE fr.env own, fr.st⟩ else .ok none ⟨wipeE fr.env own, fr.st⟩
@[simp 5000] theorem x_for (c : Cal) (t : DT) (it : DI) (b : List DS) (fr : Fm) : xS gg c LL (.for t it b) fr = (evalI gg c it fr).bind fun ds fr => forL (forT c t b) ds fr := (rfl)
@[simp 5000] theorem e_lc (c : Cal) (own : List Nat) (t : DT) (it : DI) (cs : List DE) (elt : DE) (fr : Fm) : evalE gg c (.lc own t it cs elt) fr = (evalI gg c it fr).bind fun ds fr => if noOwn fr.env own then
    (noExc (compL (lcT c own t cs elt) ds [] ⟨wipeE fr.env own, fr.st⟩)).bind fun ys fr2 => .ok (.lst ys) ⟨backE fr.env fr2.env own, fr2.st⟩ else .stk := (rfl)
@[simp 5000] theorem e_lco (c : Cal) (own : List Nat) (t : DT) (i : Nat) (cs : List DE) (elt : DE) (fr : Fm) : evalE gg c (.lco own t i cs elt) fr = (opt (ownL fr i) fr).bind fun ds fr => if noOwn fr.env own then
    (noExc (compO (lcT c own t cs elt) i ds.length ds.length [] ⟨wipeE fr.env own, fr.st⟩)).bind fun ys fr2 => .ok (.lst ys) ⟨backE fr.env fr2.env own, fr2.st⟩ else .stk := (rfl)
theorem bind_ok {α β : Type} (a : α) (fr : Fm) (k : α → Fm → Rs β) : (Rs.ok a fr).bind k = k a fr := (rfl)
theorem bind_stk {α β : Type} (k : α → Fm → Rs β) : (Rs.stk : Rs α).bind k = .stk := (rfl)
theorem ofRC_ok (env : List Sl) (d : D) (st : List D) : ofRC env (.ok d st) = .ok d ⟨env, st⟩ := (rfl)
theorem noExc_ok {α : Type} (a : α) (fr : Fm) : noExc (Rs.ok a fr) = .ok a fr := (rfl)
theorem opt_some0 {α : Type} (a : α) (fr : Fm) : opt (some a) fr = .ok a fr := (rfl)
/-! loops -/
theorem forL_rule {step : D → Fm → Rs Fl} (Inv : Nat → Fm → Prop) (ds : List D) (h : ∀ i (hi : i < ds.length) fr, Inv i fr → ∃ fr', step ds[i] fr = .ok .nx fr' ∧ Inv (i + 1) fr') {fr : Fm} (h0 : Inv 0 fr) :
    ∃ fr', forL step ds fr = .ok .nx fr' ∧ Inv ds.length fr' := by
  suffices H : ∀ (es : List D) (k : Nat) (fr : Fm), ds.drop k = es → k + es.length = ds.length → Inv k fr → ∃ fr', forL step es fr = .ok .nx fr' ∧ Inv ds.length fr' from H ds 0 fr rfl (by omega) h0
  intro es
  induction es with
  | nil =>
    intro k fr e l i
    have : k = ds.length := by simpa using l
    exact ⟨fr, rfl, by rw [← this]; exact i⟩
  | cons d es ih =>
    intro k fr e l i
    have hk : k < ds.length := by simp at l; omega
    have hd : ds[k] = d := by
      have := List.drop_eq_getElem_cons hk
      rw [this] at e
      exact (List.cons.inj e).1
    obtain ⟨fr', e1, i1⟩ := h k hk fr i
    rw [hd] at e1
    obtain ⟨fr2, e2, i2⟩ := ih (k + 1) fr' (by rw [← List.drop_drop, e]; rfl) (by simp at l; omega) i1
    refine ⟨fr2, ?_, i2⟩
    unfold forL
    rw [e1, bind_ok]
    exact e2
theorem compL_map {α : Type} {step : D → Fm → Rs (Option D)} (enc : α → D) (g : α → Option D) (fr : Fm) : ∀ (xs : List α) (acc : List D), (∀ x ∈ xs, step (enc x) fr = .ok (g x) fr) → acc.length + xs.length ≤ szL →
    compL step (xs.map enc) acc fr = .ok (acc ++ xs.filterMap g) fr
  | [], acc, _, _ => by simp [compL]
  | x :: xs, acc, h, l => by
    have ih := fun acc => compL_map enc g fr xs acc (fun y hy => h y (List.mem_cons_of_mem _ hy))
    simp only [List.map_cons, compL, h x List.mem_cons_self, bind_ok]
    simp only [List.length_cons] at l
    cases e : g x with
    | none => simp only [List.filterMap_cons, e]; exact ih acc (by omega)
    | some y =>
      simp only [List.filterMap_cons, e]
      rw [if_pos (by omega), ih _ (by simp; omega), List.append_assoc]
      rfl
theorem compO_map {α : Type} {step : D → Fm → Rs (Option D)} (enc : α → D) (g : α → Option D) (fr : Fm) (i : Nat) (xs : List α) (ho : ownL fr i = some (xs.map enc)) (h : ∀ x ∈ xs, step (enc x) fr = .ok (g x) fr) (l : xs.length ≤ szL) :
    compO step i xs.length xs.length [] fr = .ok (xs.filterMap g) fr := by
  suffices H : ∀ (k : Nat) (acc : List D), k ≤ xs.length → acc.length + k ≤ szL → compO step i xs.length k acc fr = .ok (acc ++ (xs.drop (xs.length - k)).filterMap g) fr by
    have := H xs.length [] (Nat.le_refl _) (by simpa using l)
    rw [this]; simp
  intro k
  induction k with
  | zero => intro acc _ _; simp [compO, ho]
  | succ k ih =>
    intro acc hk hl
    have hd := List.drop_eq_getElem_cons (l := xs) (i := xs.length - (k + 1)) (by omega)
    have hg : (xs.map enc)[xs.length - (k + 1)]? = some (enc xs[xs.length - (k + 1)]) := by
      rw [List.getElem?_map, List.getElem?_eq_getElem (by omega)]; rfl
    simp only [compO, ho, List.length_map, if_true, hg, opt_some0, bind_ok, h _ (List.getElem_mem _)]
    have e1 : xs.length - (k + 1) + 1 = xs.length - k := by omega
    rw [hd, e1, List.filterMap_cons]
    cases e : g xs[xs.length - (k + 1)] with
    | none => simp only; exact ih acc (by omega) (by omega)
    | some y =>
      simp only
      rw [if_pos (by omega), ih _ (by omega) (by simp; omega), List.append_assoc]
      rfl
@[simp] theorem canTy_non : canTy (.non) = true := (rfl)
@[simp] theorem isLoc_non : isLoc (.non) = false := (rfl)
@[simp] theorem isNon_non : isNon (.non) = true := (rfl)
@[simp] theorem deref_non (fr : Fm) : deref fr (.non) = some (.non) := (rfl)
@[simp] theorem noLoc_non (fr : Fm) : noLoc (.non) fr = .ok (.non) fr := (rfl)
@[simp] theorem isTy_int_non : isTy .int (.non) = false := (rfl)
@[simp] theorem isTy_bool_non : isTy .bool (.non) = false := (rfl)
@[simp] theorem isTy_str_non : isTy .str (.non) = false := (rfl)
@[simp] theorem isTy_list_non : isTy .list (.non) = false := (rfl)
@[simp] theorem isTy_tuple_non : isTy .tuple (.non) = false := (rfl)
@[simp] theorem isTy_dict_non : isTy .dict (.non) = false := (rfl)
@[simp] theorem canTy_bl (b : Bool) : canTy (.bl b) = true := (rfl)
@[simp] theorem isLoc_bl (b : Bool) : isLoc (.bl b) = false := (rfl)
@[simp] theorem isNon_bl (b : Bool) : isNon (.bl b) = false := (rfl)
@[simp] theorem deref_bl (fr : Fm) (b : Bool) : deref fr (.bl b) = some (.bl b) := (rfl)
@[simp] theorem noLoc_bl (fr : Fm) (b : Bool) : noLoc (.bl b) fr = .ok (.bl b) fr := (rfl)
@[simp] theorem isTy_int_bl (b : Bool) : isTy .int (.bl b) = true := (rfl)
@[simp] theorem isTy_bool_bl (b : Bool) : isTy .bool (.bl b) = true := (rfl)
@[simp] theorem isTy_str_bl (b : Bool) : isTy .str (.bl b) = false := (rfl)
@[simp] theorem isTy_list_bl (b : Bool) : isTy .list (.bl b) = false := (rfl)
@[simp] theorem isTy_tuple_bl (b : Bool) : isTy .tuple (.bl b) = false := (rfl)
@[simp] theorem isTy_dict_bl (b : Bool) : isTy .dict (.bl b) = false := (rfl)
@[simp] theorem canTy_int (i : Int) : canTy (.int i) = true := (rfl)
@[simp] theorem isLoc_int (i : Int) : isLoc (.int i) = false := (rfl)
@[simp] theorem isNon_int (i : Int) : isNon (.int i) = false := (rfl)
@[simp] theorem deref_int (fr : Fm) (i : Int) : deref fr (.int i) = some (.int i) := (rfl)
@[simp] theorem noLoc_int (fr : Fm) (i : Int) : noLoc (.int i) fr = .ok (.int i) fr := (rfl)
@[simp] theorem isTy_int_int (i : Int) : isTy .int (.int i) = true := (rfl)
@[simp] theorem isTy_bool_int (i : Int) : isTy .bool (.int i) = false := (rfl)
@[simp] theorem isTy_str_int (i : Int) : isTy .str (.int i) = false := (rfl)
@[simp] theorem isTy_list_int (i : Int) : isTy .list (.int i) = false := (rfl)
@[simp] theorem isTy_tuple_int (i : Int) : isTy .tuple (.int i) = false := (rfl)
@[simp] theorem isTy_dict_int (i : Int) : isTy .dict (.int i) = false := (rfl)
@[simp] theorem canTy_str (x : Str) : canTy (.str x) = true := (rfl)
@[simp] theorem isLoc_str (x : Str) : isLoc (.str x) = false := (rfl)
@[simp] theorem isNon_str (x : Str) : isNon (.str x) = false := (rfl)
@[simp] theorem deref_str (fr : Fm) (x : Str) : deref fr (.str x) = some (.str x) := (rfl)
@[simp] theorem noLoc_str (fr : Fm) (x : Str) : noLoc (.str x) fr = .ok (.str x) fr := (rfl)
@[simp] theorem isTy_int_str (x : Str) : isTy .int (.str x) = false := (rfl)
@[simp] theorem isTy_bool_str (x : Str) : isTy .bool (.str x) = false := (rfl)
@[simp] theorem isTy_str_str (x : Str) : isTy .str (.str x) = true := (rfl)
@[simp] theorem isTy_list_str (x : Str) : isTy .list (.str x) = false := (rfl)
@[simp] theorem isTy_tuple_str (x : Str) : isTy .tuple (.str x) = false := (rfl)
@[simp] theorem isTy_dict_str (x : Str) : isTy .dict (.str x) = false := (rfl)
@[simp] theorem canTy_lst (xs : List D) : canTy (.lst xs) = true := (rfl)
@[simp] theorem isLoc_lst (xs : List D) : isLoc (.lst xs) = false := (rfl)
@[simp] theorem isNon_lst (xs : List D) : isNon (.lst xs) = false := (rfl)
@[simp] theorem deref_lst (fr : Fm) (xs : List D) : deref fr (.lst xs) = some (.lst xs) := (rfl)
@[simp] theorem noLoc_lst (fr : Fm) (xs : List D) : noLoc (.lst xs) fr = .ok (.lst xs) fr := (rfl)
@[simp] theorem isTy_int_lst (xs : List D) : isTy .int (.lst xs) = false := (rfl)
@[simp] theorem isTy_bool_lst (xs : List D) : isTy .bool (.lst xs) = false := (rfl)
@[simp] theorem isTy_str_lst (xs : List D) : isTy .str (.lst xs) = false := (rfl)
@[simp] theorem isTy_list_lst (xs : List D) : isTy .list (.lst xs) = true := (rfl)
@[simp] theorem isTy_tuple_lst (xs : List D) : isTy .tuple (.lst xs) = false := (rfl)
@[simp] theorem isTy_dict_lst (xs : List D) : isTy .dict (.lst xs) = false := (rfl)
@[simp] theorem canTy_tup (xs : List D) : canTy (.tup xs) = true := (rfl)
@[simp] theorem isLoc_tup (xs : List D) : isLoc (.tup xs) = false := (rfl)
@[simp] theorem isNon_tup (xs : List D) : isNon (.tup xs) = false := (rfl)
@[simp] theorem deref_tup (fr : Fm) (xs : List D) : deref fr (.tup xs) = some (.tup xs) := (rfl)
@[simp] theorem noLoc_tup (fr : Fm) (xs : List D) : noLoc (.tup xs) fr = .ok (.tup xs) fr := (rfl)
@[simp] theorem isTy_int_tup (xs : List D) : isTy .int (.tup xs) = false := (rfl)
@[simp] theorem isTy_bool_tup (xs : List D) : isTy .bool (.tup xs) = false := (rfl)
@[simp] theorem isTy_str_tup (xs : List D) : isTy .str (.tup xs) = false := (rfl)
@[simp] theorem isTy_list_tup (xs : List D) : isTy .list (.tup xs) = false := (rfl)
@[simp] theorem isTy_tuple_tup (xs : List D) : isTy .tuple (.tup xs) = true := (rfl)
@[simp] theorem isTy_dict_tup (xs : List D) : isTy .dict (.tup xs) = false := (rfl)
@[simp] theorem canTy_dK (ks : List Key) (vs : List D) : canTy (.dK ks vs) = true := (rfl)
@[simp] theorem isLoc_dK (ks : List Key) (vs : List D) : isLoc (.dK ks vs) = false := (rfl)
@[simp] theorem isNon_dK (ks : List Key) (vs : List D) : isNon (.dK ks vs) = false := (rfl)
@[simp] theorem deref_dK (fr : Fm) (ks : List Key) (vs : List D) : deref fr (.dK ks vs) = some (.dK ks vs) := (rfl)
@[simp] theorem noLoc_dK (fr : Fm) (ks : List Key) (vs : List D) : noLoc (.dK ks vs) fr = .ok (.dK ks vs) fr := (rfl)
@[simp] theorem isTy_int_dK (ks : List Key) (vs : List D) : isTy .int (.dK ks vs) = false := (rfl)
@[simp] theorem isTy_bool_dK (ks : List Key) (vs : List D) : isTy .bool (.dK ks vs) = false := (rfl)
@[simp] theorem isTy_str_dK (ks : List Key) (vs : List D) : isTy .str (.dK ks vs) = false := (rfl)
@[simp] theorem isTy_list_dK (ks : List Key) (vs : List D) : isTy .list (.dK ks vs) = false := (rfl)
@[simp] theorem isTy_tuple_dK (ks : List Key) (vs : List D) : isTy .tuple (.dK ks vs) = false := (rfl)
@[simp] theorem isTy_dict_dK (ks : List Key) (vs : List D) : isTy .dict (.dK ks vs) = true := (rfl)
@[simp] theorem isLoc_dT (ks : List (List Key)) (vs : List D) : isLoc (.dT ks vs) = false := (rfl)
@[simp] theorem isNon_dT (ks : List (List Key)) (vs : List D) : isNon (.dT ks vs) = false := (rfl)
@[simp] theorem deref_dT (fr : Fm) (ks : List (List Key)) (vs : List D) : deref fr (.dT ks vs) = some (.dT ks vs) := (rfl)
@[simp] theorem noLoc_dT (fr : Fm) (ks : List (List Key)) (vs : List D) : noLoc (.dT ks vs) fr = .ok (.dT ks vs) fr := (rfl)
@[simp] theorem isTy_int_dT (ks : List (List Key)) (vs : List D) : isTy .int (.dT ks vs) = false := (rfl)
@[simp] theorem isTy_bool_dT (ks : List (List Key)) (vs : List D) : isTy .bool (.dT ks vs) = false := (rfl)
@[simp] theorem isTy_str_dT (ks : List (List Key)) (vs : List D) : isTy .str (.dT ks vs) = false := (rfl)
@[simp] theorem isTy_list_dT (ks : List (List Key)) (vs : List D) : isTy .list (.dT ks vs) = false := (rfl)
@[simp] theorem isTy_tuple_dT (ks : List (List Key)) (vs : List D) : isTy .tuple (.dT ks vs) = false := (rfl)
@[simp] theorem isTy_dict_dT (ks : List (List Key)) (vs : List D) : isTy .dict (.dT ks vs) = true := (rfl)
@[simp] theorem canTy_ins (C : Nat) (fs : List Str) (vs : List D) : canTy (.ins C fs vs) = true := (rfl)
@[simp] theorem isLoc_ins (C : Nat) (fs : List Str) (vs : List D) : isLoc (.ins C fs vs) = false := (rfl)
@[simp] theorem isNon_ins (C : Nat) (fs : List Str) (vs : List D) : isNon (.ins C fs vs) = false := (rfl)
@[simp] theorem deref_ins (fr : Fm) (C : Nat) (fs : List Str) (vs : List D) : deref fr (.ins C fs vs) = some (.ins C fs vs) := (rfl)
@[simp] theorem noLoc_ins (fr : Fm) (C : Nat) (fs : List Str) (vs : List D) : noLoc (.ins C fs vs) fr = .ok (.ins C fs vs) fr := (rfl)
@[simp] theorem isTy_int_ins (C : Nat) (fs : List Str) (vs : List D) : isTy .int (.ins C fs vs) = false := (rfl)
@[simp] theorem isTy_bool_ins (C : Nat) (fs : List Str) (vs : List D) : isTy .bool (.ins C fs vs) = false := (rfl)
@[simp] theorem isTy_str_ins (C : Nat) (fs : List Str) (vs : List D) : isTy .str (.ins C fs vs) = false := (rfl)
@[simp] theorem isTy_list_ins (C : Nat) (fs : List Str) (vs : List D) : isTy .list (.ins C fs vs) = false := (rfl)
@[simp] theorem isTy_tuple_ins (C : Nat) (fs : List Str) (vs : List D) : isTy .tuple (.ins C fs vs) = false := (rfl)
@[simp] theorem isTy_dict_ins (C : Nat) (fs : List Str) (vs : List D) : isTy .dict (.ins C fs vs) = false := (rfl)
@[simp] theorem isLoc_ref (k : Nat) : isLoc (.ref k) = false := (rfl)
@[simp] theorem isNon_ref (k : Nat) : isNon (.ref k) = false := (rfl)
@[simp] theorem noLoc_ref (fr : Fm) (k : Nat) : noLoc (.ref k) fr = .ok (.ref k) fr := (rfl)
@[simp] theorem isLoc_loc (i : Nat) : isLoc (.loc i) = true := (rfl)
@[simp] theorem isNon_loc (i : Nat) : isNon (.loc i) = false := (rfl)
@[simp] theorem noLoc_loc (fr : Fm) (i : Nat) : noLoc (.loc i) fr = .stk := (rfl)
@[simp] theorem canTy_ktup (xs : List D) : canTy (.ktup xs) = true := (rfl)
@[simp] theorem isLoc_ktup (xs : List D) : isLoc (.ktup xs) = false := (rfl)
@[simp] theorem isNon_ktup (xs : List D) : isNon (.ktup xs) = false := (rfl)
@[simp] theorem deref_ktup (fr : Fm) (xs : List D) : deref fr (.ktup xs) = some (.ktup xs) := (rfl)
@[simp] theorem noLoc_ktup (fr : Fm) (xs : List D) : noLoc (.ktup xs) fr = .ok (.ktup xs) fr := (rfl)
@[simp] theorem isTy_int_ktup (xs : List D) : isTy .int (.ktup xs) = false := (rfl)
@[simp] theorem isTy_bool_ktup (xs : List D) : isTy .bool (.ktup xs) = false := (rfl)
@[simp] theorem isTy_str_ktup (xs : List D) : isTy .str (.ktup xs) = false := (rfl)
@[simp] theorem isTy_list_ktup (xs : List D) : isTy .list (.ktup xs) = false := (rfl)
@[simp] theorem isTy_tuple_ktup (xs : List D) : isTy .tuple (.ktup xs) = true := (rfl)
@[simp] theorem isTy_dict_ktup (xs : List D) : isTy .dict (.ktup xs) = false := (rfl)
@[simp] theorem deref_ref (env : List Sl) (st : List D) (k : Nat) : deref ⟨env, st⟩ (.ref k) = st[k]? := (rfl)
@[simp] theorem deref_loc (env : List Sl) (st : List D) (i : Nat) (d : D) (h : env[i]? = some (.own d)) : deref ⟨env, st⟩ (.loc i) = some d := by simp [deref, h]
@[simp] theorem getS_val (env : List Sl) (st : List D) (i : Nat) (d : D) (h : env[i]? = some (.val d)) : getS ⟨env, st⟩ i = .ok d ⟨env, st⟩ := by simp [getS, h]
@[simp] theorem getS_own (env : List Sl) (st : List D) (i : Nat) (d : D) (h : env[i]? = some (.own d)) : getS ⟨env, st⟩ i = .ok d ⟨env.set i (.val d), st⟩ := by simp [getS, h]
@[simp] theorem peek_val (env : List Sl) (st : List D) (i : Nat) (d : D) (h : env[i]? = some (.val d)) : peek ⟨env, st⟩ i = .ok d ⟨env, st⟩ := by simp [peek, h]
@[simp] theorem peek_own (env : List Sl) (st : List D) (i : Nat) (d : D) (h : env[i]? = some (.own d)) : peek ⟨env, st⟩ i = .ok (.loc i) ⟨env, st⟩ := by simp [peek, h]
@[simp] theorem ownL_lst (env : List Sl) (st : List D) (i : Nat) (xs : List D) (h : env[i]? = some (.own (.lst xs))) : ownL ⟨env, st⟩ i = some xs := by simp [ownL, h]
@[simp] theorem truD_non : truD .non = some false := (rfl)
@[simp] theorem truD_bl (b : Bool) : truD (.bl b) = some b := (rfl)
@[simp] theorem truD_int (i : Int) : truD (.int i) = some (i != 0) := (rfl)
@[simp] theorem truD_lst (xs : List D) : truD (.lst xs) = some (!xs.isEmpty) := (rfl)
@[simp] theorem truD_tup (xs : List D) : truD (.tup xs) = some (!xs.isEmpty) := (rfl)
@[simp] theorem opt_some{α : Type} (a : α) (fr : Fm) : opt (some a) fr = .ok a fr := (rfl)
@[simp] theorem opt_none{α : Type} (fr : Fm) : opt (none : Option α) fr = .stk := (rfl)
@[simp] theorem binD_add_int (i j : Int) : binD .add (.int i) (.int j) = some (.int (i + j)) := (rfl)
@[simp] theorem binD_sub_int (i j : Int) : binD .sub (.int i) (.int j) = some (.int (i - j)) := (rfl)
@[simp] theorem binD_mul_int (i j : Int) (h : mulOk i j = true) : binD .mul (.int i) (.int j) = some (.int (i * j)) := by simp [binD, h]
@[simp] theorem binD_fdiv_int (i j : Int) (h : 0 < j) (h2 : j < 1073741824) : binD .fdiv (.int i) (.int j) = some (.int (i / j)) := by simp [binD, h, h2]
@[simp] theorem binD_mod_int (i j : Int) (h : 0 < j) : binD .mod (.int i) (.int j) = some (.int (i % j)) := by simp [binD, h]
@[simp] theorem binD_add_lst (xs ys : List D) (h : xs.length + ys.length ≤ szL) : binD .add (.lst xs) (.lst ys) = some (.lst (xs ++ ys)) := by simp only [binD, if_pos h]
@[simp] theorem binD_add_tup (xs ys : List D) (h : xs.length + ys.length ≤ szL) : binD .add (.tup xs) (.tup ys) = some (.tup (xs ++ ys)) := by simp only [binD, if_pos h]
@[simp] theorem cmpD_lt_int (i j : Int) : cmpD .lt (.int i) (.int j) = some (decide (i < j)) := (rfl)
@[simp] theorem cmpD_le_int (i j : Int) : cmpD .le (.int i) (.int j) = some (decide (i ≤ j)) := (rfl)
@[simp] theorem cmpD_gt_int (i j : Int) : cmpD .gt (.int i) (.int j) = some (decide (j < i)) := (rfl)
@[simp] theorem cmpD_ge_int (i j : Int) : cmpD .ge (.int i) (.int j) = some (decide (j ≤ i)) := (rfl)
@[simp] theorem cmpD_eq (a b : D) : cmpD .eq a b = eqD a b := (rfl)
@[simp] theorem cmpD_ne (a b : D) : cmpD .ne a b = (eqD a b).map not := (rfl)
@[simp] theorem cmpD_mem (a b : D) : cmpD .mem a b = memD a b := (rfl)
@[simp] theorem cmpD_nmem (a b : D) : cmpD .nmem a b = (memD a b).map not := (rfl)
@[simp] theorem eqD_int (i j : Int) : eqD (.int i) (.int j) = some (i == j) := (rfl)
@[simp] theorem ixD_lst (xs : List D) (i : Int) : ixD (.lst xs) (.int i) = mAt xs i := (rfl)
@[simp] theorem ixD_tup (xs : List D) (i : Int) : ixD (.tup xs) (.int i) = mAt xs i := (rfl)
@[simp] theorem ixD_ktup (xs : List D) (i : Int) : ixD (.ktup xs) (.int i) = mAt xs i := (rfl)
@[simp] theorem bf_len_lst (xs : List D) : bfD .len [.lst xs] = some (.int xs.length) := (rfl)
@[simp] theorem bf_len_tup (xs : List D) : bfD .len [.tup xs] = some (.int xs.length) := (rfl)
@[simp] theorem bf_int_int (i : Int) : bfD .int [.int i] = some (.int i) := (rfl)
@[simp] theorem bf_int_bl (b : Bool) : bfD .int [.bl b] = some (.int (if b then 1 else 0)) := (rfl)
@[simp] theorem bf_all (xs : List D) : bfD .all [.lst xs] = (boolsD xs).map fun bs => .bl (bs.all id) := (rfl)
@[simp] theorem bf_any (xs : List D) : bfD .any [.lst xs] = (boolsD xs).map fun bs => .bl (bs.any id) := (rfl)
@[simp] theorem bf_sum (xs : List D) : bfD .sum [.lst xs] = (intsD xs).map fun is => .int is.sum := (rfl)
@[simp] theorem bf_list_lst (xs : List D) : bfD .list [.lst xs] = some (.lst xs) := (rfl)
@[simp] theorem bf_list_tup (xs : List D) : bfD .list [.tup xs] = some (.lst xs) := (rfl)
@[simp] theorem bf_tuple_lst (xs : List D) : bfD .tuple [.lst xs] = some (.tup xs) := (rfl)
@[simp] theorem bf_tuple_tup (xs : List D) : bfD .tuple [.tup xs] = some (.tup xs) := (rfl)
@[simp] theorem bmKind_append (xs : List D) : bmKind .append (.lst xs) = true := (rfl)
@[simp] theorem bmKind_extend (xs : List D) : bmKind .extend (.lst xs) = true := (rfl)
@[simp] theorem bmKind_pop (xs : List D) : bmKind .pop (.lst xs) = true := (rfl)
@[simp] theorem bmKind_popAt (xs : List D) : bmKind .popAt (.lst xs) = true := (rfl)
@[simp] theorem bmKind_remove (xs : List D) : bmKind .remove (.lst xs) = true := (rfl)
@[simp] theorem bmKind_get1 (ks : List Key) (vs : List D) : bmKind .get1 (.dK ks vs) = true := (rfl)
@[simp] theorem bmKind_get2 (ks : List Key) (vs : List D) : bmKind .get2 (.dK ks vs) = true := (rfl)
@[simp] theorem bm_append (xs : List D) (d : D) (h : xs.length < szL) : bmD .append (.lst xs) [d] = some (.non, some (.lst (xs ++ [d]))) := by simp only [bmD, if_pos h]
@[simp] theorem bm_extend (xs ys : List D) (h : xs.length + ys.length ≤ szL) : bmD .extend (.lst xs) [.lst ys] = some (.non, some (.lst (xs ++ ys))) := by simp only [bmD, if_pos h]
@[simp] theorem bmArgs_append (fr : Fm) (ds : List D) (h : ds.any isLoc = false) : bmArgs fr .append ds = some ds := by simp [bmArgs, h]
@[simp] theorem bmArgs_pop (fr : Fm) (ds : List D) (h : ds.any isLoc = false) : bmArgs fr .pop ds = some ds := by simp [bmArgs, h]
@[simp] theorem bmArgs_popAt (fr : Fm) (ds : List D) (h : ds.any isLoc = false) : bmArgs fr .popAt ds = some ds := by simp [bmArgs, h]
@[simp] theorem bmArgs_remove (fr : Fm) (ds : List D) (h : ds.any isLoc = false) : bmArgs fr .remove ds = some ds := by simp [bmArgs, h]
@[simp] theorem bmArgs_get1 (fr : Fm) (ds : List D) (h : ds.any isLoc = false) : bmArgs fr .get1 ds = some ds := by simp [bmArgs, h]
@[simp] theorem bmArgs_get2 (fr : Fm) (ds : List D) (h : ds.any isLoc = false) : bmArgs fr .get2 ds = some ds := by simp [bmArgs, h]
@[simp] theorem bmArgs_extend (fr : Fm) (d : D) : bmArgs fr .extend [d] = (deref fr d).map ([·]) := (rfl)
@[simp] theorem putC_ref (env : List Sl) (st : List D) (k : Nat) (c : D) : putC ⟨env, st⟩ (.ref k) c = some ⟨env, st.set k c⟩ := (rfl)
@[simp] theorem putC_loc (env : List Sl) (st : List D) (k : Nat) (c : D) : putC ⟨env, st⟩ (.loc k) c = some ⟨env.set k (.own c), st⟩ := (rfl)
@[simp] theorem ownS_lst (i : Nat) (xs : List D) (env : List Sl) (st : List D) : ownS i (.lst xs) ⟨env, st⟩ = .ok () ⟨env.set i (.own (.lst xs)), st⟩ := (rfl)
@[simp] theorem ownS_dK (i : Nat) (ks : List Key) (vs : List D) (env : List Sl) (st : List D) : ownS i (.dK ks vs) ⟨env, st⟩ = .ok () ⟨env.set i (.own (.dK ks vs)), st⟩ := (rfl)
@[simp] theorem ownS_dT (i : Nat) (ks : List (List Key)) (vs : List D) (env : List Sl) (st : List D) : ownS i (.dT ks vs) ⟨env, st⟩ = .ok () ⟨env.set i (.own (.dT ks vs)), st⟩ := (rfl)
@[simp] theorem liveR_lst (xs : List D) (env : List Sl) (st : List D) : liveR (.lst xs) ⟨env, st⟩ = .ok (.ref st.length) ⟨env, st ++ [.lst xs]⟩ := (rfl)
@[simp] theorem asgT_nm (i : Nat) (d : D) (env : List Sl) (st : List D) : asgT (.nm i) d ⟨env, st⟩ = .ok () ⟨env.set i (.val d), st⟩ := (rfl)
@[simp] theorem asgT_tup (ts : List DT) (xs : List D) (fr : Fm) (h : xs.length = ts.length) : asgT (.tp ts) (.tup xs) fr = asgTs ts xs fr := by simp [asgT, h]
@[simp] theorem asgT_lst (ts : List DT) (xs : List D) (fr : Fm) (h : xs.length = ts.length) : asgT (.tp ts) (.lst xs) fr = asgTs ts xs fr := by simp [asgT, h]
@[simp] theorem asgTs_nil (ds : List D) (fr : Fm) : asgTs [] ds fr = .ok () fr := (rfl)
@[simp] theorem asgTs_cons (t : DT) (ts : List DT) (d : D) (ds : List D) (fr : Fm) : asgTs (t :: ts) (d :: ds) fr = (asgT t d fr).bind fun _ fr => asgTs ts ds fr := (rfl)
@[simp] theorem parS_nil (ds : List D) (fr : Fm) : parS [] ds fr = .ok () fr := (rfl)
@[simp] theorem parS_own (i : Nat) (is : List (Nat × Bool)) (d : D) (ds : List D) (fr : Fm) : parS ((i, true) :: is) (d :: ds) fr = (ownS i d fr).bind fun _ fr => parS is ds fr := (rfl)
@[simp] theorem parS_val (i : Nat) (is : List (Nat × Bool)) (d : D) (ds : List D) (env : List Sl) (st : List D) : parS ((i, false) :: is) (d :: ds) ⟨env, st⟩ = parS is ds ⟨env.set i (.val d), st⟩ := (rfl)
@[simp] theorem endFn_nx (fr : Fm) : endFn (.ok .nx fr) = .ok .non fr.st := (rfl)
@[simp] theorem endFn_ret (d : D) (fr : Fm) : endFn (.ok (.ret d) fr) = .ok d fr.st := (rfl)
@[simp] theorem isMut_lst (xs : List D) : isMut (.lst xs) = true := (rfl)
@[simp] theorem isMut_dK (ks : List Key) (vs : List D) : isMut (.dK ks vs) = true := (rfl)
@[simp] theorem isMut_dT (ks : List (List Key)) (vs : List D) : isMut (.dT ks vs) = true := (rfl)
@[simp] theorem iterD_lst (fr : Fm) (xs : List D) : iterD fr (.lst xs) = some xs := (rfl)
@[simp] theorem iterD_tup (fr : Fm) (xs : List D) : iterD fr (.tup xs) = some xs := (rfl)
@[simp] theorem mSx_none (n d : Nat) : mSx n d none = d := (rfl)
@[simp] theorem cutL_all (xs : List D) (lo hi : Option Int) : slD (.lst xs) lo hi = some (.lst (cutL xs lo hi)) := (rfl)
@[simp] theorem splice_lst (fr : Fm) (xs : List D) : splice fr (.lst xs) = some xs := (rfl)
@[simp] theorem splice_tup (fr : Fm) (xs : List D) : splice fr (.tup xs) = some xs := (rfl)
theorem bind_congr {α β : Type} {m m2 : Rs α} {k : α → Fm → Rs β} (h : m = m2) : m.bind k = m2.bind k := by rw [h]


def lstR (xs : List D) (fr : Fm) : Rs D := if xs.length ≤ szL then .ok (.lst xs) fr else .stk
def tupR (xs : List D) (fr : Fm) : Rs D := if xs.length ≤ szL then .ok (.tup xs) fr else .stk
@[simp] theorem lstR_ok (xs : List D) (fr : Fm) (h : xs.length ≤ szL) : lstR xs fr = .ok (.lst xs) fr := by simp [lstR, h]
@[simp] theorem tupR_ok (xs : List D) (fr : Fm) (h : xs.length ≤ szL) : tupR xs fr = .ok (.tup xs) fr := by simp [tupR, h]
@[simp] theorem sz0 : 0 ≤ szL := by decide
@[simp] theorem sz1 : 1 ≤ szL := by decide
@[simp] theorem sz2 : 2 ≤ szL := by decide
@[simp] theorem sz3 : 3 ≤ szL := by decide
@[simp] theorem sz4 : 4 ≤ szL := by decide
@[simp] theorem sz5 : 5 ≤ szL := by decide
@[simp] theorem sz7 : 7 ≤ szL := by decide
@[simp] theorem sz13 : 13 ≤ szL := by decide
theorem sz_le {n : Nat} (h : n ≤ 1000000) : n ≤ szL := Nat.le_trans h (by decide)
theorem sz_lt {n : Nat} (h : n ≤ 1000000) : n < szL := Nat.lt_of_le_of_lt h (by decide)
def dicR (ps : List (Key × D)) (fr : Fm) : Rs D := if ps.length ≤ 15 then .ok (.dK (mkDic ps ([], [])).1 (mkDic ps ([], [])).2) fr else .stk
def attD (f : Str) : D → Option D
  | .ins _ fs vs => look fs vs f
  | _ => none
@[simp] theorem attD_ins (f : Str) (C : Nat) (fs : List Str) (vs : List D) : attD f (.ins C fs vs) = look fs vs f := (rfl)
def bmR (r : D × Option D) (x : D) (fr : Fm) : Rs D := match r.2 with
    | none => .ok r.1 fr
    | some n => (opt (putC fr x n) fr).bind fun fr _ => .ok r.1 fr
@[simp] theorem bmR_none (v x : D) (fr : Fm) : bmR (v, none) x fr = .ok v fr := (rfl)
@[simp] theorem bmR_ref (v n : D) (k : Nat) (env : List Sl) (st : List D) : bmR (v, some n) (.ref k) ⟨env, st⟩ = .ok v ⟨env, st.set k n⟩ := (rfl)
@[simp] theorem bmR_loc (v n : D) (k : Nat) (env : List Sl) (st : List D) : bmR (v, some n) (.loc k) ⟨env, st⟩ = .ok v ⟨env.set k (.own n), st⟩ := (rfl)
def lrngR (x : D) (fr : Fm) : Rs D := match x with
    | .int n => if decide (0 ≤ n) && decide (n ≤ 16777216) then .ok (.lst (rangeD 0 n.toNat)) fr else .stk
    | _ => .stk
theorem lrngR_nat (n : Nat) (fr : Fm) (h : n ≤ 16777216) : lrngR (.int n) fr = .ok (.lst ((List.range n).map fun (k : Nat) => .int (k : Int))) fr := by
  unfold lrngR
  simp only
  rw [if_pos (by simp; omega)]
  simp [rangeD]
def negR (x : D) (fr : Fm) : Rs D := match x with
    | .int i => .ok (.int (-i)) fr
    | _ => .stk
@[simp] theorem negR_int (i : Int) (fr : Fm) : negR (.int i) fr = .ok (.int (-i)) fr := (rfl)
@[simp] theorem test_def (d : D) (fr : Fm) : test d fr = opt ((deref fr d).bind truD) fr := (rfl)

@[simp] theorem ev_var (c : Cal) (i : Nat) (fr : Fm) : evalE gg c (.var i) fr = getS fr i := by rw [evalE]
@[simp] theorem ev_pk (c : Cal) (i : Nat) (fr : Fm) : evalE gg c (.pk i) fr = peek fr i := by rw [evalE]
@[simp] theorem ev_con (c : Cal) (d : D) (fr : Fm) : evalE gg c (.con d) fr = .ok d fr := by rw [evalE]
@[simp] theorem ev_glb (c : Cal) (g : Nat) (fr : Fm) : evalE gg c (.glb g) fr = opt (gg g) fr := by rw [evalE]
@[simp] theorem ev_bin (c : Cal) (o : BO) (a b : DE) (fr : Fm) : evalE gg c (.bin o a b) fr = (evalE gg c a fr).bind fun x fr => (evalE gg c b fr).bind fun y fr => opt ((deref fr x).bind fun x => (deref fr y).bind fun y => binD o x y) fr := by rw [evalE]
@[simp] theorem ev_nt (c : Cal) (a : DE) (fr : Fm) : evalE gg c (.nt a) fr = (evalE gg c a fr).bind fun x fr => (test x fr).bind fun b fr => .ok (.bl (!b)) fr := by rw [evalE]
@[simp] theorem ev_cmp (c : Cal) (o : CO) (a b : DE) (fr : Fm) : evalE gg c (.cmp o a b) fr = (evalE gg c a fr).bind fun x fr => (evalE gg c b fr).bind fun y fr => opt ((deref fr x).bind fun x => (deref fr y).bind fun y => (cmpD o x y).map .bl) fr := by rw [evalE]
@[simp] theorem ev_chn (c : Cal) (o1 o2 : CO) (a b e : DE) (fr : Fm) : evalE gg c (.chn o1 o2 a b e) fr = (evalE gg c a fr).bind fun x fr => (evalE gg c b fr).bind fun y fr => (opt ((deref fr x).bind fun x => (deref fr y).bind fun y => cmpD o1 x y) fr).bind fun k fr => if k then (evalE gg c e fr).bind fun z fr => opt ((deref fr y).bind fun y => (deref fr z).bind fun z => (cmpD o2 y z).map .bl) fr else .ok (.bl false) fr := by rw [evalE]
@[simp] theorem ev_isN (c : Cal) (a : DE) (fr : Fm) : evalE gg c (.isN a) fr = (evalE gg c a fr).bind fun x fr => (noLoc x fr).bind fun x fr => .ok (.bl (isNon x)) fr := by rw [evalE]
@[simp] theorem ev_isNn (c : Cal) (a : DE) (fr : Fm) : evalE gg c (.isNn a) fr = (evalE gg c a fr).bind fun x fr => (noLoc x fr).bind fun x fr => .ok (.bl (!isNon x)) fr := by rw [evalE]
@[simp] theorem ev_and (c : Cal) (es : List DE) (fr : Fm) : evalE gg c (.and es) fr = evalAnd gg c es fr := by rw [evalE]
@[simp] theorem ev_or (c : Cal) (es : List DE) (fr : Fm) : evalE gg c (.or es) fr = evalOr gg c es fr := by rw [evalE]
@[simp] theorem ev_ite (c : Cal) (e a b : DE) (fr : Fm) : evalE gg c (.ite e a b) fr = (evalE gg c e fr).bind fun x fr => (test x fr).bind fun k fr => if k then evalE gg c a fr else evalE gg c b fr := by rw [evalE]
@[simp] theorem ev_lst (c : Cal) (es : List DE) (fr : Fm) : evalE gg c (.lst es) fr = (evalEs gg c es fr).bind lstR := by rw [evalE]; rfl
@[simp] theorem ev_tup (c : Cal) (es : List DE) (fr : Fm) : evalE gg c (.tup es) fr = (evalEs gg c es fr).bind tupR := by rw [evalE]; rfl
@[simp] theorem ev_dicT (c : Cal) (kvs : List DE) (fr : Fm) : evalE gg c (.dic true kvs) fr = .ok (.dT [] []) fr := by rw [evalE]; rfl
@[simp] theorem ev_dicF (c : Cal) (kvs : List DE) (fr : Fm) : evalE gg c (.dic false kvs) fr = (evalKV gg c kvs fr).bind dicR := by rw [evalE]; rfl
@[simp] theorem ev_ix (c : Cal) (a b : DE) (fr : Fm) : evalE gg c (.ix a b) fr = (evalE gg c a fr).bind fun x fr => (evalE gg c b fr).bind fun y fr => opt ((deref fr x).bind fun x => (deref fr y).bind fun y => ixD x y) fr := by rw [evalE]
@[simp] theorem ev_sl (c : Cal) (a : DE) (lo hi : List DE) (fr : Fm) : evalE gg c (.sl a lo hi) fr = (evalE gg c a fr).bind fun x fr => (evalO gg c lo fr).bind fun l fr => (evalO gg c hi fr).bind fun h fr => opt ((deref fr x).bind fun x => slD x l h) fr := by rw [evalE]
@[simp] theorem ev_att (c : Cal) (a : DE) (f : Str) (fr : Fm) : evalE gg c (.att a f) fr = (evalE gg c a fr).bind fun x fr => opt ((deref fr x).bind (attD f)) fr := by
  rw [evalE]
  congr 1
  funext x fr
  cases deref fr x with
  | none => rfl
  | some d => cases d <;> rfl
@[simp] theorem ev_call (c : Cal) (f : Nat) (es : List DE) (fr : Fm) : evalE gg c (.call f es) fr = (evalEs gg c es fr).bind fun ds fr => ofRC fr.env (c.fn f ds fr.st) := by rw [evalE]
@[simp] theorem ev_new (c : Cal) (C : Nat) (es : List DE) (fr : Fm) : evalE gg c (.new C es) fr = (evalEs gg c es fr).bind fun ds fr => ofRC fr.env (c.ini C ds fr.st) := by rw [evalE]
@[simp] theorem ev_bf (c : Cal) (f : BF) (es : List DE) (fr : Fm) : evalE gg c (.bf f es) fr = (evalPs gg c es fr).bind fun ds fr => opt ((derefs fr ds).bind (bfD f)) fr := by rw [evalE]
@[simp] theorem ev_bm (c : Cal) (m : BM) (o : DE) (es : List DE) (fr : Fm) : evalE gg c (.bm m o es) fr = (evalE gg c o fr).bind fun x fr => (opt (deref fr x) fr).bind fun k fr => if bmKind m k then (evalPs gg c es fr).bind fun ds fr => (opt ((deref fr x).bind fun x => (bmArgs fr m ds).bind fun ds => bmD m x ds) fr).bind fun r fr => bmR r x fr else .stk := by rw [evalE]; rfl
@[simp] theorem ev_isi (c : Cal) (e : DE) (cs : List Tc) (fr : Fm) : evalE gg c (.isi e cs) fr = (evalE gg c e fr).bind fun x fr => (opt (deref fr x) fr).bind fun d fr => if canTy d then .ok (.bl (cs.any fun t => isTy t d)) fr else .stk := by rw [evalE]
@[simp] theorem ev_live (c : Cal) (e : DE) (fr : Fm) : evalE gg c (.live e) fr = (evalE gg c e fr).bind fun d fr => liveR d fr := by rw [evalE]
@[simp] theorem ev_lrng (c : Cal) (a : DE) (fr : Fm) : evalE gg c (.lrng a) fr = (evalE gg c a fr).bind lrngR := by rw [evalE]; rfl
@[simp] theorem ev_neg (c : Cal) (a : DE) (fr : Fm) : evalE gg c (.neg a) fr = (evalE gg c a fr).bind negR := by rw [evalE]; rfl
def atrD (f : Str) (d : D) : D → Option D
  | .ins C fs vs => if fs.length < 1000 then some (.ins C (putA fs vs f d).1 (putA fs vs f d).2) else none
  | _ => none
@[simp] theorem atrD_ins (f : Str) (d : D) (C : Nat) (fs : List Str) (vs : List D) (h : fs.length < 1000) : atrD f d (.ins C fs vs) = some (.ins C (putA fs vs f d).1 (putA fs vs f d).2) := by simp [atrD, h]
@[simp] theorem xs_ex (c : Cal) (e : DE) (fr : Fm) : xS gg c LL (.ex e) fr = (evalE gg c e fr).bind fun _ fr => .ok .nx fr := by rw [xS]
@[simp] theorem xs_asg (c : Cal) (t : DT) (e : DE) (fr : Fm) : xS gg c LL (.asg t e) fr = (evalE gg c e fr).bind fun d fr => (noLoc d fr).bind fun d fr => (asgT t d fr).bind fun _ fr => .ok .nx fr := by rw [xS]
@[simp] theorem xs_own (c : Cal) (i : Nat) (e : DE) (fr : Fm) : xS gg c LL (.own i e) fr = (evalE gg c e fr).bind fun d fr => (ownS i d fr).bind fun _ fr => .ok .nx fr := by rw [xS]
@[simp] theorem xs_par (c : Cal) (is : List (Nat × Bool)) (es : List DE) (fr : Fm) : xS gg c LL (.par is es) fr = (evalPar gg c is es fr).bind fun ds fr => (parS is ds fr).bind fun _ fr => .ok .nx fr := by rw [xS]
@[simp] theorem xs_sub (c : Cal) (o i e : DE) (fr : Fm) : xS gg c LL (.sub o i e) fr = (evalE gg c e fr).bind fun d fr => (noLoc d fr).bind fun d fr => (evalE gg c o fr).bind fun x fr => (evalE gg c i fr).bind fun k fr => (opt ((deref fr x).bind fun n => (setD n k d).bind (putC fr x)) fr).bind fun fr _ => .ok .nx fr := by rw [xS]
@[simp] theorem xs_atr (c : Cal) (o : DE) (f : Str) (e : DE) (fr : Fm) : xS gg c LL (.atr o f e) fr = (evalE gg c e fr).bind fun d fr => (noLoc d fr).bind fun d fr => (evalE gg c o fr).bind fun x fr => (opt ((deref fr x).bind fun n => (atrD f d n).bind (putC fr x)) fr).bind fun fr _ => .ok .nx fr := by
  rw [xS]
  congr 1; funext d fr
  congr 1; funext d fr
  congr 1; funext x fr
  congr 1
  congr 1
  cases deref fr x with
  | none => rfl
  | some n =>
    cases n <;> try rfl
    simp only [atrD, Option.bind_some]
    split <;> rfl
@[simp] theorem xs_ret (c : Cal) (e : DE) (fr : Fm) : xS gg c LL (.ret e) fr = (evalE gg c e fr).bind fun d fr => (noLoc d fr).bind fun d fr => .ok (.ret d) fr := by rw [xS]
@[simp] theorem xs_retN (c : Cal)  (fr : Fm) : xS gg c LL (.retN) fr = .ok (.ret .non) fr := by rw [xS]
@[simp] theorem xs_ite (c : Cal) (e : DE) (a b : List DS) (fr : Fm) : xS gg c LL (.ite e a b) fr = (evalE gg c e fr).bind fun x fr => (test x fr).bind fun k fr => if k then xSs gg c LL a fr else xSs gg c LL b fr := by rw [xS]
@[simp] theorem xss_nil (c : Cal) (fr : Fm) : xSs gg c LL [] fr = .ok .nx fr := by rw [xSs]
def thenR (c : Cal) (ss : List DS) (f : Fl) (fr : Fm) : Rs Fl := match f with
  | .nx => xSs gg c LL ss fr
  | f => .ok f fr
@[simp] theorem thenR_nx (c : Cal) (ss : List DS) (fr : Fm) : thenR c ss .nx fr = xSs gg c LL ss fr := (rfl)
@[simp] theorem thenR_ret (c : Cal) (ss : List DS) (d : D) (fr : Fm) : thenR c ss (.ret d) fr = .ok (.ret d) fr := (rfl)
@[simp] theorem xss_cons (c : Cal) (s : DS) (ss : List DS) (fr : Fm) : xSs gg c LL (s :: ss) fr = (xS gg c LL s fr).bind (thenR c ss) := by rw [xSs]; rfl
def whC (c : Cal) (e : DE) (fr : Fm) : Rs Bool := (evalE gg c e fr).bind fun x fr => test x fr
def whB (c : Cal) (b : List DS) (fr : Fm) : Rs Fl := xSs gg c LL b fr
@[simp] theorem xs_whl (c : Cal) (e : DE) (b : List DS) (fr : Fm) : xS gg c LL (.whl e b) fr = whileL LL (whC c e) (whB c b) fr := by rw [xS]; rfl
def optI (d : D) (fr : Fm) : Rs (Option Int) := match d with
  | .int i => .ok (some i) fr
  | _ => .stk
@[simp] theorem optI_int (i : Int) (fr : Fm) : optI (.int i) fr = .ok (some i) fr := (rfl)
@[simp] theorem evalO_none (c : Cal) (fr : Fm) : evalO gg c [] fr = .ok none fr := by simp [evalO]
@[simp] theorem evalO_one (c : Cal) (e : DE) (fr : Fm) : evalO gg c [e] fr = (evalE gg c e fr).bind optI := by
  simp only [evalO]
  congr 1
/-! what holds behind an evaluation -/
def W {α : Type} (r : Rs α) (Q : α → Fm → Prop) : Prop := ∃ a fr, r = .ok a fr ∧ Q a fr
theorem W_ok {α : Type} {a : α} {fr : Fm} {Q : α → Fm → Prop} (h : Q a fr) : W (.ok a fr) Q := ⟨a, fr, rfl, h⟩
@[simp] theorem W_iff {α : Type} (a : α) (fr : Fm) (Q : α → Fm → Prop) : W (.ok a fr) Q ↔ Q a fr := ⟨fun ⟨_, _, e, h⟩ => by cases e; exact h, W_ok⟩
theorem W_bind {α β : Type} {m : Rs α} {k : α → Fm → Rs β} {Q : β → Fm → Prop} (h : W m fun a fr => W (k a fr) Q) : W (m.bind k) Q := by
  obtain ⟨a, fr, rfl, h⟩ := h
  exact h
theorem W_mono {α : Type} {m : Rs α} {Q R : α → Fm → Prop} (h : W m Q) (k : ∀ a fr, Q a fr → R a fr) : W m R := by
  obtain ⟨a, fr, e, h⟩ := h
  exact ⟨a, fr, e, k a fr h⟩
theorem bind_assoc {α β γ : Type} (m : Rs α) (f : α → Fm → Rs β) (g : β → Fm → Rs γ) : (m.bind f).bind g = m.bind fun a fr => (f a fr).bind g := by cases m <;> rfl
theorem eq_of_W {α : Type} {m : Rs α} {a : α} {fr : Fm} (h : W m fun x f => x = a ∧ f = fr) : m = .ok a fr := by
  obtain ⟨_, _, e, rfl, rfl⟩ := h
  exact e
theorem W_for {β : Type} {step : D → Fm → Rs Fl} {ds : List D} {fr : Fm} {k : Fl → Fm → Rs β} {Q : β → Fm → Prop} (Inv : Nat → Fm → Prop) (h0 : Inv 0 fr)
    (hs : ∀ i (hi : i < ds.length) fr, Inv i fr → ∀ R : Fl → Fm → Prop, (∀ fr', Inv (i + 1) fr' → R .nx fr') → W (step ds[i] fr) R) (hk : ∀ fr', Inv ds.length fr' → W (k .nx fr') Q) : W ((forL step ds fr).bind k) Q := by
  obtain ⟨fr', e, h⟩ := forL_rule Inv ds (step := step) (fun i hi fr h => by
    obtain ⟨a, fr', e, rfl, h⟩ := hs i hi fr h (fun fl fr' => fl = .nx ∧ Inv (i + 1) fr') (fun _ h => ⟨rfl, h⟩)
    exact ⟨fr', e, h⟩) h0
  rw [e]
  exact hk fr' h
/-- over a list of encoded things -/
theorem W_forE {α β : Type} {step : D → Fm → Rs Fl} {fr : Fm} {k : Fl → Fm → Rs β} {Q : β → Fm → Prop} (enc : α → D) (xs : List α) (Inv : List α → Fm → Prop) (h0 : Inv [] fr)
    (hs : ∀ pre x post fr, xs = pre ++ x :: post → Inv pre fr → ∀ R : Fl → Fm → Prop, (∀ fr', Inv (pre ++ [x]) fr' → R .nx fr') → W (step (enc x) fr) R) (hk : ∀ fr', Inv xs fr' → W (k .nx fr') Q) : W ((forL step (xs.map enc) fr).bind k) Q := by
  refine W_for (fun i fr => Inv (xs.take i) fr) (by simpa using h0) (fun i hi fr h R => ?_) (fun fr' h => hk fr' (by simpa using h))
  simp only [List.length_map] at hi
  have e : xs = xs.take i ++ xs[i] :: xs.drop (i + 1) := by rw [← List.drop_eq_getElem_cons hi, List.take_append_drop]
  have := hs (xs.take i) xs[i] (xs.drop (i + 1)) fr e h R
  rw [List.getElem_map]
  have t : xs.take (i + 1) = xs.take i ++ [xs[i]] := (List.take_append_getElem hi).symm
  rw [t]
  exact this
theorem W_while {β : Type} {c : Fm → Rs Bool} {b : Fm → Rs Fl} {fr : Fm} {k : Fl → Fm → Rs β} {Q : β → Fm → Prop} (Inv : Nat → Fm → Prop) (m : Nat) (h0 : Inv m fr) (L : Nat) (hL : m < L)
    (hs : ∀ m fr, Inv m fr → W (c fr) fun t fr => if t = true then ∀ R : Fl → Fm → Prop, (∀ m' fr, m' < m → Inv m' fr → R .nx fr) → W (b fr) R else W (k .nx fr) Q) : W ((whileL L c b fr).bind k) Q := by
  induction L generalizing m fr with
  | zero => omega
  | succ L ih =>
    obtain ⟨t, fr1, e, h1⟩ := hs m fr h0
    simp only [whileL, e, bind_ok]
    cases t with
    | false => simp only [Bool.false_eq_true, if_false] at h1; exact h1
    | true =>
      simp only [if_true] at h1
      obtain ⟨fl, fr2, e2, rfl, m', hm, h2⟩ := h1 (fun fl fr => fl = .nx ∧ ∃ m' < m, Inv m' fr) (fun m' fr hm h => ⟨rfl, m', hm, h⟩)
      simp only [if_true, e2, bind_ok]
      exact ih m' h2 (by omega)
/-- a comprehension with draws -/
theorem W_comp {α β : Type} {step : D → Fm → Rs (Option D)} {fr : Fm} {k : List D → Fm → Rs β} {Q : β → Fm → Prop} (enc : α → D) (xs : List α) (Inv : List α → List D → Fm → Prop) (h0 : Inv [] [] fr) (hl : xs.length ≤ szL)
    (hs : ∀ pre x post acc fr, xs = pre ++ x :: post → Inv pre acc fr → ∀ R : Option D → Fm → Prop, (∀ y fr', Inv (pre ++ [x]) (acc ++ [y]) fr' → R (some y) fr') → W (step (enc x) fr) R) (hk : ∀ ys fr', Inv xs ys fr' → W (k ys fr') Q) : W ((noExc (compL step (xs.map enc) [] fr)).bind k) Q := by
  suffices H : ∀ (post pre : List α) (acc : List D) (fr : Fm), xs = pre ++ post → acc.length = pre.length → Inv pre acc fr → ∃ ys fr', compL step (post.map enc) acc fr = .ok ys fr' ∧ Inv xs ys fr' by
    obtain ⟨ys, fr', e, h⟩ := H xs [] [] fr rfl rfl h0
    rw [e, noExc_ok, bind_ok]
    exact hk ys fr' h
  intro post
  induction post with
  | nil => intro pre acc fr e _ h; refine ⟨acc, fr, rfl, ?_⟩; rw [e, List.append_nil]; exact h
  | cons x post ih =>
    intro pre acc fr e l h
    obtain ⟨o, fr1, e1, y, rfl, h1⟩ := hs pre x post acc fr e h (fun o fr' => ∃ y, o = some y ∧ Inv (pre ++ [x]) (acc ++ [y]) fr') (fun y fr' h => ⟨y, rfl, h⟩)
    have hx : acc.length < szL := by
      have := congrArg List.length e
      simp at this
      omega
    obtain ⟨ys, fr', e2, h2⟩ := ih (pre ++ [x]) (acc ++ [y]) fr1 (by rw [e]; simp) (by simp [l]) h1
    refine ⟨ys, fr', ?_, h2⟩
    simp only [List.map_cons, compL, e1, bind_ok, if_pos hx]
    exact e2
def rQ (Q : D → List D → Prop) : Fl → Fm → Prop
  | .nx, fr => Q .non fr.st
  | .ret d, fr => Q d fr.st
  | _, _ => False
@[simp] theorem rQ_nx (Q : D → List D → Prop) (fr : Fm) : rQ Q .nx fr = Q .non fr.st := (rfl)
@[simp] theorem rQ_ret (Q : D → List D → Prop) (d : D) (fr : Fm) : rQ Q (.ret d) fr = Q d fr.st := (rfl)
def Wc (r : RC) (Q : D → List D → Prop) : Prop := ∃ v st, r = .ok v st ∧ Q v st
theorem fn_W {n f : Nat} {ds st : List D} {Q : D → List D → Prop} (d : Def) (h : P.defs[f]? = some d) (hl : ds.length = d.np)
    (hW : W (xSs gg (cc n) LL d.body ⟨ds.map Sl.val ++ unS (d.nl - d.np), st⟩) (rQ Q)) : Wc ((cc (n + 1)).fn f ds st) Q := by
  rw [fn_def n f ds st d h hl]
  obtain ⟨fl, fr, e, q⟩ := hW
  rw [e]
  cases fl with
  | nx => exact ⟨_, _, rfl, q⟩
  | ret d => exact ⟨_, _, rfl, q⟩
  | brk => exact q.elim
  | cnt => exact q.elim
theorem fn_Q {n f : Nat} {ds st : List D} {Q0 : D → List D → Prop} (d : Def) (h : P.defs[f]? = some d) (hl : ds.length = d.np)
    (hW : ∀ Q : D → List D → Prop, (∀ v st, Q0 v st → Q v st) → W (xSs gg (cc n) LL d.body ⟨ds.map Sl.val ++ unS (d.nl - d.np), st⟩) (rQ Q)) : Wc ((cc (n + 1)).fn f ds st) Q0 := fn_W d h hl (hW Q0 fun _ _ h => h)
theorem fn_E {n f : Nat} {ds st : List D} {v : D} {st' : List D} (d : Def) (h : P.defs[f]? = some d) (hl : ds.length = d.np)
    (hW : W (xSs gg (cc n) LL d.body ⟨ds.map Sl.val ++ unS (d.nl - d.np), st⟩) (rQ fun x s => x = v ∧ s = st')) : (cc (n + 1)).fn f ds st = .ok v st' := by
  obtain ⟨_, _, e, rfl, rfl⟩ := fn_W d h hl hW
  exact e
theorem ini_W {n : Nat} {ds st : List D} {Q : D → List D → Prop} (hl : ds.length = 1)
    (hW : W (xSs gg (cc n) LL i_Machine.body ⟨(.ref st.length :: ds).map Sl.val ++ unS 3, st ++ [.ins 0 [] []]⟩) fun fl fr => fl = .nx ∧ Q (.ref st.length) fr.st) : Wc ((cc (n + 1)).ini 0 ds st) Q := by
  obtain ⟨fl, fr, e, rfl, q⟩ := hW
  refine ⟨.ref st.length, fr.st, ?_, q⟩
  show (if ds.length + 1 = i_Machine.np then endIni st.length (xSs gg (cc n) LL i_Machine.body ⟨(.ref st.length :: ds).map Sl.val ++ unS (i_Machine.nl - i_Machine.np), st ++ [.ins 0 [] []]⟩) else .stk) = _
  rw [if_pos (by rw [hl]; rfl)]
  show endIni st.length (xSs gg (cc n) LL i_Machine.body ⟨(.ref st.length :: ds).map Sl.val ++ unS 3, st ++ [.ins 0 [] []]⟩) = _
  rw [e]
  rfl
/-! iterators -/
def enmR (d : D) (fr : Fm) : Rs (List D) := match d with
  | .lst xs => .ok (enumD 0 xs) fr
  | .tup xs => .ok (enumD 0 xs) fr
  | _ => .stk
@[simp] theorem enmR_lst (xs : List D) (fr : Fm) : enmR (.lst xs) fr = .ok (enumD 0 xs) fr := (rfl)
@[simp] theorem enmR_tup (xs : List D) (fr : Fm) : enmR (.tup xs) fr = .ok (enumD 0 xs) fr := (rfl)
def zipR (x y : D) (fr : Fm) : Rs (List D) := match x, y with
  | .lst xs, .lst ys => .ok (zipD xs ys) fr
  | .tup xs, .tup ys => .ok (zipD xs ys) fr
  | .lst xs, .tup ys => .ok (zipD xs ys) fr
  | _, _ => .stk
@[simp] theorem zipR_ll (xs ys : List D) (fr : Fm) : zipR (.lst xs) (.lst ys) fr = .ok (zipD xs ys) fr := (rfl)
@[simp] theorem zipR_tt (xs ys : List D) (fr : Fm) : zipR (.tup xs) (.tup ys) fr = .ok (zipD xs ys) fr := (rfl)
@[simp] theorem zipR_lt (xs ys : List D) (fr : Fm) : zipR (.lst xs) (.tup ys) fr = .ok (zipD xs ys) fr := (rfl)
def rngR (x : D) (fr : Fm) : Rs (List D) := match x with
  | .int n => if decide (-4611686018427387904 ≤ n) && decide (n < 4611686018427387904) then .ok (rangeD 0 n.toNat) fr else .stk
  | _ => .stk
theorem rngR_nat (n : Nat) (fr : Fm) (h : n < 4611686018427387904) : rngR (.int n) fr = .ok ((List.range n).map fun (k : Nat) => .int (k : Int)) fr := by
  unfold rngR
  simp only
  rw [if_pos (by simp; omega)]
  simp [rangeD]
@[simp 5000] theorem i_ex (c : Cal) (e : DE) (fr : Fm) : evalI gg c (.ex e) fr = (evalE gg c e fr).bind fun x fr => opt (iterD fr x) fr := (rfl)
@[simp 5000] theorem i_enm (c : Cal) (e : DE) (fr : Fm) : evalI gg c (.enm e) fr = (evalE gg c e fr).bind enmR := by
  show (evalE gg c e fr).bind _ = _
  congr 1
@[simp 5000] theorem i_zip (c : Cal) (a b : DE) (fr : Fm) : evalI gg c (.zip a b) fr = (evalE gg c a fr).bind fun x fr => (evalE gg c b fr).bind fun y fr => zipR x y fr := by
  show (evalE gg c a fr).bind _ = _
  congr 1
@[simp 5000] theorem i_rng (c : Cal) (a : DE) (fr : Fm) : evalI gg c (.rng a) fr = (evalE gg c a fr).bind rngR := by
  show (evalE gg c a fr).bind _ = _
  congr 1
@[simp] theorem noLoc_of (d : D) (fr : Fm) (h : isLoc d = false) : noLoc d fr = .ok d fr := by simp [noLoc, h]
/-- data without cells -/
def solid : D → Bool
  | .ref _ => false
  | .loc _ => false
  | .dT _ _ => false
  | .dK _ _ => false
  | .ins _ _ _ => false
  | _ => true
theorem solid_loc {d : D} (h : solid d = true) : isLoc d = false := by cases d <;> first | rfl | cases h
theorem solid_deref {d : D} (h : solid d = true) (fr : Fm) : deref fr d = some d := by cases d <;> first | rfl | cases h
theorem solid_can {d : D} (h : solid d = true) : canTy d = true := by cases d <;> first | rfl | cases h
/-! the small ones -/
theorem is_list_ok (n : Nat) (x : D) (st : List D) (h : canTy x = true) :
    (cc (n + 1)).fn f_is_list [x] st = .ok (.bl (isTy .list x || isTy .tuple x)) st := by
  rw [fn_def _ _ _ _ d_is_list rfl rfl]
  cases x <;> first | (cases h; done) | simp [d_is_list, evalEs, evalPs, evalC, evalAnd, evalOr, bind_assoc, evalPar, evalKV, bind_ok, bind_stk, ofRC_ok, noExc_ok, unS, wipeE, backE, noOwn, derefs, List.replicate]
def isI : D → Bool
  | .int _ => true
  | _ => false
theorem is_whole_ok (n : Nat) (x : D) (st : List D) (h : canTy x = true) :
    (cc (n + 1)).fn f_is_whole [x] st = .ok (.bl (isI x)) st := by
  rw [fn_def _ _ _ _ d_is_whole rfl rfl]
  cases x <;> first | (cases h; done) | simp [d_is_whole, isI, evalEs, evalPs, evalC, evalAnd, evalOr, bind_assoc, evalPar, evalKV, bind_ok, bind_stk, ofRC_ok, noExc_ok, unS, wipeE, backE, noOwn, derefs, List.replicate]
def isNat : D → Bool
  | .int i => decide (0 ≤ i)
  | _ => false
theorem is_natural_ok (n : Nat) (x : D) (st : List D) (h : canTy x = true) :
    (cc (n + 2)).fn f_is_natural [x] st = .ok (.bl (isNat x)) st := by
  rw [fn_def _ _ _ _ d_is_natural rfl rfl]
  cases x <;> first | (cases h; done) | simp [d_is_natural, is_whole_ok, isI, isNat, evalEs, evalPs, evalC, evalAnd, evalOr, bind_assoc, evalPar, evalKV, bind_ok, bind_stk, ofRC_ok, noExc_ok, unS, wipeE, backE, noOwn, derefs, List.replicate]

/-! indices in range -/
theorem mIx_nat {n : Nat} {i : Int} (h0 : 0 ≤ i) (h : i < n) : mIx n i = some i.toNat := by simp [mIx, h0, h]
theorem mAt_nat {α : Type} {xs : List α} {k : Nat} {x : α} (h : xs[k]? = some x) : mAt xs (k : Int) = some x := by
  have hk : k < xs.length := (List.getElem?_eq_some_iff.mp h).1
  simp [mAt, mIx_nat (Int.natCast_nonneg k) (Int.ofNat_lt.mpr hk), h]
@[simp] theorem mAt_0 {α : Type} (x : α) (xs : List α) : mAt (x :: xs) 0 = some x := mAt_nat (k := 0) rfl
@[simp] theorem mAt_1 {α : Type} (x y : α) (xs : List α) : mAt (x :: y :: xs) 1 = some y := mAt_nat (k := 1) rfl
@[simp] theorem mAt_2 {α : Type} (x y z : α) (xs : List α) : mAt (x :: y :: z :: xs) 2 = some z := mAt_nat (k := 2) rfl
@[simp] theorem mAt_3 {α : Type} (x y z w : α) (xs : List α) : mAt (x :: y :: z :: w :: xs) 3 = some w := mAt_nat (k := 3) rfl
@[simp] theorem mAt_last {α : Type} (x : α) (xs : List α) : mAt (xs ++ [x]) (-1) = some x := by
  have : mIx (xs ++ [x]).length (-1) = some xs.length := by
    simp [mIx]; omega
  unfold mAt
  rw [this]
  simp
/-! patterns, words -/
def wordsL : List Str := [s_ld, s_st, s_li, s_add, s_sub, s_mul, s_go, s_w, s_xx, s_opq, s_pair, s_zoom, s_lean, s_a, s_b, s_x, s_total]
inductive Pat where
  | reg | mem | num | nk (i : Int) | op (o : Str) (a b : Pat)
def Pat.enc : Pat → D
  | .reg => .str s_reg
  | .mem => .str s_mem
  | .num => .str s_num
  | .nk i => .tup [.str s_num, .int i]
  | .op o a b => .tup [.str o, a.enc, b.enc]
/-- the kinds of the leaves -/
def Pat.lv : Pat → List Str
  | .reg => [s_reg]
  | .mem => [s_mem]
  | .num => [s_num]
  | .nk _ => []
  | .op _ a b => a.lv ++ b.lv
open Pat in
def baseT : List (Str × Pat) := [(s_reg, mem), (s_mem, reg), (s_reg, num), (s_reg, op s_add reg reg), (s_reg, op s_sub reg reg), (s_reg, op s_mul reg reg)]
open Pat in
def moreT : List (Str × Pat) := [(s_reg, op s_add reg mem), (s_reg, op s_add reg (op s_mul reg reg)), (s_reg, op s_add reg num),
  (s_reg, op s_mul (nk 2) reg), (s_reg, op s_sub reg (nk 1)), (s_mem, op s_add mem reg),
  (s_mem, num), (s_reg, op s_mul mem mem), (s_reg, nk 0), (s_reg, reg), (s_mem, mem),
  (s_reg, op s_sub (op s_add reg reg) mem), (s_mem, op s_mul reg (op s_add reg num)),
  (s_reg, op s_add (op s_mul reg reg) (op s_sub reg num)), (s_reg, op s_sub (op s_mul reg (nk 2)) (op s_add mem num))]
def tabT : List (Str × Pat) := baseT ++ moreT
theorem is_word_ok (n : Nat) (st : List D) : ∀ x ∈ wordsL, (cc (n + 1)).fn f_is_word [.str x] st = .ok (.bl true) st := by
  intro x hx
  simp only [wordsL, List.mem_cons, List.not_mem_nil, or_false] at hx
  rcases hx with rfl | rfl | rfl | rfl | rfl | rfl | rfl | rfl | rfl | rfl | rfl | rfl | rfl | rfl | rfl | rfl | rfl <;> kernel_rfl
theorem is_word_int (n : Nat) (st : List D) (i : Int) : (cc (n + 1)).fn f_is_word [.int i] st = .ok (.bl false) st := by
  rw [fn_def _ _ _ _ d_is_word rfl rfl]
  simp [d_is_word, evalEs, evalPs, evalC, evalAnd, evalOr, bind_assoc, evalPar, evalKV, bind_ok, bind_stk, ofRC_ok, noExc_ok, unS, wipeE, backE, noOwn, derefs, List.replicate]
@[simp] theorem Pat.solid (p : Pat) : solid p.enc = true := by cases p <;> rfl
@[simp] theorem Pat.loc (p : Pat) : isLoc p.enc = false := solid_loc p.solid
@[simp] theorem Pat.der (p : Pat) (fr : Fm) : deref fr p.enc = some p.enc := solid_deref p.solid fr
theorem is_pattern_ok (n : Nat) (st : List D) : ∀ p ∈ tabT, (cc (n + 3)).fn f_is_pattern [p.2.enc] st = .ok (.bl true) st := by
  intro p hp
  simp only [tabT, baseT, moreT, List.mem_cons, List.not_mem_nil, or_false, List.cons_append, List.nil_append] at hp
  rcases hp with rfl | rfl | rfl | rfl | rfl | rfl | rfl | rfl | rfl | rfl | rfl | rfl | rfl | rfl | rfl | rfl | rfl | rfl | rfl | rfl | rfl <;> kernel_rfl
end K81
end Mr
end
section
set_option linter.all false
set_option backward.isDefEq.respectTransparency false
set_option maxRecDepth 100000
namespace Mr
open PySem
namespace K81
theorem eqD_str {x y : Str} (hx : lay (.str x) = true) (hy : lay (.str y) = true) : eqD (.str x) (.str y) = some (x == y) := by
  unfold eqD
  rw [hx, hy]
  simp [dep, eqv]
theorem lay_words : ∀ x ∈ wordsL, lay (.str x) = true := by decide +kernel
@[simp] theorem lay_reg : lay (.str s_reg) = true := by decide +kernel
@[simp] theorem lay_mem : lay (.str s_mem) = true := by decide +kernel
@[simp] theorem lay_num : lay (.str s_num) = true := by decide +kernel
@[simp] theorem lay_var : lay (.str s_var) = true := by decide +kernel
@[simp] theorem lay_row : lay (.str s_row) = true := by decide +kernel
@[simp] theorem lay_add : lay (.str s_add) = true := by decide +kernel
@[simp] theorem lay_mul : lay (.str s_mul) = true := by decide +kernel
@[simp] theorem lay_sub : lay (.str s_sub) = true := by decide +kernel
structure MR where
  w : Str
  pl : Str
  p : Pat
  a : Int
  b : Int
def MR.enc (r : MR) : D := .tup [.str r.w, .str r.pl, r.p.enc, .tup [.int r.a, .int r.b]]
structure MR.Ok (r : MR) : Prop where
  w : r.w ∈ wordsL
  t : (r.pl, r.p) ∈ tabT
  a : 0 ≤ r.a
  b : 0 ≤ r.b
structure MOk (M : List MR) : Prop where
  ok : ∀ r ∈ M, r.Ok
  nd : (M.map (·.w)).Nodup
  len : M.length ≤ 20
def mach (M : List MR) : D := .ins 0 [s_told] [.tup (M.map MR.enc)]
structure Stm where
  pile : List Int
  mix : Int
  cnt : Int
  cur : Int
def stt (s : Stm) (rest : List D) : List D := .lst (s.pile.map D.int) :: .lst [.ref 0, .int s.mix, .int s.cnt, .int s.cur] :: rest
theorem pl_cases {pl : Str} {p : Pat} (h : (pl, p) ∈ tabT) : pl = s_reg ∨ pl = s_mem := by
  have : ∀ x ∈ tabT, x.1 = s_reg ∨ x.1 = s_mem := by
    intro x hx
    simp only [tabT, baseT, moreT, List.mem_cons, List.not_mem_nil, or_false, List.cons_append, List.nil_append] at hx
    rcases hx with rfl | rfl | rfl | rfl | rfl | rfl | rfl | rfl | rfl | rfl | rfl | rfl | rfl | rfl | rfl | rfl | rfl | rfl | rfl | rfl | rfl <;> first | exact .inl rfl | exact .inr rfl
  exact this _ h
@[simp] theorem gg2 : gg 2 = some (.ktup [.str s_reg, .str s_mem]) := by kernel_rfl
@[simp] theorem mem_pl1 : memD (.str s_reg) (.ktup [.str s_reg, .str s_mem]) = some true := by kernel_rfl
@[simp] theorem mem_pl2 : memD (.str s_mem) (.ktup [.str s_reg, .str s_mem]) = some true := by kernel_rfl
/-- data without cells -/
theorem is_instruction_ok (n : Nat) (st : List D) (r : MR) (h : r.Ok) : (cc (n + 4)).fn f_is_instruction [r.enc] st = .ok (.bl true) st := by
  rw [fn_def _ _ _ _ d_is_instruction rfl rfl]
  have hw := is_word_ok (n + 2) st _ h.w
  have hp := is_pattern_ok n st _ h.t
  have hl : lay (.str r.pl) = true := by rcases pl_cases h.t with e | e <;> rw [e] <;> simp
  have hm : memD (.str r.pl) (.ktup [.str s_reg, .str s_mem]) = some true := by rcases pl_cases h.t with e | e <;> rw [e] <;> simp
  simp only [MR.enc]
  simp [d_is_instruction, is_list_ok, hw, hp, hm, compL, lcT, is_natural_ok, isNat, h.a, h.b, boolsD, szL, evalEs, evalPs, evalC, evalAnd, evalOr, bind_assoc, evalPar, evalKV, bind_ok, bind_stk, ofRC_ok, noExc_ok, unS, wipeE, backE, noOwn, derefs, List.replicate]
theorem filterMap_one {α : Type} (f : α → D) (k : α → Str) (w : Str) : ∀ (M : List α) (r : α), r ∈ M → (M.map k).Nodup → k r = w → M.filterMap (fun q => if (k q == w) = true then some (f q) else none) = [f r]
  | [], r, h, _, _ => by cases h
  | q :: M, r, h, nd, e => by
    simp only [List.map_cons, List.nodup_cons] at nd
    by_cases hq : k q = w
    · have hr : r = q := by
        rcases List.mem_cons.mp h with h | h
        · exact h
        · exact (nd.1 (by rw [hq, ← e]; exact List.mem_map_of_mem h)).elim
      subst hr
      have : M.filterMap (fun q => if (k q == w) = true then some (f q) else none) = [] := by
        rw [List.filterMap_eq_nil_iff]
        intro x hx
        have : k x ≠ w := fun z => nd.1 (by rw [hq, ← z]; exact List.mem_map_of_mem hx)
        simp [this]
      simp only [List.filterMap_cons, hq, beq_self_eq_true, if_true, this]
    · have hr : r ∈ M := (List.mem_cons.mp h).resolve_left fun z => hq (z ▸ e)
      have ih := filterMap_one f k w M r hr nd.2 e
      simp only [List.filterMap_cons, beq_iff_eq, hq, if_false]
      simp only [beq_iff_eq] at ih
      exact ih
@[simp] theorem look_told (v : D) : look [s_told] [v] s_told = some v := by simp [look]
theorem instruction_of_ok (n : Nat) (st : List D) (k : Nat) (M : List MR) (hM : MOk M) (hk : st[k]? = some (mach M)) (r : MR) (hr : r ∈ M) :
    (cc (n + 1)).fn f_instruction_of [.ref k, .str r.w] st = .ok r.enc st := by
  rw [fn_def _ _ _ _ d_instruction_of rfl rfl]
  have hk : st[k]? = some (.ins 0 [s_told] [.tup (M.map MR.enc)]) := hk
  simp [d_instruction_of, hk, evalEs, evalPs, evalC, evalAnd, evalOr, bind_assoc, evalPar, evalKV, bind_ok, bind_stk, ofRC_ok, noExc_ok, unS, wipeE, backE, noOwn, derefs, List.replicate]
  rw [compL_map MR.enc (fun q => if (q.w == r.w) = true then some q.enc else none), List.nil_append, filterMap_one MR.enc (·.w) r.w M r hr hM.nd rfl]
  · simp [evalEs, evalPs, evalC, evalAnd, evalOr, bind_assoc, evalPar, evalKV, bind_ok, bind_stk, ofRC_ok, noExc_ok, unS, wipeE, backE, noOwn, derefs, List.replicate]
    simp [MR.enc]
    simp [evalEs, evalPs, evalC, evalAnd, evalOr, bind_assoc, evalPar, evalKV, bind_ok, bind_stk, ofRC_ok, noExc_ok, unS, wipeE, backE, noOwn, derefs, List.replicate]
  · intro q hq
    have e := eqD_str (lay_words _ (hM.ok q hq).w) (lay_words _ (hM.ok r hr).w)
    simp only [MR.enc, lcT]
    simp [e, evalEs, evalPs, evalC, evalAnd, evalOr, bind_assoc, evalPar, evalKV, bind_ok, bind_stk, ofRC_ok, noExc_ok, unS, wipeE, backE, noOwn, derefs, List.replicate]
    by_cases hqr : q.w = r.w <;> simp [hqr] <;> simp [evalEs, evalPs, evalC, evalAnd, evalOr, bind_assoc, evalPar, evalKV, bind_ok, bind_stk, ofRC_ok, noExc_ok, unS, wipeE, backE, noOwn, derefs, List.replicate]
  · have := hM.len
    simp [szL]; omega
end K81
end Mr
end
section
set_option linter.all false
set_option backward.isDefEq.respectTransparency false
set_option maxRecDepth 100000
namespace Mr
open PySem
namespace K81
/-! Z2: tuples of lists, leaves, machines -/
mutual
def asT : D → D
  | .lst xs => .tup (asTL xs)
  | .tup xs => .tup (asTL xs)
  | d => d
def asTL : List D → List D
  | [] => []
  | d :: ds => asT d :: asTL ds
end
theorem asTL_map : ∀ ds : List D, asTL ds = ds.map asT
  | [] => by simp [asTL]
  | d :: ds => by simp [asTL, asTL_map ds]
mutual
def pln : D → Bool
  | .non => true
  | .bl _ => true
  | .int _ => true
  | .str _ => true
  | .lst xs => decide (xs.length ≤ szL) && plnL xs
  | .tup xs => decide (xs.length ≤ szL) && plnL xs
  | _ => false
def plnL : List D → Bool
  | [] => true
  | d :: ds => pln d && plnL ds
end
theorem plnL_all : ∀ {ds : List D}, plnL ds = true ↔ ∀ d ∈ ds, pln d = true
  | [] => by simp [plnL]
  | d :: ds => by simp [plnL, plnL_all (ds := ds)]
theorem depL_le : ∀ {ds : List D} {n : Nat}, depL ds ≤ n ↔ ∀ d ∈ ds, dep d ≤ n
  | [], n => by simp [depL]
  | d :: ds, n => by simp [depL, Nat.max_le, depL_le (ds := ds)]
theorem pln_solid {d : D} (h : pln d = true) : solid d = true := by
  cases d <;> simp_all [pln, solid]
theorem asT_loc {d : D} (h : pln d = true) : isLoc (asT d) = false := by
  cases d <;> simp_all [pln, asT]
theorem as_tuples_ok : ∀ (n : Nat) (d : D) (st : List D), pln d = true → dep d ≤ n → (cc (n + 2)).fn f_as_tuples [d] st = .ok (asT d) st
  | n, .non, st, h, hd | n, .bl _, st, h, hd | n, .int _, st, h, hd | n, .str _, st, h, hd => by
    rw [fn_def _ _ _ _ d_as_tuples rfl rfl]
    simp [d_as_tuples, is_list_ok, asT, evalEs, evalPs, evalC, evalAnd, evalOr, bind_assoc, evalPar, evalKV, bind_ok, bind_stk, ofRC_ok, noExc_ok, unS, wipeE, backE, noOwn, derefs, List.replicate]
  | 0, .lst xs, st, h, hd => by simp [dep] at hd
  | 0, .tup xs, st, h, hd => by simp [dep] at hd
  | n + 1, .lst xs, st, h, hd => by
    simp only [pln, Bool.and_eq_true, decide_eq_true_eq, plnL_all] at h
    simp only [dep, Nat.add_le_add_iff_right, depL_le] at hd
    refine fn_E d_as_tuples rfl rfl ?_
    simp [d_as_tuples, is_list_ok, evalEs, evalPs, evalC, evalAnd, evalOr, bind_assoc, evalPar, evalKV, bind_ok, bind_stk, ofRC_ok, noExc_ok, unS, wipeE, backE, noOwn, derefs, List.replicate]
    have e := compL_map (step := lcT (cc (n + 2)) [1] (.nm 1) [] (.call f_as_tuples [.var 1])) id (fun x => some (asT x)) ⟨[.val (.lst xs), .un], st⟩ xs [] (fun x hx => by
      have := as_tuples_ok n x st (h.2 x hx) (hd x hx)
      unfold lcT
      simp [this, solid_loc (pln_solid (h.2 x hx)), asT_loc (h.2 x hx), evalEs, evalPs, evalC, evalAnd, evalOr, bind_assoc, evalPar, evalKV, bind_ok, bind_stk, ofRC_ok, noExc_ok, unS, wipeE, backE, noOwn, derefs, List.replicate]) (by simpa using h.1)
    rw [List.map_id] at e
    rw [e]
    simp [asT, asTL_map, evalEs, evalPs, evalC, evalAnd, evalOr, bind_assoc, evalPar, evalKV, bind_ok, bind_stk, ofRC_ok, noExc_ok, unS, wipeE, backE, noOwn, derefs, List.replicate]
  | n + 1, .tup xs, st, h, hd => by
    simp only [pln, Bool.and_eq_true, decide_eq_true_eq, plnL_all] at h
    simp only [dep, Nat.add_le_add_iff_right, depL_le] at hd
    refine fn_E d_as_tuples rfl rfl ?_
    simp [d_as_tuples, is_list_ok, evalEs, evalPs, evalC, evalAnd, evalOr, bind_assoc, evalPar, evalKV, bind_ok, bind_stk, ofRC_ok, noExc_ok, unS, wipeE, backE, noOwn, derefs, List.replicate]
    have e := compL_map (step := lcT (cc (n + 2)) [1] (.nm 1) [] (.call f_as_tuples [.var 1])) id (fun x => some (asT x)) ⟨[.val (.tup xs), .un], st⟩ xs [] (fun x hx => by
      have := as_tuples_ok n x st (h.2 x hx) (hd x hx)
      unfold lcT
      simp [this, solid_loc (pln_solid (h.2 x hx)), asT_loc (h.2 x hx), evalEs, evalPs, evalC, evalAnd, evalOr, bind_assoc, evalPar, evalKV, bind_ok, bind_stk, ofRC_ok, noExc_ok, unS, wipeE, backE, noOwn, derefs, List.replicate]) (by simpa using h.1)
    rw [List.map_id] at e
    rw [e]
    simp [asT, asTL_map, evalEs, evalPs, evalC, evalAnd, evalOr, bind_assoc, evalPar, evalKV, bind_ok, bind_stk, ofRC_ok, noExc_ok, unS, wipeE, backE, noOwn, derefs, List.replicate]
  | _, .dK _ _, _, h, _ | _, .dT _ _, _, h, _ | _, .ins _ _ _, _, h, _ | _, .ref _, _, h, _ | _, .loc _, _, h, _ | _, .ktup _, _, h, _ => by simp [pln] at h
theorem Pat.pln : ∀ p : Pat, Mr.K81.pln p.enc = true
  | .reg | .mem | .num => rfl
  | .nk i => by simp [Pat.enc, Mr.K81.pln, plnL, szL]
  | .op o a b => by simp [Pat.enc, Mr.K81.pln, plnL, szL, Pat.pln a, Pat.pln b]
theorem Pat.asT : ∀ p : Pat, Mr.K81.asT p.enc = p.enc
  | .reg | .mem | .num => by simp [Pat.enc, Mr.K81.asT]
  | .nk i => by simp [Pat.enc, Mr.K81.asT, asTL]
  | .op o a b => by simp [Pat.enc, Mr.K81.asT, asTL, Pat.asT a, Pat.asT b]
def Pat.dp : Pat → Nat
  | .op _ a b => max a.dp b.dp + 1
  | _ => 0
theorem Pat.dep : ∀ p : Pat, Mr.dep p.enc ≤ p.dp + 1
  | .reg | .mem | .num => by simp [Pat.enc, Mr.dep]
  | .nk i => by simp [Pat.enc, Mr.dep, depL, Pat.dp]
  | .op o a b => by
    have := Pat.dep a
    have := Pat.dep b
    simp [Pat.enc, Mr.dep, depL, Pat.dp]
    omega
theorem tab_dp : ∀ x ∈ tabT, x.2.dp ≤ 3 := by decide +kernel
theorem MR.pln (r : MR) : Mr.K81.pln r.enc = true := by simp [MR.enc, Mr.K81.pln, plnL, szL, Pat.pln]
theorem MR.asT (r : MR) : Mr.K81.asT r.enc = r.enc := by simp [MR.enc, Mr.K81.asT, asTL, Pat.asT]
theorem MR.dep (r : MR) (h : r.Ok) : Mr.dep r.enc ≤ 5 := by
  have h1 := Pat.dep r.p
  have h2 : r.p.dp ≤ 3 := tab_dp _ h.t
  simp [MR.enc, Mr.dep, depL]
  omega
@[simp] theorem MR.loc (r : MR) : isLoc r.enc = false := (rfl)
@[simp] theorem MR.der (r : MR) (fr : Fm) : deref fr r.enc = some r.enc := (rfl)
@[simp] theorem MR.can (r : MR) : canTy r.enc = true := (rfl)
/-! leaves -/
def Pat.lvP : Pat → List (Str × List Int)
  | .reg => [(s_reg, [])]
  | .mem => [(s_mem, [])]
  | .num => [(s_num, [])]
  | .nk _ => []
  | .op _ a b => a.lvP.map (fun q => (q.1, 0 :: q.2)) ++ b.lvP.map (fun q => (q.1, 1 :: q.2))
def encL (q : Str × List Int) : D := .tup [.str q.1, .tup (q.2.map D.int)]
theorem Pat.lv_lvP : ∀ p : Pat, p.lvP.map (·.1) = p.lv
  | .reg | .mem | .num => by simp [Pat.lvP, Pat.lv]
  | .nk _ => by simp [Pat.lvP, Pat.lv]
  | .op _ a b => by
    simp only [Pat.lvP, Pat.lv, List.map_append, List.map_map, ← Pat.lv_lvP a, ← Pat.lv_lvP b]
    rfl
theorem Pat.lvP_len : ∀ (p : Pat) (q : Str × List Int), q ∈ p.lvP → q.2.length ≤ p.dp
  | .reg, q, h | .mem, q, h | .num, q, h => by simp [Pat.lvP] at h; simp [h]
  | .nk _, q, h => by simp [Pat.lvP] at h
  | .op _ a b, q, h => by
    simp only [Pat.lvP, List.mem_append, List.mem_map] at h
    rcases h with ⟨r, hr, rfl⟩ | ⟨r, hr, rfl⟩
    · have := Pat.lvP_len a r hr; simp [Pat.dp]; omega
    · have := Pat.lvP_len b r hr; simp [Pat.dp]; omega
theorem leaves_of_ok (st : List D) : ∀ (p : Pat) (n : Nat), p.dp ≤ n → p.dp ≤ 1000 → p.lvP.length ≤ szL → (cc (n + 1)).fn f_leaves_of [p.enc] st = .ok (.lst (p.lvP.map encL)) st
  | .reg, n, _, _, _ | .mem, n, _, _, _ | .num, n, _, _, _ => by
    refine fn_E d_leaves_of rfl rfl ?_
    simp [d_leaves_of, Pat.enc, Pat.lvP, encL, szL, evalEs, evalPs, evalC, evalAnd, evalOr, bind_assoc, evalPar, evalKV, bind_ok, bind_stk, ofRC_ok, noExc_ok, unS, wipeE, backE, noOwn, derefs, List.replicate]
  | .nk i, n, _, _, _ => by
    refine fn_E d_leaves_of rfl rfl ?_
    simp [d_leaves_of, Pat.enc, Pat.lvP, encL, szL, evalEs, evalPs, evalC, evalAnd, evalOr, bind_assoc, evalPar, evalKV, bind_ok, bind_stk, ofRC_ok, noExc_ok, unS, wipeE, backE, noOwn, derefs, List.replicate]
  | .op o a b, 0, h, _, _ => by simp [Pat.dp] at h
  | .op o a b, n + 1, h, hn, hl => by
    simp only [Pat.dp] at h hn
    simp only [Pat.lvP, List.length_append, List.length_map] at hl
    have ha := leaves_of_ok st a n (by omega) (by omega) (by omega)
    have hb := leaves_of_ok st b n (by omega) (by omega) (by omega)
    refine fn_E d_leaves_of rfl rfl ?_
    simp [d_leaves_of, Pat.enc, ha, evalEs, evalPs, evalC, evalAnd, evalOr, bind_assoc, evalPar, evalKV, bind_ok, bind_stk, ofRC_ok, noExc_ok, unS, wipeE, backE, noOwn, derefs, List.replicate]
    rw [compL_map encL (fun q => some (encL (q.1, 0 :: q.2)))]
    · simp [hb, evalEs, evalPs, evalC, evalAnd, evalOr, bind_assoc, evalPar, evalKV, bind_ok, bind_stk, ofRC_ok, noExc_ok, unS, wipeE, backE, noOwn, derefs, List.replicate]
      rw [compL_map encL (fun q => some (encL (q.1, 1 :: q.2)))]
      · simp [evalEs, evalPs, evalC, evalAnd, evalOr, bind_assoc, evalPar, evalKV, bind_ok, bind_stk, ofRC_ok, noExc_ok, unS, wipeE, backE, noOwn, derefs, List.replicate]
        rw [binD_add_lst _ _ (by simpa using hl)]
        simp [Pat.lvP, evalEs, evalPs, evalC, evalAnd, evalOr, bind_assoc, evalPar, evalKV, bind_ok, bind_stk, ofRC_ok, noExc_ok, unS, wipeE, backE, noOwn, derefs, List.replicate]
        rfl
      · intro q hq
        have := Pat.lvP_len b q hq
        simp only [encL, lcT]
        simp [evalEs, evalPs, evalC, evalAnd, evalOr, bind_assoc, evalPar, evalKV, bind_ok, bind_stk, ofRC_ok, noExc_ok, unS, wipeE, backE, noOwn, derefs, List.replicate]
        rw [tupR_ok _ _ (sz_le (by simp; omega))]
        simp [evalEs, evalPs, evalC, evalAnd, evalOr, bind_assoc, evalPar, evalKV, bind_ok, bind_stk, ofRC_ok, noExc_ok, unS, wipeE, backE, noOwn, derefs, List.replicate]
      · simp; omega
    · intro q hq
      have := Pat.lvP_len a q hq
      simp only [encL, lcT]
      simp [evalEs, evalPs, evalC, evalAnd, evalOr, bind_assoc, evalPar, evalKV, bind_ok, bind_stk, ofRC_ok, noExc_ok, unS, wipeE, backE, noOwn, derefs, List.replicate]
      rw [tupR_ok _ _ (sz_le (by simp; omega))]
      simp [evalEs, evalPs, evalC, evalAnd, evalOr, bind_assoc, evalPar, evalKV, bind_ok, bind_stk, ofRC_ok, noExc_ok, unS, wipeE, backE, noOwn, derefs, List.replicate]
    · simp; omega
end K81
end Mr
end
section
set_option linter.all false
set_option backward.isDefEq.respectTransparency false
set_option maxRecDepth 100000
namespace Mr
open PySem
namespace K81
/-! Z3: machines made; draws -/
theorem enumD_len : ∀ (ds : List D) (k : Nat), (enumD k ds).length = ds.length
  | [], _ => rfl
  | d :: ds, k => by simp [enumD, enumD_len ds (k + 1)]
theorem enumD_get : ∀ (ds : List D) (k i : Nat) (h : i < (enumD k ds).length) (h' : i < ds.length), (enumD k ds)[i] = .tup [.int ((k + i : Nat) : Int), ds[i]]
  | [], _, i, _, h => by simp at h
  | d :: ds, k, 0, _, _ => by simp [enumD]
  | d :: ds, k, i + 1, h, h' => by
    simp only [enumD, List.getElem_cons_succ]
    have h2 : i < (enumD (k + 1) ds).length := by simpa [enumD] using h
    rw [enumD_get ds (k + 1) i h2 (by simpa using h')]
    congr 4
    omega
theorem W_enm {α β : Type} {step : D → Fm → Rs Fl} {fr : Fm} {k : Fl → Fm → Rs β} {Q : β → Fm → Prop} (enc : α → D) (xs : List α) (Inv : List α → Fm → Prop) (h0 : Inv [] fr)
    (hs : ∀ pre x post fr, xs = pre ++ x :: post → Inv pre fr → ∀ R : Fl → Fm → Prop, (∀ fr', Inv (pre ++ [x]) fr' → R .nx fr') → W (step (.tup [.int (pre.length : Int), enc x]) fr) R) (hk : ∀ fr', Inv xs fr' → W (k .nx fr') Q) : W ((forL step (enumD 0 (xs.map enc)) fr).bind k) Q := by
  refine W_for (fun i fr => Inv (xs.take i) fr) (by simpa using h0) (fun i hi fr h R => ?_) (fun fr' h => hk fr' (by simpa [enumD_len] using h))
  simp only [enumD_len, List.length_map] at hi
  have e : xs = xs.take i ++ xs[i] :: xs.drop (i + 1) := by rw [← List.drop_eq_getElem_cons hi, List.take_append_drop]
  have := hs (xs.take i) xs[i] (xs.drop (i + 1)) fr e h R
  rw [enumD_get _ _ _ _ (by simpa using hi), List.getElem_map]
  have t : xs.take (i + 1) = xs.take i ++ [xs[i]] := (List.take_append_getElem hi).symm
  rw [t]
  have l : (xs.take i).length = i := by simp; omega
  rw [l] at this
  simpa using this
theorem zipD_map {α β : Type} (f : α → D) (g : β → D) : ∀ (xs : List α) (ys : List β), zipD (xs.map f) (ys.map g) = (xs.zip ys).map fun p => .tup [f p.1, g p.2]
  | [], _ => by simp [zipD]
  | _ :: _, [] => by simp [zipD]
  | x :: xs, y :: ys => by simp [zipD, zipD_map f g xs ys]
theorem layL_all : ∀ {ds : List D}, layL ds = true ↔ ∀ d ∈ ds, lay d = true
  | [] => by simp [layL]
  | d :: ds => by simp [layL, layL_all (ds := ds)]
theorem memD_strs {xs : List Str} {w : Str} (h : ∀ x ∈ xs, lay (.str x) = true) (hw : lay (.str w) = true) : memD (.str w) (.lst (xs.map D.str)) = some (decide (w ∈ xs)) := by
  have h2 : layL (xs.map D.str) = true := by
    rw [layL_all]
    intro d hd
    obtain ⟨x, hx, rfl⟩ := List.mem_map.mp hd
    exact h x hx
  simp only [memD, hw, h2, dep, Bool.true_and, List.any_map]
  rw [if_pos (by simp)]
  congr 1
  rw [Bool.eq_iff_iff]
  simp [eqv]
theorem memD_ints {xs : List Int} {w : Int} : memD (.int w) (.lst (xs.map D.int)) = some (decide (w ∈ xs)) := by
  have h2 : layL (xs.map D.int) = true := by
    rw [layL_all]
    intro d hd
    obtain ⟨x, hx, rfl⟩ := List.mem_map.mp hd
    rfl
  simp only [memD, h2, lay, dep, Bool.true_and, List.any_map]
  rw [if_pos (by simp)]
  congr 1
  rw [Bool.eq_iff_iff]
  simp [eqv]
theorem layL_ints (xs : List Int) : layL (xs.map D.int) = true := by
  rw [layL_all]
  intro d hd
  obtain ⟨x, hx, rfl⟩ := List.mem_map.mp hd
  rfl
theorem eqD_nil {xs : List D} (h : layL xs = true) : eqD (.lst xs) (.lst []) = some xs.isEmpty := by
  unfold eqD
  simp only [lay, h, layL, dep, depL, Bool.true_and]
  rw [if_pos (by simp)]
  cases xs <;> simp [eqv, eqvL]
theorem machine_ok (n : Nat) (M : List MR) (hM : MOk M) (st : List D) : Wc ((cc (n + 9)).ini 0 [.lst (M.map MR.enc)] st) fun v st' => v = .ref st.length ∧ st' = st ++ [mach M] := by
  refine ini_W rfl ?_
  simp [i_Machine, is_list_ok, evalEs, evalPs, evalC, evalAnd, evalOr, bind_assoc, evalPar, evalKV, bind_ok, bind_stk, ofRC_ok, noExc_ok, unS, wipeE, backE, noOwn, derefs, List.replicate]
  refine W_enm MR.enc M (fun pre fr => fr.st = st ++ [.ins 0 [] []] ∧ ∃ a b, fr.env = [.val (.ref st.length), .val (.lst (M.map MR.enc)), .own (.lst (pre.map fun r => .str r.w)), a, b]) ⟨rfl, _, _, rfl⟩ ?_ ?_
  · intro pre r post fr e hI R hR
    obtain ⟨env, st'⟩ := fr
    obtain ⟨rfl, a, b, rfl⟩ := hI
    have hr : r ∈ M := by rw [e]; simp
    have hk := is_instruction_ok (n + 4) (st ++ [.ins 0 [] []]) r (hM.ok r hr)
    have hm : memD (.str r.w) (.lst (pre.map fun r => .str r.w)) = some false := by
      have : (pre.map fun r => D.str r.w) = (pre.map (·.w)).map D.str := by simp
      rw [this, memD_strs]
      · have nd := hM.nd
        rw [e, List.map_append, List.nodup_append] at nd
        have : r.w ∉ pre.map (·.w) := fun z => nd.2.2 _ z r.w (by simp) rfl
        simpa using this
      · intro x hx
        obtain ⟨q, hq, rfl⟩ := List.mem_map.mp hx
        exact lay_words _ (hM.ok q (by rw [e]; simp [hq])).w
      · exact lay_words _ (hM.ok r hr).w
    have hl : pre.length ≤ 20 := by
      have := hM.len
      rw [e] at this
      simp at this
      omega
    have hix : ixD r.enc (.int 0) = some (.str r.w) := by simp [MR.enc]
    unfold forT
    simp [hk, hix, hm, evalEs, evalPs, evalC, evalAnd, evalOr, bind_assoc, evalPar, evalKV, bind_ok, bind_stk, ofRC_ok, noExc_ok, unS, wipeE, backE, noOwn, derefs, List.replicate]
    rw [bm_append _ _ (sz_lt (by simp; omega))]
    simp [evalEs, evalPs, evalC, evalAnd, evalOr, bind_assoc, evalPar, evalKV, bind_ok, bind_stk, ofRC_ok, noExc_ok, unS, wipeE, backE, noOwn, derefs, List.replicate]
    exact hR _ ⟨rfl, _, _, by rw [List.map_append]; rfl⟩
  · intro fr hI
    obtain ⟨env, st'⟩ := fr
    obtain ⟨rfl, a, b, rfl⟩ := hI
    have ht := as_tuples_ok (n + 6) (.lst (M.map MR.enc)) (st ++ [.ins 0 [] []]) (by
      have := hM.len
      simp only [pln, plnL_all, Bool.and_eq_true, decide_eq_true_eq]
      refine ⟨sz_le (by simp; omega), fun d hd => ?_⟩
      obtain ⟨q, hq, rfl⟩ := List.mem_map.mp hd
      exact q.pln) (by
      simp only [dep]
      have : depL (M.map MR.enc) ≤ 5 := by
        rw [depL_le]
        intro d hd
        obtain ⟨q, hq, rfl⟩ := List.mem_map.mp hd
        exact q.dep (hM.ok q hq)
      omega)
    have ha : asT (.lst (M.map MR.enc)) = .tup (M.map MR.enc) := by
      simp only [asT, asTL_map, List.map_map]
      congr 1
      apply List.map_congr_left
      intro q _
      exact q.asT
    simp [ht, ha, putA, mach, evalEs, evalPs, evalC, evalAnd, evalOr, bind_assoc, evalPar, evalKV, bind_ok, bind_stk, ofRC_ok, noExc_ok, unS, wipeE, backE, noOwn, derefs, List.replicate]
/-! draws -/
structure Stm.Ok (s : Stm) (b : Nat) : Prop where
  m0 : 0 ≤ s.mix
  m1 : s.mix < 2147483629
  c0 : 0 ≤ s.cnt
  c1 : s.cnt ≤ b
  q0 : 0 ≤ s.cur
  p0 : ∀ x ∈ s.pile, 0 < x
theorem Stm.Ok.mono {s : Stm} {b c : Nat} (h : s.Ok b) (l : b ≤ c) : s.Ok c := ⟨h.m0, h.m1, h.c0, by have := h.c1; omega, h.q0, h.p0⟩
@[simp] theorem setD_lst (xs : List D) (i : Int) (v : D) : setD (.lst xs) (.int i) v = (mIx xs.length i).map fun j => .lst (xs.set j v) := (rfl)
@[simp] theorem mIx42 : mIx 4 2 = some 2 := by decide
@[simp] theorem mIx43 : mIx 4 3 = some 3 := by decide
@[simp] theorem bm_pop0 (x : D) (xs : List D) : bmD .popAt (.lst (x :: xs)) [.int 0] = some (x, some (.lst xs)) := by
  have : mIx (x :: xs).length 0 = some 0 := mIx_nat (Int.le_refl 0) (by simp)
  simp only [bmD, this]
  simp
theorem binD_pow_int (i : Int) (k : Nat) (h : k ≤ 1000000) (hi : i.natAbs < 18446744073709551616) : binD .pow (.int i) (.int (k : Int)) = some (.int (i ^ k)) := by
  simp only [binD]
  rw [if_pos (by simp; omega)]
  simp
@[simp] theorem mulOk1 (j : Int) : mulOk 7919 j = true := by simp [mulOk]
@[simp] theorem mulOk2 (j : Int) : mulOk 30011 j = true := by simp [mulOk]
@[simp] theorem mulOk3 (j : Int) : mulOk j 48271 = true := by simp [mulOk]
theorem draw_ok (n : Nat) (s : Stm) (b : Nat) (hs : s.Ok b) (hb : b < 2 ^ 40) (m : Int) (hm : 0 < m) (hm2 : m < 1073741824) (rest : List D) :
    Wc ((cc (n + 1)).fn f__law_draw [.ref 1, .int m] (stt s rest)) fun v st' => ∃ r s', v = .int r ∧ st' = stt s' rest ∧ 0 ≤ r ∧ r < m ∧ s'.Ok (b + 1) := by
  refine fn_Q d__law_draw rfl rfl fun Q hQ => ?_
  obtain ⟨pile, mix, cnt, cur⟩ := s
  obtain ⟨m0, m1, c0, c1, q0, p0⟩ := hs
  simp only at m0 m1 c0 c1 q0 p0
  have hc : cnt + 1 ≤ ((b + 1 : Nat) : Int) := by omega
  simp [d__law_draw, stt, evalEs, evalPs, evalC, evalAnd, evalOr, bind_assoc, evalPar, evalKV, bind_ok, bind_stk, ofRC_ok, noExc_ok, unS, wipeE, backE, noOwn, derefs, List.replicate]
  by_cases hq : cur = 0
  · subst hq
    cases pile with
    | nil =>
      have h1 : (mix + 7919 * (cnt + 1) + 104729).natAbs < 18446744073709551616 := by omega
      have h2 : (0 : Int) ≤ (mix + 7919 * (cnt + 1) + 104729) ^ 5 % 2147483647 := Int.emod_nonneg _ (by decide)
      have h3 : (mix + 7919 * (cnt + 1) + 104729) ^ 5 % 2147483647 < 2147483647 := Int.emod_lt_of_pos _ (by decide)
      have h4 : ((mix + 7919 * (cnt + 1) + 104729) ^ 5 % 2147483647 * 48271 + 30011 * (cnt + 1) + 29).natAbs < 18446744073709551616 := by omega
      have p1 := binD_pow_int _ 5 (by decide) h1
      have p2 := binD_pow_int _ 3 (by decide) h4
      have e5 : ((5 : Nat) : Int) = 5 := rfl
      have e3 : ((3 : Nat) : Int) = 3 := rfl
      rw [e5] at p1
      rw [e3] at p2
      simp [eqD_nil, layL, p1, p2, hm, hm2, evalEs, evalPs, evalC, evalAnd, evalOr, bind_assoc, evalPar, evalKV, bind_ok, bind_stk, ofRC_ok, noExc_ok, unS, wipeE, backE, noOwn, derefs, List.replicate]
      exact hQ _ _ ⟨_, ⟨[], mix, cnt + 1, 0⟩, rfl, rfl, Int.emod_nonneg _ (by omega), Int.emod_lt_of_pos _ hm, ⟨m0, m1, by show 0 ≤ cnt + 1; omega, hc, Int.le_refl 0, by simp⟩⟩
    | cons p ps =>
      have hp := p0 p (by simp)
      simp [eqD_nil, layL_ints, layL, lay, hp, hm, hm2, evalEs, evalPs, evalC, evalAnd, evalOr, bind_assoc, evalPar, evalKV, bind_ok, bind_stk, ofRC_ok, noExc_ok, unS, wipeE, backE, noOwn, derefs, List.replicate]
      exact hQ _ _ ⟨_, ⟨ps, mix, cnt + 1, p / m⟩, rfl, rfl, Int.emod_nonneg _ (by omega), Int.emod_lt_of_pos _ hm, ⟨m0, m1, by show 0 ≤ cnt + 1; omega, hc, Int.ediv_nonneg (by omega) (by omega), fun x hx => p0 x (by simp [hx])⟩⟩
  · have hp : 0 < cur := by omega
    have hq' : (cur == 0) = false := by simp [hq]
    simp [hq, hp, hm, hm2, evalEs, evalPs, evalC, evalAnd, evalOr, bind_assoc, evalPar, evalKV, bind_ok, bind_stk, ofRC_ok, noExc_ok, unS, wipeE, backE, noOwn, derefs, List.replicate]
    exact hQ _ _ ⟨_, ⟨pile, mix, cnt + 1, cur / m⟩, rfl, rfl, Int.emod_nonneg _ (by omega), Int.emod_lt_of_pos _ hm, ⟨m0, m1, by show 0 ≤ cnt + 1; omega, hc, Int.ediv_nonneg (by omega) (by omega), p0⟩⟩
end K81
end Mr
end
section
set_option linter.all false
set_option backward.isDefEq.respectTransparency false
set_option maxRecDepth 100000
namespace Mr
open PySem
namespace K81
/-! Z4: picks, mixings -/
theorem mAt_mem {α : Type} {xs : List α} {r : Int} (h0 : 0 ≤ r) (h : r < xs.length) : ∃ v, mAt xs r = some v ∧ xs[r.toNat]? = some v ∧ v ∈ xs := by
  have hk : r.toNat < xs.length := by omega
  refine ⟨xs[r.toNat], ?_, List.getElem?_eq_getElem hk, List.getElem_mem hk⟩
  have := mAt_nat (xs := xs) (k := r.toNat) (List.getElem?_eq_getElem hk)
  rwa [Int.toNat_of_nonneg h0] at this
theorem erase_perm {α : Type} {xs : List α} {i : Nat} (h : i < xs.length) : (xs[i] :: xs.eraseIdx i).Perm xs := by
  rw [List.eraseIdx_eq_take_drop_succ]
  have e : xs.take i ++ xs[i] :: xs.drop (i + 1) = xs := by rw [← List.drop_eq_getElem_cons h, List.take_append_drop]
  have := (List.perm_middle (a := xs[i]) (l₁ := xs.take i) (l₂ := xs.drop (i + 1))).symm
  rwa [e] at this
theorem pick_ok (n : Nat) (s : Stm) (b : Nat) (hs : s.Ok b) (hb : b < 2 ^ 40) (x : D) (xs : List D) (rest : List D) (hx : ∀ env s', deref ⟨env, stt s' rest⟩ x = some (.lst xs)) (hxl : isLoc x = false)
    (hl : ∀ v ∈ xs, isLoc v = false) (h0 : xs ≠ []) (h1 : xs.length ≤ 1000) :
    Wc ((cc (n + 2)).fn f__law_pick [.ref 1, x] (stt s rest)) fun v st' => ∃ s', v ∈ xs ∧ st' = stt s' rest ∧ s'.Ok (b + 1) := by
  refine fn_Q d__law_pick rfl rfl fun Q hQ => ?_
  have hp : 0 < xs.length := List.length_pos_iff.mpr h0
  obtain ⟨_, _, e, r, s', rfl, rfl, r0, r1, hs'⟩ := draw_ok n s b hs hb xs.length (by omega) (by omega) rest
  obtain ⟨v, e1, _, hv⟩ := mAt_mem r0 r1
  simp [d__law_pick, hx, hxl, e, e1, hl v hv, evalEs, evalPs, evalC, evalAnd, evalOr, bind_assoc, evalPar, evalKV, bind_ok, bind_stk, ofRC_ok, noExc_ok, unS, wipeE, backE, noOwn, derefs, List.replicate]
  exact hQ _ _ ⟨s', hv, rfl, hs'⟩
theorem mixed_ok (n : Nat) (s : Stm) (b : Nat) (hs : s.Ok b) (x : D) (xs : List D) (hb : b + 1000 < 2 ^ 40) (rest : List D) (hx : ∀ env s', deref ⟨env, stt s' rest⟩ x = some (.lst xs)) (hxl : isLoc x = false)
    (hl : ∀ v ∈ xs, isLoc v = false) (h1 : xs.length ≤ 1000) :
    Wc ((cc (n + 2)).fn f__law_mixed [.ref 1, x] (stt s rest)) fun v st' => ∃ ys s', v = .lst ys ∧ ys.Perm xs ∧ st' = stt s' rest ∧ s'.Ok (b + xs.length) := by
  refine fn_Q d__law_mixed rfl rfl fun Q hQ => ?_
  simp [d__law_mixed, hx, hxl, evalEs, evalPs, evalC, evalAnd, evalOr, bind_assoc, evalPar, evalKV, bind_ok, bind_stk, ofRC_ok, noExc_ok, unS, wipeE, backE, noOwn, derefs, List.replicate]
  rw [rngR_nat _ _ (by omega), bind_ok]
  refine W_for (fun i fr => ∃ s' left found a, fr = ⟨[.val (.ref 1), .val x, .own (.lst left), .own (.lst found), a], stt s' rest⟩ ∧ s'.Ok (b + i) ∧ left.length + i = xs.length ∧ (left ++ found).Perm xs) ⟨s, xs, [], _, rfl, hs, rfl, by simp⟩ ?_ ?_
  · rintro i hi fr ⟨s', left, found, a, rfl, hs', hlen, hp⟩ R hR
    simp only [List.length_map, List.length_range] at hi
    obtain ⟨_, _, e, r, s2, rfl, rfl, r0, r1, hs2⟩ := draw_ok n s' (b + i) hs' (by omega) left.length (by omega) (by omega) rest
    obtain ⟨v, e1, e2, hv⟩ := mAt_mem r0 r1
    have hr : r.toNat < left.length := by omega
    have hvl : isLoc v = false := hl v (hp.subset (by simp [hv]))
    have hpop : bmD .popAt (.lst left) [.int r] = some (v, some (.lst (left.eraseIdx r.toNat))) := by
      simp [bmD, mIx_nat r0 r1, e2]
    have hfl : found.length < szL := by
      have := hp.length_eq
      simp at this
      exact sz_lt (by omega)
    unfold forT
    simp [e, hpop, hvl, hfl, evalEs, evalPs, evalC, evalAnd, evalOr, bind_assoc, evalPar, evalKV, bind_ok, bind_stk, ofRC_ok, noExc_ok, unS, wipeE, backE, noOwn, derefs, List.replicate]
    refine hR _ ⟨s2, _, _, _, rfl, hs2, ?_, ?_⟩
    · rw [List.length_eraseIdx_of_lt hr]
      omega
    · have hv2 : v = left[r.toNat] := by
        rw [List.getElem?_eq_getElem hr] at e2
        exact (Option.some.inj e2).symm
      have p1 : (left[r.toNat] :: left.eraseIdx r.toNat).Perm left := erase_perm hr
      rw [hv2]
      have p2 : (left.eraseIdx r.toNat ++ (found ++ [left[r.toNat]])).Perm (left[r.toNat] :: (left.eraseIdx r.toNat ++ found)) := by
        rw [← List.append_assoc]
        exact List.perm_append_singleton _ _
      exact p2.trans ((p1.append_right found).trans hp)
  · rintro fr ⟨s', left, found, a, rfl, hs', hlen, hp⟩
    simp only [List.length_map, List.length_range] at hlen hs'
    have : left = [] := List.eq_nil_of_length_eq_zero (by omega)
    subst this
    simp [evalEs, evalPs, evalC, evalAnd, evalOr, bind_assoc, evalPar, evalKV, bind_ok, bind_stk, ofRC_ok, noExc_ok, unS, wipeE, backE, noOwn, derefs, List.replicate]
    exact hQ _ _ ⟨found, s', rfl, by simpa using hp, rfl, hs'⟩
end K81
end Mr
end
section
set_option linter.all false
set_option backward.isDefEq.respectTransparency false
set_option maxRecDepth 100000
namespace Mr
open PySem
namespace K81
/-! Z5: trees -/
def varsL : List Str := [s_a, s_b, s_x, s_total]
def opsL : List Str := [s_add, s_mul, s_sub]
inductive Tr where
  | num (i : Int) | var (x : Str) | op (o : Str) (a b : Tr)
def Tr.enc : Tr → D
  | .num i => .tup [.str s_num, .int i]
  | .var x => .tup [.str s_var, .str x]
  | .op o a b => .tup [.str o, a.enc, b.enc]
def Tr.Ok : Tr → Prop
  | .num _ => True
  | .var x => x ∈ varsL
  | .op o a b => o ∈ opsL ∧ a.Ok ∧ b.Ok
@[simp] theorem Tr.solid (t : Tr) : solid t.enc = true := by cases t <;> rfl
@[simp] theorem Tr.loc (t : Tr) : isLoc t.enc = false := solid_loc t.solid
@[simp] theorem Tr.der (t : Tr) (fr : Fm) : deref fr t.enc = some t.enc := solid_deref t.solid fr
theorem deref_lst_any (xs : List D) (rest : List D) : ∀ env s', deref ⟨env, stt s' rest⟩ (.lst xs) = some (.lst xs) := fun _ _ => rfl
theorem c_tree_ok : ∀ (k n : Nat) (s : Stm) (b : Nat) (m : Nat) (rest : List D), 1 ≤ m → m ≤ k → k ≤ 6 → s.Ok b → b + 6 * m < 2 ^ 40 →
    Wc ((cc (n + k + 2)).fn f__law_c_tree [.ref 1, .int (m : Int)] (stt s rest)) fun v st' => ∃ t s', v = Tr.enc t ∧ t.Ok ∧ st' = stt s' rest ∧ s'.Ok (b + (6 * m - 2))
  | 0, n, s, b, m, rest, h1, h2, _, hs, hb => by omega
  | k + 1, n, s, b, m, rest, h1, h2, h6, hs, hb => by
    refine fn_Q d__law_c_tree rfl rfl fun Q hQ => ?_
    rw [show n + (k + 1) + 1 = n + k + 2 by omega]
    by_cases hm : m = 1
    · subst hm
      obtain ⟨_, _, e1, r, s1, rfl, rfl, r0, r1, hs1⟩ := draw_ok (n + k + 1) s b hs (by omega) 2000001 (by decide) (by decide) rest
      obtain ⟨v, _, e2, s2, hv, rfl, hs2⟩ := pick_ok (n + k) s1 (b + 1) hs1 (by omega) (.lst [.int 0, .int 1, .int 2, .int 2, .int 7, .int (-3), .int (r - 1000000)]) _ rest (deref_lst_any _ _) rfl (by simp) (by simp) (by simp)
      obtain ⟨i, rfl⟩ : ∃ i, v = .int i := by
        simp only [List.mem_cons, List.not_mem_nil, or_false] at hv
        rcases hv with rfl | rfl | rfl | rfl | rfl | rfl | rfl <;> exact ⟨_, rfl⟩
      obtain ⟨v, _, e3, s3, hv, rfl, hs3⟩ := pick_ok (n + k) s2 (b + 1 + 1) hs2 (by omega) (.lst [.str s_a, .str s_b, .str s_x, .str s_total]) _ rest (deref_lst_any _ _) rfl (by simp) (by simp) (by simp)
      obtain ⟨x, rfl, hx⟩ : ∃ x, v = .str x ∧ x ∈ varsL := by
        simp only [List.mem_cons, List.not_mem_nil, or_false] at hv
        rcases hv with rfl | rfl | rfl | rfl <;> exact ⟨_, rfl, by simp [varsL]⟩
      obtain ⟨v, _, e4, s4, hv, rfl, hs4⟩ := pick_ok (n + k) s3 (b + 1 + 1 + 1) hs3 (by omega) (.lst [.tup [.str s_num, .int i], .tup [.str s_var, .str x]]) _ rest (deref_lst_any _ _) rfl (by simp) (by simp) (by simp)
      obtain ⟨t, rfl, ht⟩ : ∃ t, v = Tr.enc t ∧ t.Ok := by
        simp only [List.mem_cons, List.not_mem_nil, or_false] at hv
        rcases hv with rfl | rfl
        · exact ⟨.num i, rfl, trivial⟩
        · exact ⟨.var x, rfl, hx⟩
      simp [d__law_c_tree, e1, e2, e3, e4, evalEs, evalPs, evalC, evalAnd, evalOr, bind_assoc, evalPar, evalKV, bind_ok, bind_stk, ofRC_ok, noExc_ok, unS, wipeE, backE, noOwn, derefs, List.replicate]
      exact hQ _ _ ⟨t, s4, rfl, ht, rfl, hs4.mono (by omega)⟩
    · obtain ⟨_, _, e1, r, s1, rfl, rfl, r0, r1, hs1⟩ := draw_ok (n + k + 1) s b hs (by omega) ((m : Int) - 1) (by omega) (by omega) rest
      obtain ⟨v, _, e2, s2, hv, rfl, hs2⟩ := pick_ok (n + k) s1 (b + 1) hs1 (by omega) (.lst [.str s_add, .str s_add, .str s_mul, .str s_sub]) _ rest (deref_lst_any _ _) rfl (by simp) (by simp) (by simp)
      obtain ⟨o, rfl, ho⟩ : ∃ o, v = .str o ∧ o ∈ opsL := by
        simp only [List.mem_cons, List.not_mem_nil, or_false] at hv
        rcases hv with rfl | rfl | rfl | rfl <;> exact ⟨_, rfl, by simp [opsL]⟩
      obtain ⟨j, hj⟩ : ∃ j : Nat, 1 + r = j := ⟨(1 + r).toNat, by omega⟩
      obtain ⟨j2, hj2⟩ : ∃ j2 : Nat, (m : Int) - j = j2 := ⟨((m : Int) - j).toNat, by omega⟩
      obtain ⟨_, _, e3, t1, s3, rfl, ht1, rfl, hs3⟩ := c_tree_ok k n s2 (b + 1 + 1) j rest (by omega) (by omega) (by omega) hs2 (by omega)
      obtain ⟨_, _, e4, t2, s4, rfl, ht2, rfl, hs4⟩ := c_tree_ok k n s3 (b + 1 + 1 + (6 * j - 2)) j2 rest (by omega) (by omega) (by omega) hs3 (by omega)
      have hm' : ((m : Int) == 1) = false := by simp; omega
      simp [d__law_c_tree, hm, hm', e1, e2, hj, e3, hj2, e4, evalEs, evalPs, evalC, evalAnd, evalOr, bind_assoc, evalPar, evalKV, bind_ok, bind_stk, ofRC_ok, noExc_ok, unS, wipeE, backE, noOwn, derefs, List.replicate]
      exact hQ _ _ ⟨.op o t1 t2, s4, rfl, ⟨ho, ht1, ht2⟩, rfl, hs4.mono (by omega)⟩
/-! subtrees -/
def sub : Tr → List Bool → Option Tr
  | t, [] => some t
  | .op _ a b, k :: p => sub (if k then b else a) p
  | _, _ => none
def bI (b : Bool) : D := .int (if b then 1 else 0)
theorem c_at_ok (n : Nat) (st : List D) (p : List Bool) (t u : Tr) (h : sub t p = some u) : (cc (n + 1)).fn f__law_c_at [t.enc, .tup (p.map bI)] st = .ok u.enc st := by
  refine fn_E d__law_c_at rfl rfl ?_
  simp [d__law_c_at, evalEs, evalPs, evalC, evalAnd, evalOr, bind_assoc, evalPar, evalKV, bind_ok, bind_stk, ofRC_ok, noExc_ok, unS, wipeE, backE, noOwn, derefs, List.replicate]
  refine W_forE bI p (fun pre fr => ∃ t' a, fr = ⟨[.val (Tr.enc t'), .val (.tup (p.map bI)), a], st⟩ ∧ ∀ q, sub t (pre ++ q) = sub t' q) ⟨t, _, rfl, fun _ => rfl⟩ ?_ ?_
  · rintro pre k post fr e ⟨t', a, rfl, ht⟩ R hR
    have h2 := ht (k :: post)
    rw [← e, h] at h2
    cases t' with
    | num i => simp [sub] at h2
    | var x => simp [sub] at h2
    | op o a' b' =>
      unfold forT
      cases k
      · simp [bI, Tr.enc, evalEs, evalPs, evalC, evalAnd, evalOr, bind_assoc, evalPar, evalKV, bind_ok, bind_stk, ofRC_ok, noExc_ok, unS, wipeE, backE, noOwn, derefs, List.replicate]
        refine hR _ ⟨a', _, rfl, fun q => ?_⟩
        rw [List.append_assoc, List.singleton_append, ht]
        simp [sub]
      · simp [bI, Tr.enc, evalEs, evalPs, evalC, evalAnd, evalOr, bind_assoc, evalPar, evalKV, bind_ok, bind_stk, ofRC_ok, noExc_ok, unS, wipeE, backE, noOwn, derefs, List.replicate]
        refine hR _ ⟨b', _, rfl, fun q => ?_⟩
        rw [List.append_assoc, List.singleton_append, ht]
        simp [sub]
  · rintro fr ⟨t', a, rfl, ht⟩
    have h2 := ht []
    rw [List.append_nil, h] at h2
    simp [sub] at h2
    subst h2
    simp [evalEs, evalPs, evalC, evalAnd, evalOr, bind_assoc, evalPar, evalKV, bind_ok, bind_stk, ofRC_ok, noExc_ok, unS, wipeE, backE, noOwn, derefs, List.replicate]
theorem sub_app : ∀ (t : Tr) (p q : List Bool) (u : Tr), sub t p = some u → sub t (p ++ q) = sub u q
  | t, [], q, u, h => by simp [sub] at h; simp [h]
  | .op o a b, k :: p, q, u, h => by
    simp only [sub] at h
    simp only [List.cons_append, sub]
    exact sub_app _ p q u h
  | .num _, _ :: _, _, _, h => by simp [sub] at h
  | .var _, _ :: _, _, _, h => by simp [sub] at h
theorem sub_ok : ∀ (t : Tr) (p : List Bool) (u : Tr), t.Ok → sub t p = some u → u.Ok
  | t, [], u, o, h => by simp [sub] at h; subst h; exact o
  | .op o a b, k :: p, u, hk, h => by
    simp only [sub] at h
    cases k
    · exact sub_ok a p u hk.2.1 h
    · exact sub_ok b p u hk.2.2 h
  | .num _, _ :: _, _, _, h => by simp [sub] at h
  | .var _, _ :: _, _, _, h => by simp [sub] at h
end K81
end Mr
end
section
set_option linter.all false
set_option backward.isDefEq.respectTransparency false
set_option maxRecDepth 100000
namespace Mr
open PySem
namespace K81
/-! Z6: what fits where -/
@[simp] theorem nb_reg_mem : (s_reg == s_mem) = false := by decide +kernel
@[simp] theorem nq_reg_mem : (s_reg = s_mem) = False := by simpa using nb_reg_mem
@[simp] theorem nb_reg_num : (s_reg == s_num) = false := by decide +kernel
@[simp] theorem nq_reg_num : (s_reg = s_num) = False := by simpa using nb_reg_num
@[simp] theorem nb_reg_var : (s_reg == s_var) = false := by decide +kernel
@[simp] theorem nq_reg_var : (s_reg = s_var) = False := by simpa using nb_reg_var
@[simp] theorem nb_reg_row : (s_reg == s_row) = false := by decide +kernel
@[simp] theorem nq_reg_row : (s_reg = s_row) = False := by simpa using nb_reg_row
@[simp] theorem nb_reg_add : (s_reg == s_add) = false := by decide +kernel
@[simp] theorem nq_reg_add : (s_reg = s_add) = False := by simpa using nb_reg_add
@[simp] theorem nb_reg_mul : (s_reg == s_mul) = false := by decide +kernel
@[simp] theorem nq_reg_mul : (s_reg = s_mul) = False := by simpa using nb_reg_mul
@[simp] theorem nb_reg_sub : (s_reg == s_sub) = false := by decide +kernel
@[simp] theorem nq_reg_sub : (s_reg = s_sub) = False := by simpa using nb_reg_sub
@[simp] theorem nb_mem_reg : (s_mem == s_reg) = false := by decide +kernel
@[simp] theorem nq_mem_reg : (s_mem = s_reg) = False := by simpa using nb_mem_reg
@[simp] theorem nb_mem_num : (s_mem == s_num) = false := by decide +kernel
@[simp] theorem nq_mem_num : (s_mem = s_num) = False := by simpa using nb_mem_num
@[simp] theorem nb_mem_var : (s_mem == s_var) = false := by decide +kernel
@[simp] theorem nq_mem_var : (s_mem = s_var) = False := by simpa using nb_mem_var
@[simp] theorem nb_mem_row : (s_mem == s_row) = false := by decide +kernel
@[simp] theorem nq_mem_row : (s_mem = s_row) = False := by simpa using nb_mem_row
@[simp] theorem nb_mem_add : (s_mem == s_add) = false := by decide +kernel
@[simp] theorem nq_mem_add : (s_mem = s_add) = False := by simpa using nb_mem_add
@[simp] theorem nb_mem_mul : (s_mem == s_mul) = false := by decide +kernel
@[simp] theorem nq_mem_mul : (s_mem = s_mul) = False := by simpa using nb_mem_mul
@[simp] theorem nb_mem_sub : (s_mem == s_sub) = false := by decide +kernel
@[simp] theorem nq_mem_sub : (s_mem = s_sub) = False := by simpa using nb_mem_sub
@[simp] theorem nb_num_reg : (s_num == s_reg) = false := by decide +kernel
@[simp] theorem nq_num_reg : (s_num = s_reg) = False := by simpa using nb_num_reg
@[simp] theorem nb_num_mem : (s_num == s_mem) = false := by decide +kernel
@[simp] theorem nq_num_mem : (s_num = s_mem) = False := by simpa using nb_num_mem
@[simp] theorem nb_num_var : (s_num == s_var) = false := by decide +kernel
@[simp] theorem nq_num_var : (s_num = s_var) = False := by simpa using nb_num_var
@[simp] theorem nb_num_row : (s_num == s_row) = false := by decide +kernel
@[simp] theorem nq_num_row : (s_num = s_row) = False := by simpa using nb_num_row
@[simp] theorem nb_num_add : (s_num == s_add) = false := by decide +kernel
@[simp] theorem nq_num_add : (s_num = s_add) = False := by simpa using nb_num_add
@[simp] theorem nb_num_mul : (s_num == s_mul) = false := by decide +kernel
@[simp] theorem nq_num_mul : (s_num = s_mul) = False := by simpa using nb_num_mul
@[simp] theorem nb_num_sub : (s_num == s_sub) = false := by decide +kernel
@[simp] theorem nq_num_sub : (s_num = s_sub) = False := by simpa using nb_num_sub
@[simp] theorem nb_var_reg : (s_var == s_reg) = false := by decide +kernel
@[simp] theorem nq_var_reg : (s_var = s_reg) = False := by simpa using nb_var_reg
@[simp] theorem nb_var_mem : (s_var == s_mem) = false := by decide +kernel
@[simp] theorem nq_var_mem : (s_var = s_mem) = False := by simpa using nb_var_mem
@[simp] theorem nb_var_num : (s_var == s_num) = false := by decide +kernel
@[simp] theorem nq_var_num : (s_var = s_num) = False := by simpa using nb_var_num
@[simp] theorem nb_var_row : (s_var == s_row) = false := by decide +kernel
@[simp] theorem nq_var_row : (s_var = s_row) = False := by simpa using nb_var_row
@[simp] theorem nb_var_add : (s_var == s_add) = false := by decide +kernel
@[simp] theorem nq_var_add : (s_var = s_add) = False := by simpa using nb_var_add
@[simp] theorem nb_var_mul : (s_var == s_mul) = false := by decide +kernel
@[simp] theorem nq_var_mul : (s_var = s_mul) = False := by simpa using nb_var_mul
@[simp] theorem nb_var_sub : (s_var == s_sub) = false := by decide +kernel
@[simp] theorem nq_var_sub : (s_var = s_sub) = False := by simpa using nb_var_sub
@[simp] theorem nb_row_reg : (s_row == s_reg) = false := by decide +kernel
@[simp] theorem nq_row_reg : (s_row = s_reg) = False := by simpa using nb_row_reg
@[simp] theorem nb_row_mem : (s_row == s_mem) = false := by decide +kernel
@[simp] theorem nq_row_mem : (s_row = s_mem) = False := by simpa using nb_row_mem
@[simp] theorem nb_row_num : (s_row == s_num) = false := by decide +kernel
@[simp] theorem nq_row_num : (s_row = s_num) = False := by simpa using nb_row_num
@[simp] theorem nb_row_var : (s_row == s_var) = false := by decide +kernel
@[simp] theorem nq_row_var : (s_row = s_var) = False := by simpa using nb_row_var
@[simp] theorem nb_row_add : (s_row == s_add) = false := by decide +kernel
@[simp] theorem nq_row_add : (s_row = s_add) = False := by simpa using nb_row_add
@[simp] theorem nb_row_mul : (s_row == s_mul) = false := by decide +kernel
@[simp] theorem nq_row_mul : (s_row = s_mul) = False := by simpa using nb_row_mul
@[simp] theorem nb_row_sub : (s_row == s_sub) = false := by decide +kernel
@[simp] theorem nq_row_sub : (s_row = s_sub) = False := by simpa using nb_row_sub
@[simp] theorem nb_add_reg : (s_add == s_reg) = false := by decide +kernel
@[simp] theorem nq_add_reg : (s_add = s_reg) = False := by simpa using nb_add_reg
@[simp] theorem nb_add_mem : (s_add == s_mem) = false := by decide +kernel
@[simp] theorem nq_add_mem : (s_add = s_mem) = False := by simpa using nb_add_mem
@[simp] theorem nb_add_num : (s_add == s_num) = false := by decide +kernel
@[simp] theorem nq_add_num : (s_add = s_num) = False := by simpa using nb_add_num
@[simp] theorem nb_add_var : (s_add == s_var) = false := by decide +kernel
@[simp] theorem nq_add_var : (s_add = s_var) = False := by simpa using nb_add_var
@[simp] theorem nb_add_row : (s_add == s_row) = false := by decide +kernel
@[simp] theorem nq_add_row : (s_add = s_row) = False := by simpa using nb_add_row
@[simp] theorem nb_add_mul : (s_add == s_mul) = false := by decide +kernel
@[simp] theorem nq_add_mul : (s_add = s_mul) = False := by simpa using nb_add_mul
@[simp] theorem nb_add_sub : (s_add == s_sub) = false := by decide +kernel
@[simp] theorem nq_add_sub : (s_add = s_sub) = False := by simpa using nb_add_sub
@[simp] theorem nb_mul_reg : (s_mul == s_reg) = false := by decide +kernel
@[simp] theorem nq_mul_reg : (s_mul = s_reg) = False := by simpa using nb_mul_reg
@[simp] theorem nb_mul_mem : (s_mul == s_mem) = false := by decide +kernel
@[simp] theorem nq_mul_mem : (s_mul = s_mem) = False := by simpa using nb_mul_mem
@[simp] theorem nb_mul_num : (s_mul == s_num) = false := by decide +kernel
@[simp] theorem nq_mul_num : (s_mul = s_num) = False := by simpa using nb_mul_num
@[simp] theorem nb_mul_var : (s_mul == s_var) = false := by decide +kernel
@[simp] theorem nq_mul_var : (s_mul = s_var) = False := by simpa using nb_mul_var
@[simp] theorem nb_mul_row : (s_mul == s_row) = false := by decide +kernel
@[simp] theorem nq_mul_row : (s_mul = s_row) = False := by simpa using nb_mul_row
@[simp] theorem nb_mul_add : (s_mul == s_add) = false := by decide +kernel
@[simp] theorem nq_mul_add : (s_mul = s_add) = False := by simpa using nb_mul_add
@[simp] theorem nb_mul_sub : (s_mul == s_sub) = false := by decide +kernel
@[simp] theorem nq_mul_sub : (s_mul = s_sub) = False := by simpa using nb_mul_sub
@[simp] theorem nb_sub_reg : (s_sub == s_reg) = false := by decide +kernel
@[simp] theorem nq_sub_reg : (s_sub = s_reg) = False := by simpa using nb_sub_reg
@[simp] theorem nb_sub_mem : (s_sub == s_mem) = false := by decide +kernel
@[simp] theorem nq_sub_mem : (s_sub = s_mem) = False := by simpa using nb_sub_mem
@[simp] theorem nb_sub_num : (s_sub == s_num) = false := by decide +kernel
@[simp] theorem nq_sub_num : (s_sub = s_num) = False := by simpa using nb_sub_num
@[simp] theorem nb_sub_var : (s_sub == s_var) = false := by decide +kernel
@[simp] theorem nq_sub_var : (s_sub = s_var) = False := by simpa using nb_sub_var
@[simp] theorem nb_sub_row : (s_sub == s_row) = false := by decide +kernel
@[simp] theorem nq_sub_row : (s_sub = s_row) = False := by simpa using nb_sub_row
@[simp] theorem nb_sub_add : (s_sub == s_add) = false := by decide +kernel
@[simp] theorem nq_sub_add : (s_sub = s_add) = False := by simpa using nb_sub_add
@[simp] theorem nb_sub_mul : (s_sub == s_mul) = false := by decide +kernel
@[simp] theorem nq_sub_mul : (s_sub = s_mul) = False := by simpa using nb_sub_mul
def Pat.Ok : Pat → Prop
  | .op o a b => o ∈ opsL ∧ a.Ok ∧ b.Ok
  | _ => True
theorem tab_ok : ∀ x ∈ tabT, x.2.Ok := by
  intro x hx
  simp only [tabT, baseT, moreT, List.mem_cons, List.not_mem_nil, or_false, List.cons_append, List.nil_append] at hx
  rcases hx with rfl | rfl | rfl | rfl | rfl | rfl | rfl | rfl | rfl | rfl | rfl | rfl | rfl | rfl | rfl | rfl | rfl | rfl | rfl | rfl | rfl <;> simp [Pat.Ok, opsL]
theorem lay_ops : ∀ o ∈ opsL, lay (.str o) = true := by simp [opsL]
theorem lay_vars : ∀ o ∈ varsL, lay (.str o) = true := by decide +kernel
theorem Pat.lay : ∀ p : Pat, p.Ok → Mr.lay p.enc = true
  | .reg, _ | .mem, _ | .num, _ => by simp [Pat.enc]
  | .nk i, _ => by simp only [Pat.enc, Mr.lay.eq_5, Mr.lay.eq_6, layL, lay_num]; simp [Mr.lay]
  | .op o a b, h => by
    have h1 := Pat.lay a h.2.1
    have h2 := Pat.lay b h.2.2
    have h3 := lay_ops o h.1
    simp only [Pat.enc]
    unfold Mr.lay
    simp only [layL, h1, h2, h3, Bool.and_self]
theorem Tr.lay : ∀ t : Tr, t.Ok → Mr.lay t.enc = true
  | .num i, _ => by
    simp only [Tr.enc]
    unfold Mr.lay
    simp only [layL, lay_num]
    simp [Mr.lay]
  | .var x, h => by
    simp only [Tr.enc]
    unfold Mr.lay
    simp only [layL, lay_var, lay_vars x h, Bool.and_self]
  | .op o a b, h => by
    have h1 := Tr.lay a h.2.1
    have h2 := Tr.lay b h.2.2
    have h3 := lay_ops o h.1
    simp only [Tr.enc]
    unfold Mr.lay
    simp only [layL, h1, h2, h3, Bool.and_self]
def Tr.hd : Tr → Str
  | .num _ => s_num
  | .var _ => s_var
  | .op o _ _ => o
@[simp] theorem Tr.ix0 (t : Tr) : ixD t.enc (.int 0) = some (.str t.hd) := by cases t <;> simp [Tr.enc, Tr.hd]
theorem Tr.lay_hd (t : Tr) (h : t.Ok) : Mr.lay (.str t.hd) = true := by
  cases t with
  | num _ => simp [Tr.hd]
  | var _ => simp [Tr.hd]
  | op o a b => exact lay_ops o h.1
def fits : Pat → Tr → List Bool → Option (List (Str × List Bool))
  | .reg, _, p => some [(s_reg, p)]
  | .mem, _, p => some [(s_mem, p)]
  | .num, .num _, p => some [(s_num, p)]
  | .nk i, .num j, _ => if i = j then some [] else none
  | .op o a b, .op o' l r, p => if o' = o then match fits a l (p ++ [false]), fits b r (p ++ [true]) with
      | some x, some y => some (x ++ y)
      | _, _ => none
    else none
  | _, _, _ => none
def encQ (q : Str × List Bool) : D := .tup [.str q.1, .tup (q.2.map bI)]
def encF : Option (List (Str × List Bool)) → D
  | none => .non
  | some ls => .lst (ls.map encQ)
theorem eqD_nk (u : Tr) (hu : u.Ok) (i : Int) : eqD u.enc (.tup [.str s_num, .int i]) = some (match u with | .num j => j == i | _ => false) := by
  unfold eqD
  have h1 := u.lay hu
  have h2 : lay (.tup [.str s_num, .int i]) = true := by
    unfold Mr.lay
    simp only [layL, lay_num]
    simp [Mr.lay]
  simp only [h1, h2, Bool.true_and]
  rw [if_pos (by simp [dep, depL]; omega)]
  cases u with
  | num j => simp [Tr.enc, eqv, eqvL]
  | var x => simp [Tr.enc, eqv, eqvL]
  | op o a b => simp [Tr.enc, eqv, eqvL]
theorem mem_rm (p : Pat) (h : p.Ok) : memD p.enc (.tup [.str s_reg, .str s_mem]) = some (match p with | .reg => true | .mem => true | _ => false) := by
  have h1 := p.lay h
  simp only [memD, h1, layL, lay_reg, lay_mem, depL, dep, Bool.true_and, Bool.and_self]
  rw [if_pos (by simp)]
  cases p <;> simp [Pat.enc, eqv]
theorem eqD_num (p : Pat) (h : p.Ok) : eqD p.enc (.str s_num) = some (match p with | .num => true | _ => false) := by
  unfold eqD
  simp only [p.lay h, lay_num, Bool.true_and]
  rw [if_pos (by simp [dep])]
  cases p <;> simp [Pat.enc, eqv]
theorem fits_len : ∀ (p : Pat) (u : Tr) (q : List Bool) (ls : List (Str × List Bool)), fits p u q = some ls → ls.length = p.lv.length
  | .reg, _, _, _, h | .mem, _, _, _, h => by simp [fits] at h; simp [← h, Pat.lv]
  | .num, u, _, _, h => by cases u <;> simp [fits] at h; simp [← h, Pat.lv]
  | .nk i, u, _, _, h => by
    cases u <;> simp [fits] at h
    simp [← h.2, Pat.lv]
  | .op o a b, u, q, ls, h => by
    cases u with
    | num _ => simp [fits] at h
    | var _ => simp [fits] at h
    | op o' l r =>
      simp only [fits] at h
      split at h
      · split at h
        · rename_i x y hx hy
          cases h
          simp [Pat.lv, fits_len a l _ x hx, fits_len b r _ y hy]
        · cases h
      · cases h
theorem c_fits_ok (st : List D) (t : Tr) (ht : t.Ok) : ∀ (p : Pat) (n : Nat) (q : List Bool) (u : Tr), p.Ok → p.dp ≤ n → q.length + p.dp ≤ 1000 → p.lv.length ≤ 1000 → sub t q = some u →
    (cc (n + 2)).fn f__law_c_fits [p.enc, t.enc, .tup (q.map bI)] st = .ok (encF (fits p u q)) st := by
  intro p
  induction p with
  | reg =>
    intro n q u hp hn hq hl hu
    refine fn_E d__law_c_fits rfl rfl ?_
    have h1 := mem_rm .reg hp
    simp [d__law_c_fits, h1, fits, encF, encQ, evalEs, evalPs, evalC, evalAnd, evalOr, bind_assoc, evalPar, evalKV, bind_ok, bind_stk, ofRC_ok, noExc_ok, unS, wipeE, backE, noOwn, derefs, List.replicate]
    simp only [Pat.enc]
  | mem =>
    intro n q u hp hn hq hl hu
    refine fn_E d__law_c_fits rfl rfl ?_
    have h1 := mem_rm .mem hp
    simp [d__law_c_fits, h1, fits, encF, encQ, evalEs, evalPs, evalC, evalAnd, evalOr, bind_assoc, evalPar, evalKV, bind_ok, bind_stk, ofRC_ok, noExc_ok, unS, wipeE, backE, noOwn, derefs, List.replicate]
    simp only [Pat.enc]
  | num =>
    intro n q u hp hn hq hl hu
    refine fn_E d__law_c_fits rfl rfl ?_
    have h1 := mem_rm .num hp
    have h2 := eqD_num .num hp
    have hc := c_at_ok n st q t u hu
    have hh := eqD_str (u.lay_hd (sub_ok t q u ht hu)) lay_num
    simp [d__law_c_fits, h1, hc, h2, hh, evalEs, evalPs, evalC, evalAnd, evalOr, bind_assoc, evalPar, evalKV, bind_ok, bind_stk, ofRC_ok, noExc_ok, unS, wipeE, backE, noOwn, derefs, List.replicate]
    cases u <;> simp [Tr.hd, fits, encF, encQ]
    · simp [evalEs, evalPs, evalC, evalAnd, evalOr, bind_assoc, evalPar, evalKV, bind_ok, bind_stk, ofRC_ok, noExc_ok, unS, wipeE, backE, noOwn, derefs, List.replicate]
    · simp [evalEs, evalPs, evalC, evalAnd, evalOr, bind_assoc, evalPar, evalKV, bind_ok, bind_stk, ofRC_ok, noExc_ok, unS, wipeE, backE, noOwn, derefs, List.replicate]
    · rename_i o a b
      have ho : (o = s_num) = False := by
        have := (sub_ok t q _ ht hu).1
        simp only [opsL, List.mem_cons, List.not_mem_nil, or_false] at this
        rcases this with rfl | rfl | rfl <;> simp
      simp [ho]
      simp [evalEs, evalPs, evalC, evalAnd, evalOr, bind_assoc, evalPar, evalKV, bind_ok, bind_stk, ofRC_ok, noExc_ok, unS, wipeE, backE, noOwn, derefs, List.replicate]
  | nk i =>
    intro n q u hp hn hq hl hu
    refine fn_E d__law_c_fits rfl rfl ?_
    have h1 := mem_rm (.nk i) hp
    have h2 := eqD_num (.nk i) hp
    have hc := c_at_ok n st q t u hu
    have hx : ixD (Pat.nk i).enc (.int 0) = some (.str s_num) := by simp [Pat.enc]
    have he := eqD_nk u (sub_ok t q u ht hu) i
    have hn := eqD_str lay_num lay_num
    simp [d__law_c_fits, h1, hc, h2, hx, hn, evalEs, evalPs, evalC, evalAnd, evalOr, bind_assoc, evalPar, evalKV, bind_ok, bind_stk, ofRC_ok, noExc_ok, unS, wipeE, backE, noOwn, derefs, List.replicate]
    rw [show (Pat.nk i).enc = .tup [.str s_num, .int i] from rfl, he]
    cases u with
    | num j =>
      by_cases hij : j = i
      · subst hij
        simp [fits, encF]
        simp [evalEs, evalPs, evalC, evalAnd, evalOr, bind_assoc, evalPar, evalKV, bind_ok, bind_stk, ofRC_ok, noExc_ok, unS, wipeE, backE, noOwn, derefs, List.replicate]
      · have hij' : ¬ i = j := fun z => hij z.symm
        simp [fits, encF, hij, hij', evalEs, evalPs, evalC, evalAnd, evalOr, bind_assoc, evalPar, evalKV, bind_ok, bind_stk, ofRC_ok, noExc_ok, unS, wipeE, backE, noOwn, derefs, List.replicate]
    | var x => simp [fits, encF]; simp [evalEs, evalPs, evalC, evalAnd, evalOr, bind_assoc, evalPar, evalKV, bind_ok, bind_stk, ofRC_ok, noExc_ok, unS, wipeE, backE, noOwn, derefs, List.replicate]
    | op o a b => simp [fits, encF]; simp [evalEs, evalPs, evalC, evalAnd, evalOr, bind_assoc, evalPar, evalKV, bind_ok, bind_stk, ofRC_ok, noExc_ok, unS, wipeE, backE, noOwn, derefs, List.replicate]
  | op o a b iha ihb =>
    intro n q u hp hn hq hl hu
    obtain ⟨ho, ha, hb⟩ := hp
    simp only [Pat.dp] at hn hq
    simp only [Pat.lv, List.length_append] at hl
    obtain ⟨n, rfl⟩ : ∃ k, n = k + 1 := ⟨n - 1, by omega⟩
    refine fn_E d__law_c_fits rfl rfl ?_
    have h1 := mem_rm (.op o a b) ⟨ho, ha, hb⟩
    have h2 := eqD_num (.op o a b) ⟨ho, ha, hb⟩
    have hc := c_at_ok (n + 1) st q t u hu
    have hx : ixD (Pat.op o a b).enc (.int 0) = some (.str o) := by simp [Pat.enc]
    have hx1 : ixD (Pat.op o a b).enc (.int 1) = some a.enc := by simp [Pat.enc]
    have hx2 : ixD (Pat.op o a b).enc (.int 2) = some b.enc := by simp [Pat.enc]
    have hon : (o == s_num) = false := by
      simp only [opsL, List.mem_cons, List.not_mem_nil, or_false] at ho
      rcases ho with rfl | rfl | rfl <;> simp
    have hn := eqD_str (lay_ops o ho) lay_num
    have hh := eqD_str (u.lay_hd (sub_ok t q u ht hu)) (lay_ops o ho)
    rw [hon] at hn
    cases u with
    | num j =>
      have e : (s_num = o) = False := by
        simp only [opsL, List.mem_cons, List.not_mem_nil, or_false] at ho
        rcases ho with rfl | rfl | rfl <;> simp
      have hh : eqD (.str s_num) (.str o) = some false := by rw [show eqD (.str s_num) (.str o) = some (s_num == o) from hh]; simp [e]
      simp [d__law_c_fits, h1, hc, h2, hx, hn, hh, Tr.hd, e, fits, encF, evalEs, evalPs, evalC, evalAnd, evalOr, bind_assoc, evalPar, evalKV, bind_ok, bind_stk, ofRC_ok, noExc_ok, unS, wipeE, backE, noOwn, derefs, List.replicate]
    | var x =>
      have e : (s_var = o) = False := by
        simp only [opsL, List.mem_cons, List.not_mem_nil, or_false] at ho
        rcases ho with rfl | rfl | rfl <;> simp
      have hh : eqD (.str s_var) (.str o) = some false := by rw [show eqD (.str s_var) (.str o) = some (s_var == o) from hh]; simp [e]
      simp [d__law_c_fits, h1, hc, h2, hx, hn, hh, Tr.hd, e, fits, encF, evalEs, evalPs, evalC, evalAnd, evalOr, bind_assoc, evalPar, evalKV, bind_ok, bind_stk, ofRC_ok, noExc_ok, unS, wipeE, backE, noOwn, derefs, List.replicate]
    | op o' l r =>
      have hh : eqD (.str o') (.str o) = some (o' == o) := hh
      by_cases e : o' = o
      · subst e
        have q1 : sub t (q ++ [false]) = some l := by rw [sub_app t q [false] _ hu]; simp [sub]
        have q2 : sub t (q ++ [true]) = some r := by rw [sub_app t q [true] _ hu]; simp [sub]
        have c1 := iha n (q ++ [false]) l ha (by omega) (by simp; omega) (by omega) q1
        have c2 := ihb n (q ++ [true]) r hb (by omega) (by simp; omega) (by omega) q2
        have s1 : binD .add (.tup (q.map bI)) (.tup [.int 0]) = some (.tup ((q ++ [false]).map bI)) := by
          rw [binD_add_tup _ _ (sz_le (by simp; omega))]; simp [bI]
        have s2 : binD .add (.tup (q.map bI)) (.tup [.int 1]) = some (.tup ((q ++ [true]).map bI)) := by
          rw [binD_add_tup _ _ (sz_le (by simp; omega))]; simp [bI]
        have f1 := fits_len a l (q ++ [false])
        have f2 := fits_len b r (q ++ [true])
        have ef : fits (.op o' a b) (.op o' l r) q = match fits a l (q ++ [false]), fits b r (q ++ [true]) with
            | some x, some y => some (x ++ y)
            | _, _ => none := by simp [fits]
        rw [ef]
        generalize q ++ [false] = qa at c1 s1 f1
        generalize q ++ [true] = qb at c2 s2 f2
        cases e1 : fits a l qa with
        | none =>
          rw [e1] at c1
          cases e2 : fits b r qb with
          | none =>
            rw [e2] at c2
            simp only [encF] at c1 c2
            simp [d__law_c_fits, h1, hc, h2, hx, hx1, hx2, hn, hh, Tr.hd, s1, s2, c1, c2, encF, evalEs, evalPs, evalC, evalAnd, evalOr, bind_assoc, evalPar, evalKV, bind_ok, bind_stk, ofRC_ok, noExc_ok, unS, wipeE, backE, noOwn, derefs, List.replicate]
          | some y =>
            rw [e2] at c2
            simp only [encF] at c1 c2
            simp [d__law_c_fits, h1, hc, h2, hx, hx1, hx2, hn, hh, Tr.hd, s1, s2, c1, c2, encF, evalEs, evalPs, evalC, evalAnd, evalOr, bind_assoc, evalPar, evalKV, bind_ok, bind_stk, ofRC_ok, noExc_ok, unS, wipeE, backE, noOwn, derefs, List.replicate]
        | some x =>
          rw [e1] at c1
          cases e2 : fits b r qb with
          | none =>
            rw [e2] at c2
            simp only [encF] at c1 c2
            simp [d__law_c_fits, h1, hc, h2, hx, hx1, hx2, hn, hh, Tr.hd, s1, s2, c1, c2, encF, evalEs, evalPs, evalC, evalAnd, evalOr, bind_assoc, evalPar, evalKV, bind_ok, bind_stk, ofRC_ok, noExc_ok, unS, wipeE, backE, noOwn, derefs, List.replicate]
          | some y =>
            rw [e2] at c2
            have l1 := f1 x e1
            have l2 := f2 y e2
            simp only [encF] at c1 c2
            have s3 : binD .add (.lst (x.map encQ)) (.lst (y.map encQ)) = some (.lst ((x ++ y).map encQ)) := by
              rw [binD_add_lst _ _ (sz_le (by simp; omega)), List.map_append]
            simp [d__law_c_fits, h1, hc, h2, hx, hx1, hx2, hn, hh, Tr.hd, s1, s2, c1, c2, s3, encF, evalEs, evalPs, evalC, evalAnd, evalOr, bind_assoc, evalPar, evalKV, bind_ok, bind_stk, ofRC_ok, noExc_ok, unS, wipeE, backE, noOwn, derefs, List.replicate]
      · simp [d__law_c_fits, h1, hc, h2, hx, hn, hh, Tr.hd, e, fits, encF, evalEs, evalPs, evalC, evalAnd, evalOr, bind_assoc, evalPar, evalKV, bind_ok, bind_stk, ofRC_ok, noExc_ok, unS, wipeE, backE, noOwn, derefs, List.replicate]
end K81
end Mr
end
section
set_option linter.all false
set_option backward.isDefEq.respectTransparency false
set_option maxRecDepth 100000
namespace Mr
open PySem
namespace K81
/-! Z7: drawn machines -/
@[simp] theorem szlt0 : 0 < szL := by decide
@[simp] theorem szlt1 : 1 < szL := by decide
@[simp] theorem szlt2 : 2 < szL := by decide
@[simp] theorem szlt3 : 3 < szL := by decide
@[simp] theorem szlt4 : 4 < szL := by decide
@[simp] theorem szlt5 : 5 < szL := by decide
@[simp] theorem szlt6 : 6 < szL := by decide
@[simp] theorem szle6 : 6 ≤ szL := by decide
@[simp] theorem szlt7 : 7 < szL := by decide
@[simp] theorem szlt8 : 8 < szL := by decide
@[simp] theorem szle8 : 8 ≤ szL := by decide
@[simp] theorem szlt9 : 9 < szL := by decide
@[simp] theorem szle9 : 9 ≤ szL := by decide
@[simp] theorem szlt10 : 10 < szL := by decide
@[simp] theorem szle10 : 10 ≤ szL := by decide
@[simp] theorem szlt11 : 11 < szL := by decide
@[simp] theorem szle11 : 11 ≤ szL := by decide
@[simp] theorem szlt12 : 12 < szL := by decide
@[simp] theorem szle12 : 12 ≤ szL := by decide
@[simp] theorem szlt13 : 13 < szL := by decide
@[simp] theorem szlt14 : 14 < szL := by decide
@[simp] theorem szle14 : 14 ≤ szL := by decide
@[simp] theorem szlt15 : 15 < szL := by decide
@[simp] theorem szle15 : 15 ≤ szL := by decide
@[simp] theorem szlt16 : 16 < szL := by decide
@[simp] theorem szle16 : 16 ≤ szL := by decide
@[simp] theorem szlt17 : 17 < szL := by decide
@[simp] theorem szle17 : 17 ≤ szL := by decide
@[simp] theorem szlt18 : 18 < szL := by decide
@[simp] theorem szle18 : 18 ≤ szL := by decide
@[simp] theorem szlt19 : 19 < szL := by decide
@[simp] theorem szle19 : 19 ≤ szL := by decide
@[simp] theorem szlt20 : 20 < szL := by decide
@[simp] theorem szle20 : 20 ≤ szL := by decide
@[simp] theorem szlt21 : 21 < szL := by decide
@[simp] theorem szle21 : 21 ≤ szL := by decide
@[simp] theorem szlt22 : 22 < szL := by decide
@[simp] theorem szle22 : 22 ≤ szL := by decide
@[simp] theorem szlt23 : 23 < szL := by decide
@[simp] theorem szle23 : 23 ≤ szL := by decide
theorem perm_map {α β : Type} (f : α → β) : ∀ {ys zs : List β}, ys.Perm zs → ∀ xs : List α, zs = xs.map f → ∃ ws : List α, ws.Perm xs ∧ ys = ws.map f := by
  intro ys zs h
  induction h with
  | nil => intro xs e; exact ⟨xs, List.Perm.refl _, e⟩
  | cons x p ih =>
    intro xs e
    cases xs with
    | nil => simp at e
    | cons x' xs =>
      simp only [List.map_cons, List.cons.injEq] at e
      obtain ⟨ws, hp, rfl⟩ := ih xs e.2
      exact ⟨x' :: ws, hp.cons x', by rw [List.map_cons, e.1]⟩
  | swap x y l =>
    intro xs e
    match xs, e with
    | a :: b :: xs, e =>
      simp only [List.map_cons, List.cons.injEq] at e
      obtain ⟨rfl, rfl, rfl⟩ := e
      exact ⟨b :: a :: xs, List.Perm.swap _ _ _, rfl⟩
  | trans p q ihp ihq =>
    intro xs e
    obtain ⟨ws, hp, e2⟩ := ihq xs e
    obtain ⟨vs, hq, e3⟩ := ihp ws e2
    exact ⟨vs, hq.trans hp, e3⟩
theorem cut_take {α : Type} (xs : List α) (k : Int) (h : 0 ≤ k) : cutL xs none (some k) = xs.take k.toNat := by
  have hk : ¬ k < 0 := by omega
  simp only [cutL, mSx, hk, if_false, List.drop_zero, Nat.sub_zero]
  rw [List.take_eq_take_iff]
  omega
@[simp] theorem stt_app (s : Stm) (rest : List D) (d : D) : stt s rest ++ [d] = stt s (rest ++ [d]) := (rfl)
@[simp] theorem stt_len (s : Stm) (rest : List D) : (stt s rest).length = rest.length + 2 := (rfl)
@[simp 5000] theorem stt_get (s : Stm) (rest : List D) (k : Nat) : (stt s rest)[k + 2]? = rest[k]? := (rfl)
@[simp] theorem stt_set (s : Stm) (rest : List D) (k : Nat) (d : D) : (stt s rest).set (k + 2) d = stt s (rest.set k d) := (rfl)
@[simp] theorem set_last {α : Type} (xs : List α) (a b : α) : (xs ++ [a]).set xs.length b = xs ++ [b] := by
  rw [List.set_append_right _ _ (Nat.le_refl _)]
  simp
def encP (q : Str × Pat) : D := .tup [.str q.1, q.2.enc]
@[simp] theorem encP_loc (q : Str × Pat) : isLoc (encP q) = false := (rfl)
def wordsM : List Str := [s_ld, s_st, s_li, s_add, s_sub, s_mul, s_go, s_w, s_xx, s_opq, s_pair, s_zoom, s_lean]
theorem wordsM_nd : wordsM.Nodup := by decide +kernel
theorem wordsM_sub : ∀ x ∈ wordsM, x ∈ wordsL := by
  intro x hx
  have e : wordsL = wordsM ++ [s_a, s_b, s_x, s_total] := rfl
  rw [e]
  exact List.mem_append_left _ hx
theorem loc_map {α : Type} (f : α → D) (h : ∀ a, isLoc (f a) = false) (xs : List α) : ∀ v ∈ xs.map f, isLoc v = false := by
  intro v hv
  obtain ⟨x, _, rfl⟩ := List.mem_map.mp hv
  exact h x
theorem xss_append (c : Cal) : ∀ (a b : List DS) (fr : Fm), xSs gg c LL (a ++ b) fr = (xSs gg c LL a fr).bind (thenR c b)
  | [], b, fr => by simp [bind_ok]
  | s :: a, b, fr => by
    rw [List.cons_append, xss_cons, xss_cons, bind_assoc]
    congr 1
    funext f fr
    cases f with
    | nx => simp only [thenR_nx]; exact xss_append c a b fr
    | _ => rfl
theorem zip_fst {α β : Type} : ∀ (xs : List α) (ys : List β), (xs.zip ys).map (·.1) = xs.take ys.length
  | [], _ => by simp
  | _ :: _, [] => by simp
  | x :: xs, y :: ys => by simp [zip_fst xs ys]
theorem c_machine1 (n : Nat) (s : Stm) (b : Nat) (hs : s.Ok b) (hb : b + 2000 < 2 ^ 40) (plain : Bool) (rest : List D) (R : Fl → Fm → Prop)
    (hR : ∀ (zs : List (Str × Pat)) (s' : Stm), (∀ z ∈ zs, z ∈ tabT) → 3 ≤ zs.length → zs.length ≤ 6 → s'.Ok (b + 7) → R .nx ⟨[.val (.ref 1), .val (.int 10), .val (.bl plain), .own (.lst (zs.map encP)), .own (.lst (moreT.map encP))] ++ unS 9, stt s' rest⟩) :
    W (xSs gg (cc (n + 2)) LL (d__law_c_machine.body.take 9) ⟨[.ref 1, .int 10, .bl plain].map Sl.val ++ unS 11, stt s rest⟩) R := by
  cases plain with
  | true =>
    simp [d__law_c_machine, compL, lcT, evalEs, evalPs, evalC, evalAnd, evalOr, bind_assoc, evalPar, evalKV, bind_ok, bind_stk, ofRC_ok, noExc_ok, unS, wipeE, backE, noOwn, derefs, List.replicate]
    exact hR baseT s (fun z hz => List.mem_append_left _ hz) (by decide) (by decide) (hs.mono (by omega))
  | false =>
    obtain ⟨_, _, e, ys, s1, rfl, hp, rfl, hs1⟩ := mixed_ok n s b hs (.lst (baseT.map encP)) (baseT.map encP) (by omega) rest (deref_lst_any _ _) rfl (loc_map _ encP_loc _) (by decide)
    obtain ⟨zs, hz, rfl⟩ := perm_map encP hp baseT rfl
    obtain ⟨_, _, e2, r, s2, rfl, rfl, r0, r1, hs2⟩ := draw_ok (n + 1) s1 (b + (baseT.map encP).length) hs1 (by simp [baseT]; omega) 4 (by decide) (by decide) rest
    simp only [baseT, List.map_cons, List.map_nil, encP, Pat.enc] at e
    simp [d__law_c_machine, compL, lcT, e, e2, evalEs, evalPs, evalC, evalAnd, evalOr, bind_assoc, evalPar, evalKV, bind_ok, bind_stk, ofRC_ok, noExc_ok, unS, wipeE, backE, noOwn, derefs, List.replicate]
    rw [cut_take _ _ (show (0:Int) ≤ 3 + r by omega), ← List.map_take]
    refine hR (zs.take (3 + r).toNat) s2 (fun z hz' => List.mem_append_left _ (hz.subset (List.mem_of_mem_take hz'))) ?_ ?_ (hs2.mono (by simp [baseT]))
    all_goals
      have := hz.length_eq
      simp [baseT] at this
      simp
      omega
theorem c_machine2 (n : Nat) (s : Stm) (b : Nat) (hs : s.Ok b) (hb : b + 2000 < 2 ^ 40) (plain : Bool) (rest : List D) (zs : List (Str × Pat)) (hz : ∀ z ∈ zs, z ∈ tabT) (hz3 : 3 ≤ zs.length) (hz6 : zs.length ≤ 6) (R : Fl → Fm → Prop)
    (hR : ∀ (fs : List (Str × Pat)) (s' : Stm) (o : Sl), (∀ z ∈ fs, z ∈ tabT) → fs.length ≤ 11 → s'.Ok (b + 18) → R .nx ⟨[.val (.ref 1), .val (.int 10), .val (.bl plain), .own (.lst (zs.map encP)), o, .val (.ref (rest.length + 2))] ++ unS 8, stt s' (rest ++ [.lst (fs.map encP)])⟩) :
    W (xSs gg (cc (n + 2)) LL ((d__law_c_machine.body.drop 9).take 2) ⟨[.val (.ref 1), .val (.int 10), .val (.bl plain), .own (.lst (zs.map encP)), .own (.lst (moreT.map encP))] ++ unS 9, stt s rest⟩) R := by
  obtain ⟨_, _, e, ys, s1, rfl, hp, rfl, hs1⟩ := mixed_ok n s b hs (.lst (moreT.map encP)) (moreT.map encP) (by omega) rest (deref_lst_any _ _) rfl (loc_map _ encP_loc _) (by decide)
  obtain ⟨ws, hw, rfl⟩ := perm_map encP hp moreT rfl
  have hs1 : s1.Ok (b + 15) := hs1
  obtain ⟨_, _, e2, r, s2, rfl, rfl, r0, r1, hs2⟩ := draw_ok (n + 1) s1 (b + 15) hs1 (by omega) (10 - (zs.length : Int) + 1) (by omega) (by omega) rest
  have hf : ∀ z ∈ zs ++ ws.take r.toNat, z ∈ tabT := by
    intro z hz'
    rcases List.mem_append.mp hz' with h | h
    · exact hz z h
    · exact List.mem_append_right _ (hw.subset (List.mem_of_mem_take h))
  have hfl : (zs ++ ws.take r.toNat).length ≤ 10 := by simp; omega
  have ha : binD .add (.lst (zs.map encP)) (.lst (cutL (ws.map encP) none (some r))) = some (.lst ((zs ++ ws.take r.toNat).map encP)) := by
    rw [cut_take _ _ r0, ← List.map_take, binD_add_lst _ _ (sz_le (by simp at hfl ⊢; omega)), List.map_append]
  have hf3 : (zs ++ ws.take r.toNat).length ≥ 3 := by simp; omega
  generalize zs ++ ws.take r.toNat = fs at hf hfl ha hf3
  by_cases h10 : fs.length < 10
  · have h10' : (fs.length : Int) < 10 := by omega
    obtain ⟨_, _, e3, r3, s3, rfl, rfl, r30, r31, hs3⟩ := draw_ok (n + 1) s2 (b + 16) hs2 (by omega) 3 (by decide) (by decide) (rest ++ [.lst (fs.map encP)])
    by_cases h0 : r3 = 0
    · subst h0
      by_cases hne : fs = []
      · subst hne; simp at hf3
      · obtain ⟨v, _, e4, s4, hv, rfl, hs4⟩ := pick_ok n s3 (b + 17) hs3 (by omega) (.ref (rest.length + 2)) (fs.map encP) (rest ++ [.lst (fs.map encP)]) (fun env s' => by simp) rfl (loc_map _ encP_loc _) (by simpa using hne) (by simp; omega)
        obtain ⟨z, hz', rfl⟩ := List.mem_map.mp hv
        have hap : bmD .append (.lst (fs.map encP)) [encP z] = some (.non, some (.lst ((fs ++ [z]).map encP))) := by
          rw [bm_append _ _ (sz_lt (by simp; omega)), List.map_append]; rfl
        simp [d__law_c_machine, e, e2, ha, h10', e3, e4, hap, evalEs, evalPs, evalC, evalAnd, evalOr, bind_assoc, evalPar, evalKV, bind_ok, bind_stk, ofRC_ok, noExc_ok, unS, wipeE, backE, noOwn, derefs, List.replicate]
        rw [show fs.map encP ++ [encP z] = (fs ++ [z]).map encP by simp]
        refine hR (fs ++ [z]) s4 _ (fun q hq => ?_) (by simp; omega) hs4
        rcases List.mem_append.mp hq with h | h
        · exact hf q h
        · rw [List.mem_singleton.mp h]; exact hf z hz'
    · simp [d__law_c_machine, e, e2, ha, h10', e3, h0, evalEs, evalPs, evalC, evalAnd, evalOr, bind_assoc, evalPar, evalKV, bind_ok, bind_stk, ofRC_ok, noExc_ok, unS, wipeE, backE, noOwn, derefs, List.replicate]
      exact hR fs s3 _ hf (by omega) (hs3.mono (by omega))
  · have h10' : ¬ (fs.length : Int) < 10 := by omega
    simp [d__law_c_machine, e, e2, ha, h10', evalEs, evalPs, evalC, evalAnd, evalOr, bind_assoc, evalPar, evalKV, bind_ok, bind_stk, ofRC_ok, noExc_ok, unS, wipeE, backE, noOwn, derefs, List.replicate]
    exact hR fs s2 _ hf (by omega) (hs2.mono (by omega))
theorem c_machine_ok (n : Nat) (s : Stm) (b : Nat) (hs : s.Ok b) (hb : b + 5000 < 2 ^ 40) (plain : Bool) (rest : List D) :
    Wc ((cc (n + 3)).fn f__law_c_machine [.ref 1, .int 10, .bl plain] (stt s rest)) fun v st' => ∃ M s' c, v = .lst (M.map MR.enc) ∧ MOk M ∧ st' = stt s' (rest ++ [c]) ∧ s'.Ok (b + 100) := by
  refine fn_Q d__law_c_machine rfl rfl fun Q hQ => ?_
  rw [← List.take_append_drop 9 d__law_c_machine.body, xss_append]
  refine W_bind (c_machine1 n s b hs (by omega) plain rest _ fun zs s1 hz hz3 hz6 hs1 => ?_)
  simp only [thenR_nx]
  rw [← List.take_append_drop 2 (d__law_c_machine.body.drop 9), xss_append]
  refine W_bind (c_machine2 n s1 _ hs1 (by omega) plain rest zs hz hz3 hz6 _ fun fs s2 o hf hfl hs2 => ?_)
  generalize hr3 : rest ++ [.lst (fs.map encP)] = rest3
  have hget : rest3[rest.length]? = some (.lst (fs.map encP)) := by rw [← hr3]; simp
  have rng2 : ∀ fr, rngR (.int 2) fr = .ok [.int 0, .int 1] fr := fun fr => rngR_nat 2 fr (by decide)
  obtain ⟨v1, _, e1, s3, hv1, rfl, hs3⟩ := pick_ok n s2 _ hs2 (by omega) (.lst [.int 1, .int 1, .int 1, .int 2500]) _ rest3 (deref_lst_any _ _) rfl (by simp) (by simp) (by simp)
  obtain ⟨i1, rfl, hi1⟩ : ∃ i, v1 = .int i ∧ (i = 1 ∨ i = 2500) := by
    simp only [List.mem_cons, List.not_mem_nil, or_false] at hv1
    rcases hv1 with rfl | rfl | rfl | rfl <;> exact ⟨_, rfl, by simp⟩
  obtain ⟨v2, _, e2, s4, hv2, rfl, hs4⟩ := pick_ok n s3 _ hs3 (by omega) (.lst [.int 1, .int 1, .int 1, .int 2500]) _ rest3 (deref_lst_any _ _) rfl (by simp) (by simp) (by simp)
  obtain ⟨i2, rfl, hi2⟩ : ∃ i, v2 = .int i ∧ (i = 1 ∨ i = 2500) := by
    simp only [List.mem_cons, List.not_mem_nil, or_false] at hv2
    rcases hv2 with rfl | rfl | rfl | rfl <;> exact ⟨_, rfl, by simp⟩
  obtain ⟨_, _, e3, ys, s5, rfl, hp3, rfl, hs5⟩ := mixed_ok n s4 _ hs4 (.lst (wordsM.map D.str)) (wordsM.map D.str) (by omega) rest3 (deref_lst_any _ _) rfl (loc_map _ (fun _ => rfl) _) (by decide)
  obtain ⟨ws, hw, rfl⟩ := perm_map D.str hp3 wordsM rfl
  have hs5 : s5.Ok (b + 40) := hs5
  obtain ⟨_, _, e4, ys, s6, rfl, hp4, rfl, hs6⟩ := mixed_ok n s5 _ hs5 (.ref (rest.length + 2)) (fs.map encP) (by omega) rest3 (fun env s' => by simp [hget]) rfl (loc_map _ encP_loc _) (by simp; omega)
  obtain ⟨gs, hg, rfl⟩ := perm_map encP hp4 fs rfl
  have hs6 : s6.Ok (b + 51) := hs6.mono (by simp; omega)
  have hgl : gs.length ≤ 11 := by rw [hg.length_eq]; omega
  simp only [wordsM, List.map_cons, List.map_nil] at e3
  simp [d__law_c_machine, rng2, compL, lcT, e1, e2, e3, e4, zipD_map, evalEs, evalPs, evalC, evalAnd, evalOr, bind_assoc, evalPar, evalKV, bind_ok, bind_stk, ofRC_ok, noExc_ok, unS, wipeE, backE, noOwn, derefs, List.replicate]
  have hl : (ws.zip gs).length ≤ 11 := by simp; omega
  have hwn : ws.Nodup := hw.nodup_iff.mpr wordsM_nd
  have hzn : ((ws.zip gs).map (·.1)).Nodup := by
    rw [zip_fst]
    exact hwn.sublist (List.take_sublist _ _)
  have hzo : ∀ z ∈ ws.zip gs, z.1 ∈ wordsL ∧ z.2 ∈ tabT := fun z hz => by
    have := List.of_mem_zip (show (z.1, z.2) ∈ ws.zip gs from hz)
    exact ⟨wordsM_sub _ (hw.subset this.1), hf _ (hg.subset this.2)⟩
  generalize ws.zip gs = zz at hl hzn hzo
  refine W_forE (fun p => .tup [.str p.1, encP p.2]) zz (fun pre fr => ∃ (M : List MR) (s' : Stm) (x7 x9 x10 x11 : Sl), fr = ⟨[.val (.ref 1), .val (.int 10), .val (.bl plain), .own (.lst (zs.map encP)), o, .val (.ref (rest.length + 2)), .val (.lst [.int i1, .int i2]), x7, .own (.lst (M.map MR.enc)), x9, x10, x11, .un, .un], stt s' rest3⟩ ∧ s'.Ok (b + 51 + 2 * pre.length) ∧ (M.map fun r => (r.w, (r.pl, r.p))) = pre ∧ ∀ r ∈ M, 0 ≤ r.a ∧ 0 ≤ r.b) ?_ ?_ ?_
  · exact ⟨[], s6, _, _, _, _, rfl, hs6, rfl, by simp⟩
  · rintro pre z post fr ez ⟨M, s', x7, x9, x10, x11, rfl, hs', hM, hab⟩ R hR
    have hpl : pre.length + 1 ≤ 11 := by
      have := congrArg List.length ez
      simp at this
      omega
    have hMl : M.length = pre.length := by rw [← hM]; simp
    obtain ⟨_, _, d1, r1, t1, rfl, rfl, r10, r11, ht1⟩ := draw_ok (n + 1) s' _ hs' (by omega) 5 (by decide) (by decide) rest3
    obtain ⟨_, _, d2, r2, t2, rfl, rfl, r20, r21, ht2⟩ := draw_ok (n + 1) t1 _ ht1 (by omega) 5 (by decide) (by decide) rest3
    have m1 : mulOk i1 r1 = true := by rcases hi1 with rfl | rfl <;> simp [mulOk]
    have m2 : mulOk i2 r2 = true := by rcases hi2 with rfl | rfl <;> simp [mulOk]
    obtain ⟨w, pl, p⟩ := z
    have hap : bmD .append (.lst (M.map MR.enc)) [.tup [.str w, .str pl, p.enc, .tup [.int (i1 * r1), .int (i2 * r2)]]] = some (.non, some (.lst ((M ++ [(⟨w, pl, p, i1 * r1, i2 * r2⟩ : MR)]).map MR.enc))) := by
      rw [bm_append _ _ (sz_lt (by simp; omega)), List.map_append]; rfl
    generalize hnew : (⟨w, pl, p, i1 * r1, i2 * r2⟩ : MR) = nr at hap
    unfold forT
    simp [encP, d1, d2, m1, m2, hap, evalEs, evalPs, evalC, evalAnd, evalOr, bind_assoc, evalPar, evalKV, bind_ok, bind_stk, ofRC_ok, noExc_ok, unS, wipeE, backE, noOwn, derefs, List.replicate]
    rw [show M.map MR.enc ++ [nr.enc] = (M ++ [nr]).map MR.enc by simp]
    refine hR _ ⟨M ++ [nr], t2, _, _, _, _, rfl, ht2.mono (by simp; omega), by rw [List.map_append, hM, ← hnew]; rfl, fun r hr => ?_⟩
    rcases List.mem_append.mp hr with h | h
    · exact hab r h
    · rw [List.mem_singleton.mp h, ← hnew]
      exact ⟨Int.mul_nonneg (by omega) r10, Int.mul_nonneg (by omega) r20⟩
  · rintro fr ⟨M, s', x7, x9, x10, x11, rfl, hs', hM, hab⟩
    simp [evalEs, evalPs, evalC, evalAnd, evalOr, bind_assoc, evalPar, evalKV, bind_ok, bind_stk, ofRC_ok, noExc_ok, unS, wipeE, backE, noOwn, derefs, List.replicate]
    refine hQ _ _ ⟨M, s', _, rfl, ⟨fun r hr => ?_, ?_, ?_⟩, by rw [← hr3], hs'.mono (by omega)⟩
    · have := hzo (r.w, (r.pl, r.p)) (by rw [← hM]; exact List.mem_map.mpr ⟨r, hr, rfl⟩)
      exact ⟨this.1, this.2, (hab r hr).1, (hab r hr).2⟩
    · rw [← hM, List.map_map] at hzn
      exact hzn
    · have := congrArg List.length hM
      simp at this
      omega
end K81
end Mr
end
section
set_option linter.all false
set_option backward.isDefEq.respectTransparency false
set_option maxRecDepth 100000
namespace Mr
open PySem
namespace K81
/-! Z8: covers -/
theorem W_forR {α β : Type} {step : D → Fm → Rs Fl} {fr : Fm} {k : Fl → Fm → Rs β} {Q : β → Fm → Prop} (enc : α → D) (xs : List α) (Inv : List α → Fm → Prop) (Rt : D → Fm → Prop) (h0 : Inv [] fr)
    (hs : ∀ pre x post fr, xs = pre ++ x :: post → Inv pre fr → ∀ R : Fl → Fm → Prop, (∀ fr', Inv (pre ++ [x]) fr' → R .nx fr') → (∀ d fr', Rt d fr' → R (.ret d) fr') → W (step (enc x) fr) R)
    (hk : ∀ fr', Inv xs fr' → W (k .nx fr') Q) (hr : ∀ d fr', Rt d fr' → W (k (.ret d) fr') Q) : W ((forL step (xs.map enc) fr).bind k) Q := by
  suffices H : ∀ (post pre : List α) (fr : Fm), xs = pre ++ post → Inv pre fr → (∃ fr', forL step (post.map enc) fr = .ok .nx fr' ∧ Inv xs fr') ∨ ∃ d fr', forL step (post.map enc) fr = .ok (.ret d) fr' ∧ Rt d fr' by
    rcases H xs [] fr rfl h0 with ⟨fr', e, h⟩ | ⟨d, fr', e, h⟩
    · rw [e]; exact hk fr' h
    · rw [e]; exact hr d fr' h
  intro post
  induction post with
  | nil => intro pre fr e h; exact .inl ⟨fr, rfl, by rw [e, List.append_nil]; exact h⟩
  | cons x post ih =>
    intro pre fr e h
    obtain ⟨fl, fr1, e1, h1⟩ := hs pre x post fr e h (fun fl fr' => (fl = .nx ∧ Inv (pre ++ [x]) fr') ∨ ∃ d, fl = .ret d ∧ Rt d fr') (fun _ h => .inl ⟨rfl, h⟩) (fun d _ h => .inr ⟨d, rfl, h⟩)
    simp only [List.map_cons, forL, e1, bind_ok]
    rcases h1 with ⟨rfl, h1⟩ | ⟨d, rfl, h1⟩
    · exact ih (pre ++ [x]) fr1 (by rw [e]; simp) h1
    · exact .inr ⟨d, fr1, rfl, h1⟩
theorem fits_lv : ∀ (p : Pat) (u : Tr) (q : List Bool) (ls : List (Str × List Bool)), fits p u q = some ls → ls.map (·.1) = p.lv
  | .reg, _, _, _, h | .mem, _, _, _, h => by simp [fits] at h; simp [← h, Pat.lv]
  | .num, u, _, _, h => by cases u <;> simp [fits] at h; simp [← h, Pat.lv]
  | .nk i, u, _, _, h => by
    cases u <;> simp [fits] at h
    simp [← h.2, Pat.lv]
  | .op o a b, u, q, ls, h => by
    cases u with
    | num _ => simp [fits] at h
    | var _ => simp [fits] at h
    | op o' l r =>
      simp only [fits] at h
      split at h
      · split at h
        · rename_i x y hx hy
          cases h
          simp [Pat.lv, fits_lv a l _ x hx, fits_lv b r _ y hy]
        · cases h
      · cases h
theorem fits_sub (t : Tr) : ∀ (p : Pat) (u : Tr) (q : List Bool) (ls : List (Str × List Bool)), fits p u q = some ls → sub t q = some u →
    ∀ x ∈ ls, ∃ u', sub t x.2 = some u' ∧ x.2.length ≤ q.length + p.dp ∧ ((x.1 = s_num ∧ ∃ i, u' = .num i) ∨ x.1 = s_reg ∨ x.1 = s_mem)
  | .reg, u, q, _, h, hu => by
    simp [fits] at h
    subst h
    intro x hx
    rw [List.mem_singleton.mp hx]
    exact ⟨u, hu, by simp, .inr (.inl rfl)⟩
  | .mem, u, q, _, h, hu => by
    simp [fits] at h
    subst h
    intro x hx
    rw [List.mem_singleton.mp hx]
    exact ⟨u, hu, by simp, .inr (.inr rfl)⟩
  | .num, u, q, _, h, hu => by
    cases u with
    | num i =>
      simp [fits] at h
      subst h
      intro x hx
      rw [List.mem_singleton.mp hx]
      exact ⟨_, hu, by simp, .inl ⟨rfl, i, rfl⟩⟩
    | var _ => simp [fits] at h
    | op _ _ _ => simp [fits] at h
  | .nk i, u, _, _, h, hu => by
    cases u <;> simp [fits] at h
    rw [h.2]
    intro x hx
    cases hx
  | .op o a b, u, q, ls, h, hu => by
    cases u with
    | num _ => simp [fits] at h
    | var _ => simp [fits] at h
    | op o' l r =>
      simp only [fits] at h
      split at h
      · split at h
        · rename_i x y hx hy
          cases h
          intro z hz
          rcases List.mem_append.mp hz with hz | hz
          · obtain ⟨u', h1, h2, h3⟩ := fits_sub t a l _ x hx (by rw [sub_app t q [false] _ hu]; simp [sub]) z hz
            exact ⟨u', h1, by simp [Pat.dp] at h2 ⊢; omega, h3⟩
          · obtain ⟨u', h1, h2, h3⟩ := fits_sub t b r _ y hy (by rw [sub_app t q [true] _ hu]; simp [sub]) z hz
            exact ⟨u', h1, by simp [Pat.dp] at h2 ⊢; omega, h3⟩
        · cases h
      · cases h
def encO (o : Str × D) : D := .tup [.str o.1, o.2]
def Cov (M : List MR) : Nat → Str → D → Prop
  | 0, pl, d => pl = s_mem ∧ ∃ x ∈ varsL, d = .str x
  | n + 1, pl, d => (pl = s_mem ∧ ∃ x ∈ varsL, d = .str x) ∨ ∃ r ∈ M, r.pl = pl ∧ ∃ ops : List (Str × D), ops.map (·.1) = r.p.lv ∧ d = .tup [.str r.w, .str pl, .lst (ops.map encO)] ∧
      ∀ o ∈ ops, (o.1 = s_num ∧ ∃ i, o.2 = .int i) ∨ (o.1 ≠ s_num ∧ Cov M n o.1 o.2)
theorem Cov.var {M : List MR} {n : Nat} {x : Str} (h : x ∈ varsL) : Cov M n s_mem (.str x) := by
  cases n with
  | zero => exact ⟨rfl, x, h, rfl⟩
  | succ n => exact .inl ⟨rfl, x, h, rfl⟩
theorem Cov.solid {M : List MR} {n : Nat} {pl : Str} {d : D} (h : Cov M n pl d) : solid d = true ∧ isNon d = false := by
  cases n with
  | zero => obtain ⟨_, x, _, rfl⟩ := h; exact ⟨rfl, rfl⟩
  | succ n =>
    rcases h with ⟨_, x, _, rfl⟩ | ⟨r, _, _, ops, _, rfl, _⟩ <;> exact ⟨rfl, rfl⟩
theorem lv_len : ∀ x ∈ tabT, x.2.lv.length ≤ 4 := by
  intro x hx
  simp only [tabT, baseT, moreT, List.mem_cons, List.not_mem_nil, or_false, List.cons_append, List.nil_append] at hx
  rcases hx with rfl | rfl | rfl | rfl | rfl | rfl | rfl | rfl | rfl | rfl | rfl | rfl | rfl | rfl | rfl | rfl | rfl | rfl | rfl | rfl | rfl <;> simp [Pat.lv]
def KK (d : Nat) : Nat := 40 * 13 ^ d
theorem KK_pos (d : Nat) : 40 ≤ KK d := by
  have : 1 ≤ 13 ^ d := Nat.one_le_pow _ _ (by decide)
  unfold KK
  omega
theorem KK_succ (d : Nat) : 21 + 12 * KK d ≤ KK (d + 1) := by
  have := KK_pos d
  have e : KK (d + 1) = 13 * KK d := by unfold KK; rw [Nat.pow_succ]; omega
  omega
theorem plain_eq {pl : Str} (h : pl = s_reg ∨ pl = s_mem) : lay (.str pl) = true := by rcases h with rfl | rfl <;> simp
theorem bools_map {α : Type} (f : α → Bool) : ∀ xs : List α, boolsD (xs.map fun o => D.bl (f o)) = some (xs.map f)
  | [] => rfl
  | x :: xs => by
    have ih := bools_map f xs
    simp only [List.map_cons, boolsD, ih]
    rfl
theorem ints_map {α : Type} (f : α → Int) : ∀ xs : List α, intsD (xs.map fun o => D.int (f o)) = some (xs.map f)
  | [] => rfl
  | x :: xs => by
    have ih := ints_map f xs
    simp only [List.map_cons, intsD, ih]
    rfl
/-- the first part -/
theorem cover1 (n : Nat) (M : List MR) (t : Tr) (ht : t.Ok) (s : Stm) (b : Nat) (hs : s.Ok b) (hb : b + 1 < 2 ^ 40) (rest : List D) (q : List Bool) (u : Tr) (hu : sub t q = some u) (pl : Str) (hpl : pl = s_reg ∨ pl = s_mem) (deep : Nat)
    (R : Fl → Fm → Prop) (h1 : ∀ (x : Str) (fr : Fm) (s' : Stm), pl = s_mem → x ∈ varsL → s'.Ok (b + 1) → fr.st = stt s' rest → R (.ret (.str x)) fr)
    (h2 : ∀ s' : Stm, s'.Ok (b + 1) → R .nx ⟨[.val (.ref 1), .val (.lst (M.map MR.enc)), .val t.enc, .val (.tup (q.map bI)), .val (.str pl), .val (.int (deep : Int)), .val u.enc] ++ unS 11, stt s' rest⟩) :
    W (xSs gg (cc (n + 2)) LL (d__law_r_cover.body.take 2) ⟨[.ref 1, .lst (M.map MR.enc), t.enc, .tup (q.map bI), .str pl, .int (deep : Int)].map Sl.val ++ unS 12, stt s rest⟩) R := by
  have hc := c_at_ok (n + 1) (stt s rest) q t u hu
  have hx := eqD_str (plain_eq hpl) lay_mem
  have hv := eqD_str (u.lay_hd (sub_ok t q u ht hu)) lay_var
  rcases hpl with rfl | rfl
  · simp [d__law_r_cover, hc, hx, evalEs, evalPs, evalC, evalAnd, evalOr, bind_assoc, evalPar, evalKV, bind_ok, bind_stk, ofRC_ok, noExc_ok, unS, wipeE, backE, noOwn, derefs, List.replicate]
    exact h2 s (hs.mono (by omega))
  · cases u with
    | num i =>
      have hv : eqD (.str s_num) (.str s_var) = some (s_num == s_var) := hv
      simp [d__law_r_cover, hc, hx, hv, Tr.hd, evalEs, evalPs, evalC, evalAnd, evalOr, bind_assoc, evalPar, evalKV, bind_ok, bind_stk, ofRC_ok, noExc_ok, unS, wipeE, backE, noOwn, derefs, List.replicate]
      exact h2 s (hs.mono (by omega))
    | op o a b' =>
      have hv : eqD (.str o) (.str s_var) = some (o == s_var) := hv
      have ho : (o == s_var) = false := by
        have := (sub_ok t q _ ht hu).1
        simp only [opsL, List.mem_cons, List.not_mem_nil, or_false] at this
        rcases this with rfl | rfl | rfl <;> simp
      rw [ho] at hv
      simp [d__law_r_cover, hc, hx, hv, Tr.hd, evalEs, evalPs, evalC, evalAnd, evalOr, bind_assoc, evalPar, evalKV, bind_ok, bind_stk, ofRC_ok, noExc_ok, unS, wipeE, backE, noOwn, derefs, List.replicate]
      exact h2 s (hs.mono (by omega))
    | var x =>
      have hv : eqD (.str s_var) (.str s_var) = some true := by rw [eqD_str lay_var lay_var]; simp
      have hxv : x ∈ varsL := sub_ok t q _ ht hu
      cases deep with
      | zero =>
        simp [d__law_r_cover, hc, hx, hv, Tr.hd, Tr.enc, evalEs, evalPs, evalC, evalAnd, evalOr, bind_assoc, evalPar, evalKV, bind_ok, bind_stk, ofRC_ok, noExc_ok, unS, wipeE, backE, noOwn, derefs, List.replicate]
        exact h1 x _ s rfl hxv (hs.mono (by omega)) rfl
      | succ d =>
        obtain ⟨_, _, e, r, s', rfl, rfl, r0, r1, hs'⟩ := draw_ok (n + 1) s b hs (by omega) 4 (by decide) (by decide) rest
        have hd : (((d : Nat) : Int) + 1 == 0) = false := by simp; omega
        by_cases h0 : 0 < r
        · simp [d__law_r_cover, hc, hx, hv, Tr.hd, Tr.enc, e, h0, hd, evalEs, evalPs, evalC, evalAnd, evalOr, bind_assoc, evalPar, evalKV, bind_ok, bind_stk, ofRC_ok, noExc_ok, unS, wipeE, backE, noOwn, derefs, List.replicate]
          exact h1 x _ s' rfl hxv hs' rfl
        · simp [d__law_r_cover, hc, hx, hv, Tr.hd, Tr.enc, e, h0, hd, evalEs, evalPs, evalC, evalAnd, evalOr, bind_assoc, evalPar, evalKV, bind_ok, bind_stk, ofRC_ok, noExc_ok, unS, wipeE, backE, noOwn, derefs, List.replicate]
          exact h2 s' hs'

@[simp] theorem mul_lst0 (xs : List D) : binD .mul (.lst xs) (.int 0) = some (.lst []) := by simp [binD]
theorem mul_lst1 (xs : List D) (h : xs.length ≤ szL) : binD .mul (.lst xs) (.int 1) = some (.lst xs) := by simp [binD, h]
def encC (c : MR × List (Str × List Bool)) : D := .tup [.str c.1.w, .lst (c.2.map encQ)]
theorem cut0 : cutL ([] : List D) none (some 3) = [] := by simp [cutL]
theorem cover2 (n d : Nat) (M : List MR) (hM : MOk M) (t : Tr) (ht : t.Ok) (s : Stm) (b : Nat) (hs : s.Ok b) (hb : b + KK (d + 1) + 999 < 2 ^ 40) (rest : List D) (q : List Bool) (u : Tr) (hu : sub t q = some u) (hq : q.length + 3 * (d + 1) ≤ 500) (pl : Str) (hpl : pl = s_reg ∨ pl = s_mem)
    (ih : ∀ (s : Stm) (b : Nat) (q : List Bool) (u : Tr) (pl : Str), s.Ok b → b + KK d + 1000 < 2 ^ 40 → sub t q = some u → q.length + 3 * d ≤ 500 → (pl = s_reg ∨ pl = s_mem) →
      Wc ((cc (n + 7)).fn f__law_r_cover [.ref 1, .lst (M.map MR.enc), t.enc, .tup (q.map bI), .str pl, .int (d : Int)] (stt s rest)) fun v st' => ∃ s', (v = .non ∨ Cov M d pl v) ∧ st' = stt s' rest ∧ s'.Ok (b + KK d))
    (Q : D → List D → Prop) (hQ : ∀ v st', (∃ s', (v = .non ∨ Cov M (d + 1) pl v) ∧ st' = stt s' rest ∧ s'.Ok (b + 20 + 12 * KK d)) → Q v st') :
    W (xSs gg (cc (n + 7)) LL (d__law_r_cover.body.drop 2) ⟨[.val (.ref 1), .val (.lst (M.map MR.enc)), .val t.enc, .val (.tup (q.map bI)), .val (.str pl), .val (.int ((d + 1 : Nat) : Int)), .val u.enc] ++ unS 11, stt s rest⟩) (rQ Q) := by
  have hks := KK_succ d
  have hMl := hM.len
  obtain ⟨_, _, e1, ys, s1, rfl, hp, rfl, hs1⟩ := mixed_ok (n + 5) s b hs (.lst (M.map MR.enc)) (M.map MR.enc) (by omega) rest (deref_lst_any _ _) rfl (loc_map _ (fun _ => rfl) _) (by simp; omega)
  obtain ⟨ws, hw, rfl⟩ := perm_map MR.enc hp M rfl
  have hs1 : s1.Ok (b + 20) := hs1.mono (by simp; omega)
  have hwl : ws.length ≤ 20 := by rw [hw.length_eq]; exact hMl
  have hd : (0 : Int) < (d : Int) + 1 := by omega
  simp [d__law_r_cover, e1, hd, evalEs, evalPs, evalC, evalAnd, evalOr, bind_assoc, evalPar, evalKV, bind_ok, bind_stk, ofRC_ok, noExc_ok, unS, wipeE, backE, noOwn, derefs, List.replicate]
  refine W_forE MR.enc ws (fun pre fr => ∃ (cs : List (MR × List (Str × List Bool))) (a8 a9 a10 a11 a12 : Sl), fr = ⟨[.val (.ref 1), .val (.lst (M.map MR.enc)), .val t.enc, .val (.tup (q.map bI)), .val (.str pl), .val (.int ((d : Int) + 1)), .val u.enc, .own (.lst (cs.map encC)), a8, a9, a10, a11, a12] ++ unS 5, stt s1 rest⟩ ∧ cs.length ≤ pre.length ∧
    ∀ c ∈ cs, c.1 ∈ M ∧ c.1.pl = pl ∧ fits c.1.p u q = some c.2) ⟨[], _, _, _, _, _, rfl, by simp, by simp⟩ ?_ ?_
  · rintro pre r post fr e ⟨cs, a8, a9, a10, a11, a12, rfl, hcl, hcs⟩ R hR
    have hr : r ∈ M := hw.subset (by rw [e]; simp)
    have hro := hM.ok r hr
    have hpre : pre.length + 1 ≤ 20 := by
      have := congrArg List.length e
      simp at this
      omega
    have hE := eqD_str (plain_eq (pl_cases hro.t)) (plain_eq hpl)
    by_cases hep : r.pl = pl
    · have hfit := c_fits_ok (stt s1 rest) t ht r.p (n + 5) q u (tab_ok _ hro.t) (by have := tab_dp _ hro.t; simp at this; omega) (by have := tab_dp _ hro.t; simp at this; omega) (by have := lv_len _ hro.t; simp at this; omega) hu
      rw [hep] at hE
      simp only [beq_self_eq_true] at hE
      unfold forT
      cases ef : fits r.p u q with
      | none =>
        rw [ef] at hfit
        simp only [encF] at hfit
        simp only [MR.enc]
        simp [hE, hfit, hep, evalEs, evalPs, evalC, evalAnd, evalOr, bind_assoc, evalPar, evalKV, bind_ok, bind_stk, ofRC_ok, noExc_ok, unS, wipeE, backE, noOwn, derefs, List.replicate]
        rw [bm_extend _ _ (sz_le (by simp; omega))]
        simp [evalEs, evalPs, evalC, evalAnd, evalOr, bind_assoc, evalPar, evalKV, bind_ok, bind_stk, ofRC_ok, noExc_ok, unS, wipeE, backE, noOwn, derefs, List.replicate]
        exact hR _ ⟨cs, _, _, _, _, _, rfl, by simp; omega, hcs⟩
      | some ls =>
        rw [ef] at hfit
        simp only [encF] at hfit
        simp only [MR.enc]
        simp [hE, hfit, hep, mul_lst1, evalEs, evalPs, evalC, evalAnd, evalOr, bind_assoc, evalPar, evalKV, bind_ok, bind_stk, ofRC_ok, noExc_ok, unS, wipeE, backE, noOwn, derefs, List.replicate]
        rw [bm_extend _ _ (sz_le (by simp; omega))]
        simp [evalEs, evalPs, evalC, evalAnd, evalOr, bind_assoc, evalPar, evalKV, bind_ok, bind_stk, ofRC_ok, noExc_ok, unS, wipeE, backE, noOwn, derefs, List.replicate]
        rw [show cs.map encC ++ [.tup [.str r.w, .lst (ls.map encQ)]] = (cs ++ [(r, ls)]).map encC by simp [encC]]
        refine hR _ ⟨cs ++ [(r, ls)], _, _, _, _, _, rfl, by simp; omega, fun c hc => ?_⟩
        rcases List.mem_append.mp hc with h | h
        · exact hcs c h
        · rw [List.mem_singleton.mp h]
          exact ⟨hr, hep, ef⟩
    · have hE' : eqD (.str r.pl) (.str pl) = some false := by rw [hE]; simp [hep]
      unfold forT
      simp only [MR.enc]
      simp [hE', evalEs, evalPs, evalC, evalAnd, evalOr, bind_assoc, evalPar, evalKV, bind_ok, bind_stk, ofRC_ok, noExc_ok, unS, wipeE, backE, noOwn, derefs, List.replicate]
      rw [bm_extend _ _ (sz_le (by simp; omega))]
      simp [evalEs, evalPs, evalC, evalAnd, evalOr, bind_assoc, evalPar, evalKV, bind_ok, bind_stk, ofRC_ok, noExc_ok, unS, wipeE, backE, noOwn, derefs, List.replicate]
      exact hR _ ⟨cs, _, _, _, _, _, rfl, by simp; omega, hcs⟩
  · rintro fr ⟨cs, a8, a9, a10, a11, a12, rfl, hcl, hcs⟩
    simp [evalEs, evalPs, evalC, evalAnd, evalOr, bind_assoc, evalPar, evalKV, bind_ok, bind_stk, ofRC_ok, noExc_ok, unS, wipeE, backE, noOwn, derefs, List.replicate]
    rw [cut_take _ _ (by decide), ← List.map_take]
    have hcs : ∀ c ∈ cs.take 3, c.1 ∈ M ∧ c.1.pl = pl ∧ fits c.1.p u q = some c.2 := fun c hc => hcs c (List.mem_of_mem_take hc)
    have h3 : (cs.take (3 : Int).toNat).length ≤ 3 := by simp; omega
    generalize hown : (Sl.own (.lst (cs.map encC))) = a7
    have hcs : ∀ c ∈ cs.take (3 : Int).toNat, c.1 ∈ M ∧ c.1.pl = pl ∧ fits c.1.p u q = some c.2 := hcs
    generalize cs.take (3 : Int).toNat = ds at hcs h3
    refine W_forR encC ds (fun pre fr => ∃ (s' : Stm) (a8 a9 a10 a11 a12 a13 a14 a15 a16 a17 : Sl), fr = ⟨[.val (.ref 1), .val (.lst (M.map MR.enc)), .val t.enc, .val (.tup (q.map bI)), .val (.str pl), .val (.int ((d : Int) + 1)), .val u.enc, a7, a8, a9, a10, a11, a12, a13, a14, a15, a16, a17], stt s' rest⟩ ∧ s'.Ok (b + 20 + 4 * KK d * pre.length) ∧ (a14 = .un ∨ ∃ x, a14 = .val x) ∧ (a17 = .un ∨ ∃ x, a17 = .val x))
      (fun v fr => ∃ s' : Stm, Cov M (d + 1) pl v ∧ isLoc v = false ∧ fr.st = stt s' rest ∧ s'.Ok (b + 20 + 12 * KK d)) ⟨s1, _, _, _, _, _, _, _, _, _, _, rfl, hs1, .inl rfl, .inl rfl⟩ ?_ ?_ ?_
    · rintro pre ⟨r, ls⟩ post fr e ⟨s', a8, a9, a10, a11, a12, a13, a14, a15, a16, a17, rfl, hs', ha14, ha17⟩ R hR hT
      obtain ⟨hr, hrp, hf⟩ := hcs (r, ls) (by rw [e]; simp)
      simp only at hr hrp hf
      have hpre : pre.length + 1 ≤ 3 := by
        have := congrArg List.length e
        simp at this
        omega
      have hro := hM.ok r hr
      have hlv := fits_lv _ _ _ _ hf
      have hll : ls.length ≤ 4 := by
        have h1 := congrArg List.length hlv
        have h2 := lv_len _ hro.t
        simp at h1 h2
        omega
      have hB : b + 20 + 4 * KK d * pre.length + KK d * 4 ≤ b + 20 + 12 * KK d := by
        have : 4 * KK d * pre.length ≤ 4 * KK d * 2 := Nat.mul_le_mul_left _ (by omega)
        omega
      unfold forT
      simp only [encC]
      simp [evalEs, evalPs, evalC, evalAnd, evalOr, bind_assoc, evalPar, evalKV, bind_ok, bind_stk, ofRC_ok, noExc_ok, unS, wipeE, backE, noOwn, derefs, List.replicate]
      refine W_forE encQ ls (fun pr fr => ∃ (fd : List (Str × D)) (s2 : Stm) (a14 a15 a16 a17 : Sl), fr = ⟨[.val (.ref 1), .val (.lst (M.map MR.enc)), .val t.enc, .val (.tup (q.map bI)), .val (.str pl), .val (.int ((d : Int) + 1)), .val u.enc, a7, .val (.str r.w), a9, a10, a11, .val (.lst (ls.map encQ)), .own (.lst (fd.map encO)), a14, a15, a16, a17], stt s2 rest⟩ ∧ s2.Ok (b + 20 + 4 * KK d * pre.length + KK d * pr.length) ∧
          fd.map (·.1) = pr.map (·.1) ∧ (∀ o ∈ fd, (o.1 = s_num ∧ ∃ i, o.2 = .int i) ∨ (o.1 ≠ s_num ∧ (o.2 = .non ∨ Cov M d o.1 o.2))) ∧ (a14 = .un ∨ ∃ x, a14 = .val x) ∧ (a17 = .un ∨ ∃ x, a17 = .val x)) ⟨[], s', _, _, _, _, rfl, hs', rfl, by simp, ha14, ha17⟩ ?_ ?_
      · rintro pr ⟨k, sp⟩ po fr e2 ⟨fd, s2, a14, a15, a16, a17, rfl, hs2, hfd, hfo, ha14, ha17⟩ R hR
        obtain ⟨u', hu', hul, hk⟩ := fits_sub t _ _ _ _ hf hu (k, sp) (by rw [e2]; simp)
        simp only at hu' hul hk
        have hpr : pr.length + 1 ≤ 4 := by
          have := congrArg List.length e2
          simp at this
          omega
        have hfl : fd.length = pr.length := by simpa using congrArg List.length hfd
        have hdp := tab_dp _ hro.t
        simp only at hdp
        have hKp : KK d * pr.length + KK d ≤ KK d * 4 := by
          have : KK d * (pr.length + 1) ≤ KK d * 4 := Nat.mul_le_mul_left _ hpr
          rw [Nat.mul_add, Nat.mul_one] at this
          exact this
        unfold forT
        simp only [encQ]
        rcases hk with ⟨rfl, i, rfl⟩ | hk
        · have hc := c_at_ok (n + 6) (stt s2 rest) sp t _ hu'
          have hkk := eqD_str lay_num lay_num
          simp only [beq_self_eq_true] at hkk
          simp [hkk, hc, Tr.enc, evalEs, evalPs, evalC, evalAnd, evalOr, bind_assoc, evalPar, evalKV, bind_ok, bind_stk, ofRC_ok, noExc_ok, unS, wipeE, backE, noOwn, derefs, List.replicate]
          rw [bm_append _ _ (sz_lt (by simp; omega))]
          simp [evalEs, evalPs, evalC, evalAnd, evalOr, bind_assoc, evalPar, evalKV, bind_ok, bind_stk, ofRC_ok, noExc_ok, unS, wipeE, backE, noOwn, derefs, List.replicate]
          rw [show fd.map encO ++ [.tup [.str s_num, .int i]] = (fd ++ [(s_num, D.int i)]).map encO by simp [encO]]
          refine hR _ ⟨fd ++ [(s_num, D.int i)], s2, _, _, _, _, rfl, hs2.mono (by simp [Nat.mul_add]), by simp [hfd], fun o ho => ?_, .inr ⟨_, rfl⟩, .inr ⟨_, rfl⟩⟩
          rcases List.mem_append.mp ho with h | h
          · exact hfo o h
          · rw [List.mem_singleton.mp h]
            exact .inl ⟨rfl, i, rfl⟩
        · have hkn : (k == s_num) = false := by rcases hk with rfl | rfl <;> simp
          have hkn' : k ≠ s_num := by simpa using hkn
          have hkk := eqD_str (plain_eq hk) lay_num
          rw [hkn] at hkk
          obtain ⟨v, _, ec, s3, hv, rfl, hs3⟩ := ih s2 _ sp u' k hs2 (by omega) hu' (by omega) hk
          have hvl : isLoc v = false := by
            rcases hv with rfl | hv
            · rfl
            · exact solid_loc hv.solid.1
          simp [hkk, ec, hvl, evalEs, evalPs, evalC, evalAnd, evalOr, bind_assoc, evalPar, evalKV, bind_ok, bind_stk, ofRC_ok, noExc_ok, unS, wipeE, backE, noOwn, derefs, List.replicate]
          rw [bm_append _ _ (sz_lt (by simp; omega))]
          simp [evalEs, evalPs, evalC, evalAnd, evalOr, bind_assoc, evalPar, evalKV, bind_ok, bind_stk, ofRC_ok, noExc_ok, unS, wipeE, backE, noOwn, derefs, List.replicate]
          rw [show fd.map encO ++ [.tup [.str k, v]] = (fd ++ [(k, v)]).map encO by simp [encO]]
          refine hR _ ⟨fd ++ [(k, v)], s3, _, _, _, _, rfl, hs3.mono (by simp [Nat.mul_add]; omega), by simp [hfd], fun o ho => ?_, .inr ⟨_, rfl⟩, .inr ⟨_, rfl⟩⟩
          rcases List.mem_append.mp ho with h | h
          · exact hfo o h
          · rw [List.mem_singleton.mp h]
            exact .inr ⟨hkn', hv⟩
      · rintro fr ⟨fd, s2, a14, a15, a16, a17, rfl, hs2, hfd, hfo, ha14, ha17⟩
        have hfl : fd.length = ls.length := by simpa using congrArg List.length hfd
        have hb1 := bools_map (fun o : Str × D => isNon o.2) fd
        have hgo : ∀ a14 a17 : Sl, (a14 = .un ∨ ∃ x, a14 = .val x) → (a17 = .un ∨ ∃ x, a17 = .val x) → W ((evalE gg (cc (n + 7)) (.bf .any [.lco [14, 17] (.tp [.nm 14, .nm 17]) 13 [] (.isN (.var 17))]) ⟨[.val (.ref 1), .val (.lst (M.map MR.enc)), .val t.enc, .val (.tup (q.map bI)), .val (.str pl), .val (.int ((d : Int) + 1)), .val u.enc, a7, .val (.str r.w), a9, a10, a11, .val (.lst (ls.map encQ)), .own (.lst (fd.map encO)), a14, a15, a16, a17], stt s2 rest⟩)) fun v fr => v = .bl ((fd.map fun o => isNon o.2).any id) ∧ fr = ⟨[.val (.ref 1), .val (.lst (M.map MR.enc)), .val t.enc, .val (.tup (q.map bI)), .val (.str pl), .val (.int ((d : Int) + 1)), .val u.enc, a7, .val (.str r.w), a9, a10, a11, .val (.lst (ls.map encQ)), .own (.lst (fd.map encO)), a14, a15, a16, a17], stt s2 rest⟩ := by
          rintro a14 a17 (rfl | ⟨x14, rfl⟩) (rfl | ⟨x17, rfl⟩)
          all_goals
            simp [evalEs, evalPs, evalC, evalAnd, evalOr, bind_assoc, evalPar, evalKV, bind_ok, bind_stk, ofRC_ok, noExc_ok, unS, wipeE, backE, noOwn, derefs, List.replicate]
            rw [show fd.length = fd.length from rfl, compO_map encO (fun o => some (D.bl (isNon o.2)))]
            · simp [hb1, evalEs, evalPs, evalC, evalAnd, evalOr, bind_assoc, evalPar, evalKV, bind_ok, bind_stk, ofRC_ok, noExc_ok, unS, wipeE, backE, noOwn, derefs, List.replicate]
              try rfl
            · rfl
            · intro o ho
              have hol : isLoc o.2 = false := by
                rcases hfo o ho with ⟨_, i, h⟩ | ⟨_, h | h⟩
                · rw [h]; rfl
                · rw [h]; rfl
                · exact solid_loc h.solid.1
              unfold lcT
              simp only [encO]
              simp [hol, evalEs, evalPs, evalC, evalAnd, evalOr, bind_assoc, evalPar, evalKV, bind_ok, bind_stk, ofRC_ok, noExc_ok, unS, wipeE, backE, noOwn, derefs, List.replicate]
            · exact sz_le (by omega)
        obtain ⟨v, fr, e3, rfl, rfl⟩ := hgo a14 a17 ha14 ha17
        simp only [thenR_nx, xss_cons, xs_ite, ev_nt, e3, bind_ok, bind_assoc]
        by_cases hany : (fd.map fun o => isNon o.2).any id = true
        · rw [hany]
          simp [evalEs, evalPs, evalC, evalAnd, evalOr, bind_assoc, evalPar, evalKV, bind_ok, bind_stk, ofRC_ok, noExc_ok, unS, wipeE, backE, noOwn, derefs, List.replicate]
          refine hR _ ⟨s2, _, _, _, _, _, _, _, _, _, _, rfl, hs2.mono ?_, ha14, ha17⟩
          have h1 : KK d * ls.length ≤ KK d * 4 := Nat.mul_le_mul_left _ hll
          simp only [List.length_append, List.length_singleton, Nat.mul_add]
          omega
        · have hany' : (fd.map fun o => isNon o.2).any id = false := by simpa using hany
          rw [hany']
          simp [evalEs, evalPs, evalC, evalAnd, evalOr, bind_assoc, evalPar, evalKV, bind_ok, bind_stk, ofRC_ok, noExc_ok, unS, wipeE, backE, noOwn, derefs, List.replicate]
          refine hT _ _ ⟨s2, ?_, rfl, rfl, hs2.mono ?_⟩
          · refine .inr ⟨r, hr, hrp, fd, hfd.trans hlv, rfl, fun o ho => ?_⟩
            have hn : isNon o.2 = false := by
              simp only [List.any_map, List.any_eq_false] at hany'
              have := hany' o ho
              simpa using this
            rcases hfo o ho with h | ⟨h, h2 | h2⟩
            · exact .inl h
            · rw [h2] at hn; cases hn
            · exact .inr ⟨h, h2⟩
          · have h1 : KK d * ls.length ≤ KK d * 4 := Nat.mul_le_mul_left _ hll
            omega
    · rintro fr ⟨s', a8, a9, a10, a11, a12, a13, a14, a15, a16, a17, rfl, hs', _, _⟩
      simp [evalEs, evalPs, evalC, evalAnd, evalOr, bind_assoc, evalPar, evalKV, bind_ok, bind_stk, ofRC_ok, noExc_ok, unS, wipeE, backE, noOwn, derefs, List.replicate]
      refine hQ _ _ ⟨s', .inl rfl, rfl, hs'.mono ?_⟩
      have : 4 * KK d * ds.length ≤ 4 * KK d * 3 := Nat.mul_le_mul_left _ h3
      omega
    · rintro v fr ⟨s', hv, hl, hst, hs'⟩
      simp [evalEs, evalPs, evalC, evalAnd, evalOr, bind_assoc, evalPar, evalKV, bind_ok, bind_stk, ofRC_ok, noExc_ok, unS, wipeE, backE, noOwn, derefs, List.replicate]
      exact hQ _ _ ⟨s', .inr hv, hst, hs'⟩
theorem r_cover_ok (n : Nat) (M : List MR) (hM : MOk M) (t : Tr) (ht : t.Ok) (rest : List D) : ∀ (d : Nat) (s : Stm) (b : Nat) (q : List Bool) (u : Tr) (pl : Str), s.Ok b → b + KK d + 1000 < 2 ^ 40 → sub t q = some u → q.length + 3 * d ≤ 500 → (pl = s_reg ∨ pl = s_mem) →
      Wc ((cc (n + d + 7)).fn f__law_r_cover [.ref 1, .lst (M.map MR.enc), t.enc, .tup (q.map bI), .str pl, .int (d : Int)] (stt s rest)) fun v st' => ∃ s', (v = .non ∨ Cov M d pl v) ∧ st' = stt s' rest ∧ s'.Ok (b + KK d)
  | 0, s, b, q, u, pl, hs, hb, hu, hq, hpl => by
    refine fn_Q d__law_r_cover rfl rfl fun Q hQ => ?_
    have hk := KK_pos 0
    rw [← List.take_append_drop 2 d__law_r_cover.body, xss_append]
    refine W_bind (cover1 (n + 4) M t ht s b hs (by omega) rest q u hu pl hpl 0 _ (fun x fr s' e hx hs' hst => ?_) fun s' hs' => ?_)
    · simp only [thenR_ret, W_iff, rQ_ret]
      refine hQ _ _ ⟨s', .inr ?_, hst, hs'.mono (by omega)⟩
      rw [e]
      exact Cov.var hx
    · simp [d__law_r_cover, forL, cut0, evalEs, evalPs, evalC, evalAnd, evalOr, bind_assoc, evalPar, evalKV, bind_ok, bind_stk, ofRC_ok, noExc_ok, unS, wipeE, backE, noOwn, derefs, List.replicate]
      exact hQ _ _ ⟨s', .inl rfl, rfl, hs'.mono (by omega)⟩
  | d + 1, s, b, q, u, pl, hs, hb, hu, hq, hpl => by
    refine fn_Q d__law_r_cover rfl rfl fun Q hQ => ?_
    have hk := KK_succ d
    rw [← List.take_append_drop 2 d__law_r_cover.body, xss_append]
    refine W_bind (cover1 (n + d + 5) M t ht s b hs (by omega) rest q u hu pl hpl (d + 1) _ (fun x fr s' e hx hs' hst => ?_) fun s' hs' => ?_)
    · simp only [thenR_ret, W_iff, rQ_ret]
      refine hQ _ _ ⟨s', .inr ?_, hst, hs'.mono (by omega)⟩
      rw [e]
      exact Cov.var hx
    · refine cover2 (n + d) d M hM t ht s' (b + 1) hs' (by omega) rest q u hu hq pl hpl (fun s b q u pl h1 h2 h3 h4 h5 => r_cover_ok n M hM t ht rest d s b q u pl h1 h2 h3 h4 h5) Q fun v st' h => hQ v st' ?_
      obtain ⟨s2, h1, h2, h3⟩ := h
      exact ⟨s2, h1, h2, h3.mono (by omega)⟩
end K81
end Mr
end
section
set_option linter.all false
set_option backward.isDefEq.respectTransparency false
set_option maxRecDepth 100000
namespace Mr
open PySem
namespace K81
/-! Z9: flat covers -/
inductive Op where
  | num (i : Int) | wd (x : Str) | row (j : Nat)
def Op.enc : Op → D
  | .num i => .tup [.str s_num, .int i]
  | .wd x => .tup [.str s_mem, .str x]
  | .row j => .tup [.str s_row, .int (j : Int)]
def Op.sh (f : Nat) : Op → Op
  | .row j => .row (j + f)
  | o => o
def Op.rd : Op → Option Nat
  | .row j => some j
  | _ => none
structure FR where
  r : MR
  ops : List Op
def FR.enc (f : FR) : D := .lst [.str f.r.w, .str f.r.pl, .lst (f.ops.map Op.enc)]
def FR.sh (k : Nat) (f : FR) : FR := ⟨f.r, f.ops.map (Op.sh k)⟩
def FR.reads (f : FR) : List Nat := f.ops.filterMap Op.rd
def allReads (rows : List FR) : List Nat := rows.flatMap FR.reads
def OpOk (rows : List FR) (i : Nat) (k : Str) : Op → Prop
  | .num _ => k = s_num
  | .wd x => k = s_mem ∧ x ∈ varsL
  | .row j => k ≠ s_num ∧ j < i ∧ ∃ f, rows[j]? = some f ∧ f.r.pl = k
structure RowOk (M : List MR) (rows : List FR) (i : Nat) (f : FR) : Prop where
  r : f.r ∈ M
  l : f.ops.length = f.r.p.lv.length
  o : ∀ q ∈ f.r.p.lv.zip f.ops, OpOk rows i q.1 q.2
structure FlatOk (M : List MR) (rows : List FR) (pl : Str) : Prop where
  last : ∃ init f, rows = init ++ [f] ∧ f.r.pl = pl
  row : ∀ (i : Nat) (f : FR), rows[i]? = some f → RowOk M rows i f
  once : (allReads rows).Perm (List.range (rows.length - 1))
theorem OpOk.app {rows : List FR} {i : Nat} {k : Str} {o : Op} (h : OpOk rows i k o) (hi : i ≤ rows.length) (more : List FR) : OpOk (rows ++ more) i k o := by
  cases o with
  | num _ => exact h
  | wd _ => exact h
  | row j =>
    obtain ⟨h1, h2, f, h3, h4⟩ := h
    exact ⟨h1, h2, f, by rw [List.getElem?_append_left (by omega)]; exact h3, h4⟩
theorem OpOk.le {rows : List FR} {i j : Nat} {k : Str} {o : Op} (h : OpOk rows i k o) (hi : i ≤ j) : OpOk rows j k o := by
  cases o with
  | num _ => exact h
  | wd _ => exact h
  | row j =>
    obtain ⟨h1, h2, f, h3, h4⟩ := h
    exact ⟨h1, by omega, f, h3, h4⟩
theorem OpOk.sh {rows : List FR} {i : Nat} {k : Str} {o : Op} (h : OpOk rows i k o) (pre : List FR) : OpOk (pre ++ rows.map (FR.sh pre.length)) (pre.length + i) k (o.sh pre.length) := by
  cases o with
  | num _ => exact h
  | wd _ => exact h
  | row j =>
    obtain ⟨h1, h2, f, h3, h4⟩ := h
    refine ⟨h1, by omega, f.sh pre.length, ?_, h4⟩
    rw [List.getElem?_append_right (by omega), List.getElem?_map, Nat.add_sub_cancel, h3]
    rfl
theorem zip_mem_map {α β γ : Type} (g : β → γ) : ∀ (xs : List α) (ys : List β) (q : α × γ), q ∈ xs.zip (ys.map g) → ∃ y, (q.1, y) ∈ xs.zip ys ∧ q.2 = g y
  | [], _, q, h => by simp at h
  | _ :: _, [], q, h => by simp at h
  | x :: xs, y :: ys, q, h => by
    simp only [List.map_cons, List.zip_cons_cons, List.mem_cons] at h
    rcases h with rfl | h
    · exact ⟨y, by simp, rfl⟩
    · obtain ⟨z, h1, h2⟩ := zip_mem_map g xs ys q h
      exact ⟨z, by simp [h1], h2⟩
theorem FR.sh_reads (k : Nat) (f : FR) : (f.sh k).reads = f.reads.map (· + k) := by
  unfold FR.reads FR.sh
  simp only
  induction f.ops with
  | nil => rfl
  | cons o os ih =>
    cases o <;> simp [Op.sh, Op.rd, ih]
theorem allReads_sh (k : Nat) : ∀ rows : List FR, allReads (rows.map (FR.sh k)) = (allReads rows).map (· + k)
  | [] => rfl
  | f :: rows => by
    have ih := allReads_sh k rows
    unfold allReads at ih ⊢
    simp only [List.map_cons, List.flatMap_cons, ih, FR.sh_reads, List.map_append]
/-- what is behind some operands -/
structure PartOk (M : List MR) (rows : List FR) (inner : List Op) : Prop where
  row : ∀ (i : Nat) (f : FR), rows[i]? = some f → RowOk M rows i f
  once : (allReads rows ++ inner.filterMap Op.rd).Perm (List.range rows.length)
theorem range_app (a b : Nat) : List.range (a + b) = List.range a ++ (List.range b).map (· + a) := by
  rw [List.range_add]
  congr 1
  apply List.map_congr_left
  intro x _
  omega
theorem PartOk.add {M : List MR} {rows : List FR} {inner : List Op} (h : PartOk M rows inner) {F : List FR} {pl : Str} (hF : FlatOk M F pl) :
    PartOk M (rows ++ F.map (FR.sh rows.length)) (inner ++ [.row (rows.length + F.length - 1)]) := by
  obtain ⟨init, fl, eF, hl⟩ := hF.last
  have hpos : 1 ≤ F.length := by rw [eF]; simp
  refine ⟨fun i f hf => ?_, ?_⟩
  · by_cases hi : i < rows.length
    · rw [List.getElem?_append_left hi] at hf
      have := h.row i f hf
      exact ⟨this.r, this.l, fun q hq => (this.o q hq).app (by omega) _⟩
    · rw [List.getElem?_append_right (by omega), List.getElem?_map] at hf
      obtain ⟨g, hg, rfl⟩ := Option.map_eq_some_iff.mp hf
      have := hF.row _ g hg
      refine ⟨this.r, by simpa [FR.sh] using this.l, fun q hq => ?_⟩
      obtain ⟨o, h1, h2⟩ := zip_mem_map _ _ _ q hq
      rw [h2]
      have h3 := (this.o _ h1).sh rows
      have e : rows.length + (i - rows.length) = i := by omega
      rw [e] at h3
      exact h3
  · unfold allReads
    rw [List.flatMap_append, List.filterMap_append, List.length_append, List.length_map, range_app]
    have e := allReads_sh rows.length F
    unfold allReads at e
    rw [e]
    have e2 : List.range F.length = List.range (F.length - 1) ++ [F.length - 1] := by
      conv => lhs; rw [show F.length = F.length - 1 + 1 by omega]
      rw [List.range_succ]
    have e3 : ([Op.row (rows.length + F.length - 1)]).filterMap Op.rd = ([F.length - 1]).map (· + rows.length) := by
      simp [Op.rd]
      omega
    rw [e2, List.map_append, e3]
    have p1 := h.once
    have p2 := (hF.once.map (· + rows.length))
    unfold allReads at p1 p2
    have p3 : ((rows.flatMap FR.reads ++ (F.flatMap FR.reads).map (· + rows.length)) ++ (inner.filterMap Op.rd ++ [F.length - 1].map (· + rows.length))).Perm
        ((rows.flatMap FR.reads ++ inner.filterMap Op.rd) ++ ((F.flatMap FR.reads).map (· + rows.length) ++ [F.length - 1].map (· + rows.length))) := by
      simp only [List.append_assoc]
      refine List.Perm.append_left _ ?_
      rw [← List.append_assoc, ← List.append_assoc]
      exact List.Perm.append_right _ List.perm_append_comm
    exact p3.trans (p1.append (p2.append_right _))
theorem PartOk.leaf {M : List MR} {rows : List FR} {inner : List Op} (h : PartOk M rows inner) {o : Op} (ho : o.rd = none) : PartOk M rows (inner ++ [o]) :=
  ⟨h.row, by simpa [List.filterMap_append, ho] using h.once⟩
theorem PartOk.flat {M : List MR} {rows : List FR} {inner : List Op} (h : PartOk M rows inner) {r : MR} (hr : r ∈ M) (hl : inner.length = r.p.lv.length) (ho : ∀ q ∈ r.p.lv.zip inner, OpOk rows rows.length q.1 q.2) :
    FlatOk M (rows ++ [⟨r, inner⟩]) r.pl := by
  refine ⟨⟨rows, _, rfl, rfl⟩, fun i f hf => ?_, ?_⟩
  · by_cases hi : i < rows.length
    · rw [List.getElem?_append_left hi] at hf
      have := h.row i f hf
      exact ⟨this.r, this.l, fun q hq => (this.o q hq).app (by omega) _⟩
    · rw [List.getElem?_append_right (by omega)] at hf
      have hi2 : i - rows.length = 0 := by
        have := (List.getElem?_eq_some_iff.mp hf).1
        simp at this
        omega
      rw [hi2] at hf
      simp at hf
      subst hf
      exact ⟨hr, hl, fun q hq => ((ho q hq).app (Nat.le_refl _) _).le (by omega)⟩
  · have e : allReads (rows ++ [⟨r, inner⟩]) = allReads rows ++ inner.filterMap Op.rd := by
      unfold allReads
      rw [List.flatMap_append]
      simp [FR.reads]
    rw [e]
    simpa using h.once
theorem lv_kinds : ∀ (p : Pat), ∀ k ∈ p.lv, k = s_num ∨ k = s_reg ∨ k = s_mem
  | .reg, k, h | .mem, k, h | .num, k, h => by simp [Pat.lv] at h; simp [h]
  | .nk _, k, h => by simp [Pat.lv] at h
  | .op _ a b, k, h => by
    simp only [Pat.lv, List.mem_append] at h
    exact h.elim (lv_kinds a k) (lv_kinds b k)
@[simp] theorem len_encs {α : Type} (f : α → D) (xs : List α) : (xs.map f).length = xs.length := List.length_map ..
theorem r_flat_ok (N : Nat) (M : List MR) (hM : MOk M) (st : List D) : ∀ (n : Nat) (pl : Str) (d : D), n ≤ 6 → Cov M n pl d → isTy .tuple d = true → ∃ rows : List FR, (cc (N + n + 1)).fn f__law_r_flat [d] st = .ok (.lst (rows.map FR.enc)) st ∧ FlatOk M rows pl ∧ rows.length ≤ 5 ^ n
  | 0, pl, d, _, h, ht => by
    obtain ⟨_, x, _, rfl⟩ := h
    simp at ht
  | n + 1, pl, d, h6, h, ht => by
    rcases h with ⟨_, x, _, rfl⟩ | ⟨r, hr, hpl, ops, hops, rfl, ho⟩
    · simp at ht
    have hro := hM.ok r hr
    have hlen : ops.length ≤ 4 := by
      have h1 := congrArg List.length hops
      have h2 := lv_len _ hro.t
      simp at h1 h2
      omega
    have h5 : 1 ≤ 5 ^ n := Nat.one_le_pow _ _ (by decide)
    have h56 : 5 ^ (n + 1) ≤ 5 ^ 6 := Nat.pow_le_pow_right (by decide) h6
    have h5s : 5 ^ (n + 1) = 5 * 5 ^ n := by rw [Nat.pow_succ, Nat.mul_comm]
    suffices H : Wc ((cc (N + (n + 1) + 1)).fn f__law_r_flat [.tup [.str r.w, .str pl, .lst (ops.map encO)]] st) fun v st' => st' = st ∧ ∃ rows : List FR, v = .lst (rows.map FR.enc) ∧ FlatOk M rows pl ∧ rows.length ≤ 5 ^ (n + 1) by
      obtain ⟨_, _, e, rfl, rows, rfl, h1, h2⟩ := H
      exact ⟨rows, e, h1, h2⟩
    refine fn_Q d__law_r_flat rfl rfl fun Q hQ => ?_
    simp [d__law_r_flat, evalEs, evalPs, evalC, evalAnd, evalOr, bind_assoc, evalPar, evalKV, bind_ok, bind_stk, ofRC_ok, noExc_ok, unS, wipeE, backE, noOwn, derefs, List.replicate]
    refine W_forE encO ops (fun pre fr => ∃ (rows : List FR) (inner : List Op) (a3 a4 a5 a6 a7 a8 a9 a10 : Sl), fr = ⟨[.val (.tup [.str r.w, .str pl, .lst (ops.map encO)]), .own (.lst (rows.map FR.enc)), .own (.lst (inner.map Op.enc)), a3, a4, a5, a6, a7, a8, a9, a10, .un, .un], st⟩ ∧
      PartOk M rows inner ∧ inner.length = pre.length ∧ (∀ q ∈ (pre.map (·.1)).zip inner, OpOk rows rows.length q.1 q.2) ∧ rows.length ≤ 5 ^ n * pre.length) ?_ ?_ ?_
    · exact ⟨[], [], _, _, _, _, _, _, _, _, rfl, ⟨by simp, by simp [allReads]⟩, rfl, by simp, by simp⟩
    · rintro pre ⟨k, d⟩ post fr e ⟨rows, inner, a3, a4, a5, a6, a7, a8, a9, a10, rfl, hp, hil, hz, hrl⟩ R hR
      have hpre : pre.length + 1 ≤ 4 := by
        have := congrArg List.length e
        simp at this
        omega
      have hk : k = s_num ∨ k = s_reg ∨ k = s_mem := lv_kinds r.p k (by rw [← hops, e]; simp)
      have hrl4 : rows.length ≤ 5 ^ n * 3 := Nat.le_trans hrl (Nat.mul_le_mul_left _ (by omega))
      have hmul : 5 ^ n * (pre.length + 1) = 5 ^ n * pre.length + 5 ^ n := by rw [Nat.mul_add, Nat.mul_one]
      have hleaf : ∀ o : Op, o.rd = none → OpOk rows rows.length k o → PartOk M rows (inner ++ [o]) ∧ (inner ++ [o]).length = (pre ++ [(k, d)]).length ∧ (∀ q ∈ ((pre ++ [(k, d)]).map (·.1)).zip (inner ++ [o]), OpOk rows rows.length q.1 q.2) ∧ rows.length ≤ 5 ^ n * (pre ++ [(k, d)]).length := by
        intro o h1 h2
        refine ⟨hp.leaf h1, by simp [hil], ?_, ?_⟩
        · rw [List.map_append, List.zip_append (by simp [hil])]
          intro q hq
          rcases List.mem_append.mp hq with h | h
          · exact hz q h
          · simp at h
            rw [h]
            exact h2
        · rw [List.length_append, List.length_singleton, hmul]; omega
      have hod := ho (k, d) (by rw [e]; simp)
      simp only at hod
      rcases hod with ⟨rfl, i, rfl⟩ | ⟨hkn, hc⟩
      · unfold forT
        simp only [encO]
        simp [evalEs, evalPs, evalC, evalAnd, evalOr, bind_assoc, evalPar, evalKV, bind_ok, bind_stk, ofRC_ok, noExc_ok, unS, wipeE, backE, noOwn, derefs, List.replicate]
        rw [bm_append _ _ (sz_lt (by simp; omega))]
        simp [evalEs, evalPs, evalC, evalAnd, evalOr, bind_assoc, evalPar, evalKV, bind_ok, bind_stk, ofRC_ok, noExc_ok, unS, wipeE, backE, noOwn, derefs, List.replicate]
        rw [show inner.map Op.enc ++ [.tup [.str s_num, .int i]] = (inner ++ [Op.num i]).map Op.enc by simp [Op.enc]]
        exact hR _ ⟨rows, inner ++ [.num i], _, _, _, _, _, _, _, _, rfl, hleaf (.num i) rfl rfl⟩
      · by_cases hty : isTy .tuple d = true
        · obtain ⟨F, eF, hF, hFl⟩ := r_flat_ok N M hM st n k d (by omega) hc hty
          have hsol := hc.solid.1
          have hdl := solid_loc hsol
          have hder := fun fr => solid_deref hsol fr
          have hcan := solid_can hsol
          have eF : (cc (N + (n + 1))).fn f__law_r_flat [d] st = .ok (.lst (F.map FR.enc)) st := eF
          have hFp : 1 ≤ F.length := by
            obtain ⟨i, f, e, _⟩ := hF.last
            rw [e]; simp
          unfold forT
          simp only [encO]
          simp [hdl, hder, hcan, hty, eF, evalEs, evalPs, evalC, evalAnd, evalOr, bind_assoc, evalPar, evalKV, bind_ok, bind_stk, ofRC_ok, noExc_ok, unS, wipeE, backE, noOwn, derefs, List.replicate]
          refine W_forE FR.enc F (fun pre2 fr => ∃ (a7 a8 a9 a10 : Sl), fr = ⟨[.val (.tup [.str r.w, .str pl, .lst (ops.map encO)]), .own (.lst ((rows ++ pre2.map (FR.sh rows.length)).map FR.enc)), .own (.lst (inner.map Op.enc)), .val (.str k), .val d, .val (.int (rows.length : Int)), .val (.lst (F.map FR.enc)), a7, a8, a9, a10, .un, .un], st⟩) ?_ ?_ ?_
          · exact ⟨a7, a8, a9, a10, by simp⟩
          · rintro pre2 f post2 fr e2 ⟨a7, a8, a9, a10, rfl⟩ R hR
            have hp2 : pre2.length + 1 ≤ F.length := by
              have := congrArg List.length e2
              simp at this
              omega
            have hf4 : f.ops.length ≤ 4 := by
              have hf := hF.row pre2.length f (by rw [e2]; simp)
              have := lv_len _ (hM.ok _ hf.r).t
              rw [hf.l]
              exact this
            unfold forT
            simp only [FR.enc]
            simp [evalEs, evalPs, evalC, evalAnd, evalOr, bind_assoc, evalPar, evalKV, bind_ok, bind_stk, ofRC_ok, noExc_ok, unS, wipeE, backE, noOwn, derefs, List.replicate]
            rw [compL_map Op.enc (fun o => some (o.sh rows.length).enc)]
            · simp [evalEs, evalPs, evalC, evalAnd, evalOr, bind_assoc, evalPar, evalKV, bind_ok, bind_stk, ofRC_ok, noExc_ok, unS, wipeE, backE, noOwn, derefs, List.replicate]
              rw [bm_append _ _ (sz_lt (by simp; omega))]
              simp [evalEs, evalPs, evalC, evalAnd, evalOr, bind_assoc, evalPar, evalKV, bind_ok, bind_stk, ofRC_ok, noExc_ok, unS, wipeE, backE, noOwn, derefs, List.replicate]
              have ee : rows.map FR.enc ++ (pre2.map (FR.enc ∘ FR.sh rows.length) ++ [D.lst [D.str f.r.w, D.str f.r.pl, D.lst (f.ops.map fun x => (Op.sh rows.length x).enc)]]) = (rows ++ (pre2 ++ [f]).map (FR.sh rows.length)).map FR.enc := by
                simp [FR.enc, FR.sh, Function.comp]
              rw [ee]
              exact hR _ ⟨_, _, _, _, rfl⟩
            · intro o _
              unfold lcT
              cases o with
              | num i =>
                have := eqD_str lay_num lay_row
                simp only [Op.enc]
                simp [this, Op.sh, Op.enc, evalEs, evalPs, evalC, evalAnd, evalOr, bind_assoc, evalPar, evalKV, bind_ok, bind_stk, ofRC_ok, noExc_ok, unS, wipeE, backE, noOwn, derefs, List.replicate]
              | wd x =>
                have := eqD_str lay_mem lay_row
                simp only [Op.enc]
                simp [this, Op.sh, Op.enc, evalEs, evalPs, evalC, evalAnd, evalOr, bind_assoc, evalPar, evalKV, bind_ok, bind_stk, ofRC_ok, noExc_ok, unS, wipeE, backE, noOwn, derefs, List.replicate]
              | row j =>
                have := eqD_str lay_row lay_row
                simp only [Op.enc]
                simp [this, Op.sh, Op.enc, evalEs, evalPs, evalC, evalAnd, evalOr, bind_assoc, evalPar, evalKV, bind_ok, bind_stk, ofRC_ok, noExc_ok, unS, wipeE, backE, noOwn, derefs, List.replicate]
            · exact sz_le (by simp; omega)
          · rintro fr ⟨a7, a8, a9, a10, rfl⟩
            simp [evalEs, evalPs, evalC, evalAnd, evalOr, bind_assoc, evalPar, evalKV, bind_ok, bind_stk, ofRC_ok, noExc_ok, unS, wipeE, backE, noOwn, derefs, List.replicate]
            rw [bm_append _ _ (sz_lt (by simp; omega))]
            simp [evalEs, evalPs, evalC, evalAnd, evalOr, bind_assoc, evalPar, evalKV, bind_ok, bind_stk, ofRC_ok, noExc_ok, unS, wipeE, backE, noOwn, derefs, List.replicate]
            have ef : ((rows.length : Int) + (F.length : Int) - 1) = ((rows.length + F.length - 1 : Nat) : Int) := by omega
            have ee : rows.map FR.enc ++ F.map (FR.enc ∘ FR.sh rows.length) = (rows ++ F.map (FR.sh rows.length)).map FR.enc := by simp
            have ei : inner.map Op.enc ++ [.tup [.str s_row, .int ((rows.length : Int) + (F.length : Int) - 1)]] = (inner ++ [Op.row (rows.length + F.length - 1)]).map Op.enc := by
              rw [ef, List.map_append]; rfl
            rw [ee, ei]
            refine hR _ ⟨_, _, _, _, _, _, _, _, _, _, rfl, hp.add hF, by simp [hil], ?_, ?_⟩
            · rw [List.map_append, List.zip_append (by simp [hil])]
              intro q hq
              rcases List.mem_append.mp hq with h | h
              · exact ((hz q h).app (Nat.le_refl _) _).le (by simp)
              · simp at h
                rw [h]
                obtain ⟨init, fl, eF2, hfl⟩ := hF.last
                refine ⟨hkn, by simp; omega, fl.sh rows.length, ?_, hfl⟩
                have el : F.length = init.length + 1 := by rw [eF2]; simp
                rw [List.getElem?_append_right (by omega), List.getElem?_map, eF2]
                have : rows.length + (init ++ [fl]).length - 1 - rows.length = init.length := by simp
                rw [this]
                simp
            · simp
              omega
        · have hdk : k = s_mem ∧ ∃ x ∈ varsL, d = .str x := by
            cases n with
            | zero => exact hc
            | succ n =>
              rcases hc with hc | ⟨_, _, _, _, _, rfl, _⟩
              · exact hc
              · simp at hty
          obtain ⟨rfl, x, hx, rfl⟩ := hdk
          unfold forT
          simp only [encO]
          simp [evalEs, evalPs, evalC, evalAnd, evalOr, bind_assoc, evalPar, evalKV, bind_ok, bind_stk, ofRC_ok, noExc_ok, unS, wipeE, backE, noOwn, derefs, List.replicate]
          rw [bm_append _ _ (sz_lt (by simp; omega))]
          simp [evalEs, evalPs, evalC, evalAnd, evalOr, bind_assoc, evalPar, evalKV, bind_ok, bind_stk, ofRC_ok, noExc_ok, unS, wipeE, backE, noOwn, derefs, List.replicate]
          rw [show inner.map Op.enc ++ [.tup [.str s_mem, .str x]] = (inner ++ [Op.wd x]).map Op.enc by simp [Op.enc]]
          exact hR _ ⟨rows, inner ++ [.wd x], _, _, _, _, _, _, _, _, rfl, hleaf (.wd x) rfl ⟨rfl, hx⟩⟩
    · rintro fr ⟨rows, inner, a3, a4, a5, a6, a7, a8, a9, a10, rfl, hp, hil, hz, hrl⟩
      have hrl4 : rows.length ≤ 5 ^ n * 4 := Nat.le_trans hrl (Nat.mul_le_mul_left _ (by omega))
      have hz : ∀ q ∈ r.p.lv.zip inner, OpOk rows rows.length q.1 q.2 := by rw [← hops]; exact hz
      simp [evalEs, evalPs, evalC, evalAnd, evalOr, bind_assoc, evalPar, evalKV, bind_ok, bind_stk, ofRC_ok, noExc_ok, unS, wipeE, backE, noOwn, derefs, List.replicate]
      rw [binD_add_lst _ _ (sz_le (by simp; omega))]
      simp [evalEs, evalPs, evalC, evalAnd, evalOr, bind_assoc, evalPar, evalKV, bind_ok, bind_stk, ofRC_ok, noExc_ok, unS, wipeE, backE, noOwn, derefs, List.replicate]
      rw [show rows.map FR.enc ++ [.lst [.str r.w, .str pl, .lst (inner.map Op.enc)]] = (rows ++ [(⟨r, inner⟩ : FR)]).map FR.enc by simp [FR.enc, hpl]]
      refine hQ _ _ ⟨rfl, rows ++ [⟨r, inner⟩], rfl, ?_, by simp; omega⟩
      rw [← hpl]
      exact hp.flat hr (by rw [hil, ← hops]; simp) hz
end K81
end Mr
end
section
set_option linter.all false
namespace Mr
namespace K81
/-! Z10: orders of a forest are counted by sizes (plain mathematics) -/
def sm : Nat → (Nat → Nat) → Nat
  | 0, _ => 0
  | n + 1, f => sm n f + f n
def pd : Nat → (Nat → Nat) → Nat
  | 0, _ => 1
  | n + 1, f => pd n f * f n
def fct : Nat → Nat
  | 0 => 1
  | n + 1 => fct n * (n + 1)
theorem sm_list : ∀ (n : Nat) (f : Nat → Nat), sm n f = ((List.range n).map f).sum
  | 0, f => rfl
  | n + 1, f => by rw [List.range_succ, List.map_append, List.sum_append_nat, ← sm_list n f]; simp [sm]
theorem sm_congr : ∀ {n : Nat} {f g : Nat → Nat}, (∀ i, i < n → f i = g i) → sm n f = sm n g
  | 0, _, _, _ => rfl
  | n + 1, f, g, h => by
    simp only [sm]
    rw [sm_congr (n := n) fun i hi => h i (by omega), h n (by omega)]
theorem sm_add : ∀ (n : Nat) (f g : Nat → Nat), sm n (fun i => f i + g i) = sm n f + sm n g
  | 0, _, _ => rfl
  | n + 1, f, g => by simp only [sm, sm_add n]; omega
theorem sm_mul (c : Nat) : ∀ (n : Nat) (f : Nat → Nat), sm n (fun i => c * f i) = c * sm n f
  | 0, _ => rfl
  | n + 1, f => by simp only [sm, sm_mul c n, Nat.mul_add]
theorem sm_zero : ∀ (n : Nat), sm n (fun _ => 0) = 0
  | 0 => rfl
  | n + 1 => by simp [sm, sm_zero n]
theorem sm_one {n k : Nat} (hk : k < n) (f : Nat → Nat) (h : ∀ i, i < n → i ≠ k → f i = 0) : sm n f = f k := by
  induction n with
  | zero => omega
  | succ n ih =>
    simp only [sm]
    by_cases e : k = n
    · subst e
      have : sm k f = sm k (fun _ => 0) := sm_congr fun i hi => h i (by omega) (by omega)
      rw [this, sm_zero]
      omega
    · rw [ih (by omega) (fun i hi => h i (by omega)), h n (by omega) (by omega)]
      omega
theorem pd_congr : ∀ {n : Nat} {f g : Nat → Nat}, (∀ i, i < n → f i = g i) → pd n f = pd n g
  | 0, _, _, _ => rfl
  | n + 1, f, g, h => by
    simp only [pd]
    rw [pd_congr (n := n) fun i hi => h i (by omega), h n (by omega)]
theorem pd_upd {n k : Nat} (hk : k < n) {f g : Nat → Nat} (h : ∀ i, i < n → i ≠ k → f i = g i) (h1 : g k = 1) : pd n f = pd n g * f k := by
  induction n with
  | zero => omega
  | succ n ih =>
    simp only [pd]
    by_cases e : k = n
    · subst e
      rw [pd_congr (n := k) fun i hi => h i (by omega) (by omega), h1, Nat.mul_one]
    · rw [ih (by omega) (fun i hi => h i (by omega)), h n (by omega) (by omega), Nat.mul_assoc, Nat.mul_assoc, Nat.mul_comm (f k)]
theorem sm_upd {n k : Nat} (hk : k < n) {f g : Nat → Nat} (h : ∀ i, i < n → i ≠ k → f i = g i) (h1 : g k = 0) : sm n f = sm n g + f k := by
  induction n with
  | zero => omega
  | succ n ih =>
    simp only [sm]
    by_cases e : k = n
    · subst e
      rw [sm_congr (n := k) fun i hi => h i (by omega) (by omega), h1]
      omega
    · rw [ih (by omega) (fun i hi => h i (by omega)), h n (by omega) (by omega)]
      omega
theorem pd_pos : ∀ {n : Nat} {f : Nat → Nat}, (∀ i, i < n → 0 < f i) → 0 < pd n f
  | 0, _, _ => by simp [pd]
  | n + 1, f, h => Nat.mul_pos (pd_pos fun i hi => h i (by omega)) (h n (by omega))
theorem fct_pos : ∀ n, 0 < fct n
  | 0 => by simp [fct]
  | n + 1 => Nat.mul_pos (fct_pos n) (by omega)
/-! bits -/
theorem tb_div (S i : Nat) : S.testBit i = (S / 2 ^ i).testBit 0 := by
  rw [Nat.testBit_zero, Nat.testBit_eq_decide_div_mod_eq]
theorem tb_even (q j : Nat) (h : q.testBit 0 = false) : (q + 1).testBit j = (decide (j = 0) || q.testBit j) := by
  rw [Nat.testBit_zero] at h
  have h : q % 2 = 0 := by
    have := of_decide_eq_false h
    omega
  cases j with
  | zero => rw [Nat.testBit_zero]; simp; omega
  | succ j =>
    rw [Nat.testBit_succ, Nat.testBit_succ]
    have : (q + 1) / 2 = q / 2 := by omega
    simp [this]
theorem tb_add (S k i : Nat) (h : S.testBit k = false) : (S + 2 ^ k).testBit i = (decide (i = k) || S.testBit i) := by
  have hp : 0 < 2 ^ k := Nat.two_pow_pos k
  have e := Nat.div_add_mod S (2 ^ k)
  have hb : S % 2 ^ k < 2 ^ k := Nat.mod_lt _ hp
  rw [tb_div] at h
  have e2 : S + 2 ^ k = 2 ^ k * (S / 2 ^ k + 1) + S % 2 ^ k := by rw [Nat.mul_add, Nat.mul_one]; omega
  rw [e2, Nat.testBit_two_pow_mul_add _ hb]
  conv => rhs; rw [← e, Nat.testBit_two_pow_mul_add _ hb]
  by_cases hi : i < k
  · have : i ≠ k := by omega
    simp [hi, this]
  · rw [if_neg hi, if_neg hi, tb_even _ _ h]
    by_cases hk : i = k
    · simp [hk]
    · have : i - k ≠ 0 := by omega
      simp [hk, this]
theorem tb_sub {S k : Nat} (h : S.testBit k = true) : 2 ^ k ≤ S ∧ ∀ i, (S - 2 ^ k).testBit i = (decide (i ≠ k) && S.testBit i) := by
  have hp : 0 < 2 ^ k := Nat.two_pow_pos k
  have e := Nat.div_add_mod S (2 ^ k)
  have hb : S % 2 ^ k < 2 ^ k := Nat.mod_lt _ hp
  have h2 := h
  rw [tb_div, Nat.testBit_zero] at h2
  have h3 : (S / 2 ^ k) % 2 = 1 := of_decide_eq_true h2
  obtain ⟨q, hq⟩ : ∃ q, S / 2 ^ k = q + 1 := by
    cases hz : S / 2 ^ k with
    | zero => rw [hz] at h3; simp at h3
    | succ q => exact ⟨q, rfl⟩
  have e2 : S = 2 ^ k * q + S % 2 ^ k + 2 ^ k := by
    rw [hq, Nat.mul_add, Nat.mul_one] at e
    omega
  have hle : 2 ^ k ≤ S := by omega
  refine ⟨hle, fun i => ?_⟩
  have hf : (2 ^ k * q + S % 2 ^ k).testBit k = false := by
    rw [Nat.testBit_two_pow_mul_add _ hb, if_neg (by omega), Nat.sub_self, Nat.testBit_zero]
    simp
    omega
  have ha := tb_add _ k i hf
  rw [← e2] at ha
  have e3 : S - 2 ^ k = 2 ^ k * q + S % 2 ^ k := by omega
  rw [e3]
  by_cases hi : i = k
  · subst hi; simp [hf]
  · simp [hi] at ha ⊢
    exact ha.symm
theorem tb_lt {n S k : Nat} (hS : S < 2 ^ n) (hk : k < n) (h : S.testBit k = false) : S + 2 ^ k < 2 ^ n := by
  apply Nat.lt_pow_two_of_testBit
  intro i hi
  rw [tb_add S k i h, Nat.testBit_lt_two_pow (Nat.lt_of_lt_of_le hS (Nat.pow_le_pow_right (by decide) hi))]
  simp
  omega
/-! a forest -/
structure Fo (n : Nat) (rds : Nat → List Nat) (sz : Nat → Nat) : Prop where
  pos : 1 ≤ n
  lt : ∀ i, i < n → ∀ r ∈ rds i, r < i
  once : ((List.range n).flatMap rds).Perm (List.range (n - 1))
  sz : ∀ i, i < n → sz i = 1 + ((rds i).map sz).sum
def rdy (n : Nat) (rds : Nat → List Nat) (S : Nat) : List Nat := ((List.range n).filter fun k => !S.testBit k).filter fun k => (rds k).all fun r => S.testBit r
structure Ideal (n : Nat) (rds : Nat → List Nat) (S : Nat) : Prop where
  lt : S < 2 ^ n
  down : ∀ i, i < n → S.testBit i = true → ∀ r ∈ rds i, S.testBit r = true
def par (n : Nat) (rds : Nat → List Nat) (r : Nat) : Nat := ((List.range n).find? fun i => decide (r ∈ rds i)).getD n
def cardS (n S : Nat) : Nat := sm n fun i => if S.testBit i then 1 else 0
def pdS (n : Nat) (sz : Nat → Nat) (S : Nat) : Nat := pd n fun i => if S.testBit i then sz i else 1
theorem flat_uniq (rds : Nat → List Nat) : ∀ n, ((List.range n).flatMap rds).Nodup → ∀ i j r, i < n → j < n → r ∈ rds i → r ∈ rds j → i = j
  | 0, _, i, _, _, hi, _, _, _ => by omega
  | n + 1, nd, i, j, r, hi, hj, h1, h2 => by
    rw [List.range_succ, List.flatMap_append, List.nodup_append] at nd
    have ih := flat_uniq rds n nd.1
    have hd : ∀ k, k < n → r ∈ rds k → r ∈ rds n → False := fun k hk a b => nd.2.2 r (by rw [List.mem_flatMap]; exact ⟨k, List.mem_range.mpr hk, a⟩) r (by simpa using b) rfl
    by_cases ei : i = n
    · by_cases ej : j = n
      · omega
      · subst ei; exact (hd j (by omega) h2 h1).elim
    · by_cases ej : j = n
      · subst ej; exact (hd i (by omega) h1 h2).elim
      · exact ih i j r (by omega) (by omega) h1 h2
theorem sum_flatMap {α : Type} (f : α → List Nat) : ∀ l : List α, (l.flatMap f).sum = (l.map fun x => (f x).sum).sum
  | [] => rfl
  | x :: l => by simp [List.flatMap_cons, List.sum_append_nat, sum_flatMap f l]
section
variable {n : Nat} {rds : Nat → List Nat} {sz : Nat → Nat} (F : Fo n rds sz)
include F
theorem Fo.par_of {i r : Nat} (hi : i < n) (h : r ∈ rds i) : par n rds r = i := by
  unfold par
  cases e : (List.range n).find? fun i => decide (r ∈ rds i) with
  | none =>
    have := List.find?_eq_none.mp e i (List.mem_range.mpr hi)
    simp [h] at this
  | some j =>
    have h1 := of_decide_eq_true (List.find?_some (p := fun i => decide (r ∈ rds i)) e)
    have h2 := List.mem_range.mp (List.mem_of_find?_eq_some e)
    exact flat_uniq rds n (F.once.nodup_iff.mpr List.nodup_range) j i r h2 hi h1 h
theorem Fo.par_spec {r : Nat} (h : r + 1 < n) : par n rds r < n ∧ r ∈ rds (par n rds r) := by
  have : r ∈ (List.range n).flatMap rds := F.once.symm.subset (List.mem_range.mpr (by omega))
  rw [List.mem_flatMap] at this
  obtain ⟨i, hi, hr⟩ := this
  have hi := List.mem_range.mp hi
  rw [F.par_of hi hr]
  exact ⟨hi, hr⟩
theorem Fo.par_root : par n rds (n - 1) = n := by
  unfold par
  cases e : (List.range n).find? fun i => decide (n - 1 ∈ rds i) with
  | none => rfl
  | some j =>
    have h1 := of_decide_eq_true (List.find?_some (p := fun i => decide (n - 1 ∈ rds i)) e)
    have h2 := List.mem_range.mp (List.mem_of_find?_eq_some e)
    have := F.lt j h2 _ h1
    omega
theorem Fo.sum_reads (h : Nat → Nat → Nat) : sm n (fun i => ((rds i).map (h i)).sum) = sm (n - 1) fun r => h (par n rds r) r := by
  rw [sm_list, sm_list]
  have e1 : ((List.range n).map fun i => ((rds i).map (h i)).sum).sum = ((List.range n).map fun i => ((rds i).map fun r => h (par n rds r) r).sum).sum := by
    congr 1
    apply List.map_congr_left
    intro i hi
    congr 1
    apply List.map_congr_left
    intro r hr
    rw [F.par_of (List.mem_range.mp hi) hr]
  rw [e1, ← sum_flatMap (fun i => (rds i).map fun r => h (par n rds r) r), ← List.map_flatMap]
  exact (F.once.map _).sum_nat
theorem Ideal.top {S : Nat} (I : Ideal n rds S) : S.testBit n = false := Nat.testBit_lt_two_pow I.lt
/-- the sizes of the maximal ones of an ideal -/
theorem Fo.maxsum {S : Nat} (I : Ideal n rds S) : sm n (fun k => if S.testBit k && !S.testBit (par n rds k) then sz k else 0) = cardS n S := by
  have hA : sm n (fun i => if S.testBit i then sz i else 0) = cardS n S + sm n (fun i => ((rds i).map fun r => if S.testBit i then sz r else 0).sum) := by
    unfold cardS
    rw [← sm_add]
    apply sm_congr
    intro i hi
    by_cases hb : S.testBit i = true
    · simp only [hb, if_true]
      rw [F.sz i hi]
    · simp only [hb, if_false]
      have : ((rds i).map fun r => (0 : Nat)).sum = 0 := by
        induction rds i with
        | nil => rfl
        | cons _ _ ih => simp [ih]
      simpa using this.symm
  rw [F.sum_reads (fun i r => if S.testBit i then sz r else 0)] at hA
  have hB : sm n (fun i => if S.testBit i then sz i else 0) = sm n (fun k => if S.testBit k && !S.testBit (par n rds k) then sz k else 0) + sm n (fun k => if S.testBit (par n rds k) then sz k else 0) := by
    rw [← sm_add]
    apply sm_congr
    intro k hk
    by_cases hp : S.testBit (par n rds k) = true
    · have hkS : S.testBit k = true := by
        by_cases hr : k + 1 < n
        · have := F.par_spec hr
          exact I.down _ this.1 hp _ this.2
        · have : k = n - 1 := by omega
          rw [this, F.par_root, Ideal.top F I] at hp
          cases hp
      simp [hp, hkS]
    · simp [hp]
  have hC : sm n (fun k => if S.testBit (par n rds k) then sz k else 0) = sm (n - 1) (fun k => if S.testBit (par n rds k) then sz k else 0) := by
    have hn := F.pos
    conv => lhs; rw [show n = n - 1 + 1 by omega]
    simp only [sm]
    have e : n - 1 + 1 = n := by omega
    rw [e, F.par_root, Ideal.top F I]
    simp
  omega
theorem Fo.max_iff {S k : Nat} (I : Ideal n rds S) (hk : k < n) : (S.testBit k = true ∧ Ideal n rds (S - 2 ^ k) ∧ k ∈ rdy n rds (S - 2 ^ k)) ↔ (S.testBit k = true ∧ S.testBit (par n rds k) = false) := by
  constructor
  · rintro ⟨h1, h2, h3⟩
    refine ⟨h1, ?_⟩
    obtain ⟨_, hb⟩ := tb_sub h1
    by_cases hr : k + 1 < n
    · obtain ⟨p1, p2⟩ := F.par_spec hr
      have p3 := F.lt _ p1 _ p2
      by_cases hp : S.testBit (par n rds k) = true
      · have h4 : (S - 2 ^ k).testBit (par n rds k) = true := by
          rw [hb]
          have : par n rds k ≠ k := by omega
          simp [this, hp]
        have h5 := h2.down _ p1 h4 _ p2
        rw [hb] at h5
        simp at h5
      · simpa using hp
    · have : k = n - 1 := by omega
      rw [this, F.par_root]
      exact Ideal.top F I
  · rintro ⟨h1, h2⟩
    obtain ⟨hle, hb⟩ := tb_sub h1
    refine ⟨h1, ⟨Nat.lt_of_le_of_lt (Nat.sub_le _ _) I.lt, fun i hi hs r hr => ?_⟩, ?_⟩
    · rw [hb] at hs
      simp at hs
      have h3 := I.down i hi hs.2 r hr
      rw [hb]
      have : r ≠ k := by
        intro e
        subst e
        rw [F.par_of hi hr, hs.2] at h2
        cases h2
      simp [this, h3]
    · unfold rdy
      rw [List.mem_filter, List.mem_filter]
      refine ⟨⟨List.mem_range.mpr hk, by rw [hb]; simp⟩, ?_⟩
      rw [List.all_eq_true]
      intro r hr
      rw [hb]
      have h3 := F.lt k hk r hr
      have : r ≠ k := by omega
      simp [this, I.down k hk h1 r hr]
theorem Fo.grow {S k : Nat} (I : Ideal n rds S) (h : k ∈ rdy n rds S) : k < n ∧ S.testBit k = false ∧ Ideal n rds (S + 2 ^ k) := by
  unfold rdy at h
  rw [List.mem_filter, List.mem_filter] at h
  obtain ⟨⟨h1, h2⟩, h3⟩ := h
  have h1 := List.mem_range.mp h1
  have h2 : S.testBit k = false := by simpa using h2
  refine ⟨h1, h2, tb_lt I.lt h1 h2, fun i hi hs r hr => ?_⟩
  rw [tb_add S k _ h2] at hs ⊢
  simp at hs ⊢
  right
  rcases hs with rfl | hs
  · exact List.all_eq_true.mp h3 r hr
  · exact I.down i hi hs r hr
/-- every ideal is reached -/
theorem Fo.reach (K : Nat → Prop) (h0 : K 0) (hs : ∀ S k, K S → S < 2 ^ n → k ∈ rdy n rds S → K (S + 2 ^ k)) : ∀ (m S : Nat), cardS n S ≤ m → Ideal n rds S → K S := by
  have hcard : ∀ S k, k < n → S.testBit k = true → cardS n S = cardS n (S - 2 ^ k) + 1 := by
    intro S k hk h
    obtain ⟨_, hb⟩ := tb_sub h
    unfold cardS
    rw [sm_upd (g := fun i => if (S - 2 ^ k).testBit i then 1 else 0) hk (fun i hi hne => by simp [hb, hne]) (by simp [hb])]
    simp [h]
  have hmax : ∀ m S, Ideal n rds S → S ≠ 0 → (∀ i, m ≤ i → i < n → S.testBit i = false) → m ≤ n → ∃ k, k < n ∧ S.testBit k = true ∧ ∀ i, k < i → i < n → S.testBit i = false := by
    intro m
    induction m with
    | zero =>
      intro S I h1 h2 _
      exfalso
      apply h1
      apply Nat.eq_of_testBit_eq
      intro i
      rw [Nat.zero_testBit]
      by_cases hi : i < n
      · exact h2 i (by omega) hi
      · exact Nat.testBit_lt_two_pow (Nat.lt_of_lt_of_le I.lt (Nat.pow_le_pow_right (by decide) (by omega)))
    | succ m ih =>
      intro S I h1 h2 hm
      by_cases hb : S.testBit m = true
      · exact ⟨m, by omega, hb, fun i h3 h4 => h2 i (by omega) h4⟩
      · refine ih S I h1 (fun i h3 h4 => ?_) (by omega)
        by_cases e : i = m
        · subst e; simpa using hb
        · exact h2 i (by omega) h4
  intro m
  induction m with
  | zero =>
    intro S hc I
    by_cases e : S = 0
    · subst e; exact h0
    · obtain ⟨k, hk, hb, _⟩ := hmax n S I e (fun i h1 h2 => by omega) (Nat.le_refl _)
      have := hcard S k hk hb
      omega
  | succ m ih =>
    intro S hc I
    by_cases e : S = 0
    · subst e; exact h0
    · obtain ⟨k, hk, hb, hm⟩ := hmax n S I e (fun i h1 h2 => by omega) (Nat.le_refl _)
      have hpar : S.testBit (par n rds k) = false := by
        by_cases hr : k + 1 < n
        · obtain ⟨p1, p2⟩ := F.par_spec hr
          have p3 := F.lt _ p1 _ p2
          exact hm _ p3 p1
        · have : k = n - 1 := by omega
          rw [this, F.par_root]
          exact Ideal.top F I
      obtain ⟨_, h2, h3⟩ := (F.max_iff I hk).mpr ⟨hb, hpar⟩
      have hcd := hcard S k hk hb
      have hle := (tb_sub hb).1
      have := hs (S - 2 ^ k) k (ih (S - 2 ^ k) (by omega) h2) h2.lt h3
      rwa [Nat.sub_add_cancel hle] at this
theorem Fo.ideal0 : Ideal n rds 0 := ⟨Nat.two_pow_pos n, fun i _ h => by simp at h⟩
theorem Fo.ideal_full : Ideal n rds (2 ^ n - 1) := by
  have := Nat.two_pow_pos n
  refine ⟨by omega, fun i hi _ r hr => ?_⟩
  rw [Nat.testBit_two_pow_sub_one]
  have := F.lt i hi r hr
  simp
  omega
end
/-! the count, set by set -/
def term (n : Nat) (rds : Nat → List Nat) (sz : Nat → Nat) (pre : List Nat) (S k : Nat) : Nat :=
  if S.testBit k && decide (S - 2 ^ k ∈ pre) && decide (k ∈ rdy n rds (S - 2 ^ k)) then fct (cardS n (S - 2 ^ k)) * sz k else 0
structure Cnt (n : Nat) (rds : Nat → List Nat) (sz : Nat → Nat) (pre : List Nat) (G : Nat → Nat) : Prop where
  zero : G 0 = 1
  eq : ∀ S, S ≠ 0 → G S * pdS n sz S = sm n (term n rds sz pre S)
section
variable {n : Nat} {rds : Nat → List Nat} {sz : Nat → Nat} (F : Fo n rds sz)
include F
theorem Fo.pdS_add {T k : Nat} (hk : k < n) (h : T.testBit k = false) : pdS n sz (T + 2 ^ k) = pdS n sz T * sz k := by
  unfold pdS
  rw [pd_upd (g := fun i => if T.testBit i then sz i else 1) hk (fun i hi hne => by rw [tb_add T k i h]; simp [hne]) (by simp [h])]
  rw [tb_add T k k h]
  simp
theorem Fo.card_add {T k : Nat} (hk : k < n) (h : T.testBit k = false) : cardS n (T + 2 ^ k) = cardS n T + 1 := by
  unfold cardS
  rw [sm_upd (g := fun i => if T.testBit i then 1 else 0) hk (fun i hi hne => by rw [tb_add T k i h]; simp [hne]) (by simp [h])]
  rw [tb_add T k k h]
  simp
/-- what is counted for an ideal when all smaller ones are done -/
theorem Fo.done {pre : List Nat} {G : Nat → Nat} (C : Cnt n rds sz pre G) (hp : ∀ S ∈ pre, Ideal n rds S) {T : Nat} (I : Ideal n rds T) (hs : ∀ S, Ideal n rds S → S < T → S ∈ pre) : G T * pdS n sz T = fct (cardS n T) := by
  by_cases h0 : T = 0
  · subst h0
    have e1 : pdS n sz 0 = 1 := by
      unfold pdS
      have : ∀ m, pd m (fun i => if (0 : Nat).testBit i then sz i else 1) = 1 := by
        intro m
        induction m with
        | zero => rfl
        | succ m ih => simp only [pd, ih]; simp
      exact this n
    have e2 : cardS n 0 = 0 := by
      unfold cardS
      have : sm n (fun i => if (0 : Nat).testBit i then 1 else 0) = sm n (fun _ => 0) := sm_congr fun i _ => by simp
      rw [this, sm_zero]
    rw [C.zero, e1, e2]
    rfl
  · rw [C.eq T h0]
    have e : sm n (term n rds sz pre T) = sm n (fun k => fct (cardS n T - 1) * (if T.testBit k && !T.testBit (par n rds k) then sz k else 0)) := by
      apply sm_congr
      intro k hk
      unfold term
      by_cases hb : T.testBit k = true
      · obtain ⟨hle, hbb⟩ := tb_sub hb
        have hcard : cardS n T = cardS n (T - 2 ^ k) + 1 := by
          have := F.card_add (T := T - 2 ^ k) hk (by rw [hbb]; simp)
          rwa [Nat.sub_add_cancel hle] at this
        have hlt : T - 2 ^ k < T := by
          have := Nat.two_pow_pos k
          omega
        by_cases hm : T.testBit (par n rds k) = false
        · obtain ⟨_, h2, h3⟩ := (F.max_iff I hk).mpr ⟨hb, hm⟩
          have h4 := hs _ h2 hlt
          simp only [hb, hm, h3, h4, decide_true, Bool.and_self, Bool.not_false, if_true]
          rw [hcard, Nat.add_sub_cancel]
        · have : ¬ (T - 2 ^ k ∈ pre ∧ k ∈ rdy n rds (T - 2 ^ k)) := fun ⟨h2, h3⟩ => hm ((F.max_iff I hk).mp ⟨hb, hp _ h2, h3⟩).2
          have hm : T.testBit (par n rds k) = true := by simpa using hm
          rw [if_neg, hm]
          · simp
          · simp only [hb, Bool.true_and, Bool.and_eq_true, decide_eq_true_eq]
            exact this
      · simp [hb]
    rw [e, sm_mul, F.maxsum I]
    have hpos : 1 ≤ cardS n T := by
      rw [← F.maxsum I] 
      rw [F.maxsum I]
      by_cases hc : cardS n T = 0
      · exfalso
        apply h0
        apply Nat.eq_of_testBit_eq
        intro i
        rw [Nat.zero_testBit]
        by_cases hi : i < n
        · cases hb : T.testBit i with
          | false => rfl
          | true =>
            obtain ⟨hle, hbb⟩ := tb_sub hb
            have := F.card_add (T := T - 2 ^ i) hi (by rw [hbb]; simp)
            rw [Nat.sub_add_cancel hle] at this
            omega
        · exact Nat.testBit_lt_two_pow (Nat.lt_of_lt_of_le I.lt (Nat.pow_le_pow_right (by decide) (by omega)))
      · omega
    obtain ⟨c, hc⟩ : ∃ c, cardS n T = c + 1 := ⟨cardS n T - 1, by omega⟩
    rw [hc]
    rfl
/-- one more set is done -/
theorem Fo.step {pre : List Nat} {G G' : Nat → Nat} (C : Cnt n rds sz pre G) {T : Nat} (I : Ideal n rds T) (hT : T ∉ pre) (hd : G T * pdS n sz T = fct (cardS n T))
    (hG : ∀ S, G' S = G S + if (rdy n rds T).any (fun k => decide (S = T + 2 ^ k)) then G T else 0) : Cnt n rds sz (pre ++ [T]) G' := by
  refine ⟨?_, fun S h0 => ?_⟩
  · rw [hG, C.zero, if_neg]
    simp
    intro k _
    have := Nat.two_pow_pos k
    omega
  · rw [hG, Nat.add_mul, C.eq S h0]
    have e : sm n (term n rds sz (pre ++ [T]) S) = sm n (term n rds sz pre S) + sm n (fun k => if S.testBit k && decide (S - 2 ^ k = T) && decide (k ∈ rdy n rds T) then fct (cardS n T) * sz k else 0) := by
      rw [← sm_add]
      apply sm_congr
      intro k hk
      unfold term
      by_cases hb : S.testBit k = true
      · by_cases e : S - 2 ^ k = T
        · rw [e]
          simp [hb, hT]
        · simp [hb, e]
      · simp [hb]
    rw [e]
    congr 1
    by_cases hx : ∃ k, k ∈ rdy n rds T ∧ S = T + 2 ^ k
    · obtain ⟨k, hk, rfl⟩ := hx
      obtain ⟨hkn, hkb, _⟩ := F.grow I hk
      have h1 : (rdy n rds T).any (fun j => decide (T + 2 ^ k = T + 2 ^ j)) = true := by
        rw [List.any_eq_true]
        exact ⟨k, hk, by simp⟩
      rw [if_pos h1, F.pdS_add hkn hkb, ← Nat.mul_assoc, hd]
      rw [sm_one hkn]
      · have hb : (T + 2 ^ k).testBit k = true := by rw [tb_add T k k hkb]; simp
        simp [hb, hk]
      · intro i hi hne
        rw [if_neg]
        simp only [Bool.and_eq_true, decide_eq_true_eq, not_and]
        intro h2 _
        obtain ⟨hb, h3⟩ := h2
        have hle := (tb_sub hb).1
        have : 2 ^ i = 2 ^ k := by omega
        exact (hne ((Nat.pow_right_inj (by decide)).mp this)).elim
    · have h1 : (rdy n rds T).any (fun k => decide (S = T + 2 ^ k)) = false := by
        rw [List.any_eq_false]
        intro k hk
        simp only [decide_eq_true_eq]
        intro e
        exact hx ⟨k, hk, e⟩
      rw [if_neg (by rw [h1]; simp), Nat.zero_mul]
      symm
      refine Eq.trans (sm_congr (g := fun _ => 0) fun k hk => ?_) (sm_zero n)
      rw [if_neg]
      simp only [Bool.and_eq_true, decide_eq_true_eq, not_and]
      intro h2 h3
      obtain ⟨hb, h4⟩ := h2
      have hle := (tb_sub hb).1
      exact hx ⟨k, h3, by omega⟩
end
end K81
end Mr
end
section
set_option linter.all false
set_option backward.isDefEq.respectTransparency false
set_option maxRecDepth 100000
namespace Mr
open PySem
namespace K81
/-! Z11: dicts of numbers; reads; what is ready -/
def encNs (l : List Nat) : D := .lst (l.map fun (k : Nat) => .int (k : Int))
def encDk {β : Type} (enc : β → D) (al : List (Nat × β)) : D := .dK (al.map fun p => .inl (p.1 : Int)) (al.map fun p => enc p.2)
def alook {β : Type} (al : List (Nat × β)) (k : Nat) : Option β := (al.find? fun p => p.1 == k).map (·.2)
def aput {β : Type} (al : List (Nat × β)) (k : Nat) (v : β) : List (Nat × β) := if (al.any fun p => p.1 == k) = true then al.map (fun p => if p.1 = k then (p.1, v) else p) else al ++ [(k, v)]
theorem look_al {β : Type} (enc : β → D) (k : Nat) : ∀ al : List (Nat × β), look (al.map fun p => (.inl (p.1 : Int) : Key)) (al.map fun p => enc p.2) (.inl (k : Int)) = (alook al k).map enc
  | [] => rfl
  | p :: al => by
    have ih := look_al enc k al
    simp only [List.map_cons, look]
    by_cases e : p.1 = k
    · simp [e, alook]
    · have e2 : ¬ ((Sum.inl ((p.1 : Nat) : Int) : Key) = .inl (k : Int)) := by
        intro h
        injection h with h
        omega
      have e3 : (p.1 == k) = false := by simp [e]
      rw [if_neg e2, ih]
      simp [alook, e3]
theorem rep_al {β : Type} (enc : β → D) (k : Nat) (v : β) : ∀ al : List (Nat × β), repD (al.map fun p => (.inl (p.1 : Int) : Key)) (al.map fun p => enc p.2) (.inl (k : Int)) (enc v) = (al.map (fun p => if p.1 = k then (p.1, v) else p)).map fun p => enc p.2
  | [] => rfl
  | p :: al => by
    have ih := rep_al enc k v al
    simp only [List.map_cons, repD, ih]
    by_cases e : p.1 = k
    · simp [e]
    · have e2 : ¬ ((Sum.inl ((p.1 : Nat) : Int) : Key) = .inl (k : Int)) := by
        intro h
        injection h with h
        omega
      rw [if_neg e2, if_neg e]
theorem put_al {β : Type} (enc : β → D) (k : Nat) (v : β) (al : List (Nat × β)) : putD (al.map fun p => (.inl (p.1 : Int) : Key)) (al.map fun p => enc p.2) (.inl (k : Int)) (enc v) = ((aput al k v).map fun p => .inl (p.1 : Int), (aput al k v).map fun p => enc p.2) := by
  have hc : (al.map fun p => (.inl (p.1 : Int) : Key)).any (fun q => decide (q = .inl (k : Int))) = al.any fun p => p.1 == k := by
    rw [List.any_map]
    congr 1
    funext p
    simp only [Function.comp]
    rw [Bool.eq_iff_iff]
    simp only [decide_eq_true_eq, Sum.inl.injEq, beq_iff_eq]
    omega
  unfold putD aput
  rw [hc]
  by_cases h : (al.any fun p => p.1 == k) = true
  · rw [if_pos h, if_pos h, rep_al]
    congr 1
    rw [List.map_map]
    apply List.map_congr_left
    intro p _
    simp only [Function.comp]
    by_cases e : p.1 = k <;> simp [e]
  · rw [if_neg h, if_neg h]
    simp
theorem alook_put {β : Type} (al : List (Nat × β)) (k : Nat) (v : β) (j : Nat) : alook (aput al k v) j = if j = k then some v else alook al j := by
  unfold aput
  by_cases h : (al.any fun p => p.1 == k) = true
  · rw [if_pos h]
    induction al with
    | nil => simp at h
    | cons p al ih =>
      by_cases e : p.1 = k
      · by_cases hj : j = k
        · subst hj
          simp [alook, e]
        · have : (k == j) = false := by simp; omega
          simp only [List.map_cons, e, if_true, alook, List.find?_cons, this, hj, if_false]
          by_cases h2 : (al.any fun p => p.1 == k) = true
          · have ih := ih h2
            rw [if_neg hj] at ih
            exact ih
          · have : al.map (fun p => if p.1 = k then (p.1, v) else p) = al := by
              rw [List.map_congr_left (g := id), List.map_id]
              intro q hq
              have : q.1 ≠ k := by
                intro e2
                apply h2
                rw [List.any_eq_true]
                exact ⟨q, hq, by simp [e2]⟩
              simp [this]
            rw [this]
      · have h2 : (al.any fun p => p.1 == k) = true := by simpa [e] using h
        have ih := ih h2
        simp only [List.map_cons, e, if_false, alook, List.find?_cons]
        by_cases hpj : p.1 = j
        · have : ¬ j = k := by omega
          simp [hpj, this]
        · have : (p.1 == j) = false := by simp [hpj]
          simp only [this]
          exact ih
  · rw [if_neg h]
    unfold alook
    rw [List.find?_append]
    by_cases hj : j = k
    · subst hj
      have : (al.find? fun p => p.1 == j) = none := by
        rw [List.find?_eq_none]
        intro p hp hpp
        apply h
        rw [List.any_eq_true]
        exact ⟨p, hp, hpp⟩
      rw [this]
      simp
    · have : (k == j) = false := by simp; omega
      rw [if_neg hj]
      simp [this]
theorem keys_put {β : Type} (al : List (Nat × β)) (k : Nat) (v : β) : (aput al k v).map (·.1) = if k ∈ al.map (·.1) then al.map (·.1) else al.map (·.1) ++ [k] := by
  unfold aput
  have hc : ((al.any fun p => p.1 == k) = true) ↔ k ∈ al.map (·.1) := by
    rw [List.any_eq_true, List.mem_map]
    constructor
    · rintro ⟨p, h1, h2⟩; exact ⟨p, h1, by simpa using h2⟩
    · rintro ⟨p, h1, h2⟩; exact ⟨p, h1, by simpa using h2⟩
  by_cases h : (al.any fun p => p.1 == k) = true
  · rw [if_pos h, if_pos (hc.mp h), List.map_map]
    apply List.map_congr_left
    intro p _
    simp only [Function.comp]
    split <;> rfl
  · rw [if_neg h, if_neg (fun z => h (hc.mpr z)), List.map_append]
    rfl
theorem mem_put {β : Type} (al : List (Nat × β)) (k : Nat) (v : β) (j : Nat) : j ∈ (aput al k v).map (·.1) ↔ j = k ∨ j ∈ al.map (·.1) := by
  rw [keys_put]
  split
  · rename_i h
    constructor
    · exact .inr
    · rintro (rfl | h2)
      · exact h
      · exact h2
  · rw [List.mem_append, List.mem_singleton]
    exact Or.comm
theorem nodup_put {β : Type} {al : List (Nat × β)} (h : (al.map (·.1)).Nodup) (k : Nat) (v : β) : ((aput al k v).map (·.1)).Nodup := by
  rw [keys_put]
  split
  · exact h
  · rename_i hk
    rw [List.nodup_append]
    exact ⟨h, by simp, fun a ha b hb => by
      rw [List.mem_singleton.mp hb]
      intro e
      subst e
      exact hk ha⟩
theorem len_put {β : Type} (al : List (Nat × β)) (k : Nat) (v : β) : (aput al k v).length ≤ al.length + 1 := by
  unfold aput
  split <;> simp
theorem alook_some {β : Type} {al : List (Nat × β)} {k : Nat} : (alook al k).isSome = true ↔ k ∈ al.map (·.1) := by
  unfold alook
  rw [Option.isSome_map, List.find?_isSome, List.mem_map]
  constructor
  · rintro ⟨p, h1, h2⟩; exact ⟨p, h1, by simpa using h2⟩
  · rintro ⟨p, h1, h2⟩; exact ⟨p, h1, by simpa using h2⟩
theorem alook_mem {β : Type} {al : List (Nat × β)} {k : Nat} {v : β} (h : alook al k = some v) : (k, v) ∈ al := by
  unfold alook at h
  obtain ⟨p, h1, h2⟩ := Option.map_eq_some_iff.mp h
  have h3 := List.find?_some (p := fun p : Nat × β => p.1 == k) h1
  have h4 := List.mem_of_find?_eq_some h1
  have : p = (k, v) := by
    obtain ⟨a, b⟩ := p
    simp at h2 h3
    rw [h2, h3]
  rwa [← this]
@[simp] theorem mem_dk {β : Type} (enc : β → D) (al : List (Nat × β)) (k : Nat) : memD (.int (k : Int)) (encDk enc al) = some ((alook al k).isSome) := by
  show some (look _ _ _).isSome = _
  rw [look_al]
  simp
@[simp] theorem ix_dk {β : Type} (enc : β → D) (al : List (Nat × β)) (k : Nat) : ixD (encDk enc al) (.int (k : Int)) = (alook al k).map enc := by
  show look _ _ _ = _
  rw [look_al]
theorem set_dk {β : Type} (enc : β → D) (al : List (Nat × β)) (k : Nat) (v : β) (h : al.length < szL) : setD (encDk enc al) (.int (k : Int)) (enc v) = some (encDk enc (aput al k v)) := by
  show (if _ then _ else _) = _
  rw [if_pos (by simpa using h), put_al]
  rfl
@[simp] theorem get_dk {β : Type} (enc : β → D) (al : List (Nat × β)) (k : Nat) (d : D) : bmD .get2 (encDk enc al) [.int (k : Int), d] = some (((alook al k).map enc).getD d, none) := by
  show some ((look _ _ _).getD d, none) = _
  rw [look_al]
@[simp] theorem kind_dk {β : Type} (enc : β → D) (al : List (Nat × β)) : bmKind .get2 (encDk enc al) = true := (rfl)
@[simp] theorem der_dk {β : Type} (enc : β → D) (al : List (Nat × β)) (fr : Fm) : deref fr (encDk enc al) = some (encDk enc al) := (rfl)
@[simp] theorem loc_dk {β : Type} (enc : β → D) (al : List (Nat × β)) : isLoc (encDk enc al) = false := (rfl)
@[simp] theorem mut_dk {β : Type} (enc : β → D) (al : List (Nat × β)) : isMut (encDk enc al) = true := (rfl)
@[simp] theorem own_dk {β : Type} (enc : β → D) (al : List (Nat × β)) (i : Nat) (env : List Sl) (st : List D) : ownS i (encDk enc al) ⟨env, st⟩ = .ok () ⟨env.set i (.own (encDk enc al)), st⟩ := (rfl)
theorem filterMap_if {α β : Type} (p : α → Bool) (g : α → β) : ∀ xs : List α, xs.filterMap (fun x => if p x = true then some (g x) else none) = (xs.filter p).map g
  | [] => rfl
  | x :: xs => by
    have ih := filterMap_if p g xs
    by_cases h : p x = true <;> simp [h, ih]
/-! reads -/
theorem r_reads_ok (n : Nat) (st : List D) (rows : List FR) (hl : rows.length ≤ 1000) (ho : ∀ f ∈ rows, f.ops.length ≤ 1000) :
    (cc (n + 1)).fn f__law_r_reads [.lst (rows.map FR.enc)] st = .ok (.lst (rows.map fun f => encNs f.reads)) st := by
  refine fn_E d__law_r_reads rfl rfl ?_
  simp [d__law_r_reads, evalEs, evalPs, evalC, evalAnd, evalOr, bind_assoc, evalPar, evalKV, bind_ok, bind_stk, ofRC_ok, noExc_ok, unS, wipeE, backE, noOwn, derefs, List.replicate]
  rw [compL_map FR.enc (fun f => some (encNs f.reads))]
  · simp [evalEs, evalPs, evalC, evalAnd, evalOr, bind_assoc, evalPar, evalKV, bind_ok, bind_stk, ofRC_ok, noExc_ok, unS, wipeE, backE, noOwn, derefs, List.replicate]
  · intro f hf
    have h3 : compL (lcT (cc n) [2, 3] (.tp [.nm 2, .nm 3]) [.cmp .eq (.var 2) (.con (.str s_row))] (.var 3)) (f.ops.map Op.enc) [] ⟨[.val (.lst (rows.map FR.enc)), .val f.enc, .un, .un], st⟩ = .ok (f.reads.map fun (k : Nat) => .int (k : Int)) ⟨[.val (.lst (rows.map FR.enc)), .val f.enc, .un, .un], st⟩ := by
      rw [compL_map Op.enc (fun o => (o.rd).map fun (k : Nat) => .int (k : Int))]
      · congr 1
        unfold FR.reads
        induction f.ops with
        | nil => rfl
        | cons o os ih =>
          cases o <;> simp [Op.rd] at ih ⊢ <;> exact ih
      · intro o _
        unfold lcT
        cases o with
        | num i =>
          have := eqD_str lay_num lay_row
          simp only [Op.enc]
          simp [this, Op.rd, evalEs, evalPs, evalC, evalAnd, evalOr, bind_assoc, evalPar, evalKV, bind_ok, bind_stk, ofRC_ok, noExc_ok, unS, wipeE, backE, noOwn, derefs, List.replicate]
        | wd x =>
          have := eqD_str lay_mem lay_row
          simp only [Op.enc]
          simp [this, Op.rd, evalEs, evalPs, evalC, evalAnd, evalOr, bind_assoc, evalPar, evalKV, bind_ok, bind_stk, ofRC_ok, noExc_ok, unS, wipeE, backE, noOwn, derefs, List.replicate]
        | row j =>
          have := eqD_str lay_row lay_row
          simp only [Op.enc]
          simp [this, Op.rd, evalEs, evalPs, evalC, evalAnd, evalOr, bind_assoc, evalPar, evalKV, bind_ok, bind_stk, ofRC_ok, noExc_ok, unS, wipeE, backE, noOwn, derefs, List.replicate]
      · have := ho f hf
        exact sz_le (by simp; omega)
    unfold lcT
    simp only [FR.enc] at h3 ⊢
    simp [h3, encNs, evalEs, evalPs, evalC, evalAnd, evalOr, bind_assoc, evalPar, evalKV, bind_ok, bind_stk, ofRC_ok, noExc_ok, unS, wipeE, backE, noOwn, derefs, List.replicate]
  · exact sz_le (by simp; omega)
theorem bits_ok (n : Nat) (st : List D) : (cc (n + 1)).fn f__law_r_bits [] st = .ok (.lst ((List.range 13).map fun i => .int ((2 ^ i : Nat) : Int))) st := by kernel_rfl
theorem bit_ix (i : Nat) (h : i < 13) : ixD (.lst ((List.range 13).map fun i => .int ((2 ^ i : Nat) : Int))) (.int (i : Int)) = some (.int ((2 ^ i : Nat) : Int)) := by
  simp only [ixD_lst]
  apply mAt_nat
  simp [h]
end K81
end Mr
end
section
set_option linter.all false
set_option backward.isDefEq.respectTransparency false
set_option maxRecDepth 100000
namespace Mr
open PySem
namespace K81
/-! Z12: what is ready, set by set -/
def rdL (L : List (List Nat)) (i : Nat) : List Nat := L.getD i []
def pw (i : Nat) : Int := ((2 ^ i : Nat) : Int)
theorem pw_def (i : Nat) : pw i = ((2 ^ i : Nat) : Int) := rfl
theorem pw_add (S k : Nat) : (S : Int) + pw k = ((S + 2 ^ k : Nat) : Int) := by rw [pw_def]; omega
theorem tb_int (S i : Nat) : ((S : Int) / pw i % 2 == 1) = S.testBit i := by
  rw [pw_def]
  rw [Nat.testBit_eq_decide_div_mod_eq, Bool.eq_iff_iff]
  simp only [beq_iff_eq, decide_eq_true_eq]
  omega
theorem tb_int0 (S i : Nat) : ((S : Int) / pw i % 2 == 0) = !S.testBit i := by
  rw [pw_def]
  rw [Nat.testBit_eq_decide_div_mod_eq, Bool.eq_iff_iff]
  simp only [beq_iff_eq, Bool.not_eq_true', decide_eq_false_iff_not]
  omega
theorem two_pow_lt {i : Nat} (h : i < 13) : 2 ^ i < 1073741824 := Nat.lt_of_lt_of_le (Nat.pow_lt_pow_right (by decide) h) (by decide)
theorem fd_bit (S i : Nat) (h : i < 13) : binD .fdiv (.int (S : Int)) (.int (pw i)) = some (.int ((S : Int) / pw i)) := by
  rw [pw_def]
  have h1 := two_pow_lt h
  have h2 := Nat.two_pow_pos i
  exact binD_fdiv_int _ _ (by omega) (by omega)
def bitsL : List D := (List.range 13).map fun i => .int ((2 ^ i : Nat) : Int)
theorem bits_ok' (n : Nat) (st : List D) : (cc (n + 1)).fn f__law_r_bits [] st = .ok (.lst bitsL) st := bits_ok n st
theorem bit_ix' (i : Nat) (h : i < 13) : mAt bitsL (i : Int) = some (.int (pw i)) := bit_ix i h
theorem L_ix (L : List (List Nat)) (k : Nat) (h : k < L.length) : mAt (L.map encNs) (k : Int) = some (encNs (rdL L k)) := by
  apply mAt_nat
  simp [rdL, List.getElem?_eq_getElem h]
@[simp] theorem loc_ns (l : List Nat) : isLoc (encNs l) = false := (rfl)
@[simp] theorem der_ns (l : List Nat) (fr : Fm) : deref fr (encNs l) = some (encNs l) := (rfl)
@[simp] theorem iter_ns (l : List Nat) (fr : Fm) : iterD fr (encNs l) = some (l.map fun (k : Nat) => .int (k : Int)) := (rfl)
theorem ns_nil (l : List Nat) : eqD (encNs l) (.lst []) = some l.isEmpty := by
  have : encNs l = .lst ((l.map fun (k : Nat) => (k : Int)).map D.int) := by simp [encNs]
  rw [this, eqD_nil (layL_ints _)]
  simp
theorem rdy_zero (n : Nat) (rds : Nat → List Nat) : rdy n rds 0 = (List.range n).filter fun k => (rds k).isEmpty := by
  unfold rdy
  have e1 : (List.range n).filter (fun k => !(0 : Nat).testBit k) = List.range n := by simp
  rw [e1]
  congr 1
  funext k
  cases rds k <;> simp
theorem mem_aput {β : Type} {al : List (Nat × β)} {k : Nat} {v : β} {p : Nat × β} (h : p ∈ aput al k v) : p ∈ al ∨ p = (k, v) := by
  unfold aput at h
  split at h
  · obtain ⟨q, h1, h2⟩ := List.mem_map.mp h
    split at h2
    · rename_i e
      exact .inr (by rw [← h2, e])
    · exact .inl (h2 ▸ h1)
  · rcases List.mem_append.mp h with h | h
    · exact .inl h
    · exact .inr (List.mem_singleton.mp h)
@[simp] theorem keyD_int (i : Int) : keyD (.int i) = some (.inl i) := (rfl)
theorem dic1 (k : Key) (d : D) (fr : Fm) : dicR [(k, d)] fr = .ok (.dK [k] [d]) fr := (rfl)
abbrev nI : Nat → D := fun k => .int (k : Int)
theorem r_ready_ok (N : Nat) (st : List D) (L : List (List Nat)) (hn : L.length ≤ 12) (sz : Nat → Nat) (F : Fo L.length (rdL L) sz) :
    ∃ al : List (Nat × List Nat), (cc (N + 2)).fn f__law_r_ready [.lst (L.map encNs), .int (L.length : Int)] st = .ok (encDk encNs al) st ∧ (al.map (·.1)).Nodup ∧ (∀ p ∈ al, Ideal L.length (rdL L) p.1 ∧ p.2 = rdy L.length (rdL L) p.1) ∧
      (∀ S, Ideal L.length (rdL L) S → S ∈ al.map (·.1)) ∧ al.length ≤ 50000 := by
  generalize hnn : L.length = n at F hn
  have hL : ∀ k, k < n → mAt (L.map encNs) (k : Int) = some (encNs (rdL L k)) := fun k hk => L_ix L k (by omega)
  have hrl : ∀ k, k < n → ∀ r ∈ rdL L k, r < 13 := fun k hk r hr => by have := F.lt k hk r hr; omega
  have hrs : ∀ k, k < n → (rdL L k).length ≤ 1000 := by
    intro k hk
    have h1 : ((List.range n).flatMap (rdL L)).length = n - 1 := by rw [F.once.length_eq]; simp
    have h2 : (rdL L k).length ≤ ((List.range n).flatMap (rdL L)).length := by
      have hm : k ∈ List.range n := List.mem_range.mpr hk
      obtain ⟨a, b, e⟩ := List.append_of_mem hm
      rw [e, List.flatMap_append, List.flatMap_cons]
      simp
      omega
    omega
  have hrdl : ∀ S, (rdy n (rdL L) S).length ≤ 12 := by
    intro S
    have h1 := List.length_filter_le (fun k => (rdL L k).all fun r => S.testBit r) ((List.range n).filter fun k => !S.testBit k)
    have h2 := List.length_filter_le (fun k => !S.testBit k) (List.range n)
    rw [List.length_range] at h2
    unfold rdy
    omega
  suffices H : Wc ((cc (N + 2)).fn f__law_r_ready [.lst (L.map encNs), .int (n : Int)] st) fun v st' => st' = st ∧ ∃ al : List (Nat × List Nat), v = encDk encNs al ∧ (al.map (·.1)).Nodup ∧ (∀ p ∈ al, Ideal n (rdL L) p.1 ∧ p.2 = rdy n (rdL L) p.1) ∧
      (∀ S, Ideal n (rdL L) S → S ∈ al.map (·.1)) ∧ al.length ≤ 50000 by
    obtain ⟨_, _, e, rfl, al, rfl, h⟩ := H
    exact ⟨al, e, h⟩
  refine fn_Q d__law_r_ready rfl rfl fun Q hQ => ?_
  have hb := bits_ok' N st
  have hrng : ∀ fr, rngR (.int (n : Int)) fr = .ok ((List.range n).map nI) fr := fun fr => rngR_nat n fr (by omega)
  simp [d__law_r_ready, hb, hrng, evalEs, evalPs, evalC, evalAnd, evalOr, bind_assoc, evalPar, evalKV, bind_ok, bind_stk, ofRC_ok, noExc_ok, unS, wipeE, backE, noOwn, derefs, List.replicate]
  rw [compL_map nI (fun k => if rdL L k = [] then some (nI k) else none)]
  · simp [dic1, evalEs, evalPs, evalC, evalAnd, evalOr, bind_assoc, evalPar, evalKV, bind_ok, bind_stk, ofRC_ok, noExc_ok, unS, wipeE, backE, noOwn, derefs, List.replicate]
    have hd : D.dK [.inl 0] [.lst ((List.range n).filterMap fun k => if rdL L k = [] then some (nI k) else none)] = encDk encNs [(0, rdy n (rdL L) 0)] := by
      have := filterMap_if (fun k => (rdL L k).isEmpty) nI (List.range n)
      simp only [List.isEmpty_iff] at this
      rw [this, rdy_zero]
      rfl
    rw [hd]
    have hbn := bit_ix' n (by omega)
    have hr2 : ∀ fr, rngR (.int (pw n)) fr = .ok ((List.range (2 ^ n)).map nI) fr := fun fr => rngR_nat (2 ^ n) fr (by have := two_pow_lt (i := n) (by omega); omega)
    have h2n : 2 ^ n ≤ 2 ^ 12 := Nat.pow_le_pow_right (by decide) hn
    rw [hbn, opt_some, bind_ok, hr2, bind_ok]
    refine W_forE nI (List.range (2 ^ n)) (fun pre fr => ∃ (al : List (Nat × List Nat)) (a4 a5 a6 a7 : Sl), fr = ⟨[.val (.lst (L.map encNs)), .val (.int (n : Int)), .val (.lst bitsL), .own (encDk encNs al), a4, a5, a6, a7, .un, .un], st⟩ ∧ (al.map (·.1)).Nodup ∧
      (∀ p ∈ al, Ideal n (rdL L) p.1 ∧ p.2 = rdy n (rdL L) p.1) ∧ 0 ∈ al.map (·.1) ∧ (∀ S, S < pre.length → S ∈ al.map (·.1) → ∀ k ∈ rdy n (rdL L) S, S + 2 ^ k ∈ al.map (·.1)) ∧ al.length ≤ 1 + 12 * pre.length) ?_ ?_ ?_
    · refine ⟨_, _, _, _, _, rfl, by simp, ?_, by simp, fun S h => by simp at h, by simp⟩
      intro p hp
      rw [List.mem_singleton.mp hp]
      exact ⟨F.ideal0, rfl⟩
    · rintro pre S post fr e ⟨al, a4, a5, a6, a7, rfl, hnd, hal, h0, hcl, hlen⟩ R hR
      have hpl : pre.length + 1 ≤ 4096 ∧ S = pre.length := by
        have h1 := congrArg List.length e
        have h2 := congrArg (fun l => l[pre.length]?) e
        simp at h1
        have h3 : pre.length < 2 ^ n := by omega
        simp [h3] at h2
        exact ⟨by omega, h2.symm⟩
      obtain ⟨hpl, hS⟩ := hpl
      -- the row of S
      obtain ⟨ks, hks, hksr, hksn⟩ : ∃ ks : List Nat, ((alook al S).map encNs).getD (.lst []) = encNs ks ∧ (∀ k ∈ ks, S ∈ al.map (·.1) ∧ k ∈ rdy n (rdL L) S) ∧ (S ∈ al.map (·.1) → ks = rdy n (rdL L) S) := by
        cases ea : alook al S with
        | none =>
          refine ⟨[], rfl, by simp, fun h => ?_⟩
          rw [← alook_some, ea] at h
          cases h
        | some l =>
          have hm := alook_mem ea
          have := (hal _ hm).2
          simp only at this
          refine ⟨l, rfl, fun k hk => ⟨List.mem_map.mpr ⟨_, hm, rfl⟩, by rw [← this]; exact hk⟩, fun _ => this⟩
      have hkl : ks.length ≤ 12 := by
        cases ks with
        | nil => simp
        | cons k ks' =>
          have := hksn (hksr k (by simp)).1
          rw [this]
          exact hrdl S
      unfold forT
      simp [hks, evalEs, evalPs, evalC, evalAnd, evalOr, bind_assoc, evalPar, evalKV, bind_ok, bind_stk, ofRC_ok, noExc_ok, unS, wipeE, backE, noOwn, derefs, List.replicate]
      refine W_forE nI ks (fun pre2 fr => ∃ (al2 : List (Nat × List Nat)) (a5 a6 a7 : Sl), fr = ⟨[.val (.lst (L.map encNs)), .val (.int (n : Int)), .val (.lst bitsL), .own (encDk encNs al2), .val (.int (S : Int)), a5, a6, a7, .un, .un], st⟩ ∧ (al2.map (·.1)).Nodup ∧
        (∀ p ∈ al2, Ideal n (rdL L) p.1 ∧ p.2 = rdy n (rdL L) p.1) ∧ 0 ∈ al2.map (·.1) ∧ (∀ T, T < pre.length → T ∈ al2.map (·.1) → ∀ k ∈ rdy n (rdL L) T, T + 2 ^ k ∈ al2.map (·.1)) ∧ (∀ T, T ≤ S → T ∈ al2.map (·.1) → T ∈ al.map (·.1)) ∧
        (∀ T, T ∈ al.map (·.1) → T ∈ al2.map (·.1)) ∧ (∀ k ∈ pre2, S + 2 ^ k ∈ al2.map (·.1)) ∧ al2.length ≤ al.length + pre2.length) ?_ ?_ ?_
      · exact ⟨al, _, _, _, rfl, hnd, hal, h0, hcl, fun _ _ h => h, fun _ h => h, by simp, by simp⟩
      · rintro pre2 k post2 fr e2 ⟨al2, a5, a6, a7, rfl, hnd2, hal2, h02, hcl2, hle2, hge2, hk2, hlen2⟩ R hR
        have hp2 : pre2.length + 1 ≤ 12 := by
          have := congrArg List.length e2
          simp at this
          omega
        obtain ⟨hSm, hkr⟩ := hksr k (by rw [e2]; simp)
        obtain ⟨q, hq1, hq2⟩ := List.mem_map.mp hSm
        have hI := (hal q hq1).1
        rw [hq2] at hI
        obtain ⟨hkn, hkb, hI2⟩ := F.grow hI hkr
        have hbk := bit_ix' k (by omega)
        have hadd := pw_add S k
        generalize hT : S + 2 ^ k = T at hadd hI2
        unfold forT
        simp [hbk, hadd, hrng, evalEs, evalPs, evalC, evalAnd, evalOr, bind_assoc, evalPar, evalKV, bind_ok, bind_stk, ofRC_ok, noExc_ok, unS, wipeE, backE, noOwn, derefs, List.replicate]
        by_cases hno : alook al2 T = none
        · rw [if_pos hno, compL_map nI (fun one => if (!T.testBit one) = true then some (nI one) else none), filterMap_if, List.nil_append]
          · generalize hfr : (List.range n).filter (fun k => !T.testBit k) = free
            have hfrm : ∀ k ∈ free, k < n := fun k hk => by
              rw [← hfr] at hk
              exact List.mem_range.mp (List.mem_filter.mp hk).1
            have hfl : free.length ≤ 12 := by
              have := List.length_filter_le (fun k => !T.testBit k) (List.range n)
              rw [hfr, List.length_range] at this
              omega
            simp [evalEs, evalPs, evalC, evalAnd, evalOr, bind_assoc, evalPar, evalKV, bind_ok, bind_stk, ofRC_ok, noExc_ok, unS, wipeE, backE, noOwn, derefs, List.replicate]
            rw [compL_map nI (fun one => if ((rdL L one).all fun r => T.testBit r) = true then some (nI one) else none), filterMap_if, List.nil_append]
            · have hrdy : (free.filter fun one => (rdL L one).all fun r => T.testBit r) = rdy n (rdL L) T := by
                rw [← hfr]; rfl
              have hset : setD (encDk encNs al2) (.int (T : Int)) (.lst ((rdy n (rdL L) T).map nI)) = _ := set_dk encNs al2 T (rdy n (rdL L) T) (sz_lt (by omega))
              rw [hrdy]
              simp [hset, evalEs, evalPs, evalC, evalAnd, evalOr, bind_assoc, evalPar, evalKV, bind_ok, bind_stk, ofRC_ok, noExc_ok, unS, wipeE, backE, noOwn, derefs, List.replicate]
              refine hR _ ⟨aput al2 T (rdy n (rdL L) T), _, _, _, rfl, nodup_put hnd2 _ _, ?_, ?_, ?_, ?_, ?_, ?_, ?_⟩
              · intro p hp
                rcases mem_aput hp with hp | rfl
                · exact hal2 p hp
                · exact ⟨hI2, rfl⟩
              · rw [mem_put]; exact .inr h02
              · intro T' hT' hm j hj
                rw [mem_put] at hm ⊢
                rcases hm with rfl | hm
                · have := Nat.two_pow_pos k
                  omega
                · exact .inr (hcl2 T' hT' hm j hj)
              · intro T' hT' hm
                rw [mem_put] at hm
                rcases hm with rfl | hm
                · have := Nat.two_pow_pos k
                  omega
                · exact hle2 T' hT' hm
              · intro T' hm
                rw [mem_put]
                exact .inr (hge2 _ hm)
              · intro j hj
                rw [mem_put]
                rcases List.mem_append.mp hj with hj | hj
                · exact .inr (hk2 j hj)
                · rw [List.mem_singleton.mp hj]
                  exact .inl hT
              · have := len_put al2 T (rdy n (rdL L) T)
                simp
                omega
            · intro one hone
              have h1 := hL one (hfrm one hone)
              have h2 : compL (lcT (cc (N + 1)) [9] (.nm 9) [] (.cmp .eq (.bin .mod (.bin .fdiv (.var 6) (.ix (.var 2) (.var 9))) (.con (.int 2))) (.con (.int 1)))) ((rdL L one).map nI) [] ⟨[.val (.lst (L.map encNs)), .val (.int (n : Int)), .val (.lst bitsL), .own (encDk encNs al2), .val (.int (S : Int)), .val (nI k), .val (.int (T : Int)), .val (.lst (free.map nI)), .val (nI one), .un], st⟩ = .ok ((rdL L one).map fun r => .bl (T.testBit r)) ⟨[.val (.lst (L.map encNs)), .val (.int (n : Int)), .val (.lst bitsL), .own (encDk encNs al2), .val (.int (S : Int)), .val (nI k), .val (.int (T : Int)), .val (.lst (free.map nI)), .val (nI one), .un], st⟩ := by
                rw [compL_map nI (fun r => some (.bl (T.testBit r)))]
                · simp
                · intro r hr
                  have hr13 := hrl one (hfrm one hone) r hr
                  have h3 := bit_ix' r hr13
                  have h4 := fd_bit T r hr13
                  have h5 := tb_int T r
                  unfold lcT
                  simp [h3, h4, h5, evalEs, evalPs, evalC, evalAnd, evalOr, bind_assoc, evalPar, evalKV, bind_ok, bind_stk, ofRC_ok, noExc_ok, unS, wipeE, backE, noOwn, derefs, List.replicate]
                · have := hrs one (hfrm one hone)
                  exact sz_le (by simp; omega)
              have h6 := bools_map (fun r => T.testBit r) (rdL L one)
              unfold lcT
              simp [h1, h2, h6, evalEs, evalPs, evalC, evalAnd, evalOr, bind_assoc, evalPar, evalKV, bind_ok, bind_stk, ofRC_ok, noExc_ok, unS, wipeE, backE, noOwn, derefs, List.replicate]
              split <;> rfl
            · exact sz_le (by simp; omega)
          · intro one hone
            have hone := List.mem_range.mp hone
            have h3 := bit_ix' one (by omega)
            have h4 := fd_bit T one (by omega)
            have h5 := tb_int0 T one
            unfold lcT
            simp [h3, h4, h5, evalEs, evalPs, evalC, evalAnd, evalOr, bind_assoc, evalPar, evalKV, bind_ok, bind_stk, ofRC_ok, noExc_ok, unS, wipeE, backE, noOwn, derefs, List.replicate]
            split <;> rfl
          · exact sz_le (by simp; omega)
        · rw [if_neg hno]
          simp [evalEs, evalPs, evalC, evalAnd, evalOr, bind_assoc, evalPar, evalKV, bind_ok, bind_stk, ofRC_ok, noExc_ok, unS, wipeE, backE, noOwn, derefs, List.replicate]
          refine hR _ ⟨al2, _, _, _, rfl, hnd2, hal2, h02, hcl2, hle2, hge2, fun j hj => ?_, by simp; omega⟩
          rcases List.mem_append.mp hj with hj | hj
          · exact hk2 j hj
          · rw [List.mem_singleton.mp hj, hT]
            rw [← alook_some]
            cases hz : alook al2 T with
            | none => exact (hno hz).elim
            | some _ => rfl
      · rintro fr ⟨al2, a5, a6, a7, rfl, hnd2, hal2, h02, hcl2, hle2, hge2, hk2, hlen2⟩
        simp [evalEs, evalPs, evalC, evalAnd, evalOr, bind_assoc, evalPar, evalKV, bind_ok, bind_stk, ofRC_ok, noExc_ok, unS, wipeE, backE, noOwn, derefs, List.replicate]
        refine hR _ ⟨al2, _, _, _, _, rfl, hnd2, hal2, h02, fun T hT hm j hj => ?_, by simp; omega⟩
        simp only [List.length_append, List.length_singleton] at hT
        by_cases hTS : T = S
        · subst hTS
          have h1 := hle2 T (Nat.le_refl _) hm
          rw [← hksn h1] at hj
          exact hk2 j hj
        · exact hcl2 T (by omega) hm j hj
    · rintro fr ⟨al, a4, a5, a6, a7, rfl, hnd, hal, h0, hcl, hlen⟩
      simp [evalEs, evalPs, evalC, evalAnd, evalOr, bind_assoc, evalPar, evalKV, bind_ok, bind_stk, ofRC_ok, noExc_ok, unS, wipeE, backE, noOwn, derefs, List.replicate]
      refine hQ _ _ ⟨rfl, al, rfl, hnd, hal, fun S hS => ?_, by simp at hlen; omega⟩
      have hlen0 : (List.range (2 ^ n)).length = 2 ^ n := List.length_range
      exact F.reach (fun S => S ∈ al.map (·.1)) h0 (fun S k hS hlt hk => hcl S (by omega) hS k hk) _ S (Nat.le_refl _) hS
  · intro k hk
    have hk := List.mem_range.mp hk
    have h1 := hL k hk
    have h2 := ns_nil (rdL L k)
    unfold lcT
    simp [h1, h2, evalEs, evalPs, evalC, evalAnd, evalOr, bind_assoc, evalPar, evalKV, bind_ok, bind_stk, ofRC_ok, noExc_ok, unS, wipeE, backE, noOwn, derefs, List.replicate]
    by_cases hc : rdL L k = [] <;> simp [hc]
  · exact sz_le (by simp; omega)
end K81
end Mr
end
section
set_option linter.all false
set_option backward.isDefEq.respectTransparency false
set_option maxRecDepth 100000
namespace Mr
open PySem
namespace K81
/-! Z13: all orders counted -/
theorem insI_perm (i : Int) : ∀ js, (insI i js).Perm (i :: js)
  | [] => List.Perm.refl _
  | j :: js => by
    unfold insI
    split
    · exact List.Perm.refl _
    · exact ((insI_perm i js).cons j).trans (List.Perm.swap i j js)
theorem sortI_perm : ∀ js, (sortI js).Perm js
  | [] => List.Perm.refl _
  | j :: js => (insI_perm j (sortI js)).trans ((sortI_perm js).cons j)
theorem insI_sorted (i : Int) : ∀ {js : List Int}, js.Pairwise (· ≤ ·) → (insI i js).Pairwise (· ≤ ·)
  | [], _ => by simp [insI]
  | j :: js, h => by
    unfold insI
    rw [List.pairwise_cons] at h
    split
    · rename_i hij
      rw [List.pairwise_cons, List.pairwise_cons]
      refine ⟨fun x hx => ?_, h⟩
      rcases List.mem_cons.mp hx with rfl | hx
      · exact hij
      · have := h.1 x hx; omega
    · rename_i hij
      rw [List.pairwise_cons]
      refine ⟨fun x hx => ?_, insI_sorted i h.2⟩
      rcases List.mem_cons.mp ((insI_perm i js).subset hx) with rfl | hx
      · omega
      · exact h.1 x hx
theorem sortI_sorted : ∀ js : List Int, (sortI js).Pairwise (· ≤ ·)
  | [] => by simp [sortI]
  | j :: js => insI_sorted j (sortI_sorted js)
theorem keysI_al {β : Type} : ∀ al : List (Nat × β), keysI (al.map fun p => .inl (p.1 : Int)) = some ((al.map (·.1)).map fun (k : Nat) => (k : Int))
  | [] => rfl
  | p :: al => by simp only [List.map_cons, keysI, keysI_al al]; rfl
/-- the keys in order -/
theorem sorted_dk {β : Type} (enc : β → D) (al : List (Nat × β)) : ∃ ns : List Nat, bfD .sorted [encDk enc al] = some (.lst (ns.map nI)) ∧ ns.Perm (al.map (·.1)) ∧ ns.Pairwise (· ≤ ·) := by
  obtain ⟨ns, h1, h2⟩ := perm_map (fun (k : Nat) => (k : Int)) (sortI_perm ((al.map (·.1)).map fun (k : Nat) => (k : Int))) (al.map (·.1)) rfl
  refine ⟨ns, ?_, h1, ?_⟩
  · show sortedD (.dK (al.map fun p => .inl (p.1 : Int)) (al.map fun p => enc p.2)) = _
    unfold sortedD
    simp only [keysI_al]
    rw [h2, List.map_map]
    rfl
  · have := sortI_sorted ((al.map (·.1)).map fun (k : Nat) => (k : Int))
    rw [h2, List.pairwise_map] at this
    exact this.imp (fun h => by omega)
theorem rdy_nodup (n : Nat) (rds : Nat → List Nat) (S : Nat) : (rdy n rds S).Nodup := by
  unfold rdy
  exact (List.nodup_range.filter _).filter _
@[simp] theorem get_dk0 (al : List (Nat × Nat)) (k : Nat) : ((alook al k).map nI).getD (.int 0) = .int (((alook al k).getD 0 : Nat) : Int) := by
  cases alook al k <;> rfl
theorem full_card (n : Nat) : cardS n (2 ^ n - 1) = n := by
  unfold cardS
  rw [sm_congr (g := fun _ => 1) (fun i hi => by rw [Nat.testBit_two_pow_sub_one]; simp [hi])]
  induction n with
  | zero => rfl
  | succ n ih => simp only [sm]; rw [ih]
theorem full_pd (n : Nat) (sz : Nat → Nat) : pdS n sz (2 ^ n - 1) = pd n sz := by
  unfold pdS
  exact pd_congr (fun i hi => by rw [Nat.testBit_two_pow_sub_one]; simp [hi])
theorem all_orders_ok (N : Nat) (st : List D) (rows : List FR) (hn : rows.length ≤ 12) (ho : ∀ f ∈ rows, f.ops.length ≤ 1000) (sz : Nat → Nat) (F : Fo rows.length (rdL (rows.map FR.reads)) sz) :
    ∃ w : Nat, (cc (N + 3)).fn f__law_all_orders [.lst (rows.map FR.enc)] st = .ok (.int (w : Int)) st ∧ w * pd rows.length sz = fct rows.length := by
  have hLl : (rows.map FR.reads).length = rows.length := List.length_map ..
  obtain ⟨al, e1, hnd, hal, hid, hall⟩ := r_ready_ok N st (rows.map FR.reads) (by rw [hLl]; exact hn) sz (by rw [hLl]; exact F)
  rw [hLl] at hal hid e1
  have e2 := r_reads_ok (N + 1) st rows (by omega) ho
  have e3 := bits_ok' (N + 1) st
  have em : ((rows.map FR.reads).map encNs) = rows.map fun f => encNs f.reads := by rw [List.map_map]; rfl
  rw [em] at e1
  obtain ⟨ns, hs1, hs2, hs3⟩ := sorted_dk encNs al
  suffices H : Wc ((cc (N + 3)).fn f__law_all_orders [.lst (rows.map FR.enc)] st) fun v st' => st' = st ∧ ∃ w : Nat, v = .int (w : Int) ∧ w * pd rows.length sz = fct rows.length by
    obtain ⟨_, _, e, rfl, w, rfl, h⟩ := H
    exact ⟨w, e, h⟩
  refine fn_Q d__law_all_orders rfl rfl fun Q hQ => ?_
  have hw0 : D.dK [.inl 0] [.int 1] = encDk nI [(0, 1)] := rfl
  generalize hrd : rdL (rows.map FR.reads) = rds at F hal hid
  generalize hnn : rows.length = n at F hal hid e1 hn
  simp [d__law_all_orders, e2, e1, e3, dic1, hnn, evalEs, evalPs, evalC, evalAnd, evalOr, bind_assoc, evalPar, evalKV, bind_ok, bind_stk, ofRC_ok, noExc_ok, unS, wipeE, backE, noOwn, derefs, List.replicate]
  rw [hw0]
  simp [hs1, evalEs, evalPs, evalC, evalAnd, evalOr, bind_assoc, evalPar, evalKV, bind_ok, bind_stk, ofRC_ok, noExc_ok, unS, wipeE, backE, noOwn, derefs, List.replicate]
  have hsz : ∀ S, Ideal n rds S → 0 < fct (cardS n S) := fun _ _ => fct_pos _
  have hdone : ∀ (pre : List Nat) (T : Nat) (post : List Nat), ns = pre ++ T :: post → (∀ S ∈ pre, Ideal n rds S) ∧ Ideal n rds T ∧ T ∉ pre ∧ ∀ S, Ideal n rds S → S < T → S ∈ pre := by
    intro pre T post e
    have hI : ∀ S ∈ ns, Ideal n rds S := fun S hS => by
      obtain ⟨p, h1, h2⟩ := List.mem_map.mp (hs2.subset hS)
      rw [← h2]
      exact (hal p h1).1
    refine ⟨fun S hS => hI S (by rw [e]; simp [hS]), hI T (by rw [e]; simp), ?_, fun S hS hlt => ?_⟩
    · have := hs2.nodup_iff.mpr hnd
      rw [e, List.nodup_append] at this
      intro hT
      exact this.2.2 T hT T (by simp) rfl
    · have hm : S ∈ ns := hs2.symm.subset (hid S hS)
      rw [e] at hm hs3
      rcases List.mem_append.mp hm with h | h
      · exact h
      · rw [List.pairwise_append] at hs3
        rcases List.mem_cons.mp h with rfl | h
        · omega
        · have := (List.pairwise_cons.mp hs3.2.1).1 S h
          omega
  have hnl : ns.length ≤ 50000 := by rw [hs2.length_eq]; simpa using hall
  refine W_forE nI ns (fun pre fr => ∃ (wl : List (Nat × Nat)) (a4 a5 : Sl), fr = ⟨[.val (.lst (rows.map FR.enc)), .val (encDk encNs al), .val (.lst bitsL), .own (encDk nI wl), a4, a5], st⟩ ∧ Cnt n rds sz pre (fun S => (alook wl S).getD 0) ∧ wl.length ≤ 1 + 12 * pre.length) ?_ ?_ ?_
  · refine ⟨_, _, _, rfl, ⟨rfl, fun S hS => ?_⟩, by simp⟩
    have : alook [(0, 1)] S = none := by
      have : (0 == S) = false := by simp; omega
      simp [alook, this]
    rw [this]
    simp only [Option.getD_none, Nat.zero_mul]
    exact ((sm_congr (g := fun _ => 0) fun k _ => by simp [term]).trans (sm_zero n)).symm
  · rintro pre T post fr e ⟨wl, a4, a5, rfl, hC, hwl⟩ R hR
    obtain ⟨hp1, hI, hnp, hlt⟩ := hdone pre T post e
    have hpl : pre.length + 1 ≤ 50000 := by
      have := congrArg List.length e
      simp at this
      omega
    have hd := F.done hC hp1 hI hlt
    have hTm : T ∈ al.map (·.1) := hid T hI
    obtain ⟨l, hl⟩ : ∃ l, alook al T = some l := Option.isSome_iff_exists.mp (alook_some.mpr hTm)
    have hlr := (hal _ (alook_mem hl)).2
    simp only at hlr
    subst hlr
    have hGT : ∃ g, alook wl T = some g := by
      cases hz : alook wl T with
      | some g => exact ⟨g, rfl⟩
      | none =>
        simp only [hz, Option.getD_none, Nat.zero_mul] at hd
        have := fct_pos (cardS n T)
        omega
    obtain ⟨g, hg⟩ := hGT
    have hrl : (rdy n rds T).length ≤ 12 := by
      have h1 := List.length_filter_le (fun k => (rds k).all fun r => T.testBit r) ((List.range n).filter fun k => !T.testBit k)
      have h2 := List.length_filter_le (fun k => !T.testBit k) (List.range n)
      rw [List.length_range] at h2
      unfold rdy
      omega
    unfold forT
    simp [hl, evalEs, evalPs, evalC, evalAnd, evalOr, bind_assoc, evalPar, evalKV, bind_ok, bind_stk, ofRC_ok, noExc_ok, unS, wipeE, backE, noOwn, derefs, List.replicate]
    refine W_forE nI (rdy n rds T) (fun pre2 fr => ∃ (w2 : List (Nat × Nat)) (a5 : Sl), fr = ⟨[.val (.lst (rows.map FR.enc)), .val (encDk encNs al), .val (.lst bitsL), .own (encDk nI w2), .val (.int (T : Int)), a5], st⟩ ∧ (∀ S, (alook w2 S).getD 0 = (alook wl S).getD 0 + if pre2.any (fun k => decide (S = T + 2 ^ k)) = true then g else 0) ∧ alook w2 T = some g ∧ w2.length ≤ wl.length + pre2.length) ?_ ?_ ?_
    · exact ⟨wl, _, rfl, by simp, hg, by simp⟩
    · rintro pre2 k post2 fr e2 ⟨w2, a5, rfl, hw2, hgt, hl2⟩ R hR
      have hp2 : pre2.length + 1 ≤ 12 := by
        have := congrArg List.length e2
        simp at this
        omega
      have hk : k ∈ rdy n rds T := by rw [e2]; simp
      obtain ⟨hkn, hkb, hI2⟩ := F.grow hI hk
      have hb := bit_ix' k (by omega)
      have hadd := pw_add T k
      have hnk : k ∉ pre2 := by
        have := rdy_nodup n rds T
        rw [e2, List.nodup_append] at this
        intro h
        exact this.2.2 k h k (by simp) rfl
      have hpw := Nat.two_pow_pos k
      have hset := set_dk nI w2 (T + 2 ^ k) ((alook w2 (T + 2 ^ k)).getD 0 + g) (sz_lt (by omega))
      have hcast : nI ((alook w2 (T + 2 ^ k)).getD 0 + g) = .int (((alook w2 (T + 2 ^ k)).getD 0 : Nat) + (g : Int)) := by simp
      rw [hcast] at hset
      have hneT : T ≠ T + 2 ^ k := by omega
      have hzk : pre2.any (fun j => decide (T + 2 ^ k = T + 2 ^ j)) = false := by
        rw [List.any_eq_false]
        intro j hj
        simp only [decide_eq_true_eq]
        intro z
        have : 2 ^ k = 2 ^ j := by omega
        have := (Nat.pow_right_inj (by decide)).mp this
        subst this
        exact hnk hj
      have hnew : ∀ S, (alook (aput w2 (T + 2 ^ k) ((alook w2 (T + 2 ^ k)).getD 0 + g)) S).getD 0 = (alook wl S).getD 0 + if (pre2 ++ [k]).any (fun k => decide (S = T + 2 ^ k)) = true then g else 0 := by
        intro S
        rw [alook_put]
        by_cases hS : S = T + 2 ^ k
        · subst hS
          rw [if_pos rfl, Option.getD_some, hw2, if_neg (by rw [hzk]; simp), if_pos (by simp), Nat.add_zero]
        · rw [if_neg hS, hw2]
          simp [hS]
      have hgt2 : alook (aput w2 (T + 2 ^ k) ((alook w2 (T + 2 ^ k)).getD 0 + g)) T = some g := by
        rw [alook_put, if_neg hneT, hgt]
      have hln := len_put w2 (T + 2 ^ k) ((alook w2 (T + 2 ^ k)).getD 0 + g)
      generalize aput w2 (T + 2 ^ k) ((alook w2 (T + 2 ^ k)).getD 0 + g) = w3 at hset hnew hgt2 hln
      generalize T + 2 ^ k = U at hadd hset
      unfold forT
      simp [hb, hadd, hgt, hset, evalEs, evalPs, evalC, evalAnd, evalOr, bind_assoc, evalPar, evalKV, bind_ok, bind_stk, ofRC_ok, noExc_ok, unS, wipeE, backE, noOwn, derefs, List.replicate]
      exact hR _ ⟨w3, _, rfl, hnew, hgt2, by simp; omega⟩
    · rintro fr ⟨w2, a5, rfl, hw2, hgt, hl2⟩
      simp [evalEs, evalPs, evalC, evalAnd, evalOr, bind_assoc, evalPar, evalKV, bind_ok, bind_stk, ofRC_ok, noExc_ok, unS, wipeE, backE, noOwn, derefs, List.replicate]
      refine hR _ ⟨w2, _, _, rfl, ?_, by simp; omega⟩
      refine F.step hC hI hnp hd fun S => ?_
      rw [hw2 S]
      simp [hg]
  · rintro fr ⟨wl, a4, a5, rfl, hC, hwl⟩
    have hIf := F.ideal_full
    have hd := F.done hC (fun S hS => by
      obtain ⟨p, h1, h2⟩ := List.mem_map.mp (hs2.subset hS)
      rw [← h2]
      exact (hal p h1).1) hIf (fun S hS _ => hs2.symm.subset (hid S hS))
    rw [full_card, full_pd] at hd
    have hb := bit_ix' n (by omega)
    have hsub : pw n - 1 = ((2 ^ n - 1 : Nat) : Int) := by
      have := Nat.two_pow_pos n
      rw [pw_def]
      omega
    obtain ⟨w, hw⟩ : ∃ w, alook wl (2 ^ n - 1) = some w := by
      cases hz : alook wl (2 ^ n - 1) with
      | some g => exact ⟨g, rfl⟩
      | none =>
        simp only [hz, Option.getD_none, Nat.zero_mul] at hd
        have := fct_pos n
        omega
    simp only [hw, Option.getD_some] at hd
    generalize 2 ^ n - 1 = U at hsub hw
    simp [hb, hsub, hw, hnn, evalEs, evalPs, evalC, evalAnd, evalOr, bind_assoc, evalPar, evalKV, bind_ok, bind_stk, ofRC_ok, noExc_ok, unS, wipeE, backE, noOwn, derefs, List.replicate]
    exact hQ _ _ ⟨rfl, w, rfl, by rw [hnn]; exact hd⟩
end K81
end Mr
end
section
set_option linter.all false
set_option backward.isDefEq.respectTransparency false
set_option maxRecDepth 100000
namespace Mr
open PySem
namespace K81
/-! Z14: sizes -/
def szl (L : List (List Nat)) : List Nat := L.foldl (fun acc l => acc ++ [1 + (l.map fun r => acc.getD r 0).sum]) []
theorem szl_snoc (L : List (List Nat)) (l : List Nat) : szl (L ++ [l]) = szl L ++ [1 + (l.map fun r => (szl L).getD r 0).sum] := by
  unfold szl
  rw [List.foldl_append]
  rfl
theorem rev_ind {α : Type} {P : List α → Prop} (h0 : P []) (h1 : ∀ l a, P l → P (l ++ [a])) (l : List α) : P l := by
  have : ∀ m : List α, P m.reverse := by
    intro m
    induction m with
    | nil => exact h0
    | cons a m ih => rw [List.reverse_cons]; exact h1 _ _ ih
  have h := this l.reverse
  rwa [List.reverse_reverse] at h
theorem szl_len : ∀ L : List (List Nat), (szl L).length = L.length := by
  intro L
  refine rev_ind (P := fun L => (szl L).length = L.length) rfl (fun L l ih => ?_) L
  rw [szl_snoc]; simp [ih]
theorem szl_pre (L M : List (List Nat)) (i : Nat) (h : i < L.length) : (szl (L ++ M)).getD i 0 = (szl L).getD i 0 := by
  refine rev_ind (P := fun M => (szl (L ++ M)).getD i 0 = (szl L).getD i 0) (by simp) (fun M m ih => ?_) M
  rw [← ih, ← List.append_assoc, szl_snoc, List.getD_eq_getElem?_getD, List.getD_eq_getElem?_getD, List.getElem?_append_left (by rw [szl_len]; simp; omega)]
def szf (L : List (List Nat)) (i : Nat) : Nat := (szl L).getD i 0
theorem szf_eq (L : List (List Nat)) (h : ∀ i, i < L.length → ∀ r ∈ rdL L i, r < i) : ∀ i, i < L.length → szf L i = 1 + ((rdL L i).map (szf L)).sum := by
  intro i hi
  have e : L = L.take i ++ L[i] :: L.drop (i + 1) := by rw [← List.drop_eq_getElem_cons hi, List.take_append_drop]
  have hl : (L.take i).length = i := by simp; omega
  have hr : rdL L i = L[i] := by unfold rdL; simp [List.getElem?_eq_getElem hi]
  have e2 : L = (L.take i ++ [L[i]]) ++ L.drop (i + 1) := by rw [List.append_assoc]; exact e
  have h1 : szf L i = (szl (L.take i ++ [L[i]])).getD i 0 := by
    unfold szf
    conv => lhs; rw [e2]
    exact szl_pre _ _ _ (by rw [List.length_append, hl]; simp)
  rw [h1, szl_snoc, List.getD_eq_getElem?_getD, List.getElem?_append_right (by rw [szl_len, hl]; exact Nat.le_refl _), szl_len, hl, Nat.sub_self, hr]
  simp only [List.getElem?_cons_zero, Option.getD_some]
  congr 2
  apply List.map_congr_left
  intro r hrr
  have hri : r < i := h i hi r (by rw [hr]; exact hrr)
  unfold szf
  conv => rhs; rw [e]
  exact (szl_pre _ _ _ (by omega)).symm
theorem flat_range : ∀ (L : List (List Nat)), (List.range L.length).flatMap (rdL L) = L.flatten := by
  intro L
  have : (List.range L.length).map (rdL L) = L := by
    apply List.ext_getElem
    · simp
    · intro i h1 h2
      simp [rdL, List.getElem?_eq_getElem h2]
  rw [List.flatMap_def, this]
theorem FlatOk.fo {M : List MR} {rows : List FR} {pl : Str} (h : FlatOk M rows pl) : Fo rows.length (rdL (rows.map FR.reads)) (szf (rows.map FR.reads)) := by
  have hl : (rows.map FR.reads).length = rows.length := List.length_map ..
  obtain ⟨init, f, e, _⟩ := h.last
  have hlt : ∀ i, i < rows.length → ∀ r ∈ rdL (rows.map FR.reads) i, r < i := by
    intro i hi r hr
    have e1 : rdL (rows.map FR.reads) i = (rows[i]).reads := by unfold rdL; simp [List.getElem?_eq_getElem hi]
    rw [e1] at hr
    have hro := h.row i rows[i] (List.getElem?_eq_getElem hi)
    unfold FR.reads at hr
    obtain ⟨o, ho, hoe⟩ := List.mem_filterMap.mp hr
    obtain ⟨j, hj⟩ := List.getElem_of_mem ho
    obtain ⟨hjl, hj⟩ := hj
    have hz : ((rows[i]).r.p.lv[j]'(by rw [← hro.l]; exact hjl), o) ∈ (rows[i]).r.p.lv.zip (rows[i]).ops := by
      rw [List.mem_iff_getElem]
      refine ⟨j, by simp; rw [← hro.l]; omega, ?_⟩
      simp [hj]
    have := hro.o _ hz
    cases o with
    | num _ => simp [Op.rd] at hoe
    | wd _ => simp [Op.rd] at hoe
    | row k =>
      simp [Op.rd] at hoe
      subst hoe
      exact this.2.1
  refine ⟨by rw [e]; simp, hlt, ?_, fun i hi => szf_eq _ (by rw [hl]; exact hlt) i (by rw [hl]; exact hi)⟩
  have e2 := flat_range (rows.map FR.reads)
  rw [hl] at e2
  rw [e2]
  have e3 : (rows.map FR.reads).flatten = allReads rows := by unfold allReads; rw [List.flatMap_def]
  rw [e3]
  exact h.once
def pdl : List Nat → Nat
  | [] => 1
  | x :: xs => x * pdl xs
theorem pdl_app : ∀ xs ys : List Nat, pdl (xs ++ ys) = pdl xs * pdl ys
  | [], ys => by simp [pdl]
  | x :: xs, ys => by simp only [List.cons_append, pdl, pdl_app xs ys, Nat.mul_assoc]
theorem pdl_perm {xs ys : List Nat} (h : xs.Perm ys) : pdl xs = pdl ys := by
  induction h with
  | nil => rfl
  | cons x _ ih => simp only [pdl, ih]
  | swap x y l => simp only [pdl, ← Nat.mul_assoc, Nat.mul_comm x y]
  | trans _ _ h1 h2 => rw [h1, h2]
theorem pd_pdl (f : Nat → Nat) : ∀ n, pd n f = pdl ((List.range n).map f)
  | 0 => rfl
  | n + 1 => by rw [List.range_succ, List.map_append, pdl_app, ← pd_pdl f n]; simp [pd, pdl]
theorem szl_range (L : List (List Nat)) : szl L = (List.range L.length).map (szf L) := by
  apply List.ext_getElem
  · simp [szl_len]
  · intro i h1 h2
    simp [szf, List.getElem?_eq_getElem h1]
theorem sum_cast (f : Nat → Nat) : ∀ l : List Nat, (l.map fun r => ((f r : Nat) : Int)).sum = (((l.map f).sum : Nat) : Int)
  | [] => rfl
  | r :: l => by simp [sum_cast f l]
theorem pdl_mem {x : Nat} : ∀ {xs : List Nat}, (∀ y ∈ xs, 0 < y) → x ∈ xs → x ≤ pdl xs
  | y :: ys, h, hx => by
    have hp : ∀ zs : List Nat, (∀ y ∈ zs, 0 < y) → 0 < pdl zs := by
      intro zs
      induction zs with
      | nil => intro _; simp [pdl]
      | cons z zs ih => intro h; exact Nat.mul_pos (h z (by simp)) (ih fun y hy => h y (by simp [hy]))
    simp only [pdl]
    rcases List.mem_cons.mp hx with rfl | hx
    · exact Nat.le_mul_of_pos_right _ (hp ys fun y hy => h y (by simp [hy]))
    · exact Nat.le_trans (pdl_mem (fun y hy => h y (by simp [hy])) hx) (Nat.le_mul_of_pos_left _ (h y (by simp)))
theorem fct_mono : ∀ {a b : Nat}, a ≤ b → fct a ≤ fct b := by
  intro a b h
  induction h with
  | refl => exact Nat.le_refl _
  | step _ ih => exact Nat.le_trans ih (by simp only [fct]; exact Nat.le_mul_of_pos_right _ (by omega))
theorem fct12 {n : Nat} (h : n ≤ 12) : fct n ≤ 479001600 := Nat.le_trans (fct_mono h) (by decide)
theorem mulOk_small (a : Int) (k : Nat) (h : k ≤ 1000) : mulOk a ((k : Int) + 1) = true := by
        have h1 : (-18446744073709551616 : Int) < (k : Int) + 1 := by omega
        have h2 : (k : Int) + 1 < 18446744073709551616 := by omega
        unfold mulOk
        rw [decide_eq_true h1, decide_eq_true h2]
        simp
theorem mul_turn (N : Nat) (z y : Int) (k : Nat) (a0 a1 a3 a4 : Sl) (st : List D) (hmul : mulOk z ((k : Int) + 1) = true) (hc : z * ((k : Int) + 1) = y) (R : Fl → Fm → Prop) (hR : R .nx ⟨[a0, a1, .val (.int y), a3, .val (.int (k : Int)), .un, .un], st⟩) :
  W (forT (cc N) (.nm 4) [.asg (.nm 2) (.bin .mul (.var 2) (.bin .add (.var 4) (.con (.int 1))))] (.int (k : Int)) ⟨[a0, a1, .val (.int z), a3, a4, .un, .un], st⟩) R := by
  unfold forT
  simp [hmul, evalEs, evalPs, evalC, evalAnd, evalOr, bind_assoc, evalPar, evalKV, bind_ok, bind_stk, ofRC_ok, noExc_ok, unS, wipeE, backE, noOwn, derefs, List.replicate]
  rw [hc]
  exact hR
theorem by_sizes_ok (N : Nat) (st : List D) (M : List MR) (rows : List FR) (pl : Str) (hF : FlatOk M rows pl) (hn : rows.length ≤ 12) (ho : ∀ f ∈ rows, f.ops.length ≤ 1000) (w : Nat)
    (hw : w * pd rows.length (szf (rows.map FR.reads)) = fct rows.length) :
    (cc (N + 3)).fn f__law_by_sizes [.lst (rows.map FR.enc)] st = .ok (.int (w : Int)) st := by
  have F := hF.fo
  have hLl : (rows.map FR.reads).length = rows.length := List.length_map ..
  have e1 := r_reads_ok (N + 1) st rows (by omega) ho
  have em : (rows.map fun f => encNs f.reads) = (rows.map FR.reads).map encNs := by rw [List.map_map]; rfl
  rw [em] at e1
  rw [pd_pdl] at hw
  have hsr := szl_range (rows.map FR.reads)
  rw [hLl] at hsr
  rw [← hsr] at hw
  have hpos : ∀ y ∈ szl (rows.map FR.reads), 0 < y := by
    intro y hy
    rw [hsr] at hy
    obtain ⟨i, hi, rfl⟩ := List.mem_map.mp hy
    rw [F.sz i (List.mem_range.mp hi)]
    omega
  have hfp := fct_pos rows.length
  have hsz : ∀ y ∈ szl (rows.map FR.reads), y ≤ 479001600 := by
    intro y hy
    have h1 := pdl_mem hpos hy
    have h2 : pdl (szl (rows.map FR.reads)) ≤ fct rows.length := by
      rw [← hw]
      refine Nat.le_mul_of_pos_left _ ?_
      cases w with
      | zero => simp at hw; omega
      | succ w => omega
    have := fct12 hn
    omega
  have hlt : ∀ (pre : List (List Nat)) (l : List Nat) (post : List (List Nat)), rows.map FR.reads = pre ++ l :: post → ∀ r ∈ l, r < pre.length := by
    intro pre l post e r hr
    have h1 : pre.length < rows.length := by
      rw [← hLl, e]; simp
    refine F.lt pre.length h1 r ?_
    rw [e]
    simpa [rdL] using hr
  have hll : ∀ l ∈ rows.map FR.reads, l.length ≤ 1000 := by
    intro l hl
    obtain ⟨f, hf, rfl⟩ := List.mem_map.mp hl
    exact Nat.le_trans (List.length_filterMap_le _ _) (ho f hf)
  refine fn_E d__law_by_sizes rfl rfl ?_
  generalize hL : rows.map FR.reads = L at *
  simp [d__law_by_sizes, e1, evalEs, evalPs, evalC, evalAnd, evalOr, bind_assoc, evalPar, evalKV, bind_ok, bind_stk, ofRC_ok, noExc_ok, unS, wipeE, backE, noOwn, derefs, List.replicate]
  refine W_forE encNs L (fun pre fr => ∃ a3 : Sl, fr = ⟨[.val (.lst (rows.map FR.enc)), .own (.lst ((szl pre).map nI)), .val (.int 1), a3, .un, .un, .un], st⟩) ⟨_, rfl⟩ ?_ ?_
  · rintro pre l post fr e ⟨a3, rfl⟩ R hR
    have hl := hlt pre l post e
    have hpl : pre.length + 1 ≤ 12 := by
      have := congrArg List.length e
      simp at this
      omega
    have h1 : compL (lcT (cc (N + 2)) [6] (.nm 6) [] (.ix (.pk 1) (.var 6))) (l.map nI) [] ⟨[.val (.lst (rows.map FR.enc)), .own (.lst ((szl pre).map nI)), .val (.int 1), .val (encNs l), .un, .un, .un], st⟩ = .ok (l.map fun r => D.int ((szf pre r : Nat) : Int)) ⟨[.val (.lst (rows.map FR.enc)), .own (.lst ((szl pre).map nI)), .val (.int 1), .val (encNs l), .un, .un, .un], st⟩ := by
      rw [compL_map nI (fun r => some (D.int ((szf pre r : Nat) : Int)))]
      · simp
      · intro r hr
        have hr2 := hl r hr
        have h2 : mAt ((szl pre).map nI) (r : Int) = some (D.int ((szf pre r : Nat) : Int)) := by
          apply mAt_nat
          have : r < (szl pre).length := by rw [szl_len]; exact hr2
          simp [szf, List.getElem?_eq_getElem this]
        unfold lcT
        simp [h2, evalEs, evalPs, evalC, evalAnd, evalOr, bind_assoc, evalPar, evalKV, bind_ok, bind_stk, ofRC_ok, noExc_ok, unS, wipeE, backE, noOwn, derefs, List.replicate]
      · have := hll l (by rw [e]; simp)
        exact sz_le (by simp; omega)
    have h3 := ints_map (fun r => ((szf pre r : Nat) : Int)) l
    have h4 := sum_cast (szf pre) l
    unfold forT
    have hn1 : ((1 : Int) + ((l.map (szf pre)).sum : Nat)) = ((1 + (l.map (szf pre)).sum : Nat) : Int) := by omega
    simp [h1, h3, h4, evalEs, evalPs, evalC, evalAnd, evalOr, bind_assoc, evalPar, evalKV, bind_ok, bind_stk, ofRC_ok, noExc_ok, unS, wipeE, backE, noOwn, derefs, List.replicate]
    have hap : bmD .append (.lst ((szl pre).map nI)) [.int ((1 + (l.map (szf pre)).sum : Nat) : Int)] = some (.non, some (.lst ((szl (pre ++ [l])).map nI))) := by
      rw [bm_append _ _ (sz_lt (by simp [szl_len]; omega)), szl_snoc, List.map_append]
      rfl
    rw [← hn1] at hap
    rw [hap]
    simp [evalEs, evalPs, evalC, evalAnd, evalOr, bind_assoc, evalPar, evalKV, bind_ok, bind_stk, ofRC_ok, noExc_ok, unS, wipeE, backE, noOwn, derefs, List.replicate]
    exact hR _ ⟨_, rfl⟩
  · rintro fr ⟨a3, rfl⟩
    have hrng : rngR (.int (rows.length : Int)) ⟨[.val (.lst (rows.map FR.enc)), .own (.lst ((szl L).map nI)), .val (.int 1), a3, .un, .un, .un], st⟩ = .ok ((List.range rows.length).map nI) ⟨[.val (.lst (rows.map FR.enc)), .own (.lst ((szl L).map nI)), .val (.int 1), a3, .un, .un, .un], st⟩ := rngR_nat rows.length _ (by omega)
    simp [hrng, evalEs, evalPs, evalC, evalAnd, evalOr, bind_assoc, evalPar, evalKV, bind_ok, bind_stk, ofRC_ok, noExc_ok, unS, wipeE, backE, noOwn, derefs, List.replicate]
    refine W_forE nI (List.range rows.length) (fun pre fr => ∃ a4 : Sl, fr = ⟨[.val (.lst (rows.map FR.enc)), .own (.lst ((szl L).map nI)), .val (.int (fct pre.length : Int)), a3, a4, .un, .un], st⟩) ⟨_, rfl⟩ ?_ ?_
    · rintro pre k post fr e ⟨a4, rfl⟩ R hR
      have hpl : pre.length < rows.length ∧ k = pre.length := by
        have h1 := congrArg List.length e
        have h2 := congrArg (fun l => l[pre.length]?) e
        simp at h1
        have h3 : pre.length < rows.length := by omega
        simp [h3] at h2
        exact ⟨h3, h2.symm⟩
      obtain ⟨hpl, hk⟩ := hpl
      have hmul := mulOk_small (fct pre.length : Int) k (by omega)
      have hc : (fct pre.length : Int) * ((k : Int) + 1) = (fct (pre ++ [k]).length : Int) := by
        rw [List.length_append, List.length_singleton, hk]
        simp [fct]
      generalize (fct (pre ++ [k]).length : Int) = y at hc hR
      generalize (fct pre.length : Int) = z at hc hmul
      exact mul_turn (N + 2) z y k _ _ _ _ st hmul hc R (hR _ ⟨_, rfl⟩)
    · rintro fr ⟨a4, rfl⟩
      rw [List.length_range]
      simp [evalEs, evalPs, evalC, evalAnd, evalOr, bind_assoc, evalPar, evalKV, bind_ok, bind_stk, ofRC_ok, noExc_ok, unS, wipeE, backE, noOwn, derefs, List.replicate]
      refine W_forE nI (szl L) (fun pre fr => ∃ a5 : Sl, fr = ⟨[.val (.lst (rows.map FR.enc)), .val (.lst ((szl L).map nI)), .val (.int ((fct rows.length / pdl pre : Nat) : Int)), a3, a4, a5, .un], st⟩) ⟨_, by simp [pdl]; rfl⟩ ?_ ?_
      · rintro pre x post fr e ⟨a5, rfl⟩ R hR
        have h1 := hpos x (by rw [e]; simp)
        have h2 := hsz x (by rw [e]; simp)
        have hc : ((fct rows.length / pdl pre : Nat) : Int) / (x : Int) = ((fct rows.length / pdl (pre ++ [x]) : Nat) : Int) := by
          rw [pdl_app]
          simp only [pdl, Nat.mul_one]
          rw [← Nat.div_div_eq_div_mul]
          rfl
        have hd := binD_fdiv_int ((fct rows.length / pdl pre : Nat) : Int) (x : Int) (by omega) (by omega)
        rw [hc] at hd
        generalize fct rows.length / pdl (pre ++ [x]) = y at hd hR
        generalize fct rows.length / pdl pre = z at hd
        unfold forT
        simp [hd, evalEs, evalPs, evalC, evalAnd, evalOr, bind_assoc, evalPar, evalKV, bind_ok, bind_stk, ofRC_ok, noExc_ok, unS, wipeE, backE, noOwn, derefs, List.replicate]
        exact hR _ ⟨_, rfl⟩
      · rintro fr ⟨a5, rfl⟩
        have hq : fct rows.length / pdl (szl L) = w := by
          rw [← hw]
          refine Nat.mul_div_cancel _ ?_
          have : 0 < w * pdl (szl L) := by rw [hw]; exact hfp
          exact Nat.pos_of_mul_pos_left this
        rw [hq]
        simp [evalEs, evalPs, evalC, evalAnd, evalOr, bind_assoc, evalPar, evalKV, bind_ok, bind_stk, ofRC_ok, noExc_ok, unS, wipeE, backE, noOwn, derefs, List.replicate]
end K81
end Mr
end
section
set_option linter.all false
set_option backward.isDefEq.respectTransparency false
set_option maxRecDepth 100000
namespace Mr
open PySem
namespace K81
/-! Z15: an order of the rows -/
theorem memD_nats {xs : List Nat} {k : Nat} : memD (.int (k : Int)) (.lst (xs.map nI)) = some (decide (k ∈ xs)) := by
  have : xs.map nI = (xs.map fun (k : Nat) => (k : Int)).map D.int := by simp
  rw [this, memD_ints]
  congr 1
  rw [Bool.eq_iff_iff]
  simp only [decide_eq_true_eq, List.mem_map]
  constructor
  · rintro ⟨j, h1, h2⟩
    have : j = k := by omega
    exact this ▸ h1
  · intro h; exact ⟨k, h, rfl⟩
theorem eraseFirst_nats (k : Nat) : ∀ xs : List Nat, k ∈ xs → eraseFirst (k : Int) (xs.map nI) = some ((xs.erase k).map nI)
  | [], h => by simp at h
  | x :: xs, h => by
    simp only [List.map_cons, eraseFirst]
    by_cases e : x = k
    · subst e
      simp
    · have e1 : ¬ ((x : Int) = (k : Int)) := by omega
      have e2 : (x == k) = false := by simp [e]
      rw [if_neg e1, eraseFirst_nats k xs ((List.mem_cons.mp h).resolve_left fun z => e z.symm)]
      rw [List.erase_cons, e2]
      rfl
theorem intsD_nats : ∀ xs : List Nat, intsD (xs.map nI) = some (xs.map fun (k : Nat) => (k : Int))
  | [] => rfl
  | x :: xs => by simp only [List.map_cons, intsD, intsD_nats xs]; rfl
theorem bm_remove_nats (k : Nat) (xs : List Nat) (h : k ∈ xs) : bmD .remove (.lst (xs.map nI)) [.int (k : Int)] = some (.non, some (.lst ((xs.erase k).map nI))) := by
  simp only [bmD, intsD_nats, eraseFirst_nats k xs h]
theorem min_mem : ∀ (xs : List Nat), xs ≠ [] → ∃ k ∈ xs, ∀ j ∈ xs, k ≤ j
  | [], h => (h rfl).elim
  | [x], _ => ⟨x, by simp, by simp⟩
  | x :: y :: xs, _ => by
    obtain ⟨k, h1, h2⟩ := min_mem (y :: xs) (by simp)
    by_cases h : x ≤ k
    · refine ⟨x, by simp, fun j hj => ?_⟩
      rcases List.mem_cons.mp hj with rfl | hj
      · exact Nat.le_refl _
      · exact Nat.le_trans h (h2 j hj)
    · refine ⟨k, List.mem_cons_of_mem _ h1, fun j hj => ?_⟩
      rcases List.mem_cons.mp hj with rfl | hj
      · omega
      · exact h2 j hj
def rd (rows : List FR) (k : Nat) : List Nat := rdL (rows.map FR.reads) k
theorem rd_eq (rows : List FR) {k : Nat} {f : FR} (h : rows[k]? = some f) : rd rows k = f.reads := by
  unfold rd rdL
  simp [h]
theorem row_ix (rows : List FR) {k : Nat} {f : FR} (h : rows[k]? = some f) : mAt (rows.map FR.enc) (k : Int) = some f.enc := by
  apply mAt_nat
  simp [h]
theorem ready_comp (c : Cal) (f : FR) (hf : f.ops.length ≤ 1000) (found : List Nat) (a0 a1 a3 a4 a5 : Sl) (st : List D) :
    compL (lcT c [6, 7] (.tp [.nm 6, .nm 7]) [] (.or [.cmp .ne (.var 6) (.con (.str s_row)), .cmp .mem (.var 7) (.pk 2)])) (f.ops.map Op.enc) [] ⟨[a0, a1, .own (.lst (found.map nI)), a3, a4, a5, .un, .un], st⟩ =
      .ok (f.ops.map fun o => .bl (match o.rd with | some j => decide (j ∈ found) | none => true)) ⟨[a0, a1, .own (.lst (found.map nI)), a3, a4, a5, .un, .un], st⟩ := by
  rw [compL_map Op.enc (fun o => some (.bl (match o.rd with | some j => decide (j ∈ found) | none => true)))]
  · simp
  · intro o _
    unfold lcT
    cases o with
    | num i =>
      have := eqD_str lay_num lay_row
      simp only [Op.enc]
      simp [this, Op.rd, evalEs, evalPs, evalC, evalAnd, evalOr, bind_assoc, evalPar, evalKV, bind_ok, bind_stk, ofRC_ok, noExc_ok, unS, wipeE, backE, noOwn, derefs, List.replicate]
    | wd x =>
      have := eqD_str lay_mem lay_row
      simp only [Op.enc]
      simp [this, Op.rd, evalEs, evalPs, evalC, evalAnd, evalOr, bind_assoc, evalPar, evalKV, bind_ok, bind_stk, ofRC_ok, noExc_ok, unS, wipeE, backE, noOwn, derefs, List.replicate]
    | row j =>
      have := eqD_str lay_row lay_row
      have hm := memD_nats (xs := found) (k := j)
      simp only [Op.enc]
      simp [this, Op.rd, hm, evalEs, evalPs, evalC, evalAnd, evalOr, bind_assoc, evalPar, evalKV, bind_ok, bind_stk, ofRC_ok, noExc_ok, unS, wipeE, backE, noOwn, derefs, List.replicate]
  · exact sz_le (by simp; omega)
theorem all_rd (f : FR) (found : List Nat) : ((f.ops.map fun o => (match o.rd with | some j => decide (j ∈ found) | none => true)).all id) = f.reads.all fun j => decide (j ∈ found) := by
  unfold FR.reads
  induction f.ops with
  | nil => rfl
  | cons o os ih =>
    cases o <;> simp [Op.rd] at ih ⊢ <;> simp [ih]
def Topo (rows : List FR) (ord : List Nat) : Prop := ∀ pre k post, ord = pre ++ k :: post → ∀ r ∈ rd rows k, r ∈ pre
theorem Topo.snoc {rows : List FR} {ord : List Nat} (h : Topo rows ord) {k : Nat} (hk : ∀ r ∈ rd rows k, r ∈ ord) : Topo rows (ord ++ [k]) := by
  intro pre j post e r hr
  by_cases hp : post = []
  · subst hp
    have := List.append_inj_right' e rfl
    have e1 := List.append_inj_left' e rfl
    simp at this
    subst this
    rw [← e1]
    exact hk r hr
  · obtain ⟨post', x, hx⟩ : ∃ l x, post = l ++ [x] := ⟨post.dropLast, post.getLast hp, (List.dropLast_concat_getLast hp).symm⟩
    subst hx
    have e2 : ord ++ [k] = (pre ++ j :: post') ++ [x] := by rw [e]; simp
    exact h pre j post' (List.append_inj_left' e2 rfl) r hr
theorem r_order_ok (n : Nat) (M : List MR) (rows : List FR) (pl : Str) (hF : FlatOk M rows pl) (hn : rows.length ≤ 12) (ho : ∀ f ∈ rows, f.ops.length ≤ 1000) (s : Stm) (b : Nat) (hs : s.Ok b) (hb : b + 100 < 2 ^ 40) (rest : List D) :
    Wc ((cc (n + 3)).fn f__law_r_order [.ref 1, .lst (rows.map FR.enc)] (stt s rest)) fun v st' => ∃ (ord : List Nat) (s' : Stm), v = .lst (ord.map nI) ∧ st' = stt s' rest ∧ s'.Ok (b + rows.length) ∧ ord.Perm (List.range rows.length) ∧ Topo rows ord := by
  have F := hF.fo
  refine fn_Q d__law_r_order rfl rfl fun Q hQ => ?_
  have hlr : ∀ fr, lrngR (.int (rows.length : Int)) fr = .ok (.lst ((List.range rows.length).map nI)) fr := fun fr => lrngR_nat _ fr (by omega)
  simp [d__law_r_order, hlr, evalEs, evalPs, evalC, evalAnd, evalOr, bind_assoc, evalPar, evalKV, bind_ok, bind_stk, ofRC_ok, noExc_ok, unS, wipeE, backE, noOwn, derefs, List.replicate]
  refine W_while (fun m fr => ∃ (found left : List Nat) (s' : Stm) (a4 : Sl), fr = ⟨[.val (.ref 1), .val (.lst (rows.map FR.enc)), .own (.lst (found.map nI)), .own (.lst (left.map nI)), a4, .un, .un, .un], stt s' rest⟩ ∧ m = left.length ∧ found.length + left.length = rows.length ∧ s'.Ok (b + found.length) ∧ (found ++ left).Perm (List.range rows.length) ∧ Topo rows found) rows.length ?_ LL (by show rows.length < 1000000; omega) ?_
  · exact ⟨[], List.range rows.length, s, _, rfl, by simp, by simp, hs, by simp, fun pre k post e => by simp at e⟩
  · rintro m fr ⟨found, left, s', a4, rfl, rfl, hlen, hs', hperm, htop⟩
    have hlay : layL (left.map nI) = true := by
      rw [layL_all]
      intro d hd
      obtain ⟨x, hx, rfl⟩ := List.mem_map.mp hd
      rfl
    have hne := eqD_nil hlay
    cases hl : left with
    | nil =>
      subst hl
      simp only [List.map_nil, List.isEmpty_nil] at hne
      have key : whC (cc (n + 2)) (.cmp .ne (.pk 3) (.lst [])) ⟨[.val (.ref 1), .val (.lst (rows.map FR.enc)), .own (.lst (found.map nI)), .own (.lst (([] : List Nat).map nI)), a4, .un, .un, .un], stt s' rest⟩ = .ok false ⟨[.val (.ref 1), .val (.lst (rows.map FR.enc)), .own (.lst (found.map nI)), .own (.lst (([] : List Nat).map nI)), a4, .un, .un, .un], stt s' rest⟩ := by
        unfold whC
        simp [hne, evalEs, evalPs, evalC, evalAnd, evalOr, bind_assoc, evalPar, evalKV, bind_ok, bind_stk, ofRC_ok, noExc_ok, unS, wipeE, backE, noOwn, derefs, List.replicate]
      rw [key]
      refine W_ok ?_
      rw [if_neg (by simp)]
      simp [evalEs, evalPs, evalC, evalAnd, evalOr, bind_assoc, evalPar, evalKV, bind_ok, bind_stk, ofRC_ok, noExc_ok, unS, wipeE, backE, noOwn, derefs, List.replicate]
      refine hQ _ _ ⟨found, s', rfl, rfl, hs'.mono (by simp at hlen; omega), by simpa using hperm, htop⟩
    | cons x0 xs0 =>
      rw [← hl]
      have hlne : left ≠ [] := by rw [hl]; simp
      have hie : (left.map nI).isEmpty = false := by rw [hl]; rfl
      rw [hie] at hne
      have hnd : (found ++ left).Nodup := hperm.nodup_iff.mpr List.nodup_range
      have hlt : ∀ k ∈ left, k < rows.length := fun k hk => List.mem_range.mp (hperm.subset (by simp [hk]))
      have key : whC (cc (n + 2)) (.cmp .ne (.pk 3) (.lst [])) ⟨[.val (.ref 1), .val (.lst (rows.map FR.enc)), .own (.lst (found.map nI)), .own (.lst (left.map nI)), a4, .un, .un, .un], stt s' rest⟩ = .ok true ⟨[.val (.ref 1), .val (.lst (rows.map FR.enc)), .own (.lst (found.map nI)), .own (.lst (left.map nI)), a4, .un, .un, .un], stt s' rest⟩ := by
        unfold whC
        simp [hne, evalEs, evalPs, evalC, evalAnd, evalOr, bind_assoc, evalPar, evalKV, bind_ok, bind_stk, ofRC_ok, noExc_ok, unS, wipeE, backE, noOwn, derefs, List.replicate]
      rw [key]
      refine W_ok ?_
      rw [if_pos rfl]
      intro R hR
      unfold whB
      -- the ready ones
      have hcomp : ∀ st, compO (lcT (cc (n + 2)) [5] (.nm 5) [.bf .all [.lc [6, 7] (.tp [.nm 6, .nm 7]) (.ex (.ix (.ix (.var 1) (.var 5)) (.con (.int 2)))) [] (.or [.cmp .ne (.var 6) (.con (.str s_row)), .cmp .mem (.var 7) (.pk 2)])]] (.var 5)) 3 left.length left.length [] ⟨[.val (.ref 1), .val (.lst (rows.map FR.enc)), .own (.lst (found.map nI)), .own (.lst (left.map nI)), a4, .un, .un, .un], st⟩ =
          .ok ((left.filter fun k => (rd rows k).all fun j => decide (j ∈ found)).map nI) ⟨[.val (.ref 1), .val (.lst (rows.map FR.enc)), .own (.lst (found.map nI)), .own (.lst (left.map nI)), a4, .un, .un, .un], st⟩ := by
        intro st
        rw [compO_map nI (fun k => if ((rd rows k).all fun j => decide (j ∈ found)) = true then some (nI k) else none), filterMap_if]
        · rfl
        · intro k hk
          obtain ⟨f, hf⟩ : ∃ f, rows[k]? = some f := ⟨rows[k]'(hlt k hk), List.getElem?_eq_getElem (hlt k hk)⟩
          have h1 := row_ix rows hf
          have h2 := ready_comp (cc (n + 2)) f (ho f (List.mem_of_getElem? hf)) found (.val (.ref 1)) (.val (.lst (rows.map FR.enc))) (.own (.lst (left.map nI))) a4 (.val (nI k)) st
          have h3 := bools_map (fun o : Op => (match o.rd with | some j => decide (j ∈ found) | none => true)) f.ops
          have h4 := all_rd f found
          have h5 := rd_eq rows hf
          have h6 : ixD f.enc (.int 2) = some (.lst (f.ops.map Op.enc)) := by simp [FR.enc]
          rw [h5, ← h4]
          generalize (f.ops.map fun o => (match o.rd with | some j => decide (j ∈ found) | none => true)) = bs at h3
          generalize (f.ops.map fun o => D.bl (match o.rd with | some j => decide (j ∈ found) | none => true)) = ds at h2 h3
          have h7 : deref ⟨[.val (.ref 1), .val (.lst (rows.map FR.enc)), .own (.lst (found.map nI)), .own (.lst (left.map nI)), a4, .val (nI k), .un, .un], st⟩ f.enc = some f.enc := rfl
          unfold lcT
          simp [h1, h6, h7, h2, h3, evalEs, evalPs, evalC, evalAnd, evalOr, bind_assoc, evalPar, evalKV, bind_ok, bind_stk, ofRC_ok, noExc_ok, unS, wipeE, backE, noOwn, derefs, List.replicate]
          split <;> rfl
        · exact sz_le (by omega)
      generalize hrdy : (left.filter fun k => (rd rows k).all fun j => decide (j ∈ found)) = ready at hcomp
      have hrne : ready ≠ [] := by
        obtain ⟨k, hk, hmin⟩ := min_mem left hlne
        have : k ∈ ready := by
          rw [← hrdy, List.mem_filter, List.all_eq_true]
          refine ⟨hk, fun r hr => ?_⟩
          have h1 := F.lt k (hlt k hk) r hr
          have h2 : r ∈ found ++ left := hperm.symm.subset (List.mem_range.mpr (by have := hlt k hk; omega))
          rcases List.mem_append.mp h2 with h | h
          · simpa using h
          · have := hmin r h; omega
        intro z
        rw [z] at this
        simp at this
      have hrsub : ∀ k ∈ ready, k ∈ left ∧ ∀ r ∈ rd rows k, r ∈ found := by
        intro k hk
        rw [← hrdy, List.mem_filter, List.all_eq_true] at hk
        exact ⟨hk.1, fun r hr => by simpa using hk.2 r hr⟩
      have hrl : ready.length ≤ 12 := by
        have := List.length_filter_le (fun k => (rd rows k).all fun j => decide (j ∈ found)) left
        rw [hrdy] at this
        omega
      obtain ⟨v, _, e1, s2, hv, rfl, hs2⟩ := pick_ok n s' (b + found.length) hs' (by omega) (.lst (ready.map nI)) (ready.map nI) rest (deref_lst_any _ _) rfl (loc_map _ (fun _ => rfl) _) (by simpa using hrne) (by simp; omega)
      obtain ⟨k, hk, rfl⟩ := List.mem_map.mp hv
      obtain ⟨hkl, hkf⟩ := hrsub k hk
      have hrem := bm_remove_nats k left hkl
      have hap : bmD .append (.lst (found.map nI)) [nI k] = some (.non, some (.lst ((found ++ [k]).map nI))) := by
        rw [bm_append _ _ (sz_lt (by simp; omega)), List.map_append]; rfl
      simp [hcomp, e1, hap, evalEs, evalPs, evalC, evalAnd, evalOr, bind_assoc, evalPar, evalKV, bind_ok, bind_stk, ofRC_ok, noExc_ok, unS, wipeE, backE, noOwn, derefs, List.replicate]
      rw [hrem]
      simp [evalEs, evalPs, evalC, evalAnd, evalOr, bind_assoc, evalPar, evalKV, bind_ok, bind_stk, ofRC_ok, noExc_ok, unS, wipeE, backE, noOwn, derefs, List.replicate]
      rw [show found.map nI ++ [nI k] = (found ++ [k]).map nI by simp]
      have hle : (left.erase k).length = left.length - 1 := List.length_erase_of_mem hkl
      have hlp : 0 < left.length := List.length_pos_iff.mpr hlne
      refine hR _ _ ?_ ⟨found ++ [k], left.erase k, s2, _, rfl, rfl, by simp; omega, hs2.mono (by simp; omega), ?_, htop.snoc hkf⟩
      · omega
      · refine List.Perm.trans ?_ hperm
        rw [List.append_assoc, List.singleton_append]
        exact List.Perm.append_left _ (List.perm_cons_erase hkl).symm
end K81
end Mr
end
section
set_option linter.all false
set_option backward.isDefEq.respectTransparency false
set_option maxRecDepth 100000
namespace Mr
open PySem
namespace K81
/-! Z16: names of rows (the plain part) -/
def plOf (rows : List FR) (k : Nat) : Str := match rows[k]? with
  | some f => f.r.pl
  | none => s_reg
def upd {α β : Type} [DecidableEq α] (f : α → β) (k : α) (v : β) : α → β := fun x => if x = k then v else f x
theorem upd_eq {α β : Type} [DecidableEq α] (f : α → β) (k : α) (v : β) : upd f k v k = v := by simp [upd]
theorem upd_ne {α β : Type} [DecidableEq α] (f : α → β) {k x : α} (v : β) (h : x ≠ k) : upd f k v x = f x := by simp [upd, h]
def Named (rows : List FR) (ord : List Nat) (f : Nat → Nat) : Prop := ∀ p1 j p2 k p3, ord = p1 ++ j :: (p2 ++ k :: p3) → j ∈ rd rows k → ∀ i ∈ p2, plOf rows i = plOf rows j → f i ≠ f j
structure TInv (rows : List FR) (f : Nat → Nat) (T : Str → List Nat) (LV : List Nat) : Prop where
  tk : ∀ p, (T p).Perm ((LV.filter fun j => plOf rows j == p).map f)
  tnd : ∀ p, (T p).Nodup
structure NInv (rows : List FR) (pre : List Nat) (f : Nat → Nat) (nl : List (Nat × Nat)) (T : Str → List Nat) (LV : List Nat) : Prop where
  keys : ∀ i ∈ pre, alook nl i = some (f i)
  nlen : nl.length ≤ pre.length
  live : ((pre.flatMap (rd rows)) ++ LV).Perm pre
  t : TInv rows f T LV
  sep : ∀ p1 j p2, pre = p1 ++ j :: p2 → j ∈ LV → ∀ i ∈ p2, plOf rows i = plOf rows j → f i ≠ f j
  named : Named rows pre f
theorem TInv.mem {rows : List FR} {f : Nat → Nat} {T : Str → List Nat} {LV : List Nat} (h : TInv rows f T LV) {j : Nat} (hj : j ∈ LV) : f j ∈ T (plOf rows j) := by
  refine (h.tk _).symm.subset ?_
  rw [List.mem_map]
  exact ⟨j, by simp [hj], rfl⟩
theorem TInv.remove {rows : List FR} {f : Nat → Nat} {T : Str → List Nat} {LV : List Nat} (h : TInv rows f T LV) {j : Nat} (hj : j ∈ LV) :
    TInv rows f (upd T (plOf rows j) ((T (plOf rows j)).erase (f j))) (LV.erase j) := by
  have hp := List.perm_cons_erase hj
  refine ⟨fun p => ?_, fun p => ?_⟩
  · have h1 := (h.tk p).trans ((hp.filter _).map f)
    by_cases e : p = plOf rows j
    · subst e
      rw [upd_eq]
      simp only [List.filter_cons, beq_self_eq_true, if_true, List.map_cons] at h1
      have h2 := h1.erase (f j)
      rwa [List.erase_cons_head] at h2
    · rw [upd_ne _ _ e]
      have e2 : (plOf rows j == p) = false := by simp; exact fun z => e z.symm
      simpa [List.filter_cons, e2] using h1
  · by_cases e : p = plOf rows j
    · subst e
      rw [upd_eq]
      exact (h.tnd _).erase _
    · rw [upd_ne _ _ e]
      exact h.tnd p
theorem last_split {α : Type} {pre p1 p2 : List α} {k j : α} (e : pre ++ [k] = p1 ++ j :: p2) : (p2 = [] ∧ j = k ∧ p1 = pre) ∨ ∃ p2', p2 = p2' ++ [k] ∧ pre = p1 ++ j :: p2' := by
  by_cases hp : p2 = []
  · subst hp
    have h1 := List.append_inj_right' e rfl
    have h2 := List.append_inj_left' e rfl
    simp at h1
    exact .inl ⟨rfl, h1.symm, h2.symm⟩
  · obtain ⟨p2', x, rfl⟩ : ∃ l x, p2 = l ++ [x] := ⟨p2.dropLast, p2.getLast hp, (List.dropLast_concat_getLast hp).symm⟩
    have e2 : pre ++ [k] = (p1 ++ j :: p2') ++ [x] := by rw [e]; simp
    have h1 := List.append_inj_right' e2 rfl
    have h2 := List.append_inj_left' e2 rfl
    simp at h1
    exact .inr ⟨p2', by rw [h1], h2⟩
theorem NInv.step {rows : List FR} {pre : List Nat} {f : Nat → Nat} {nl : List (Nat × Nat)} {T T1 : Str → List Nat} {LV LV1 : List Nat} (h : NInv rows pre f nl T LV) {k v : Nat} (hk : k ∉ pre)
    (hr : (rd rows k ++ LV1).Perm LV) (h1 : TInv rows f T1 LV1) (hv : v ∉ T1 (plOf rows k)) :
    NInv rows (pre ++ [k]) (upd f k v) (aput nl k v) (upd T1 (plOf rows k) (T1 (plOf rows k) ++ [v])) (LV1 ++ [k]) := by
  have hsub1 : ∀ j ∈ LV1, j ∈ LV := fun j hj => hr.subset (by simp [hj])
  have hsubr : ∀ j ∈ rd rows k, j ∈ LV := fun j hj => hr.subset (by simp [hj])
  have hLp : ∀ j ∈ LV, j ∈ pre := fun j hj => h.live.subset (by simp [hj])
  have hne : ∀ j ∈ pre, j ≠ k := fun j hj e => hk (e ▸ hj)
  refine ⟨fun i hi => ?_, ?_, ?_, ⟨fun p => ?_, fun p => ?_⟩, ?_, ?_⟩
  · rw [alook_put]
    rcases List.mem_append.mp hi with hi | hi
    · rw [if_neg (hne i hi), upd_ne _ _ (hne i hi)]
      exact h.keys i hi
    · rw [List.mem_singleton.mp hi, if_pos rfl, upd_eq]
  · have := len_put nl k v
    have := h.nlen
    simp
    omega
  · rw [List.flatMap_append, List.append_assoc]
    have e : List.flatMap (rd rows) [k] = rd rows k := by simp
    rw [e, ← List.append_assoc (rd rows k)]
    refine (List.Perm.append_left _ (hr.append_right [k])).trans ?_
    rw [← List.append_assoc]
    exact h.live.append_right [k]
  · have hmap : (LV1.filter fun j => plOf rows j == p).map (upd f k v) = (LV1.filter fun j => plOf rows j == p).map f := by
      apply List.map_congr_left
      intro j hj
      exact upd_ne _ _ (hne j (hLp j (hsub1 j (List.mem_filter.mp hj).1)))
    rw [List.filter_append, List.map_append, hmap]
    by_cases e : p = plOf rows k
    · subst e
      rw [upd_eq]
      simp only [List.filter_cons, beq_self_eq_true, if_true, List.filter_nil, List.map_cons, List.map_nil, upd_eq]
      exact (h1.tk _).append_right _
    · rw [upd_ne _ _ e]
      have e2 : (plOf rows k == p) = false := by simp; exact fun z => e z.symm
      simpa [List.filter_cons, e2] using h1.tk p
  · by_cases e : p = plOf rows k
    · subst e
      rw [upd_eq, List.nodup_append]
      exact ⟨h1.tnd _, by simp, fun a ha b hb => by rw [List.mem_singleton.mp hb]; intro z; exact hv (z ▸ ha)⟩
    · rw [upd_ne _ _ e]
      exact h1.tnd p
  · intro p1 j p2 e hj i hi hpl
    rcases last_split e with ⟨rfl, _, _⟩ | ⟨p2', rfl, rfl⟩
    · simp at hi
    · have hjp : j ∈ p1 ++ j :: p2' := by simp
      have hj1 : j ∈ LV1 := by
        rcases List.mem_append.mp hj with hj | hj
        · exact hj
        · exact (hne j hjp (List.mem_singleton.mp hj)).elim
      rw [upd_ne _ _ (hne j hjp)]
      rcases List.mem_append.mp hi with hi | hi
      · rw [upd_ne _ _ (hne i (by simp [hi]))]
        exact h.sep p1 j p2' rfl (hsub1 j hj1) i hi hpl
      · rw [List.mem_singleton.mp hi] at hpl ⊢
        rw [upd_eq]
        intro z
        have := h1.mem hj1
        rw [← hpl, ← z] at this
        exact hv this
  · intro p1 j p2 k' p3 e hj i hi hpl
    have e' : pre ++ [k] = (p1 ++ j :: p2) ++ k' :: p3 := by rw [e]; simp
    rcases last_split e' with ⟨rfl, rfl, h2⟩ | ⟨p3', rfl, h2⟩
    · have hjp : j ∈ pre := by rw [← h2]; simp
      have hip : i ∈ pre := by rw [← h2]; simp [hi]
      rw [upd_ne _ _ (hne j hjp), upd_ne _ _ (hne i hip)]
      exact h.sep p1 j p2 h2.symm (hsubr j hj) i hi hpl
    · have hjp : j ∈ pre := by rw [h2]; simp
      have hip : i ∈ pre := by rw [h2]; simp [hi]
      rw [upd_ne _ _ (hne j hjp), upd_ne _ _ (hne i hip)]
      exact h.named p1 j p2 k' p3' (by rw [h2]; simp) hj i hi hpl
theorem nodup_len {α : Type} [DecidableEq α] : ∀ {xs ys : List α}, xs.Nodup → (∀ x ∈ xs, x ∈ ys) → xs.length ≤ ys.length
  | [], _, _, _ => by simp
  | x :: xs, ys, nd, h => by
    rw [List.nodup_cons] at nd
    have hx := h x (by simp)
    have ih := nodup_len (ys := ys.erase x) nd.2 (fun y hy => (List.mem_erase_of_ne (fun (z : y = x) => nd.1 (z ▸ hy))).mpr (h y (by simp [hy])))
    rw [List.length_erase_of_mem hx] at ih
    have := List.length_pos_of_mem hx
    simp
    omega
def cand : List Nat := List.range 28 ++ [999, 1000]
theorem cand_free (T : List Nat) (h : T.length < 30) : (cand.filter fun v => !decide (v ∈ T)) ≠ [] := by
  intro e
  have h1 : ∀ x ∈ cand, x ∈ T := by
    intro x hx
    rw [List.filter_eq_nil_iff] at e
    have := e x hx
    simpa using this
  have h2 : cand.Nodup := by decide
  have := nodup_len h2 h1
  have h3 : cand.length = 30 := by decide
  omega
/-- what row k reads is alive -/
theorem NInv.reads_live {rows : List FR} {pre : List Nat} {f : Nat → Nat} {nl : List (Nat × Nat)} {T : Str → List Nat} {LV : List Nat} (h : NInv rows pre f nl T LV) {sz : Nat → Nat} (F : Fo rows.length (rdL (rows.map FR.reads)) sz) {k : Nat} (hkn : k < rows.length) (hk : k ∉ pre)
    (hpre : ∀ i ∈ pre, i < rows.length) (hr : ∀ r ∈ rd rows k, r ∈ pre) : (rd rows k).Nodup ∧ ∀ r ∈ rd rows k, r ∈ LV := by
  have hnd := F.once.nodup_iff.mpr List.nodup_range
  constructor
  · have hm : k ∈ List.range rows.length := List.mem_range.mpr hkn
    obtain ⟨a, b, e⟩ := List.append_of_mem hm
    rw [e, List.flatMap_append, List.flatMap_cons, List.nodup_append, List.nodup_append] at hnd
    exact hnd.2.1.1
  · intro r hrk
    have h1 : r ∈ pre.flatMap (rd rows) ++ LV := h.live.symm.subset (hr r hrk)
    rcases List.mem_append.mp h1 with h2 | h2
    · rw [List.mem_flatMap] at h2
      obtain ⟨i, hi, hri⟩ := h2
      have := flat_uniq _ _ hnd i k r (hpre i hi) hkn hri hrk
      exact (hk (this ▸ hi)).elim
    · exact h2
end K81
end Mr
end
section
set_option linter.all false
set_option backward.isDefEq.respectTransparency false
set_option maxRecDepth 100000
namespace Mr
open PySem
namespace K81
/-! Z17: names of rows -/
theorem noOwn_cons (env : List Sl) (i : Nat) (is : List Nat) (a : Sl) (h : env[i]? = some a) (ha : a = .un ∨ ∃ x, a = .val x) (h2 : noOwn env is = true) : noOwn env (i :: is) = true := by
  unfold noOwn at h2 ⊢
  rw [List.all_cons, h2, h]
  rcases ha with rfl | ⟨x, rfl⟩ <;> rfl

def takenD (m : Nat) : D := .dK [.inr s_reg, .inr s_mem] [.ref (m + 2), .ref (m + 3)]
def tref (m : Nat) (pl : Str) : Nat := if pl = s_reg then m + 2 else m + 3
def tk (T : Str → List Nat) (rest : List D) : List D := rest ++ [.lst ((T s_reg).map nI), .lst ((T s_mem).map nI)]
theorem tk_ix (m : Nat) {pl : Str} (h : pl = s_reg ∨ pl = s_mem) : ixD (takenD m) (.str pl) = some (.ref (tref m pl)) := by
  rcases h with rfl | rfl
  · have : tref m s_reg = m + 2 := by simp [tref]
    rw [this]; kernel_rfl
  · have : tref m s_mem = m + 3 := by simp [tref]
    rw [this]; kernel_rfl
theorem tk_get (s : Stm) (T : Str → List Nat) (rest : List D) {pl : Str} (h : pl = s_reg ∨ pl = s_mem) : (stt s (tk T rest))[tref rest.length pl]? = some (.lst ((T pl).map nI)) := by
  rcases h with rfl | rfl
  · have : tref rest.length s_reg = rest.length + 2 := by simp [tref]
    rw [this, stt_get]
    simp [tk]
  · have : tref rest.length s_mem = rest.length + 1 + 2 := by simp [tref]
    rw [this, stt_get]
    simp [tk]
theorem tk_set (s : Stm) (T : Str → List Nat) (rest : List D) {pl : Str} (h : pl = s_reg ∨ pl = s_mem) (l : List Nat) : (stt s (tk T rest)).set (tref rest.length pl) (.lst (l.map nI)) = stt s (tk (upd T pl l) rest) := by
  rcases h with rfl | rfl
  · have : tref rest.length s_reg = rest.length + 2 := by simp [tref]
    rw [this, stt_set]
    have e1 : upd T s_reg l s_reg = l := upd_eq _ _ _
    have e2 : upd T s_reg l s_mem = T s_mem := upd_ne _ _ (by simp)
    simp [tk, e1, e2]
  · have : tref rest.length s_mem = rest.length + 1 + 2 := by simp [tref]
    rw [this, stt_set]
    have e1 : upd T s_mem l s_mem = l := upd_eq _ _ _
    have e2 : upd T s_mem l s_reg = T s_reg := upd_ne _ _ (by simp)
    have e3 : rest ++ [D.lst ((T s_reg).map nI), D.lst ((T s_mem).map nI)] = (rest ++ [D.lst ((T s_reg).map nI)]) ++ [D.lst ((T s_mem).map nI)] := by simp
    have e4 : rest.length + 1 = (rest ++ [D.lst ((T s_reg).map nI)]).length := by simp
    simp only [tk, e1, e2]
    rw [e3, e4, set_last]
    simp
@[simp] theorem loc_tk (m : Nat) : isLoc (takenD m) = false := (rfl)
@[simp] theorem der_tk (m : Nat) (fr : Fm) : deref fr (takenD m) = some (takenD m) := (rfl)
def opD (f : Nat → Nat) : Op → D
  | .num i => .int i
  | .wd x => .str x
  | .row j => .int (f j : Int)
def rowD (rows : List FR) (f : Nat → Nat) (k : Nat) : D := match rows[k]? with
  | some g => .tup [.str g.r.w, .int (f k : Int), .tup (g.ops.map (opD f))]
  | none => .non
theorem plOf_eq {rows : List FR} {k : Nat} {f : FR} (h : rows[k]? = some f) : plOf rows k = f.r.pl := by simp [plOf, h]
@[simp] theorem get_ix (al : List (Nat × Nat)) (k : Nat) : ixD (encDk nI al) (.int (k : Int)) = (alook al k).map nI := ix_dk nI al k
/-- the operands of a row -/
theorem named_ops (c : Cal) (g : FR) (hg : g.ops.length ≤ 1000) (nl : List (Nat × Nat)) (f : Nat → Nat) (hk : ∀ j ∈ g.reads, alook nl j = some (f j)) (a0 a1 a2 a3 a5 a6 a7 a8 a9 a10 a11 a14 : Sl) (st : List D) :
    compL (lcT c [12, 13] (.tp [.nm 12, .nm 13]) [] (.ite (.cmp .eq (.var 12) (.con (.str s_row))) (.ix (.pk 4) (.var 13)) (.var 13))) (g.ops.map Op.enc) [] ⟨[a0, a1, a2, a3, .own (encDk nI nl), a5, a6, a7, a8, a9, a10, a11, .un, .un, a14, .un], st⟩ =
      .ok (g.ops.map (opD f)) ⟨[a0, a1, a2, a3, .own (encDk nI nl), a5, a6, a7, a8, a9, a10, a11, .un, .un, a14, .un], st⟩ := by
  rw [compL_map Op.enc (fun o => some (opD f o))]
  · simp
  · intro o hoo
    unfold lcT
    cases o with
    | num i =>
      have := eqD_str lay_num lay_row
      simp only [Op.enc]
      simp [this, opD, evalEs, evalPs, evalC, evalAnd, evalOr, bind_assoc, evalPar, evalKV, bind_ok, bind_stk, ofRC_ok, noExc_ok, unS, wipeE, backE, noOwn, derefs, List.replicate]
    | wd x =>
      have := eqD_str lay_mem lay_row
      simp only [Op.enc]
      simp [this, opD, evalEs, evalPs, evalC, evalAnd, evalOr, bind_assoc, evalPar, evalKV, bind_ok, bind_stk, ofRC_ok, noExc_ok, unS, wipeE, backE, noOwn, derefs, List.replicate]
    | row j =>
      have := eqD_str lay_row lay_row
      have hj : j ∈ g.reads := by
        unfold FR.reads
        rw [List.mem_filterMap]
        exact ⟨_, hoo, rfl⟩
      have h2 := hk j hj
      simp only [Op.enc]
      simp [this, opD, h2, evalEs, evalPs, evalC, evalAnd, evalOr, bind_assoc, evalPar, evalKV, bind_ok, bind_stk, ofRC_ok, noExc_ok, unS, wipeE, backE, noOwn, derefs, List.replicate]
  · exact sz_le (by simp; omega)
/-- the first part of a turn: what the row reads is free again -/
theorem named_free (n : Nat) (rows : List FR) (g : FR) (hgl : g.ops.length ≤ 1000) (hpl : ∀ j ∈ g.reads, ∃ q, rows[j]? = some q ∧ (q.r.pl = s_reg ∨ q.r.pl = s_mem)) (nl : List (Nat × Nat)) (f : Nat → Nat) (hk : ∀ j ∈ g.reads, alook nl j = some (f j))
    (T : Str → List Nat) (LV : List Nat) (hT : TInv rows f T LV) (hrd : ∀ j ∈ g.reads, j ∈ LV) (hnd : g.reads.Nodup) (s : Stm) (rest : List D) (a0 a2 a3 a6 a7 a8 a9 a11 a12 a13 a14 : Sl) (h12 : a12 = .un ∨ ∃ x, a12 = .val x) (h13 : a13 = .un ∨ ∃ x, a13 = .val x) (k : Fl → Fm → Rs Fl) (Q : Fl → Fm → Prop)
    (hQ : ∀ (T1 : Str → List Nat) (LV1 : List Nat) (a12 a13 : Sl), (a12 = .un ∨ ∃ x, a12 = .val x) → (a13 = .un ∨ ∃ x, a13 = .val x) → TInv rows f T1 LV1 → (g.reads ++ LV1).Perm LV → W (k .nx ⟨[a0, .val (.lst (rows.map FR.enc)), a2, a3, .own (encDk nI nl), .val (takenD rest.length), a6, a7, a8, a9, .val (.lst (g.ops.map Op.enc)), a11, a12, a13, a14, .un], stt s (tk T1 rest)⟩) Q) :
    W ((forL (forT (cc n) (.tp [.nm 12, .nm 13]) [.ite (.cmp .eq (.var 12) (.con (.str s_row))) [.ex (.bm .remove (.ix (.var 5) (.ix (.ix (.var 1) (.var 13)) (.con (.int 1)))) [.ix (.pk 4) (.var 13)])] []]) (g.ops.map Op.enc)
      ⟨[a0, .val (.lst (rows.map FR.enc)), a2, a3, .own (encDk nI nl), .val (takenD rest.length), a6, a7, a8, a9, .val (.lst (g.ops.map Op.enc)), a11, a12, a13, a14, .un], stt s (tk T rest)⟩).bind k) Q := by
  refine W_forE Op.enc g.ops (fun po fr => ∃ (T1 : Str → List Nat) (LV1 : List Nat) (a12 a13 : Sl), fr = ⟨[a0, .val (.lst (rows.map FR.enc)), a2, a3, .own (encDk nI nl), .val (takenD rest.length), a6, a7, a8, a9, .val (.lst (g.ops.map Op.enc)), a11, a12, a13, a14, .un], stt s (tk T1 rest)⟩ ∧ TInv rows f T1 LV1 ∧ (po.filterMap Op.rd ++ LV1).Perm LV ∧ (a12 = .un ∨ ∃ x, a12 = .val x) ∧ (a13 = .un ∨ ∃ x, a13 = .val x)) ?_ ?_ ?_
  · exact ⟨T, LV, _, _, rfl, hT, by simp, h12, h13⟩
  · rintro po o post fr e ⟨T1, LV1, a12, a13, rfl, hT1, hp, _, _⟩ R hR
    unfold forT
    cases o with
    | num i =>
      have := eqD_str lay_num lay_row
      simp only [Op.enc]
      simp [this, evalEs, evalPs, evalC, evalAnd, evalOr, bind_assoc, evalPar, evalKV, bind_ok, bind_stk, ofRC_ok, noExc_ok, unS, wipeE, backE, noOwn, derefs, List.replicate]
      exact hR _ ⟨T1, LV1, _, _, rfl, hT1, by simpa [Op.rd] using hp, .inr ⟨_, rfl⟩, .inr ⟨_, rfl⟩⟩
    | wd x =>
      have := eqD_str lay_mem lay_row
      simp only [Op.enc]
      simp [this, evalEs, evalPs, evalC, evalAnd, evalOr, bind_assoc, evalPar, evalKV, bind_ok, bind_stk, ofRC_ok, noExc_ok, unS, wipeE, backE, noOwn, derefs, List.replicate]
      exact hR _ ⟨T1, LV1, _, _, rfl, hT1, by simpa [Op.rd] using hp, .inr ⟨_, rfl⟩, .inr ⟨_, rfl⟩⟩
    | row j =>
      have h1 := eqD_str lay_row lay_row
      have hj : j ∈ g.reads := by
        unfold FR.reads
        rw [List.mem_filterMap]
        exact ⟨.row j, by rw [e]; simp, rfl⟩
      have hjn : j ∉ po.filterMap Op.rd := by
        unfold FR.reads at hnd
        rw [e, List.filterMap_append, List.nodup_append] at hnd
        intro h
        exact hnd.2.2 j h j (by simp [Op.rd]) rfl
      have hj1 : j ∈ LV1 := by
        have h3 := hp.symm.subset (hrd j hj)
        rcases List.mem_append.mp h3 with h | h
        · exact (hjn h).elim
        · exact h
      obtain ⟨q, hq, hqp⟩ := hpl j hj
      have h2 := hk j hj
      have h3 := row_ix rows hq
      have h4 : ixD q.enc (.int 1) = some (.str q.r.pl) := by simp [FR.enc]
      have h5 := tk_ix rest.length hqp
      have h6 := tk_get s T1 rest hqp
      have hpq := plOf_eq hq
      have hm := hT1.mem hj1
      rw [hpq] at hm
      have h7 := bm_remove_nats (f j) (T1 q.r.pl) hm
      have h8 := tk_set s T1 rest hqp ((T1 q.r.pl).erase (f j))
      have hrm := hT1.remove hj1
      rw [hpq] at hrm
      have h9 : ∀ fr, deref fr q.enc = some q.enc := fun _ => rfl
      simp only [Op.enc]
      simp [h1, h2, h3, h9, h4, h5, h6, h7, h8, evalEs, evalPs, evalC, evalAnd, evalOr, bind_assoc, evalPar, evalKV, bind_ok, bind_stk, ofRC_ok, noExc_ok, unS, wipeE, backE, noOwn, derefs, List.replicate]
      refine hR _ ⟨_, LV1.erase j, _, _, rfl, hrm, ?_, .inr ⟨_, rfl⟩, .inr ⟨_, rfl⟩⟩
      rw [List.filterMap_append]
      have e2 : [Op.row j].filterMap Op.rd = [j] := rfl
      rw [e2, List.append_assoc, List.singleton_append]
      exact (List.Perm.append_left _ (List.perm_cons_erase hj1).symm).trans hp
  · rintro fr ⟨T1, LV1, a12, a13, rfl, hT1, hp, q12, q13⟩
    exact hQ T1 LV1 a12 a13 q12 q13 hT1 hp
theorem cand_list : binD .add (.lst ((List.range 28).map nI)) (.lst [.int 999, .int 1000]) = some (.lst (cand.map nI)) := by
  rw [binD_add_lst _ _ (sz_le (by simp))]
  rfl
theorem dic2 (d1 d2 : D) (fr : Fm) : dicR [(.inr s_reg, d1), (.inr s_mem, d2)] fr = .ok (.dK [.inr s_reg, .inr s_mem] [d1, d2]) fr := by kernel_rfl
@[simp] theorem keyD_str (x : Str) : keyD (.str x) = some (.inr x) := (rfl)
theorem dic0 (fr : Fm) : dicR [] fr = .ok (.dK [] []) fr := (rfl)
theorem rowD_congr (rows : List FR) {f f' : Nat → Nat} {i : Nat} (h1 : f i = f' i) (h2 : ∀ j ∈ rd rows i, f j = f' j) : rowD rows f i = rowD rows f' i := by
  unfold rowD
  cases hg : rows[i]? with
  | none => rfl
  | some g =>
    rw [rd_eq rows hg] at h2
    have : g.ops.map (opD f) = g.ops.map (opD f') := by
      apply List.map_congr_left
      intro o ho
      cases o with
      | num _ => rfl
      | wd _ => rfl
      | row j =>
        have hj : j ∈ g.reads := by
          unfold FR.reads
          rw [List.mem_filterMap]
          exact ⟨_, ho, rfl⟩
        simp [opD, h2 j hj]
    simp only [h1, this]
theorem cut_last {α : Type} (xs : List α) : ∀ x ∈ cutL xs (some (-1)) none, x ∈ xs := by
  intro x hx
  unfold cutL at hx
  exact List.mem_of_mem_drop (List.mem_of_mem_take hx)
theorem r_named_ok (n : Nat) (M : List MR) (hM : MOk M) (rows : List FR) (pl : Str) (hF : FlatOk M rows pl) (hn : rows.length ≤ 12) (ord : List Nat) (hord : ord.Perm (List.range rows.length)) (htop : Topo rows ord) (least : Bool)
    (s : Stm) (b : Nat) (hs : s.Ok b) (hb : b + 100 < 2 ^ 40) (rest : List D) :
    Wc ((cc (n + 3)).fn f__law_r_named [.ref 1, .lst (rows.map FR.enc), .lst (ord.map nI), .bl least] (stt s rest)) fun v st' => ∃ (f : Nat → Nat) (s' : Stm) (more : List D), v = .lst (ord.map (rowD rows f)) ∧ st' = stt s' (rest ++ more) ∧ s'.Ok (b + rows.length) ∧ Named rows ord f := by
  have F := hF.fo
  have hol : ord.length = rows.length := by rw [hord.length_eq]; simp
  have hond : ord.Nodup := hord.nodup_iff.mpr List.nodup_range
  have holt : ∀ k ∈ ord, k < rows.length := fun k hk => List.mem_range.mp (hord.subset hk)
  have hplk : ∀ k, k < rows.length → ∃ q, rows[k]? = some q ∧ (q.r.pl = s_reg ∨ q.r.pl = s_mem) ∧ q.ops.length ≤ 4 := fun k hk => by
    have h1 := List.getElem?_eq_getElem hk
    have h2 := hF.row k _ h1
    have h3 := (hM.ok _ h2.r).t
    have := lv_len _ h3
    exact ⟨_, h1, pl_cases h3, by rw [h2.l]; exact this⟩
  refine fn_Q d__law_r_named rfl rfl fun Q hQ => ?_
  have hst0 : stt s (rest ++ [D.lst []] ++ [D.lst []]) = stt s (tk (fun _ => []) rest) := by simp [tk]
  have hdk0 : D.dK ([] : List Key) [] = encDk nI ([] : List (Nat × Nat)) := rfl
  simp [d__law_r_named, dic2, dic0, evalEs, evalPs, evalC, evalAnd, evalOr, bind_assoc, evalPar, evalKV, bind_ok, bind_stk, ofRC_ok, noExc_ok, unS, wipeE, backE, noOwn, derefs, List.replicate]
  refine W_forE nI ord (fun pre fr => ∃ (f : Nat → Nat) (nl : List (Nat × Nat)) (T : Str → List Nat) (LV : List Nat) (s' : Stm) (a7 a8 a9 a10 a11 a12 a13 a14 : Sl), fr = ⟨[.val (.ref 1), .val (.lst (rows.map FR.enc)), .val (.lst (ord.map nI)), .val (.bl least), .own (encDk nI nl), .val (takenD rest.length), .own (.lst (pre.map (rowD rows f))), a7, a8, a9, a10, a11, a12, a13, a14, .un], stt s' (tk T rest)⟩ ∧
    NInv rows pre f nl T LV ∧ s'.Ok (b + pre.length) ∧ (a12 = .un ∨ ∃ x, a12 = .val x) ∧ (a13 = .un ∨ ∃ x, a13 = .val x)) ?_ ?_ ?_
  · refine ⟨fun _ => 0, [], fun _ => [], [], s, _, _, _, _, _, _, _, _, rfl, ⟨by simp, by simp, by simp, ⟨by simp, by simp⟩, by simp, fun p1 j p2 k p3 e => by simp at e⟩, hs, .inl rfl, .inl rfl⟩
  · rintro pre k post fr e ⟨f, nl, T, LV, s', a7, a8, a9, a10, a11, a12, a13, a14, rfl, hN, hs', h12, h13⟩ R hR
    have hkm : k ∈ ord := by rw [e]; simp
    have hkn := holt k hkm
    have hkp : k ∉ pre := by
      intro h
      rw [e, List.nodup_append] at hond
      exact hond.2.2 k h k (by simp) rfl
    have hpm : ∀ i ∈ pre, i < rows.length := fun i hi => holt i (by rw [e]; simp [hi])
    have hpl12 : pre.length + 1 ≤ 12 := by
      have := congrArg List.length e
      simp at this
      omega
    have hrp := htop pre k post e
    obtain ⟨hrnd, hrlv⟩ := hN.reads_live F hkn hkp hpm hrp
    obtain ⟨g, hg, hgpl, hg4⟩ := hplk k hkn
    have hge := rd_eq rows hg
    rw [hge] at hrnd hrlv hrp
    have hix := row_ix rows hg
    have hh : ∀ fr, deref fr g.enc = some g.enc := fun _ => rfl
    have hno : noOwn [.val (.ref 1), .val (.lst (rows.map FR.enc)), .val (.lst (ord.map nI)), .val (.bl least), .own (encDk nI nl), .val (takenD rest.length), .own (.lst (pre.map (rowD rows f))), .val (nI k), .val (.str g.r.w), .val (.str g.r.pl), .val (.lst (g.ops.map Op.enc)), a11, a12, a13, a14, .un] [12, 13] = true :=
      noOwn_cons _ _ _ a12 rfl h12 (noOwn_cons _ _ _ a13 rfl h13 rfl)
    have hops := named_ops (cc (n + 2)) g (by omega) nl f (fun j hj => hN.keys j (hrp j hj)) (.val (.ref 1)) (.val (.lst (rows.map FR.enc))) (.val (.lst (ord.map nI))) (.val (.bl least)) (.val (takenD rest.length)) (.own (.lst (pre.map (rowD rows f)))) (.val (nI k)) (.val (.str g.r.w)) (.val (.str g.r.pl)) (.val (.lst (g.ops.map Op.enc))) a11 a14 (stt s' (tk T rest))
    have hasg : ∀ ts (env : List Sl) st, ts.length = 3 → asgT (.tp ts) g.enc ⟨env, st⟩ = asgTs ts [.str g.r.w, .str g.r.pl, .lst (g.ops.map Op.enc)] ⟨env, st⟩ := fun ts env st h => asgT_lst ts _ _ (by simp [h])
    have hgl : isLoc g.enc = false := rfl
    unfold forT
    simp [hix, hh, hgl, hasg, hno, hops, evalEs, evalPs, evalC, evalAnd, evalOr, bind_assoc, evalPar, evalKV, bind_ok, bind_stk, ofRC_ok, noExc_ok, unS, wipeE, backE, derefs, List.replicate]
    refine named_free (n + 2) rows g (by omega) (fun j hj => ?_) nl f (fun j hj => hN.keys j (hrp j hj)) T LV hN.t hrlv hrnd s' rest _ _ _ _ _ _ _ _ _ _ _ h12 h13 _ _ ?_
    · obtain ⟨q, h1, h2, _⟩ := hplk j (hpm j (hrp j hj))
      exact ⟨q, h1, h2⟩
    · intro T1 LV1 a12 a13 h12 h13 hT1 hp1
      have hplk' := plOf_eq hg
      have hpre1 : (rd rows k ++ LV1).Perm LV := by rw [hge]; exact hp1
      have hLVl : LV.length ≤ pre.length := by
        have := hN.live.length_eq
        simp at this
        omega
      have hTl : (T1 g.r.pl).length < 30 := by
        have h1 := (hT1.tk g.r.pl).length_eq
        have h2 := List.length_filter_le (fun j => plOf rows j == g.r.pl) LV1
        have h3 := hp1.length_eq
        simp at h1 h3
        omega
      have hfree := cand_free (T1 g.r.pl) hTl
      have hfsub : ∀ v ∈ cand.filter (fun v => !decide (v ∈ T1 g.r.pl)), v ∉ T1 g.r.pl := by
        intro v hv
        have := (List.mem_filter.mp hv).2
        simpa using this
      have hflen : (cand.filter fun v => !decide (v ∈ T1 g.r.pl)).length ≤ 30 := List.length_filter_le _ _
      have tk1 := tk_ix rest.length hgpl
      have tk2 := tk_get s' T1 rest hgpl
      have hlr : ∀ fr, lrngR (.int 28) fr = .ok (.lst ((List.range 28).map nI)) fr := fun fr => lrngR_nat 28 fr (by decide)
      have hcl := cand_list
      have hcomp : compL (lcT (cc (n + 2)) [15] (.nm 15) [.cmp .nmem (.var 15) (.ix (.var 5) (.var 9))] (.var 15)) (cand.map nI) [] ⟨[.val (.ref 1), .val (.lst (rows.map FR.enc)), .val (.lst (ord.map nI)), .val (.bl least), .own (encDk nI nl), .val (takenD rest.length), .own (.lst (pre.map (rowD rows f))), .val (nI k), .val (.str g.r.w), .val (.str g.r.pl), .val (.lst (g.ops.map Op.enc)), .val (.tup (g.ops.map (opD f))), a12, a13, a14, .un], stt s' (tk T1 rest)⟩ =
          .ok ((cand.filter fun v => !decide (v ∈ T1 g.r.pl)).map nI) ⟨[.val (.ref 1), .val (.lst (rows.map FR.enc)), .val (.lst (ord.map nI)), .val (.bl least), .own (encDk nI nl), .val (takenD rest.length), .own (.lst (pre.map (rowD rows f))), .val (nI k), .val (.str g.r.w), .val (.str g.r.pl), .val (.lst (g.ops.map Op.enc)), .val (.tup (g.ops.map (opD f))), a12, a13, a14, .un], stt s' (tk T1 rest)⟩ := by
        rw [compL_map nI (fun v => if (!decide (v ∈ T1 g.r.pl)) = true then some (nI v) else none), filterMap_if, List.nil_append]
        · intro v _
          have hm := memD_nats (xs := T1 g.r.pl) (k := v)
          unfold lcT
          simp [tk1, tk2, hm, evalEs, evalPs, evalC, evalAnd, evalOr, bind_assoc, evalPar, evalKV, bind_ok, bind_stk, ofRC_ok, noExc_ok, unS, wipeE, backE, noOwn, derefs, List.replicate]
          by_cases hv : v ∈ T1 g.r.pl <;> simp [hv]
        · exact sz_le (by decide)
      generalize (cand.filter fun v => !decide (v ∈ T1 g.r.pl)) = free at hfree hfsub hflen hcomp
      have htail : ∀ (v : Nat) (s2 : Stm) (a14 : Sl), v ∈ free → s2.Ok (b + pre.length + 1) → R .nx ⟨[.val (.ref 1), .val (.lst (rows.map FR.enc)), .val (.lst (ord.map nI)), .val (.bl least), .own (encDk nI (aput nl k v)), .val (takenD rest.length), .own (.lst (pre.map (rowD rows f) ++ [.tup [.str g.r.w, .int (v : Int), .tup (g.ops.map (opD f))]])), .val (nI k), .val (.str g.r.w), .val (.str g.r.pl), .val (.lst (g.ops.map Op.enc)), .val (.tup (g.ops.map (opD f))), a12, a13, a14, .un], stt s2 (tk (upd T1 g.r.pl (T1 g.r.pl ++ [v])) rest)⟩ := by
        intro v s2 a14 hv hs2
        have hstep := hN.step (v := v) hkp hpre1 hT1 (by rw [hplk']; exact hfsub v hv)
        rw [hplk'] at hstep
        have hrow : pre.map (rowD rows f) ++ [.tup [.str g.r.w, .int (v : Int), .tup (g.ops.map (opD f))]] = (pre ++ [k]).map (rowD rows (upd f k v)) := by
          rw [List.map_append]
          congr 1
          · apply List.map_congr_left
            intro i hi
            have hik : i ≠ k := fun z => hkp (z ▸ hi)
            refine rowD_congr rows (upd_ne _ _ hik).symm fun j hj => ?_
            obtain ⟨a, c, ea⟩ := List.append_of_mem hi
            have hjp : j ∈ a := htop a i (c ++ k :: post) (by rw [e, ea]; simp) j hj
            have : j ≠ k := fun z => hkp (by rw [ea, ← z]; simp [hjp])
            exact (upd_ne _ _ this).symm
          · simp only [List.map_cons, List.map_nil, rowD, hg, upd_eq]
            have hoo : g.ops.map (opD f) = g.ops.map (opD (upd f k v)) := by
              apply List.map_congr_left
              intro o ho
              cases o with
              | num _ => rfl
              | wd _ => rfl
              | row j =>
                have hj : j ∈ g.reads := by
                  unfold FR.reads
                  rw [List.mem_filterMap]
                  exact ⟨_, ho, rfl⟩
                have : j ≠ k := fun z => hkp (z ▸ hrp j hj)
                simp only [opD, upd_ne _ _ this]
            rw [hoo]
        rw [hrow]
        exact hR _ ⟨_, _, _, _, s2, _, _, _, _, _, _, _, _, rfl, hstep, hs2.mono (by simp; omega), h12, h13⟩
      have hset : ∀ v, setD (encDk nI nl) (.int (k : Int)) (nI v) = some (encDk nI (aput nl k v)) := fun v => set_dk nI nl k v (sz_lt (by have := hN.nlen; omega))
      have hget : ∀ v, alook (aput nl k v) k = some v := fun v => by rw [alook_put, if_pos rfl]
      have happ : ∀ v, bmD .append (.lst ((T1 g.r.pl).map nI)) [nI v] = some (.non, some (.lst ((T1 g.r.pl ++ [v]).map nI))) := fun v => by
        rw [bm_append _ _ (sz_lt (by simp; omega)), List.map_append]; rfl
      have hapr : ∀ v : Nat, bmD .append (.lst (pre.map (rowD rows f))) [.tup [.str g.r.w, .int (v : Int), .tup (g.ops.map (opD f))]] = some (.non, some (.lst (pre.map (rowD rows f) ++ [.tup [.str g.r.w, .int (v : Int), .tup (g.ops.map (opD f))]]))) := fun v => bm_append _ _ (sz_lt (by simp; omega))
      cases least with
      | true =>
        obtain ⟨v, free', rfl⟩ : ∃ v l, free = v :: l := by
          cases free with
          | nil => exact (hfree rfl).elim
          | cons v l => exact ⟨v, l, rfl⟩
        have tk3 := tk_set s' T1 rest hgpl (T1 g.r.pl ++ [v])
        have hset := hset v
        have hget := hget v
        have happ := happ v
        have hapr := hapr v
        have htail := htail v s' (.val (.lst ((v :: free').map nI))) (by simp) (hs'.mono (by omega))
        generalize T1 g.r.pl ++ [v] = l2 at tk3 happ htail
        generalize pre.map (rowD rows f) ++ [.tup [.str g.r.w, .int (v : Int), .tup (g.ops.map (opD f))]] = l3 at hapr htail
        simp [hlr, hcl, hcomp, hset, hget, tk1, tk2, happ, tk3, hapr, evalEs, evalPs, evalC, evalAnd, evalOr, bind_assoc, evalPar, evalKV, bind_ok, bind_stk, ofRC_ok, noExc_ok, unS, wipeE, backE, noOwn, derefs, List.replicate]
        exact htail
      | false =>
        have hlast := cut_last (free.map nI)
        have hlastl : (cutL (free.map nI) (some (-1)) none).length ≤ 30 := by
          unfold cutL
          refine Nat.le_trans (List.length_take_le' _ _) ?_
          simp
          omega
        have hfirst := cut_take (free.map nI) 4 (by decide)
        have hfn : (cutL (free.map nI) none (some 4)) ≠ [] := by
          rw [hfirst]
          cases free with
          | nil => exact (hfree rfl).elim
          | cons v l => simp
        have hfm : ∀ x ∈ cutL (free.map nI) none (some 4), x ∈ free.map nI := by
          rw [hfirst]
          intro x hx
          exact List.mem_of_mem_take hx
        have hfl4 : (cutL (free.map nI) none (some 4)).length ≤ 30 := by
          rw [hfirst]
          simp
          omega
        have hadd := binD_add_lst (cutL (free.map nI) none (some 4)) (cutL (free.map nI) (some (-1)) none) (sz_le (by omega))
        have hmem : ∀ x ∈ cutL (free.map nI) none (some 4) ++ cutL (free.map nI) (some (-1)) none, x ∈ free.map nI := by
          intro x hx
          rcases List.mem_append.mp hx with h | h
          · exact hfm x h
          · exact hlast x h
        have hxl : (cutL (free.map nI) none (some 4) ++ cutL (free.map nI) (some (-1)) none).length ≤ 60 := by simp; omega
        have hxn : cutL (free.map nI) none (some 4) ++ cutL (free.map nI) (some (-1)) none ≠ [] := by simp [hfn]
        generalize cutL (free.map nI) none (some 4) ++ cutL (free.map nI) (some (-1)) none = xs at hadd hmem hxl hxn
        obtain ⟨d, _, e4, s2, hd, rfl, hs2⟩ := pick_ok n s' (b + pre.length) hs' (by omega) (.lst xs) xs (tk T1 rest) (deref_lst_any _ _) rfl (fun v hv => loc_map nI (fun _ => rfl) free v (hmem v hv)) hxn (by omega)
        obtain ⟨v, hv, rfl⟩ := List.mem_map.mp (hmem d hd)
        have tk2' := tk_get s2 T1 rest hgpl
        have tk3 := tk_set s2 T1 rest hgpl (T1 g.r.pl ++ [v])
        have hset := hset v
        have hget := hget v
        have happ := happ v
        have hapr := hapr v
        have htail := htail v s2 (.val (.lst (free.map nI))) hv hs2
        generalize T1 g.r.pl ++ [v] = l2 at tk3 happ htail
        generalize pre.map (rowD rows f) ++ [.tup [.str g.r.w, .int (v : Int), .tup (g.ops.map (opD f))]] = l3 at hapr htail
        simp [hlr, hcl, hcomp, hset, hget, tk1, tk2, tk2', happ, tk3, hapr, hadd, e4, evalEs, evalPs, evalC, evalAnd, evalOr, bind_assoc, evalPar, evalKV, bind_ok, bind_stk, ofRC_ok, noExc_ok, unS, wipeE, backE, noOwn, derefs, List.replicate]
        exact htail
  · rintro fr ⟨f, nl, T, LV, s', a7, a8, a9, a10, a11, a12, a13, a14, rfl, hN, hs', h12, h13⟩
    simp [evalEs, evalPs, evalC, evalAnd, evalOr, bind_assoc, evalPar, evalKV, bind_ok, bind_stk, ofRC_ok, noExc_ok, unS, wipeE, backE, noOwn, derefs, List.replicate]
    exact hQ _ _ ⟨f, s', _, rfl, rfl, hs'.mono (by omega), hN.named⟩
end K81
end Mr
end
section
set_option linter.all false
set_option backward.isDefEq.respectTransparency false
set_option maxRecDepth 100000
namespace Mr
open PySem
namespace K81
/-! Z18: lists for tuples -/
mutual
def nd : D → Nat
  | .lst xs => ndL xs + 1
  | .tup xs => ndL xs + 1
  | _ => 0
def ndL : List D → Nat
  | [] => 0
  | d :: ds => nd d + ndL ds
end
theorem W_compI {β : Type} {step : D → Fm → Rs (Option D)} {fr : Fm} {k : List D → Fm → Rs β} {Q : β → Fm → Prop} (xs : List D) (Inv : List D → List D → Fm → Prop) (h0 : Inv [] [] fr) (hl : xs.length ≤ szL)
    (hs : ∀ pre x post acc fr, xs = pre ++ x :: post → Inv pre acc fr → ∀ R : Option D → Fm → Prop, (∀ y fr', Inv (pre ++ [x]) (acc ++ [y]) fr' → R (some y) fr') → W (step x fr) R) (hk : ∀ ys fr', Inv xs ys fr' → W (k ys fr') Q) : W ((noExc (compL step xs [] fr)).bind k) Q := by
  have := W_comp (step := step) (k := k) (Q := Q) id xs Inv h0 hl hs hk
  rwa [List.map_id] at this
theorem asTL_app (xs ys : List D) : asTL (xs ++ ys) = asTL xs ++ asTL ys := by simp [asTL_map]
theorem plnL_app (xs ys : List D) : plnL (xs ++ ys) = (plnL xs && plnL ys) := by
  induction xs with
  | nil => simp [plnL]
  | cons x xs ih => simp [plnL, ih, Bool.and_assoc]
theorem depL_app (xs ys : List D) : depL (xs ++ ys) = max (depL xs) (depL ys) := by
  induction xs with
  | nil => simp [depL]
  | cons x xs ih => simp [depL, ih, Nat.max_assoc]
theorem ndL_app (xs ys : List D) : ndL (xs ++ ys) = ndL xs + ndL ys := by
  induction xs with
  | nil => simp [ndL]
  | cons x xs ih => simp [ndL, ih, Nat.add_assoc]
theorem pln_can {d : D} (h : pln d = true) : canTy d = true := solid_can (pln_solid h)
theorem asTL_len (xs : List D) : (asTL xs).length = xs.length := by simp [asTL_map]
theorem loose_ok (rest : List D) : ∀ (k n : Nat) (d : D) (s : Stm) (b : Nat), pln d = true → dep d ≤ k → s.Ok b → b + nd d + 10 < 2 ^ 40 →
    Wc ((cc (n + k + 2)).fn f__law_loose [.ref 1, d] (stt s rest)) fun v st' => ∃ s' : Stm, st' = stt s' rest ∧ s'.Ok (b + nd d) ∧ pln v = true ∧ asT v = asT d ∧ dep v = dep d := by
  intro k
  induction k with
  | zero =>
    intro n d s b hp hd hs hb
    refine fn_Q d__law_loose rfl rfl fun Q hQ => ?_
    cases d with
    | lst xs => simp [dep] at hd
    | tup xs => simp [dep] at hd
    | non => simp [d__law_loose, evalEs, evalPs, evalC, evalAnd, evalOr, bind_assoc, evalPar, evalKV, bind_ok, bind_stk, ofRC_ok, noExc_ok, unS, wipeE, backE, noOwn, derefs, List.replicate]; exact hQ _ _ ⟨s, rfl, hs, hp, rfl, rfl⟩
    | bl b' => simp [d__law_loose, evalEs, evalPs, evalC, evalAnd, evalOr, bind_assoc, evalPar, evalKV, bind_ok, bind_stk, ofRC_ok, noExc_ok, unS, wipeE, backE, noOwn, derefs, List.replicate]; exact hQ _ _ ⟨s, rfl, hs, hp, rfl, rfl⟩
    | int i => simp [d__law_loose, evalEs, evalPs, evalC, evalAnd, evalOr, bind_assoc, evalPar, evalKV, bind_ok, bind_stk, ofRC_ok, noExc_ok, unS, wipeE, backE, noOwn, derefs, List.replicate]; exact hQ _ _ ⟨s, rfl, hs, hp, rfl, rfl⟩
    | str x => simp [d__law_loose, evalEs, evalPs, evalC, evalAnd, evalOr, bind_assoc, evalPar, evalKV, bind_ok, bind_stk, ofRC_ok, noExc_ok, unS, wipeE, backE, noOwn, derefs, List.replicate]; exact hQ _ _ ⟨s, rfl, hs, hp, rfl, rfl⟩
    | _ => simp [pln] at hp
  | succ k ih =>
    intro n d s b hp hd hs hb
    refine fn_Q d__law_loose rfl rfl fun Q hQ => ?_
    have hcore : ∀ (xs : List D) (o : D), (o = .lst xs ∨ o = .tup xs) → xs.length ≤ szL → plnL xs = true → depL xs ≤ k → b + ndL xs + 11 < 2 ^ 40 →
        (∀ v st', (∃ s' : Stm, st' = stt s' rest ∧ s'.Ok (b + (ndL xs + 1)) ∧ pln v = true ∧ asT v = .tup (asTL xs) ∧ dep v = depL xs + 1) → Q v st') →
        W (xSs gg (cc (n + (k + 1) + 1)) LL d__law_loose.body ⟨[.ref 1, o].map Sl.val ++ unS 2, stt s rest⟩) (rQ Q) := by
      intro xs o ho hl hpl hdl hbl hQ
      have hpa := plnL_all.mp hpl
      have hda := depL_le.mp hdl
      have hinv : ∀ (o : D), isLoc o = false → ∀ (R : List D → Fm → Prop), (∀ ys s', s'.Ok (b + ndL xs) → plnL ys = true → asTL ys = asTL xs → depL ys = depL xs → ys.length = xs.length → R ys ⟨[.val (.ref 1), .val o, .un, .un], stt s' rest⟩) →
          W (noExc (compL (lcT (cc (n + (k + 1) + 1)) [3] (.nm 3) [] (.call f__law_loose [.var 0, .var 3])) xs [] ⟨[.val (.ref 1), .val o, .un, .un], stt s rest⟩)) R := by
        intro o hol R hR
        have hb2 : ∀ {m : Rs (List D)} {R : List D → Fm → Prop}, W (m.bind fun a fr => .ok a fr) R → W m R := by
          intro m R h
          cases m with
          | ok a fr => exact h
          | exc _ _ _ => obtain ⟨_, _, e, _⟩ := h; cases e
          | stk => obtain ⟨_, _, e, _⟩ := h; cases e
        refine hb2 ?_
        refine W_compI xs (fun pre acc fr => ∃ s' : Stm, fr = ⟨[.val (.ref 1), .val o, .un, .un], stt s' rest⟩ ∧ s'.Ok (b + ndL pre) ∧ plnL acc = true ∧ asTL acc = asTL pre ∧ depL acc = depL pre ∧ acc.length = pre.length) ?_ hl ?_ ?_
        · exact ⟨s, rfl, hs, rfl, rfl, rfl, rfl⟩
        · rintro pre x post acc fr e ⟨s', rfl, hs', h1, h2, h3, h4⟩ R hR
          have hx : x ∈ xs := by rw [e]; simp
          have hnx : ndL xs = ndL pre + nd x + ndL post := by
            rw [e, ndL_app]
            simp [ndL, Nat.add_assoc]
          obtain ⟨v, _, ec, s2, rfl, hs2, g1, g2, g3⟩ := ih n x s' (b + ndL pre) (hpa x hx) (hda x hx) hs' (by omega)
          have hxl := solid_loc (pln_solid (hpa x hx))
          have hvl := solid_loc (pln_solid g1)
          rw [show n + k + 2 = n + (k + 1) + 1 by omega] at ec
          unfold lcT
          simp [ec, hxl, hvl, evalEs, evalPs, evalC, evalAnd, evalOr, bind_assoc, evalPar, evalKV, bind_ok, bind_stk, ofRC_ok, noExc_ok, unS, wipeE, backE, noOwn, derefs, List.replicate]
          refine hR _ _ ⟨s2, rfl, hs2.mono (by rw [ndL_app]; simp [ndL]; omega), ?_, ?_, ?_, by simp [h4]⟩
          · rw [plnL_app, h1]; simp [plnL, g1]
          · rw [asTL_app, asTL_app, h2]; simp [asTL, g2]
          · rw [depL_app, depL_app, h3]; simp [depL, g3]
        · rintro ys fr ⟨s', rfl, hs', h1, h2, h3, h4⟩
          exact W_ok (hR ys s' hs' h1 h2 h3 h4)
      have hfin : ∀ (ys : List D) (s' : Stm), s'.Ok (b + ndL xs) → plnL ys = true → asTL ys = asTL xs → depL ys = depL xs → ys.length = xs.length →
          (∀ s2 : Stm, s2.Ok (b + ndL xs + 1) → Q (.lst ys) (stt s2 rest)) ∧ (∀ s2 : Stm, s2.Ok (b + ndL xs + 1) → Q (.tup ys) (stt s2 rest)) := by
        intro ys s' hs' h1 h2 h3 h4
        constructor
        · intro s2 hs2
          exact hQ _ _ ⟨s2, rfl, hs2, by simp [pln, h1, h4, hl], by rw [asT, h2], by rw [dep, h3]⟩
        · intro s2 hs2
          exact hQ _ _ ⟨s2, rfl, hs2, by simp [pln, h1, h4, hl], by rw [asT, h2], by rw [dep, h3]⟩
      rcases ho with rfl | rfl
      all_goals
        simp [d__law_loose, evalEs, evalPs, evalC, evalAnd, evalOr, bind_assoc, evalPar, evalKV, bind_ok, bind_stk, ofRC_ok, noExc_ok, unS, wipeE, backE, noOwn, derefs, List.replicate]
        refine W_bind (hinv _ rfl _ fun ys s' hs' h1 h2 h3 h4 => ?_)
        obtain ⟨q1, q2⟩ := hfin ys s' hs' h1 h2 h3 h4
        obtain ⟨_, _, e2, r, s2, rfl, rfl, r0, r1, hs2⟩ := draw_ok (n + (k + 1)) s' (b + ndL xs) hs' (by omega) 2 (by decide) (by decide) rest
        by_cases hr : r = 0
        · subst hr
          simp [e2, evalEs, evalPs, evalC, evalAnd, evalOr, bind_assoc, evalPar, evalKV, bind_ok, bind_stk, ofRC_ok, noExc_ok, unS, wipeE, backE, noOwn, derefs, List.replicate]
          exact q1 s2 hs2
        · simp [e2, hr, evalEs, evalPs, evalC, evalAnd, evalOr, bind_assoc, evalPar, evalKV, bind_ok, bind_stk, ofRC_ok, noExc_ok, unS, wipeE, backE, noOwn, derefs, List.replicate]
          exact q2 s2 hs2
    cases d with
    | lst xs =>
      simp only [pln, Bool.and_eq_true, decide_eq_true_eq] at hp
      simp only [dep, Nat.add_le_add_iff_right] at hd
      simp only [nd] at hb
      exact hcore xs _ (.inl rfl) hp.1 hp.2 hd (by omega) fun v st' h => hQ v st' (by simpa only [nd, asT, dep] using h)
    | tup xs =>
      simp only [pln, Bool.and_eq_true, decide_eq_true_eq] at hp
      simp only [dep, Nat.add_le_add_iff_right] at hd
      simp only [nd] at hb
      exact hcore xs _ (.inr rfl) hp.1 hp.2 hd (by omega) fun v st' h => hQ v st' (by simpa only [nd, asT, dep] using h)
    | non => simp [d__law_loose, evalEs, evalPs, evalC, evalAnd, evalOr, bind_assoc, evalPar, evalKV, bind_ok, bind_stk, ofRC_ok, noExc_ok, unS, wipeE, backE, noOwn, derefs, List.replicate]; exact hQ _ _ ⟨s, rfl, hs, hp, rfl, rfl⟩
    | bl b' => simp [d__law_loose, evalEs, evalPs, evalC, evalAnd, evalOr, bind_assoc, evalPar, evalKV, bind_ok, bind_stk, ofRC_ok, noExc_ok, unS, wipeE, backE, noOwn, derefs, List.replicate]; exact hQ _ _ ⟨s, rfl, hs, hp, rfl, rfl⟩
    | int i => simp [d__law_loose, evalEs, evalPs, evalC, evalAnd, evalOr, bind_assoc, evalPar, evalKV, bind_ok, bind_stk, ofRC_ok, noExc_ok, unS, wipeE, backE, noOwn, derefs, List.replicate]; exact hQ _ _ ⟨s, rfl, hs, hp, rfl, rfl⟩
    | str x => simp [d__law_loose, evalEs, evalPs, evalC, evalAnd, evalOr, bind_assoc, evalPar, evalKV, bind_ok, bind_stk, ofRC_ok, noExc_ok, unS, wipeE, backE, noOwn, derefs, List.replicate]; exact hQ _ _ ⟨s, rfl, hs, hp, rfl, rfl⟩
    | _ => simp [pln] at hp
theorem asT_tup {v : D} {ys : List D} (h : asT v = .tup ys) : ∃ xs, (v = .lst xs ∨ v = .tup xs) ∧ asTL xs = ys := by
  cases v <;> simp [asT] at h
  · exact ⟨_, .inl rfl, h⟩
  · exact ⟨_, .inr rfl, h⟩
theorem asT_str {v : D} {x : Str} (h : asT v = .str x) : v = .str x := by
  cases v <;> simp [asT] at h
  rw [h]
theorem asT_int {v : D} {i : Int} (h : asT v = .int i) : v = .int i := by
  cases v <;> simp [asT] at h
  rw [h]
theorem asTL_cons {xs : List D} {y : D} {ys : List D} (h : asTL xs = y :: ys) : ∃ x xs', xs = x :: xs' ∧ asT x = y ∧ asTL xs' = ys := by
  cases xs with
  | nil => simp [asTL] at h
  | cons x xs' =>
    simp only [asTL, List.cons.injEq] at h
    exact ⟨x, xs', rfl, h.1, h.2⟩
theorem asTL_nil {xs : List D} (h : asTL xs = []) : xs = [] := by
  cases xs with
  | nil => rfl
  | cons x xs' => simp [asTL] at h
theorem asTL_ops (f : Nat → Nat) : ∀ (os : List Op) (xs : List D), asTL xs = os.map (opD f) → xs = os.map (opD f)
  | [], xs, h => asTL_nil h
  | o :: os, xs, h => by
    rw [List.map_cons] at h
    obtain ⟨x, xs', rfl, h1, h2⟩ := asTL_cons h
    rw [List.map_cons, asTL_ops f os xs' h2]
    congr 1
    cases o with
    | num i => exact asT_int h1
    | wd x => exact asT_str h1
    | row j => exact asT_int h1
end K81
end Mr
end
section
set_option linter.all false
set_option backward.isDefEq.respectTransparency false
set_option maxRecDepth 100000
namespace Mr
open PySem
namespace K81
/-! Z19: rows are right -/
def encW (q : Str × Nat) : D := .tup [.str q.1, .int (q.2 : Int)]
theorem lay_pr {p : Str} (hp : lay (.str p) = true) (i : Nat) : lay (.tup [.str p, .int (i : Int)]) = true := by
  unfold Mr.lay
  simp only [layL, hp]
  simp [Mr.lay]
theorem memD_prs {wr : List (Str × Nat)} {p : Str} {i : Nat} (hw : ∀ q ∈ wr, lay (.str q.1) = true) (hp : lay (.str p) = true) : memD (.tup [.str p, .int (i : Int)]) (.lst (wr.map encW)) = some (decide ((p, i) ∈ wr)) := by
  have h2 : layL (wr.map encW) = true := by
    rw [layL_all]
    intro d hd
    obtain ⟨x, hx, rfl⟩ := List.mem_map.mp hd
    exact lay_pr (hw x hx) _
  have h3 : dep (.tup [.str p, .int (i : Int)]) = 1 := by simp [dep, depL]
  simp only [memD, lay_pr hp, h2, h3, Bool.true_and, List.any_map]
  rw [if_pos (by simp; omega)]
  congr 1
  rw [Bool.eq_iff_iff]
  simp only [List.any_eq_true, decide_eq_true_eq, Function.comp]
  constructor
  · rintro ⟨q, hq, he⟩
    simp [encW, eqv, eqvL] at he
    obtain ⟨a, c⟩ := q
    simp at he
    obtain ⟨rfl, h2⟩ := he
    have h3 : c = i := by omega
    rw [← h3]
    exact hq
  · intro h
    exact ⟨(p, i), h, by simp [encW, eqv, eqvL]⟩
theorem vars_words : ∀ x ∈ varsL, x ∈ wordsL := by
  intro x hx
  have e : wordsL = wordsM ++ varsL := rfl
  rw [e]
  exact List.mem_append_right _ hx
/-- an operand that fits -/
def FitW (wr : List (Str × Nat)) (f : Nat → Nat) (k : Str) : Op → Prop
  | .num _ => k = s_num
  | .wd x => k = s_mem ∧ x ∈ varsL
  | .row j => (k = s_reg ∨ k = s_mem) ∧ (k, f j) ∈ wr
theorem is_operand_ok (n : Nat) (st : List D) (w : Nat) (wr : List (Str × Nat)) (hw : st[w]? = some (.lst (wr.map encW))) (hwl : ∀ q ∈ wr, lay (.str q.1) = true) (f : Nat → Nat) (k : Str) (o : Op) (h : FitW wr f k o) :
    (cc (n + 3)).fn f_is_operand [.str k, opD f o, .ref w] st = .ok (.bl true) st := by
  refine fn_E d_is_operand rfl rfl ?_
  cases o with
  | num i =>
    have h : k = s_num := h
    subst h
    have e := eqD_str lay_num lay_num
    simp [d_is_operand, opD, e, is_whole_ok, isI, evalEs, evalPs, evalC, evalAnd, evalOr, bind_assoc, evalPar, evalKV, bind_ok, bind_stk, ofRC_ok, noExc_ok, unS, wipeE, backE, noOwn, derefs, List.replicate]
  | wd x =>
    obtain ⟨rfl, hx⟩ := h
    have e := eqD_str lay_mem lay_num
    have e2 := eqD_str lay_mem lay_mem
    have e3 := is_word_ok (n + 1) st x (vars_words x hx)
    simp [d_is_operand, opD, e, e2, e3, evalEs, evalPs, evalC, evalAnd, evalOr, bind_assoc, evalPar, evalKV, bind_ok, bind_stk, ofRC_ok, noExc_ok, unS, wipeE, backE, noOwn, derefs, List.replicate]
  | row j =>
    obtain ⟨hk, hm⟩ := h
    have hkl := plain_eq hk
    have e := eqD_str hkl lay_num
    have hkn : (k == s_num) = false := by rcases hk with rfl | rfl <;> simp
    rw [hkn] at e
    have e2 := eqD_str hkl lay_mem
    have e3 := is_word_int (n + 1) st (f j : Int)
    have e4 := is_natural_ok n (.int (f j : Int)) st rfl
    have e5 : isNat (.int (f j : Int)) = true := by simp [isNat]
    rw [e5] at e4
    have e6 := memD_prs (wr := wr) (p := k) (i := f j) hwl hkl
    have e7 : decide ((k, f j) ∈ wr) = true := by simp [hm]
    rw [e7] at e6
    rcases hk with rfl | rfl
    · simp [d_is_operand, opD, e, e2, e4, e6, hw, evalEs, evalPs, evalC, evalAnd, evalOr, bind_assoc, evalPar, evalKV, bind_ok, bind_stk, ofRC_ok, noExc_ok, unS, wipeE, backE, noOwn, derefs, List.replicate]
    · simp [d_is_operand, opD, e, e2, e3, e4, e6, hw, evalEs, evalPs, evalC, evalAnd, evalOr, bind_assoc, evalPar, evalKV, bind_ok, bind_stk, ofRC_ok, noExc_ok, unS, wipeE, backE, noOwn, derefs, List.replicate]
theorem told_words (c : Cal) (M : List MR) (hM : MOk M) (k : Nat) (a0 a1 a2 a3 a4 a5 a6 : Sl) (st : List D) :
    compL (lcT c [7] (.nm 7) [] (.ix (.var 7) (.con (.int 0)))) (M.map MR.enc) [] ⟨[a0, a1, a2, a3, a4, a5, a6, .un], st⟩ = .ok ((M.map (·.w)).map D.str) ⟨[a0, a1, a2, a3, a4, a5, a6, .un], st⟩ := by
  rw [compL_map MR.enc (fun r => some (D.str r.w))]
  · simp
  · intro r _
    have : ixD r.enc (.int 0) = some (.str r.w) := by simp [MR.enc]
    unfold lcT
    simp [this, evalEs, evalPs, evalC, evalAnd, evalOr, bind_assoc, evalPar, evalKV, bind_ok, bind_stk, ofRC_ok, noExc_ok, unS, wipeE, backE, noOwn, derefs, List.replicate]
  · have := hM.len
    exact sz_le (by simp; omega)
/-- a row as it may be told -/
def RowV (v : D) (w : Str) (i : Nat) (os : List D) : Prop := ∃ x2, (x2 = .lst os ∨ x2 = .tup os) ∧ (v = .lst [.str w, .int (i : Int), x2] ∨ v = .tup [.str w, .int (i : Int), x2])
theorem RowV.of {v : D} {rows : List FR} {f : Nat → Nat} {k : Nat} {g : FR} (hg : rows[k]? = some g) (h : asT v = rowD rows f k) : RowV v g.r.w (f k) (g.ops.map (opD f)) := by
  simp only [rowD, hg] at h
  obtain ⟨xs, hv, hx⟩ := asT_tup h
  obtain ⟨x0, xs1, rfl, h0, hx⟩ := asTL_cons hx
  obtain ⟨x1, xs2, rfl, h1, hx⟩ := asTL_cons hx
  obtain ⟨x2, xs3, rfl, h2, hx⟩ := asTL_cons hx
  have := asTL_nil hx
  subst this
  have h0 := asT_str h0
  have h1 := asT_int h1
  subst h0 h1
  obtain ⟨ys, hy, hye⟩ := asT_tup h2
  have := asTL_ops f _ _ hye
  subst this
  exact ⟨x2, hy, hv⟩
theorem lvP_len (p : Pat) : p.lvP.length = p.lv.length := by rw [← p.lv_lvP]; simp
theorem zip_lv (p : Pat) : ∀ {β : Type} (ys : List β) (q : (Str × List Int) × β), q ∈ p.lvP.zip ys → (q.1.1, q.2) ∈ p.lv.zip ys := by
  intro β ys q hq
  rw [← p.lv_lvP]
  rw [List.mem_iff_getElem] at hq ⊢
  obtain ⟨i, hi, e⟩ := hq
  refine ⟨i, by simpa using hi, ?_⟩
  rw [← e]
  simp
theorem is_right_row_ok (n : Nat) (M : List MR) (hM : MOk M) (st : List D) (mk w : Nat) (hmk : st[mk]? = some (mach M)) (wr : List (Str × Nat)) (hw : st[w]? = some (.lst (wr.map encW))) (hwl : ∀ q ∈ wr, lay (.str q.1) = true) (f : Nat → Nat)
    (g : FR) (hg : g.r ∈ M) (hgl : g.ops.length = g.r.p.lv.length) (hfit : ∀ q ∈ g.r.p.lv.zip g.ops, FitW wr f q.1 q.2) (v : D) (i : Nat) (hv : RowV v g.r.w i (g.ops.map (opD f))) :
    (cc (n + 8)).fn f_is_right_row [.ref mk, v, .ref w] st = .ok (.bl true) st := by
  have hro := hM.ok _ hg
  have hmk' : st[mk]? = some (.ins 0 [s_told] [.tup (M.map MR.enc)]) := hmk
  have hio := instruction_of_ok (n + 6) st mk M hM hmk g.r hg
  have hdp := tab_dp _ hro.t
  have hl4 := lv_len _ hro.t
  simp only at hdp hl4
  have hlo := leaves_of_ok st g.r.p (n + 6) (by omega) (by omega) (by rw [lvP_len]; exact sz_le (by omega))
  have htw := told_words (cc (n + 7)) M hM mk
  have hll : (g.r.p.lvP.map encL).length = g.ops.length := by simp [lvP_len, hgl]
  have hmw : memD (.str g.r.w) (.lst ((M.map (·.w)).map D.str)) = some true := by
    rw [memD_strs]
    · have : g.r.w ∈ M.map (·.w) := List.mem_map.mpr ⟨_, hg, rfl⟩
      simp only [this, decide_true]
    · intro x hx
      obtain ⟨q, hq, rfl⟩ := List.mem_map.mp hx
      exact lay_words _ (hM.ok q hq).w
    · exact lay_words _ hro.w
  obtain ⟨tw, htw2⟩ : ∃ tw, tw = (M.map (·.w)).map D.str := ⟨_, rfl⟩
  rw [← htw2] at htw hmw
  have hnat := is_natural_ok (n + 5) (.int (i : Int)) st rfl
  have hin : isNat (.int (i : Int)) = true := by simp [isNat]
  rw [hin] at hnat
  have hx2 : ixD g.r.enc (.int 2) = some g.r.p.enc := by simp [MR.enc]
  have hz : ∀ (env : List Sl), compL (lcT (cc (n + 7)) [4, 5, 6] (.tp [.tp [.nm 4, .nm 5], .nm 6]) [] (.call f_is_operand [.var 4, .var 6, .var 2])) ((g.r.p.lvP.zip g.ops).map fun p => .tup [encL p.1, opD f p.2]) [] ⟨[.val (.ref mk), .val v, .val (.ref w), .val (.lst (g.r.p.lvP.map encL)), .un, .un, .un, .un], st⟩ = .ok ((g.r.p.lvP.zip g.ops).map fun _ => .bl true) ⟨[.val (.ref mk), .val v, .val (.ref w), .val (.lst (g.r.p.lvP.map encL)), .un, .un, .un, .un], st⟩ := by
    intro _
    rw [compL_map (fun p : (Str × List Int) × Op => .tup [encL p.1, opD f p.2]) (fun _ => some (.bl true))]
    · simp
    · rintro ⟨⟨k, way⟩, o⟩ hq
      have hfq := hfit _ (zip_lv g.r.p g.ops _ hq)
      have hop := is_operand_ok (n + 4) st w wr hw hwl f k o hfq
      have hol : isLoc (opD f o) = false := by cases o <;> rfl
      unfold lcT
      simp only [encL]
      simp [hop, hol, evalEs, evalPs, evalC, evalAnd, evalOr, bind_assoc, evalPar, evalKV, bind_ok, bind_stk, ofRC_ok, noExc_ok, unS, wipeE, backE, noOwn, derefs, List.replicate]
    · have : (g.r.p.lvP.zip g.ops).length ≤ g.ops.length := by simp; omega
      exact sz_le (by simp; omega)
  have hz := hz []
  have hzz := zipD_map encL (opD f) g.r.p.lvP g.ops
  have hbl := bools_map (fun _ : (Str × List Int) × Op => true) (g.r.p.lvP.zip g.ops)
  generalize (g.r.p.lvP.zip g.ops).map (fun p => D.tup [encL p.1, opD f p.2]) = zs at hz hzz
  refine fn_E d_is_right_row rfl rfl ?_
  obtain ⟨x2, hx2', hv⟩ := hv
  rcases hv with rfl | rfl <;> rcases hx2' with rfl | rfl
  all_goals
    simp [d_is_right_row, is_list_ok, hnat, hmk', htw, hmw, hio, hx2, hlo, hz, hzz, hgl, lvP_len, hbl, evalEs, evalPs, evalC, evalAnd, evalOr, bind_assoc, evalPar, evalKV, bind_ok, bind_stk, ofRC_ok, noExc_ok, unS, wipeE, backE, noOwn, derefs, List.replicate]
end K81
end Mr
end
section
set_option linter.all false
set_option backward.isDefEq.respectTransparency false
set_option maxRecDepth 100000
namespace Mr
open PySem
namespace K81
/-! Z20: all rows are right -/
/-- rows in an order, with names -/
structure Ctx (M : List MR) (rows : List FR) (ord : List Nat) (f : Nat → Nat) : Prop where
  m : MOk M
  F : FlatOk M rows s_reg
  n : rows.length ≤ 12
  perm : ord.Perm (List.range rows.length)
  topo : Topo rows ord
  named : Named rows ord f
section
variable {M : List MR} {rows : List FR} {ord : List Nat} {f : Nat → Nat} (C : Ctx M rows ord f)
include C
theorem Ctx.nd : ord.Nodup := C.perm.nodup_iff.mpr List.nodup_range
theorem Ctx.len : ord.length = rows.length := by rw [C.perm.length_eq]; simp
theorem Ctx.pos : 1 ≤ rows.length := C.F.fo.pos
theorem Ctx.row {k : Nat} (h : k ∈ ord) : ∃ g, rows[k]? = some g ∧ RowOk M rows k g ∧ g.r.Ok ∧ (g.r.pl = s_reg ∨ g.r.pl = s_mem) ∧ g.ops.length ≤ 4 := by
  have hk : k < rows.length := List.mem_range.mp (C.perm.subset h)
  have h1 := List.getElem?_eq_getElem hk
  have h2 := C.F.row k _ h1
  have h3 := C.m.ok _ h2.r
  have := lv_len _ h3.t
  exact ⟨_, h1, h2, h3, pl_cases h3.t, by rw [h2.l]; exact this⟩
theorem Ctx.fit {pre post : List Nat} {k : Nat} (e : ord = pre ++ k :: post) {g : FR} (hg : rows[k]? = some g) : ∀ q ∈ g.r.p.lv.zip g.ops, FitW (pre.map fun j => (plOf rows j, f j)) f q.1 q.2 := by
  intro q hq
  have hk : k ∈ ord := by rw [e]; simp
  obtain ⟨g', hg', hro, hgo, hgp, hg4⟩ := C.row hk
  rw [hg] at hg'
  cases hg'
  have ho := hro.o q hq
  obtain ⟨kk, o⟩ := q
  cases o with
  | num i => exact ho
  | wd x => exact ho
  | row j =>
    obtain ⟨h1, h2, q, h3, h4⟩ := ho
    have hj : j ∈ rd rows k := by
      rw [rd_eq rows hg]
      unfold FR.reads
      rw [List.mem_filterMap]
      exact ⟨.row j, (List.of_mem_zip hq).2, rfl⟩
    have hjp := C.topo pre k post e j hj
    have hpl : plOf rows j = kk := by rw [plOf_eq h3, h4]
    refine ⟨?_, ?_⟩
    · rcases lv_kinds _ _ (List.of_mem_zip hq).1 with h | h
      · exact (h1 h).elim
      · exact h
    · rw [List.mem_map]
      exact ⟨j, hjp, by rw [hpl]⟩
end
theorem W_unbind {α : Type} {m : Rs α} {R : α → Fm → Prop} (h : W (m.bind fun a fr => .ok a fr) R) : W m R := by
  cases m with
  | ok a fr => exact h
  | exc _ _ _ => obtain ⟨_, _, e, _⟩ := h; cases e
  | stk => obtain ⟨_, _, e, _⟩ := h; cases e
theorem asTL_map_some {vs ys : List D} (h : asTL vs = ys) : vs.length = ys.length := by rw [← h, asTL_len]
theorem asTL_get {vs : List D} {k : Nat} (h : k < vs.length) : (asTL vs)[k]'(by rw [asTL_len]; exact h) = asT vs[k] := by simp [asTL_map]
theorem bad_row_ok (n : Nat) {M : List MR} {rows : List FR} {ord : List Nat} {f : Nat → Nat} (C : Ctx M rows ord f) (st : List D) (mk : Nat) (hmk : st[mk]? = some (mach M)) (v : D) (hv : asT v = .tup (ord.map (rowD rows f))) :
    ∃ c, (cc (n + 9)).fn f_bad_row [.ref mk, v] st = .ok .non (st ++ [c]) := by
  suffices H : Wc ((cc (n + 9)).fn f_bad_row [.ref mk, v] st) fun r st' => r = .non ∧ ∃ c, st' = st ++ [c] by
    obtain ⟨_, _, e, rfl, c, rfl⟩ := H
    exact ⟨c, e⟩
  obtain ⟨vs, hvv, hvs⟩ := asT_tup hv
  have hlen : vs.length = ord.length := by rw [asTL_map_some hvs]; simp
  have hol := C.len
  have hpos := C.pos
  have hn12 := C.n
  have hmkl : mk < st.length := (List.getElem?_eq_some_iff.mp hmk).1
  have hxs : (vs.zip ord).map (·.1) = vs := by rw [zip_fst, ← hlen]; simp
  have hrow : ∀ pre x post, vs.zip ord = pre ++ x :: post → ord = pre.map (·.2) ++ x.2 :: post.map (·.2) ∧ asT x.1 = rowD rows f x.2 := by
    intro pre x post e
    have h2 : (vs.zip ord).map (·.2) = ord := by
      apply List.ext_getElem
      · simp; omega
      · intro i h1 h2
        simp
    constructor
    · rw [← h2, e]; simp
    · have hl : pre.length < (vs.zip ord).length := by rw [e]; simp
      have hl1 : pre.length < vs.length := by simp at hl; omega
      have hl2 : pre.length < ord.length := by omega
      have hx : x = (vs[pre.length], ord[pre.length]) := by
        have : (vs.zip ord)[pre.length] = x := by simp [e]
        rw [← this, List.getElem_zip]
      rw [hx]
      show asT vs[pre.length] = rowD rows f ord[pre.length]
      rw [← asTL_get hl1]
      simp only [hvs]
      simp
  have hcore : ∀ (R : Fl → Fm → Prop), (∀ fr, (∃ c, fr.st = st ++ [c]) → R .nx fr) → ∀ o : D,
      W ((forL (forT (cc (n + 8)) (.tp [.nm 3, .nm 4]) [.ite (.nt (.call f_is_right_row [.var 0, .var 4, .var 2])) [.ret (.var 3)] [], .ex (.bm .append (.var 2) [.tup [.ix (.call f_instruction_of [.var 0, .ix (.var 4) (.con (.int 0))]) (.con (.int 1)), .ix (.var 4) (.con (.int 1))]])]) (enumD 0 ((vs.zip ord).map (·.1)))
        ⟨[.val (.ref mk), .val o, .val (.ref st.length), .un, .un], st ++ [.lst []]⟩)) R := by
    intro R hR o
    refine W_unbind ?_
    refine W_enm (·.1) (vs.zip ord) (fun pre fr => ∃ a3 a4 : Sl, fr = ⟨[.val (.ref mk), .val o, .val (.ref st.length), a3, a4], st ++ [.lst ((pre.map fun x => (plOf rows x.2, f x.2)).map encW)]⟩) ⟨_, _, rfl⟩ ?_ ?_
    · rintro pre x post fr e ⟨a3, a4, rfl⟩ R hR
      obtain ⟨e2, hx⟩ := hrow pre x post e
      have hpl : pre.length + 1 ≤ 12 := by
        have := congrArg List.length e2
        simp at this
        omega
      obtain ⟨g, hg, hro, hgo, hgp, hg4⟩ := C.row (k := x.2) (by rw [e2]; simp)
      have hrv := RowV.of hg hx
      have hfit := C.fit e2 hg
      rw [List.map_map] at hfit
      have hwl : ∀ q ∈ pre.map (fun x => (plOf rows x.2, f x.2)), lay (.str q.1) = true := by
        intro q hq
        obtain ⟨y, hy, rfl⟩ := List.mem_map.mp hq
        obtain ⟨g', hg', _, _, hp', _⟩ := C.row (k := y.2) (by rw [e2]; simp; exact .inl ⟨y.1, hy⟩)
        show lay (.str (plOf rows y.2)) = true
        rw [plOf_eq hg']
        exact plain_eq hp'
      have hcell : (st ++ [D.lst ((pre.map fun x => (plOf rows x.2, f x.2)).map encW)])[st.length]? = some (.lst ((pre.map fun x => (plOf rows x.2, f x.2)).map encW)) := by simp
      have hmk2 : (st ++ [D.lst ((pre.map fun x => (plOf rows x.2, f x.2)).map encW)])[mk]? = some (mach M) := by rw [List.getElem?_append_left hmkl]; exact hmk
      have hright := is_right_row_ok n M C.m _ mk st.length hmk2 _ hcell hwl f g hro.r hro.l hfit x.1 (f x.2) hrv
      have hio := instruction_of_ok (n + 7) _ mk M C.m hmk2 g.r hro.r
      have hx1 : ixD g.r.enc (.int 1) = some (.str g.r.pl) := by simp [MR.enc]
      have hplk := plOf_eq hg
      have hsetc : ∀ l : List D, (st ++ [D.lst ((pre.map fun x => (plOf rows x.2, f x.2)).map encW)]).set st.length (.lst l) = st ++ [.lst l] := fun l => set_last _ _ _
      have hap : bmD .append (.lst ((pre.map fun x => (plOf rows x.2, f x.2)).map encW)) [.tup [.str g.r.pl, .int (f x.2 : Int)]] = some (.non, some (.lst (((pre ++ [x]).map fun x => (plOf rows x.2, f x.2)).map encW))) := by
        rw [bm_append _ _ (sz_lt (by simp; omega)), List.map_append, List.map_append]
        simp [encW, hplk]
      generalize ((pre ++ [x]).map fun x => (plOf rows x.2, f x.2)) = w2 at hap hR
      generalize (pre.map fun x => (plOf rows x.2, f x.2)) = w1 at hcell hmk2 hright hio hsetc hap
      generalize hst2 : st ++ [D.lst (w1.map encW)] = st2 at hcell hright hio hsetc
      obtain ⟨xv, kx⟩ := x
      simp only at hrv hright hap ⊢
      obtain ⟨x2, hx2, hv⟩ := hrv
      unfold forT
      rcases hv with rfl | rfl
      all_goals
        simp [hright, hio, hx1, hcell, hap, hsetc, evalEs, evalPs, evalC, evalAnd, evalOr, bind_assoc, evalPar, evalKV, bind_ok, bind_stk, ofRC_ok, noExc_ok, unS, wipeE, backE, noOwn, derefs, List.replicate]
        exact hR _ ⟨_, _, rfl⟩
    · rintro fr ⟨a3, a4, rfl⟩
      exact W_ok (hR _ ⟨_, rfl⟩)
  refine fn_Q d_bad_row rfl rfl fun Q hQ => ?_
  have hne : vs ≠ [] := by
    intro h
    rw [h] at hlen
    simp at hlen
    omega
  rw [hxs] at hcore
  rcases hvv with rfl | rfl
  all_goals
    simp [d_bad_row, is_list_ok, hne, evalEs, evalPs, evalC, evalAnd, evalOr, bind_assoc, evalPar, evalKV, bind_ok, bind_stk, ofRC_ok, noExc_ok, unS, wipeE, backE, noOwn, derefs, List.replicate]
    refine W_bind (hcore _ (fun fr hfr => ?_) _)
    obtain ⟨env, st'⟩ := fr
    obtain ⟨c, rfl⟩ := hfr
    simp [evalEs, evalPs, evalC, evalAnd, evalOr, bind_assoc, evalPar, evalKV, bind_ok, bind_stk, ofRC_ok, noExc_ok, unS, wipeE, backE, noOwn, derefs, List.replicate]
    exact hQ _ _ ⟨rfl, c, rfl⟩
end K81
end Mr
end
section
set_option linter.all false
set_option backward.isDefEq.respectTransparency false
set_option maxRecDepth 100000
namespace Mr
open PySem
namespace K81
/-! Z21: where each row reads -/
theorem look_rep {κ : Type} [DecidableEq κ] (q : κ) (d : D) (q' : κ) : ∀ (ks : List κ) (vs : List D), ks.length = vs.length → look ks (repD ks vs q d) q' = if q' = q ∧ q ∈ ks then some d else look ks vs q'
  | [], [], _ => by simp [look, repD]
  | k :: ks, v :: vs, h => by
    have ih := look_rep q d q' ks vs (by simpa using h)
    simp only [repD, look]
    by_cases h1 : k = q'
    · by_cases h2 : k = q
      · subst h1; subst h2; simp
      · have : ¬ q' = q := fun z => h2 (h1.trans z)
        simp [h1, this]
    · by_cases h2 : k = q
      · subst h2
        have : ¬ q' = k := fun z => h1 z.symm
        rw [if_neg h1, ih]
        simp [this, h1]
      · rw [if_neg h1, if_neg h1, ih]
        have : (q ∈ k :: ks) ↔ q ∈ ks := by
          constructor
          · intro h; exact (List.mem_cons.mp h).resolve_left fun z => h2 z.symm
          · intro h; exact List.mem_cons_of_mem _ h
        simp only [this]
theorem look_app {κ : Type} [DecidableEq κ] (q : κ) (d : D) (q' : κ) : ∀ (ks : List κ) (vs : List D), ks.length = vs.length → q ∉ ks → look (ks ++ [q]) (vs ++ [d]) q' = if q' = q then some d else look ks vs q'
  | [], [], _, _ => by
    simp only [List.nil_append, look]
    by_cases h : q' = q
    · simp [h]
    · have : ¬ q = q' := fun z => h z.symm
      simp [h, this]
  | k :: ks, v :: vs, h, hq => by
    have ih := look_app q d q' ks vs (by simpa using h) (fun z => hq (List.mem_cons_of_mem _ z))
    simp only [List.cons_append, look, ih]
    by_cases h1 : k = q'
    · have : ¬ q' = q := fun z => hq (by rw [← z, ← h1]; simp)
      simp [h1, this]
    · simp [h1]
theorem look_put {κ : Type} [DecidableEq κ] (q : κ) (d : D) (q' : κ) (ks : List κ) (vs : List D) (h : ks.length = vs.length) : look (putD ks vs q d).1 (putD ks vs q d).2 q' = if q' = q then some d else look ks vs q' := by
  unfold putD
  by_cases hq : (ks.any fun k => decide (k = q)) = true
  · rw [if_pos hq, look_rep q d q' ks vs h]
    have : q ∈ ks := by
      rw [List.any_eq_true] at hq
      obtain ⟨k, h1, h2⟩ := hq
      exact of_decide_eq_true h2 ▸ h1
    simp [this]
  · rw [if_neg hq]
    refine look_app q d q' ks vs h fun z => hq ?_
    rw [List.any_eq_true]
    exact ⟨q, z, by simp⟩
theorem rep_len {κ : Type} [DecidableEq κ] (q : κ) (d : D) : ∀ (ks : List κ) (vs : List D), (repD ks vs q d).length = vs.length
  | [], vs => by simp [repD]
  | k :: ks, [] => by simp [repD]
  | k :: ks, v :: vs => by simp [repD, rep_len q d ks vs]
theorem put_len {κ : Type} [DecidableEq κ] (q : κ) (d : D) (ks : List κ) (vs : List D) (h : ks.length = vs.length) : (putD ks vs q d).1.length = (putD ks vs q d).2.length ∧ (putD ks vs q d).1.length ≤ ks.length + 1 := by
  unfold putD
  split
  · simp [rep_len, h]
  · simp [h]
def wkey (p : Str) (i : Nat) : List Key := [.inr p, .inl (i : Int)]
def srcD (ord : List Nat) : Op → D
  | .row j => .int ((ord.idxOf j : Nat) : Int)
  | _ => .non
def srcL (rows : List FR) (ord : List Nat) (k : Nat) : D := match rows[k]? with
  | some g => .lst (g.ops.map (srcD ord))
  | none => .non
def rdD (f : Nat → Nat) (p : Str × Op) : D := match p.2 with
  | .row j => .tup [.str p.1, .int (f j : Int)]
  | _ => .non
theorem rows_told_ok (n : Nat) {M : List MR} {rows : List FR} {ord : List Nat} {f : Nat → Nat} (C : Ctx M rows ord f) (st : List D) (mk : Nat) (hmk : st[mk]? = some (mach M)) (v : D) (hv : asT v = .tup (ord.map (rowD rows f))) (hp : pln v = true) (hd : dep v ≤ 5) :
    ∃ c, (cc (n + 10)).fn f_rows_told [.ref mk, v] st = .ok (.tup (ord.map (rowD rows f))) (st ++ [c]) := by
  obtain ⟨c, e1⟩ := bad_row_ok n C st mk hmk v hv
  have e2 := as_tuples_ok (n + 7) v (st ++ [c]) hp (by omega)
  rw [hv] at e2
  refine ⟨c, ?_⟩
  refine fn_E d_rows_told rfl rfl ?_
  have hl := solid_loc (pln_solid hp)
  simp [d_rows_told, e1, e2, hl, evalEs, evalPs, evalC, evalAnd, evalOr, bind_assoc, evalPar, evalKV, bind_ok, bind_stk, ofRC_ok, noExc_ok, unS, wipeE, backE, noOwn, derefs, List.replicate]
theorem idx_of {ord p1 p2 : List Nat} {j : Nat} (nd : ord.Nodup) (e : ord = p1 ++ j :: p2) : ord.idxOf j = p1.length := by
  rw [e, List.idxOf_append]
  have : j ∉ p1 := by
    rw [e, List.nodup_append] at nd
    intro h
    exact nd.2.2 j h j (by simp) rfl
  rw [if_neg this]
  simp
theorem sources_ok (n : Nat) {M : List MR} {rows : List FR} {ord : List Nat} {f : Nat → Nat} (C : Ctx M rows ord f) (st : List D) (mk : Nat) (hmk : st[mk]? = some (mach M)) :
    (cc (n + 8)).fn f_sources_of [.ref mk, .tup (ord.map (rowD rows f))] st = .ok (.lst (ord.map (srcL rows ord))) st := by
  have hol := C.len
  have hn12 := C.n
  refine fn_E d_sources_of rfl rfl ?_
  simp [d_sources_of, evalEs, evalPs, evalC, evalAnd, evalOr, bind_assoc, evalPar, evalKV, bind_ok, bind_stk, ofRC_ok, noExc_ok, unS, wipeE, backE, noOwn, derefs, List.replicate]
  refine W_enm (rowD rows f) ord (fun pre fr => ∃ (ks : List (List Key)) (vs : List D) (a4 a5 a6 a7 a8 a9 a10 a11 a12 a13 : Sl), fr = ⟨[.val (.ref mk), .val (.tup (ord.map (rowD rows f))), .own (.lst (pre.map (srcL rows ord))), .own (.dT ks vs), a4, a5, a6, a7, a8, a9, a10, a11, a12, a13, .un, .un, .un, .un], st⟩ ∧ ks.length = vs.length ∧ ks.length ≤ pre.length ∧
    ∀ p1 j p2, pre = p1 ++ j :: p2 → (∀ i ∈ p2, plOf rows i = plOf rows j → f i ≠ f j) → look ks vs (wkey (plOf rows j) (f j)) = some (.int (p1.length : Int))) ?_ ?_ ?_
  · exact ⟨[], [], _, _, _, _, _, _, _, _, _, _, rfl, rfl, by simp, fun p1 j p2 e => by simp at e⟩
  · rintro pre k post fr e ⟨ks, vs, a4, a5, a6, a7, a8, a9, a10, a11, a12, a13, rfl, hkv, hkl, hlk⟩ R hR
    have hk : k ∈ ord := by rw [e]; simp
    have hpl : pre.length + 1 ≤ 12 := by
      have := congrArg List.length e
      simp at this
      omega
    obtain ⟨g, hg, hro, hgo, hgp, hg4⟩ := C.row hk
    have hplk := plOf_eq hg
    have hrow : rowD rows f k = .tup [.str g.r.w, .int (f k : Int), .tup (g.ops.map (opD f))] := by simp [rowD, hg]
    have hsrc : srcL rows ord k = .lst (g.ops.map (srcD ord)) := by simp [srcL, hg]
    have hio := instruction_of_ok (n + 6) st mk M C.m hmk g.r hro.r
    have hdp := tab_dp _ hgo.t
    have hl4 := lv_len _ hgo.t
    simp only at hdp hl4
    have hlo := leaves_of_ok st g.r.p (n + 6) (by omega) (by omega) (by rw [lvP_len]; exact sz_le (by omega))
    have hiol : ∀ fr, asgT (.tp [.nm 8, .nm 9, .nm 10, .nm 11]) g.r.enc fr = asgTs [.nm 8, .nm 9, .nm 10, .nm 11] [.str g.r.w, .str g.r.pl, g.r.p.enc, .tup [.int g.r.a, .int g.r.b]] fr := fun fr => asgT_tup _ _ _ rfl
    have hk1 : ∀ (a8 a9 a10 a11 a12 a13 : Sl), compL (lcT (cc (n + 7)) [14, 15] (.tp [.nm 14, .nm 15]) [] (.var 14)) (g.r.p.lvP.map encL) [] ⟨[.val (.ref mk), .val (.tup (ord.map (rowD rows f))), .own (.lst (pre.map (srcL rows ord))), .own (.dT ks vs), .val (.int (pre.length : Int)), .val (.str g.r.w), .val (.int (f k : Int)), .val (.tup (g.ops.map (opD f))), a8, a9, a10, a11, a12, a13, .un, .un, .un, .un], st⟩ = .ok (g.r.p.lv.map D.str) ⟨[.val (.ref mk), .val (.tup (ord.map (rowD rows f))), .own (.lst (pre.map (srcL rows ord))), .own (.dT ks vs), .val (.int (pre.length : Int)), .val (.str g.r.w), .val (.int (f k : Int)), .val (.tup (g.ops.map (opD f))), a8, a9, a10, a11, a12, a13, .un, .un, .un, .un], st⟩ := by
      intro a8 a9 a10 a11 a12 a13
      rw [compL_map encL (fun q => some (.str q.1))]
      · rw [← g.r.p.lv_lvP]
        simp
      · intro q _
        unfold lcT
        simp only [encL]
        simp [evalEs, evalPs, evalC, evalAnd, evalOr, bind_assoc, evalPar, evalKV, bind_ok, bind_stk, ofRC_ok, noExc_ok, unS, wipeE, backE, noOwn, derefs, List.replicate]
      · rw [lvP_len]; exact sz_le (by simp; omega)
    have hk2 : ∀ (a8 a9 a10 a11 a12 a13 : Sl), compL (lcT (cc (n + 7)) [14, 16] (.tp [.nm 14, .nm 16]) [] (.ite (.and [.cmp .ne (.var 14) (.con (.str s_num)), .call f_is_whole [.var 16]]) (.tup [.var 14, .var 16]) (.con .non))) ((g.r.p.lv.zip g.ops).map fun p => .tup [.str p.1, opD f p.2]) [] ⟨[.val (.ref mk), .val (.tup (ord.map (rowD rows f))), .own (.lst (pre.map (srcL rows ord))), .own (.dT ks vs), .val (.int (pre.length : Int)), .val (.str g.r.w), .val (.int (f k : Int)), .val (.tup (g.ops.map (opD f))), a8, a9, a10, a11, a12, a13, .un, .un, .un, .un], st⟩ = .ok ((g.r.p.lv.zip g.ops).map (rdD f)) ⟨[.val (.ref mk), .val (.tup (ord.map (rowD rows f))), .own (.lst (pre.map (srcL rows ord))), .own (.dT ks vs), .val (.int (pre.length : Int)), .val (.str g.r.w), .val (.int (f k : Int)), .val (.tup (g.ops.map (opD f))), a8, a9, a10, a11, a12, a13, .un, .un, .un, .un], st⟩ := by
      intro a8 a9 a10 a11 a12 a13
      rw [compL_map (fun p : Str × Op => .tup [.str p.1, opD f p.2]) (fun p => some (rdD f p))]
      · simp
      · rintro ⟨kk, o⟩ hq
        have ho := hro.o _ hq
        have hkd := lv_kinds _ _ (List.of_mem_zip hq).1
        simp only at ho
        unfold lcT
        cases o with
        | num i =>
          have h : kk = s_num := ho
          subst h
          have e1 := eqD_str lay_num lay_num
          simp [e1, opD, rdD, evalEs, evalPs, evalC, evalAnd, evalOr, bind_assoc, evalPar, evalKV, bind_ok, bind_stk, ofRC_ok, noExc_ok, unS, wipeE, backE, noOwn, derefs, List.replicate]
        | wd x =>
          obtain ⟨rfl, hx⟩ := ho
          have e1 := eqD_str lay_mem lay_num
          have e2 := is_whole_ok (n + 6) (.str x) st rfl
          have e3 : isI (.str x) = false := rfl
          rw [e3] at e2
          simp [e1, e2, opD, rdD, evalEs, evalPs, evalC, evalAnd, evalOr, bind_assoc, evalPar, evalKV, bind_ok, bind_stk, ofRC_ok, noExc_ok, unS, wipeE, backE, noOwn, derefs, List.replicate]
        | row j =>
          obtain ⟨h1, _⟩ := ho
          have hkk := hkd.resolve_left h1
          have e1 := eqD_str (plain_eq hkk) lay_num
          have e0 : (kk == s_num) = false := by simp [h1]
          rw [e0] at e1
          have e2 := is_whole_ok (n + 6) (.int (f j : Int)) st rfl
          have e3 : isI (.int (f j : Int)) = true := rfl
          rw [e3] at e2
          simp [e1, e2, opD, rdD, evalEs, evalPs, evalC, evalAnd, evalOr, bind_assoc, evalPar, evalKV, bind_ok, bind_stk, ofRC_ok, noExc_ok, unS, wipeE, backE, noOwn, derefs, List.replicate]
      · have : (g.r.p.lv.zip g.ops).length ≤ g.ops.length := by simp; omega
        exact sz_le (by simp; omega)
    have hzz := zipD_map D.str (opD f) g.r.p.lv g.ops
    have hk3 : ∀ (a8 a9 a10 a11 a12 a13 : Sl), compL (lcT (cc (n + 7)) [17] (.nm 17) [] (.ite (.isN (.var 17)) (.con .non) (.ix (.pk 3) (.var 17)))) ((g.r.p.lv.zip g.ops).map (rdD f)) [] ⟨[.val (.ref mk), .val (.tup (ord.map (rowD rows f))), .own (.lst (pre.map (srcL rows ord))), .own (.dT ks vs), .val (.int (pre.length : Int)), .val (.str g.r.w), .val (.int (f k : Int)), .val (.tup (g.ops.map (opD f))), a8, a9, a10, a11, a12, a13, .un, .un, .un, .un], st⟩ = .ok (g.ops.map (srcD ord)) ⟨[.val (.ref mk), .val (.tup (ord.map (rowD rows f))), .own (.lst (pre.map (srcL rows ord))), .own (.dT ks vs), .val (.int (pre.length : Int)), .val (.str g.r.w), .val (.int (f k : Int)), .val (.tup (g.ops.map (opD f))), a8, a9, a10, a11, a12, a13, .un, .un, .un, .un], st⟩ := by
      intro a8 a9 a10 a11 a12 a13
      rw [compL_map (rdD f) (fun p => some (srcD ord p.2))]
      · congr 1
        rw [List.nil_append, List.filterMap_eq_map']
        have : (g.r.p.lv.zip g.ops).map (fun p => srcD ord p.2) = ((g.r.p.lv.zip g.ops).map (·.2)).map (srcD ord) := by rw [List.map_map]; rfl
        rw [this]
        congr 1
        apply List.ext_getElem
        · simp; have := hro.l; omega
        · intro i h1 h2; simp
      · rintro ⟨kk, o⟩ hq
        have ho := hro.o _ hq
        simp only at ho
        unfold lcT
        cases o with
        | num i => simp [rdD, srcD, evalEs, evalPs, evalC, evalAnd, evalOr, bind_assoc, evalPar, evalKV, bind_ok, bind_stk, ofRC_ok, noExc_ok, unS, wipeE, backE, noOwn, derefs, List.replicate]
        | wd x => simp [rdD, srcD, evalEs, evalPs, evalC, evalAnd, evalOr, bind_assoc, evalPar, evalKV, bind_ok, bind_stk, ofRC_ok, noExc_ok, unS, wipeE, backE, noOwn, derefs, List.replicate]
        | row j =>
          obtain ⟨h1, h2, q, h3, h4⟩ := ho
          have hj : j ∈ rd rows k := by
            rw [rd_eq rows hg]
            unfold FR.reads
            rw [List.mem_filterMap]
            exact ⟨.row j, (List.of_mem_zip hq).2, rfl⟩
          have hjp := C.topo pre k post e j hj
          obtain ⟨p1, p2, ep⟩ := List.append_of_mem hjp
          have hnm := C.named p1 j p2 k post (by rw [e, ep]; simp) hj
          have hlook := hlk p1 j p2 ep hnm
          have hidx : ord.idxOf j = p1.length := idx_of C.nd (p2 := p2 ++ k :: post) (by rw [e, ep]; simp)
          have hpj : plOf rows j = kk := by rw [plOf_eq h3, h4]
          rw [hpj] at hlook
          have hix : ixD (.dT ks vs) (.tup [.str kk, .int (f j : Int)]) = some (.int (p1.length : Int)) := hlook
          simp only [rdD, srcD, hidx]
          simp [hix, evalEs, evalPs, evalC, evalAnd, evalOr, bind_assoc, evalPar, evalKV, bind_ok, bind_stk, ofRC_ok, noExc_ok, unS, wipeE, backE, noOwn, derefs, List.replicate]
      · have : (g.r.p.lv.zip g.ops).length ≤ g.ops.length := by simp; omega
        exact sz_le (by simp; omega)
    have hap : bmD .append (.lst (pre.map (srcL rows ord))) [.lst (g.ops.map (srcD ord))] = some (.non, some (.lst ((pre ++ [k]).map (srcL rows ord)))) := by
      rw [bm_append _ _ (sz_lt (by simp; omega)), List.map_append, ← hsrc]; rfl
    have hset : setD (.dT ks vs) (.tup [.str g.r.pl, .int (f k : Int)]) (.int (pre.length : Int)) = some (.dT (putD ks vs (wkey g.r.pl (f k)) (.int (pre.length : Int))).1 (putD ks vs (wkey g.r.pl (f k)) (.int (pre.length : Int))).2) := by
      show (if _ then _ else _) = _
      rw [if_pos (sz_lt (by omega))]
      rfl
    have hlp := look_put (wkey g.r.pl (f k)) (.int (pre.length : Int))
    have hpln := put_len (wkey g.r.pl (f k)) (.int (pre.length : Int)) ks vs hkv
    have hfin : ∀ p1 j p2, pre ++ [k] = p1 ++ j :: p2 → (∀ i ∈ p2, plOf rows i = plOf rows j → f i ≠ f j) → look (putD ks vs (wkey g.r.pl (f k)) (.int (pre.length : Int))).1 (putD ks vs (wkey g.r.pl (f k)) (.int (pre.length : Int))).2 (wkey (plOf rows j) (f j)) = some (.int (p1.length : Int)) := by
      intro p1 j p2 e2 hns
      rw [hlp _ ks vs hkv]
      rcases last_split e2 with ⟨rfl, rfl, rfl⟩ | ⟨p2', rfl, ep⟩
      · rw [hplk, if_pos rfl]
      · rw [if_neg, hlk p1 j p2' ep (fun i hi => hns i (by simp [hi]))]
        intro hw
        have h1 := hns k (by simp)
        rw [hplk] at h1
        unfold wkey at hw
        simp only [List.cons.injEq, Sum.inr.injEq, Sum.inl.injEq, and_true] at hw
        exact h1 hw.1.symm (by omega)
    generalize (putD ks vs (wkey g.r.pl (f k)) (.int (pre.length : Int))).1 = ks2 at hset hfin hpln
    generalize (putD ks vs (wkey g.r.pl (f k)) (.int (pre.length : Int))).2 = vs2 at hset hfin hpln
    generalize (pre ++ [k]).map (srcL rows ord) = found2 at hap hR
    generalize (g.r.p.lv.zip g.ops).map (fun p => D.tup [.str p.1, opD f p.2]) = zs at hk2 hzz
    generalize g.ops.map (srcD ord) = so at hk3 hap
    generalize (g.r.p.lv.zip g.ops).map (rdD f) = rds at hk2 hk3
    generalize g.r.p.lv.map D.str = kinds at hk1 hzz
    unfold forT
    rw [hrow]
    simp [hio, hiol, hlo, hk1, hzz, hk2, hk3, hap, hset, evalEs, evalPs, evalC, evalAnd, evalOr, bind_assoc, evalPar, evalKV, bind_ok, bind_stk, ofRC_ok, noExc_ok, unS, wipeE, backE, noOwn, derefs, List.replicate]
    exact hR _ ⟨ks2, vs2, _, _, _, _, _, _, _, _, _, _, rfl, hpln.1, by simp; omega, hfin⟩
  · rintro fr ⟨ks, vs, a4, a5, a6, a7, a8, a9, a10, a11, a12, a13, rfl, hkv, hkl, hlk⟩
    simp [evalEs, evalPs, evalC, evalAnd, evalOr, bind_assoc, evalPar, evalKV, bind_ok, bind_stk, ofRC_ok, noExc_ok, unS, wipeE, backE, noOwn, derefs, List.replicate]
end K81
end Mr
end
section
set_option linter.all false
set_option backward.isDefEq.respectTransparency false
set_option maxRecDepth 100000
namespace Mr
open PySem
namespace K81
/-! Z22: each result is read once -/
theorem flatMap_perm {α β : Type} (g : α → List β) {xs ys : List α} (h : xs.Perm ys) : (xs.flatMap g).Perm (ys.flatMap g) := by
  induction h with
  | nil => exact List.Perm.refl _
  | cons x _ ih => simp only [List.flatMap_cons]; exact List.Perm.append_left _ ih
  | swap x y l => simp only [List.flatMap_cons, ← List.append_assoc]; exact List.Perm.append_right _ List.perm_append_comm
  | trans _ _ h1 h2 => exact h1.trans h2
theorem count_one {p : Nat} : ∀ {l : List Nat}, l.Nodup → p ∈ l → l.count p = 1
  | x :: l, nd, h => by
    rw [List.nodup_cons] at nd
    by_cases e : x = p
    · subst e
      rw [List.count_cons_self, List.count_eq_zero.mpr nd.1]
    · rw [List.count_cons_of_ne e, count_one nd.2 ((List.mem_cons.mp h).resolve_left fun z => e z.symm)]
def cntL (n : Nat) (S : List Nat) : D := .lst ((List.range n).map fun p => nI (S.count p))
@[simp] theorem der_cnt (n : Nat) (S : List Nat) (fr : Fm) : deref fr (cntL n S) = some (cntL n S) := (rfl)
section
variable {M : List MR} {rows : List FR} {ord : List Nat} {f : Nat → Nat} (C : Ctx M rows ord f)
include C
theorem Ctx.last : ∃ init, ord = init ++ [rows.length - 1] := by
  have hp := C.pos
  have hl := C.len
  have hne : ord ≠ [] := by
    intro h
    rw [h] at hl
    simp at hl
    omega
  obtain ⟨init, x, e⟩ : ∃ l x, ord = l ++ [x] := ⟨ord.dropLast, ord.getLast hne, (List.dropLast_concat_getLast hne).symm⟩
  refine ⟨init, ?_⟩
  have hx : x < rows.length := List.mem_range.mp (C.perm.subset (by rw [e]; simp))
  by_cases h : x + 1 < rows.length
  · exfalso
    obtain ⟨p1, p2⟩ := C.F.fo.par_spec h
    have hm : par rows.length (rdL (rows.map FR.reads)) x ∈ ord := C.perm.symm.subset (List.mem_range.mpr p1)
    obtain ⟨a, b, ea⟩ := List.append_of_mem hm
    have hxa := C.topo a _ b ea x p2
    have hnd := C.nd
    rw [e] at ea
    rcases last_split ea with ⟨_, h2, h3⟩ | ⟨b', _, h3⟩
    · rw [e, List.nodup_append] at hnd
      rw [h3] at hxa
      exact hnd.2.2 x hxa x (by simp) rfl
    · rw [e, List.nodup_append] at hnd
      exact hnd.2.2 x (by rw [h3]; simp [hxa]) x (by simp) rfl
  · rw [e]
    congr 2
    omega
theorem Ctx.srcs : (ord.flatMap fun k => (rd rows k).map ord.idxOf).Perm (List.range (rows.length - 1)) := by
  obtain ⟨init, e⟩ := C.last
  have hl := C.len
  have hp := C.pos
  have h1 : (ord.flatMap fun k => (rd rows k).map ord.idxOf) = (ord.flatMap (rd rows)).map ord.idxOf := by rw [List.map_flatMap]
  have h2 : (ord.flatMap (rd rows)).Perm ((List.range rows.length).flatMap (rd rows)) := flatMap_perm _ C.perm
  have h3 := h2.trans C.F.fo.once
  have h4 : init.Perm (List.range (rows.length - 1)) := by
    have h5 := C.perm
    rw [e] at h5
    have h6 : List.range rows.length = List.range (rows.length - 1) ++ [rows.length - 1] := by
      conv => lhs; rw [show rows.length = rows.length - 1 + 1 by omega]
      rw [List.range_succ]
    rw [h6] at h5
    exact (List.perm_append_right_iff _).mp h5
  have h7 : init.map ord.idxOf = List.range (rows.length - 1) := by
    have hil : init.length = rows.length - 1 := by
      have := congrArg List.length e
      simp at this
      omega
    apply List.ext_getElem
    · simp [hil]
    · intro i hi1 hi2
      simp only [List.getElem_map, List.getElem_range]
      have hi : i < init.length := by simpa using hi1
      refine (idx_of C.nd (p1 := init.take i) (p2 := init.drop (i + 1) ++ [rows.length - 1]) ?_).trans (by simp; omega)
      refine e.trans ?_
      have : init = init.take i ++ init[i] :: init.drop (i + 1) := by rw [← List.drop_eq_getElem_cons hi, List.take_append_drop]
      have h9 := congrArg (· ++ [rows.length - 1]) this
      refine h9.trans ?_
      show (init.take i ++ init[i] :: init.drop (i + 1)) ++ [rows.length - 1] = _
      rw [List.append_assoc]
      rfl
  rw [h1]
  have h8 := (h4.map ord.idxOf).symm
  rw [h7] at h8
  exact (h3.map _).trans h8
theorem Ctx.idx_lt {j : Nat} (h : j ∈ ord) : ord.idxOf j < rows.length := by
  rw [← C.len]
  exact List.idxOf_lt_length_of_mem h
end
theorem cut_init {α : Type} (xs : List α) (h : 1 ≤ xs.length) : cutL xs none (some (-1)) = xs.take (xs.length - 1) := by
  have hk : (-1 : Int) < 0 := by decide
  simp only [cutL, mSx, hk, if_true, List.drop_zero, Nat.sub_zero]
  congr 1
  omega
theorem set_range (g : Nat → D) (n j : Nat) (v : D) : ((List.range n).map g).set j v = (List.range n).map fun p => if p = j then v else g p := by
  apply List.ext_getElem
  · simp
  · intro i h1 h2
    simp only [List.getElem_set, List.getElem_map, List.getElem_range]
    by_cases e : j = i
    · simp [e]
    · have : ¬ i = j := fun z => e z.symm
      simp [e, this]
theorem cnt_ix {n j : Nat} (S : List Nat) (h : j < n) : ixD (cntL n S) (.int (j : Int)) = some (nI (S.count j)) := by
  show mAt _ _ = _
  apply mAt_nat
  simp [h]
theorem cnt_set {n j : Nat} (S : List Nat) (h : j < n) : setD (cntL n S) (.int (j : Int)) (.int ((S.count j : Nat) + 1 : Int)) = some (cntL n (S ++ [j])) := by
  have hm : mIx ((List.range n).map fun p => nI (S.count p)).length (j : Int) = some j := by
    rw [mIx_nat (by omega) (by simp; omega)]
    simp
  show (mIx ((List.range n).map fun p => nI (S.count p)).length (j : Int)).map _ = _
  rw [hm]
  simp only [Option.map_some, set_range, cntL]
  congr 3
  funext p
  by_cases hpj : p = j
  · subst hpj
    simp
  · have : ¬ j = p := fun z => hpj z.symm
    simp [hpj, List.count_append, this]
theorem cnt_cut {n : Nat} (S : List Nat) (h : 1 ≤ n) : slD (cntL n S) none (some (-1)) = some (.lst ((List.range (n - 1)).map fun p => nI (S.count p))) := by
  show some (D.lst (cutL ((List.range n).map fun p => nI (S.count p)) none (some (-1)))) = _
  rw [cut_init _ (by simpa using h), ← List.map_take, List.take_range]
  congr 4
  simp
theorem bad_result_ok (n : Nat) {M : List MR} {rows : List FR} {ord : List Nat} {f : Nat → Nat} (C : Ctx M rows ord f) (st : List D) (mk : Nat) (hmk : st[mk]? = some (mach M)) :
    (cc (n + 9)).fn f_bad_result [.ref mk, .tup (ord.map (rowD rows f))] st = .ok .non st := by
  have hol := C.len
  have hn12 := C.n
  have hpos := C.pos
  have hso := sources_ok n C st mk hmk
  have hsr := C.srcs
  have h0 : compL (lcT (cc (n + 8)) [7] (.nm 7) [] (.con (.int 0))) (ord.map (rowD rows f)) [] ⟨[.val (.ref mk), .val (.tup (ord.map (rowD rows f))), .un, .un, .un, .un, .un, .un], st⟩ = .ok (ord.map fun _ => .int 0) ⟨[.val (.ref mk), .val (.tup (ord.map (rowD rows f))), .un, .un, .un, .un, .un, .un], st⟩ := by
    rw [compL_map (rowD rows f) (fun _ => some (.int 0))]
    · simp
    · intro k _
      unfold lcT
      simp [evalEs, evalPs, evalC, evalAnd, evalOr, bind_assoc, evalPar, evalKV, bind_ok, bind_stk, ofRC_ok, noExc_ok, unS, wipeE, backE, noOwn, derefs, List.replicate]
    · exact sz_le (by simp; omega)
  have h1 : (ord.map fun _ => D.int 0) = (List.range rows.length).map fun p => nI (([] : List Nat).count p) := by
    apply List.ext_getElem
    · simp [hol]
    · intro i h1 h2; simp
  rw [h1] at h0
  refine fn_E d_bad_result rfl rfl ?_
  simp [d_bad_result, h0, hso, evalEs, evalPs, evalC, evalAnd, evalOr, bind_assoc, evalPar, evalKV, bind_ok, bind_stk, ofRC_ok, noExc_ok, unS, wipeE, backE, noOwn, derefs, List.replicate]
  refine W_forE (srcL rows ord) ord (fun pre fr => ∃ (a3 a6 : Sl), fr = ⟨[.val (.ref mk), .val (.tup (ord.map (rowD rows f))), .own (cntL rows.length (pre.flatMap fun k => (rd rows k).map ord.idxOf)), a3, .un, .un, a6, .un], st⟩) ⟨_, _, rfl⟩ ?_ ?_
  · rintro pre k post fr e ⟨a3, a6, rfl⟩ R hR
    have hk : k ∈ ord := by rw [e]; simp
    obtain ⟨g, hg, hro, hgo, hgp, hg4⟩ := C.row hk
    have hsrc : srcL rows ord k = .lst (g.ops.map (srcD ord)) := by simp [srcL, hg]
    have hrd := rd_eq rows hg
    rw [hsrc]
    unfold forT
    simp [evalEs, evalPs, evalC, evalAnd, evalOr, bind_assoc, evalPar, evalKV, bind_ok, bind_stk, ofRC_ok, noExc_ok, unS, wipeE, backE, noOwn, derefs, List.replicate]
    refine W_forE (srcD ord) g.ops (fun po fr => ∃ (a6 : Sl), fr = ⟨[.val (.ref mk), .val (.tup (ord.map (rowD rows f))), .own (cntL rows.length ((pre.flatMap fun k => (rd rows k).map ord.idxOf) ++ (po.filterMap Op.rd).map ord.idxOf)), .val (.lst (g.ops.map (srcD ord))), .un, .un, a6, .un], st⟩) ⟨a6, by simp⟩ ?_ ?_
    · rintro po o ps fr e2 ⟨a6, rfl⟩ R hR
      have hskip : Op.rd o = none → (po ++ [o]).filterMap Op.rd = po.filterMap Op.rd := fun h => by rw [List.filterMap_append]; simp [h]
      unfold forT
      cases o with
      | num i =>
        rw [hskip rfl] at hR
        simp only [srcD]
        simp [evalEs, evalPs, evalC, evalAnd, evalOr, bind_assoc, evalPar, evalKV, bind_ok, bind_stk, ofRC_ok, noExc_ok, unS, wipeE, backE, noOwn, derefs, List.replicate]
        exact hR _ ⟨_, rfl⟩
      | wd x =>
        rw [hskip rfl] at hR
        simp only [srcD]
        simp [evalEs, evalPs, evalC, evalAnd, evalOr, bind_assoc, evalPar, evalKV, bind_ok, bind_stk, ofRC_ok, noExc_ok, unS, wipeE, backE, noOwn, derefs, List.replicate]
        exact hR _ ⟨_, rfl⟩
      | row j =>
        have hj : j ∈ rd rows k := by
          rw [hrd]
          unfold FR.reads
          rw [List.mem_filterMap]
          exact ⟨.row j, by rw [e2]; simp, rfl⟩
        have hjo : j ∈ ord := by
          have := C.topo pre k post e j hj
          rw [e]; simp [this]
        have hlt := C.idx_lt hjo
        have hsn : (po ++ [Op.row j]).filterMap Op.rd = po.filterMap Op.rd ++ [j] := by rw [List.filterMap_append]; rfl
        rw [hsn, List.map_append, ← List.append_assoc] at hR
        generalize (pre.flatMap fun k => (rd rows k).map ord.idxOf) ++ (po.filterMap Op.rd).map ord.idxOf = Sp at hR
        have hix := cnt_ix Sp hlt
        have hset := cnt_set Sp hlt
        have hsm : Sp ++ [j].map ord.idxOf = Sp ++ [ord.idxOf j] := rfl
        rw [hsm] at hR
        have hsd : srcD ord (.row j) = .int ((ord.idxOf j : Nat) : Int) := rfl
        rw [hsd]
        generalize Sp ++ [ord.idxOf j] = S2 at hset hR
        generalize Sp.count (ord.idxOf j) = z at hix hset
        generalize ord.idxOf j = ij at hix hset
        simp [hix, hset, evalEs, evalPs, evalC, evalAnd, evalOr, bind_assoc, evalPar, evalKV, bind_ok, bind_stk, ofRC_ok, noExc_ok, unS, wipeE, backE, noOwn, derefs, List.replicate]
        exact hR _ ⟨_, rfl⟩
    · rintro fr ⟨a6, rfl⟩
      simp [evalEs, evalPs, evalC, evalAnd, evalOr, bind_assoc, evalPar, evalKV, bind_ok, bind_stk, ofRC_ok, noExc_ok, unS, wipeE, backE, noOwn, derefs, List.replicate]
      have e3 : (pre.flatMap fun k => (rd rows k).map ord.idxOf) ++ (g.ops.filterMap Op.rd).map ord.idxOf = (pre ++ [k]).flatMap fun k => (rd rows k).map ord.idxOf := by
        rw [List.flatMap_append]
        simp [hrd, FR.reads]
      rw [e3]
      exact hR _ ⟨_, _, rfl⟩
  · rintro fr ⟨a3, a6, rfl⟩
    have hcnt : ∀ p, p < rows.length - 1 → (ord.flatMap fun k => (rd rows k).map ord.idxOf).count p = 1 := by
      intro p hp
      rw [hsr.count_eq]
      exact count_one List.nodup_range (List.mem_range.mpr hp)
    generalize (ord.flatMap fun k => (rd rows k).map ord.idxOf) = S at hcnt
    have hcut := cnt_cut S hpos
    simp [hcut, evalEs, evalPs, evalC, evalAnd, evalOr, bind_assoc, evalPar, evalKV, bind_ok, bind_stk, ofRC_ok, noExc_ok, unS, wipeE, backE, noOwn, derefs, List.replicate]
    refine W_enm (fun p => nI (S.count p)) (List.range (rows.length - 1)) (fun pre fr => ∃ (a4 a5 : Sl), fr = ⟨[.val (.ref mk), .val (.tup (ord.map (rowD rows f))), .own (cntL rows.length S), a3, a4, a5, a6, .un], st⟩) ⟨_, _, rfl⟩ ?_ ?_
    · rintro pre p post fr e ⟨a4, a5, rfl⟩ R hR
      have hp := hcnt p (List.mem_range.mp (by rw [e]; simp))
      unfold forT
      rw [hp]
      simp [evalEs, evalPs, evalC, evalAnd, evalOr, bind_assoc, evalPar, evalKV, bind_ok, bind_stk, ofRC_ok, noExc_ok, unS, wipeE, backE, noOwn, derefs, List.replicate]
      exact hR _ ⟨_, _, rfl⟩
    · rintro fr ⟨a4, a5, rfl⟩
      obtain ⟨init, e⟩ := C.last
      obtain ⟨i2, fl, eF, hfl⟩ := C.F.last
      have hlast : rows[rows.length - 1]? = some fl := by rw [eF]; simp
      obtain ⟨g, hg, hro, hgo, hgp, hg4⟩ := C.row (k := rows.length - 1) (by rw [e]; simp)
      rw [hlast] at hg
      cases hg
      have hrow : rowD rows f (rows.length - 1) = .tup [.str fl.r.w, .int (f (rows.length - 1) : Int), .tup (fl.ops.map (opD f))] := by simp [rowD, hlast]
      have hm : mAt (ord.map (rowD rows f)) (-1) = some (.tup [.str fl.r.w, .int (f (rows.length - 1) : Int), .tup (fl.ops.map (opD f))]) := by
        rw [e, List.map_append, List.map_singleton, hrow]
        exact mAt_last _ _
      have hio := instruction_of_ok (n + 7) st mk M C.m hmk fl.r hro.r
      have hx1 : ixD fl.r.enc (.int 1) = some (.str s_reg) := by simp [MR.enc, hfl]
      have heq := eqD_str lay_reg lay_mem
      have hnq : (s_reg == s_mem) = false := by simp
      rw [hnq] at heq
      simp [hm, hio, hx1, heq, evalEs, evalPs, evalC, evalAnd, evalOr, bind_assoc, evalPar, evalKV, bind_ok, bind_stk, ofRC_ok, noExc_ok, unS, wipeE, backE, noOwn, derefs, List.replicate]
end K81
end Mr
end
section
set_option linter.all false
set_option backward.isDefEq.respectTransparency false
set_option maxRecDepth 100000
namespace Mr
open PySem
namespace K81
/-! Z23: orders of code -/
theorem code_told_ok (n : Nat) {M : List MR} {rows : List FR} {ord : List Nat} {f : Nat → Nat} (C : Ctx M rows ord f) (st : List D) (mk : Nat) (hmk : st[mk]? = some (mach M)) (v : D) (hv : asT v = .tup (ord.map (rowD rows f))) (hp : pln v = true) (hd : dep v ≤ 5) :
    ∃ c, (cc (n + 11)).fn f_code_told [.ref mk, v] st = .ok (.tup (ord.map (rowD rows f))) (st ++ [c]) := by
  obtain ⟨c, e1⟩ := rows_told_ok n C st mk hmk v hv hp hd
  have hmk2 : (st ++ [c])[mk]? = some (mach M) := by
    rw [List.getElem?_append_left (List.getElem?_eq_some_iff.mp hmk).1]
    exact hmk
  have e2 := bad_result_ok (n + 1) C (st ++ [c]) mk hmk2
  refine ⟨c, ?_⟩
  refine fn_E d_code_told rfl rfl ?_
  have hl := solid_loc (pln_solid hp)
  simp [d_code_told, e1, e2, hl, evalEs, evalPs, evalC, evalAnd, evalOr, bind_assoc, evalPar, evalKV, bind_ok, bind_stk, ofRC_ok, noExc_ok, unS, wipeE, backE, noOwn, derefs, List.replicate]
theorem facN_fct : ∀ n, facN n = fct n
  | 0 => rfl
  | n + 1 => by simp only [facN, fct, facN_fct n]
theorem fact_ok {n : Nat} (h : n ≤ 12) : bfD .fact [.int (n : Int)] = some (.int (fct n : Int)) := by
  show (if _ then _ else _) = _
  rw [if_pos (by simp; omega)]
  simp [facN_fct]
theorem ord_turn (N mk : Nat) (v : D) (so ds cells cells2 : List D) (p1 p2 zk : Int) (is : List Int) (a4 : Sl) (st : List D) (R : Fl → Fm → Prop)
    (hcomp : compL (lcT (cc N) [5] (.nm 5) [.isNn (.var 5)] (.ix (.pk 2) (.var 5))) so [] ⟨[.val (.ref mk), .val v, .own (.lst cells), .val (.int p1), .val (.lst so), .un], st⟩ = .ok ds ⟨[.val (.ref mk), .val v, .own (.lst cells), .val (.int p1), .val (.lst so), .un], st⟩)
    (hints : intsD ds = some is) (hc1 : 1 + is.sum = zk) (hap : bmD .append (.lst cells) [.int zk] = some (.non, some (.lst cells2))) (hlast : mAt cells2 (-1) = some (.int zk)) (hmul : mulOk p1 zk = true) (hprod : p1 * zk = p2)
    (hR : R .nx ⟨[.val (.ref mk), .val v, .own (.lst cells2), .val (.int p2), .val (.lst so), .un], st⟩) :
    W (forT (cc N) (.nm 4) [.ex (.bm .append (.pk 2) [.bin .add (.con (.int 1)) (.bf .sum [.lc [5] (.nm 5) (.ex (.var 4)) [.isNn (.var 5)] (.ix (.pk 2) (.var 5))])]), .asg (.nm 3) (.bin .mul (.var 3) (.ix (.pk 2) (.neg (.con (.int 1)))))]
      (.lst so) ⟨[.val (.ref mk), .val v, .own (.lst cells), .val (.int p1), a4, .un], st⟩) R := by
  unfold forT
  simp [hcomp, hints, hc1, hap, hlast, hmul, hprod, evalEs, evalPs, evalC, evalAnd, evalOr, bind_assoc, evalPar, evalKV, bind_ok, bind_stk, ofRC_ok, noExc_ok, unS, wipeE, backE, noOwn, derefs, List.replicate]
  exact hR
theorem orders_of_ok (n : Nat) {M : List MR} {rows : List FR} {ord : List Nat} {f : Nat → Nat} (C : Ctx M rows ord f) (st : List D) (mk : Nat) (hmk : st[mk]? = some (mach M)) (v : D) (hv : asT v = .tup (ord.map (rowD rows f))) (hp : pln v = true) (hd : dep v ≤ 5)
    (w : Nat) (hw : w * pd rows.length (szf (rows.map FR.reads)) = fct rows.length) :
    ∃ c, (cc (n + 12)).fn f_orders_of [.ref mk, v] st = .ok (.int (w : Int)) (st ++ [c]) := by
  obtain ⟨c, e1⟩ := code_told_ok n C st mk hmk v hv hp hd
  have hmk2 : (st ++ [c])[mk]? = some (mach M) := by
    rw [List.getElem?_append_left (List.getElem?_eq_some_iff.mp hmk).1]
    exact hmk
  have e2 := sources_ok (n + 3) C (st ++ [c]) mk hmk2
  have hol := C.len
  have hn12 := C.n
  have hpos := C.pos
  have F := C.F.fo
  generalize hsz : szf (rows.map FR.reads) = sz at F hw
  refine ⟨c, ?_⟩
  refine fn_E d_orders_of rfl rfl ?_
  have hl := solid_loc (pln_solid hp)
  -- sizes
  have hszp : ∀ k, k < rows.length → 0 < sz k := fun k hk => by rw [F.sz k hk]; omega
  have hfp := fct_pos rows.length
  have hf12 := fct12 hn12
  have hpd : pd rows.length sz = pdl (ord.map sz) := by
    rw [pd_pdl]
    exact (pdl_perm (C.perm.map sz)).symm
  have hpdl : pdl (ord.map sz) ≤ fct rows.length := by
    rw [← hpd, ← hw]
    refine Nat.le_mul_of_pos_left _ ?_
    cases w with
    | zero => simp at hw; omega
    | succ w => omega
  have hall : ∀ y ∈ ord.map sz, 0 < y := by
    intro y hy
    obtain ⟨k, hk, rfl⟩ := List.mem_map.mp hy
    exact hszp k (List.mem_range.mp (C.perm.subset hk))
  have hszl : ∀ k ∈ ord, sz k ≤ 479001600 := fun k hk => Nat.le_trans (pdl_mem hall (List.mem_map.mpr ⟨k, hk, rfl⟩)) (by omega)
  simp [d_orders_of, e1, e2, hl, evalEs, evalPs, evalC, evalAnd, evalOr, bind_assoc, evalPar, evalKV, bind_ok, bind_stk, ofRC_ok, noExc_ok, unS, wipeE, backE, noOwn, derefs, List.replicate]
  refine W_forE (srcL rows ord) ord (fun pre fr => ∃ (a4 : Sl), fr = ⟨[.val (.ref mk), .val v, .own (.lst ((pre.map sz).map nI)), .val (.int ((pdl (pre.map sz) : Nat) : Int)), a4, .un], st ++ [c]⟩) ⟨_, rfl⟩ ?_ ?_
  · rintro pre k post fr e ⟨a4, rfl⟩ R hR
    have hk : k ∈ ord := by rw [e]; simp
    have hpl : pre.length + 1 ≤ 12 := by
      have := congrArg List.length e
      simp at this
      omega
    obtain ⟨g, hg, hro, hgo, hgp, hg4⟩ := C.row hk
    have hsrc : srcL rows ord k = .lst (g.ops.map (srcD ord)) := by simp [srcL, hg]
    have hrd := rd_eq rows hg
    have hkn : k < rows.length := List.mem_range.mp (C.perm.subset hk)
    have hcomp : compL (lcT (cc (n + 11)) [5] (.nm 5) [.isNn (.var 5)] (.ix (.pk 2) (.var 5))) (g.ops.map (srcD ord)) [] ⟨[.val (.ref mk), .val v, .own (.lst ((pre.map sz).map nI)), .val (.int ((pdl (pre.map sz) : Nat) : Int)), .val (.lst (g.ops.map (srcD ord))), .un], st ++ [c]⟩ =
        .ok ((rd rows k).map fun j => D.int ((sz j : Nat) : Int)) ⟨[.val (.ref mk), .val v, .own (.lst ((pre.map sz).map nI)), .val (.int ((pdl (pre.map sz) : Nat) : Int)), .val (.lst (g.ops.map (srcD ord))), .un], st ++ [c]⟩ := by
      rw [compL_map (srcD ord) (fun o => o.rd.map fun j => D.int ((sz j : Nat) : Int))]
      · congr 1
        rw [hrd]
        unfold FR.reads
        rw [List.nil_append]
        induction g.ops with
        | nil => rfl
        | cons o os ih =>
          cases o <;> simp [Op.rd] at ih ⊢ <;> exact ih
      · intro o ho
        unfold lcT
        cases o with
        | num i => simp [srcD, Op.rd, evalEs, evalPs, evalC, evalAnd, evalOr, bind_assoc, evalPar, evalKV, bind_ok, bind_stk, ofRC_ok, noExc_ok, unS, wipeE, backE, noOwn, derefs, List.replicate]
        | wd x => simp [srcD, Op.rd, evalEs, evalPs, evalC, evalAnd, evalOr, bind_assoc, evalPar, evalKV, bind_ok, bind_stk, ofRC_ok, noExc_ok, unS, wipeE, backE, noOwn, derefs, List.replicate]
        | row j =>
          have hj : j ∈ rd rows k := by
            rw [hrd]
            unfold FR.reads
            rw [List.mem_filterMap]
            exact ⟨_, ho, rfl⟩
          have hjp := C.topo pre k post e j hj
          obtain ⟨p1, p2, ep⟩ := List.append_of_mem hjp
          have hidx : ord.idxOf j = p1.length := idx_of C.nd (p2 := p2 ++ k :: post) (by rw [e, ep]; simp)
          have hix : mAt ((pre.map sz).map nI) ((p1.length : Nat) : Int) = some (D.int ((sz j : Nat) : Int)) := by
            apply mAt_nat
            rw [ep]
            simp
          generalize (pre.map sz).map nI = cells at hix
          simp only [srcD, hidx, Op.rd]
          simp [hix, evalEs, evalPs, evalC, evalAnd, evalOr, bind_assoc, evalPar, evalKV, bind_ok, bind_stk, ofRC_ok, noExc_ok, unS, wipeE, backE, noOwn, derefs, List.replicate]
      · exact sz_le (by simp; omega)
    have hints := ints_map (fun j => ((sz j : Nat) : Int)) (rd rows k)
    have hsum := sum_cast sz (rd rows k)
    have hsk : sz k = 1 + ((rd rows k).map sz).sum := F.sz k hkn
    have hc1 : (1 : Int) + (((rd rows k).map sz).sum : Nat) = ((sz k : Nat) : Int) := by rw [hsk]; omega
    have hap : bmD .append (.lst ((pre.map sz).map nI)) [.int ((sz k : Nat) : Int)] = some (.non, some (.lst (((pre.map sz).map nI) ++ [nI (sz k)]))) := bm_append _ _ (sz_lt (by simp; omega))
    have hlast : mAt ((pre.map sz).map nI ++ [nI (sz k)]) (-1) = some (nI (sz k)) := mAt_last _ _
    have hnew : (pre.map sz).map nI ++ [nI (sz k)] = ((pre ++ [k]).map sz).map nI := by simp
    have hprod : ((pdl (pre.map sz) : Nat) : Int) * ((sz k : Nat) : Int) = ((pdl ((pre ++ [k]).map sz) : Nat) : Int) := by
      rw [List.map_append, pdl_app]
      simp [pdl]
    have hsk9 := hszl k hk
    have hmul : mulOk ((pdl (pre.map sz) : Nat) : Int) ((sz k : Nat) : Int) = true := by
      have h1 : (-18446744073709551616 : Int) < ((sz k : Nat) : Int) := by omega
      have h2 : ((sz k : Nat) : Int) < 18446744073709551616 := by omega
      unfold mulOk
      rw [decide_eq_true h1, decide_eq_true h2]
      simp
    rw [hnew] at hap hlast
    generalize ((pre ++ [k]).map sz).map nI = cells2 at hap hlast hR
    generalize ((pdl ((pre ++ [k]).map sz) : Nat) : Int) = p2 at hprod hR
    generalize ((pdl (pre.map sz) : Nat) : Int) = p1 at hprod hmul hcomp
    generalize (pre.map sz).map nI = cells at hap hcomp
    rw [hsrc]
    exact ord_turn (n + 11) mk v _ _ _ _ _ _ _ _ _ _ R hcomp hints (by rw [hsum]; exact hc1) hap hlast hmul hprod (hR _ ⟨_, rfl⟩)
  · rintro fr ⟨a4, rfl⟩
    have hq : fct rows.length / pdl (ord.map sz) = w := by
      rw [← hpd, ← hw]
      refine Nat.mul_div_cancel _ ?_
      have : 0 < w * pd rows.length sz := by rw [hw]; exact hfp
      exact Nat.pos_of_mul_pos_left this
    have hpp : 0 < pdl (ord.map sz) := by
      have : 0 < w * pd rows.length sz := by rw [hw]; exact hfp
      rw [← hpd]
      exact Nat.pos_of_mul_pos_left this
    have hfa := fact_ok hn12
    rw [← hol] at hfa
    have hdiv := binD_fdiv_int (fct rows.length : Int) ((pdl (ord.map sz) : Nat) : Int) (by omega) (by omega)
    have hcast : (fct rows.length : Int) / ((pdl (ord.map sz) : Nat) : Int) = (w : Int) := by rw [← hq]; rfl
    rw [hcast] at hdiv
    rw [← hol] at hdiv
    generalize ((pdl (ord.map sz) : Nat) : Int) = p1 at hdiv
    generalize (fct ord.length : Int) = p2 at hdiv hfa
    simp [hfa, hdiv, evalEs, evalPs, evalC, evalAnd, evalOr, bind_assoc, evalPar, evalKV, bind_ok, bind_stk, ofRC_ok, noExc_ok, unS, wipeE, backE, noOwn, derefs, List.replicate]
end K81
end Mr
end
section
set_option linter.all false
set_option backward.isDefEq.respectTransparency false
set_option maxRecDepth 100000
namespace Mr
open PySem
namespace K81
/-! Z24: the law -/
@[simp] theorem mulOk31 (j : Int) : mulOk j 31 = true := by simp [mulOk]
theorem start_turn (N : Nat) (a0 a2 : Sl) (mix c : Int) (st : List D) (R : Fl → Fm → Prop) (hR : R .nx ⟨[a0, .val (.int ((mix * 31 + c + 7) % 2147483629)), .val (.int c)], st⟩) :
    W (forT (cc N) (.nm 2) [.asg (.nm 1) (.bin .mod (.bf .int [.bin .add (.bin .add (.bin .mul (.var 1) (.con (.int 31))) (.var 2)) (.con (.int 7))]) (.con (.int 2147483629)))] (.int c) ⟨[a0, .val (.int mix), a2], st⟩) R := by
  unfold forT
  simp [evalEs, evalPs, evalC, evalAnd, evalOr, bind_assoc, evalPar, evalKV, bind_ok, bind_stk, ofRC_ok, noExc_ok, unS, wipeE, backE, noOwn, derefs, List.replicate]
  exact hR
theorem start_ok (n : Nat) (ns : List Int) (h : ns.length ≤ 63) : Wc ((cc (n + 1)).fn f__law_start [.lst (ns.map D.int)] []) fun v st => ∃ s : Stm, v = .ref 1 ∧ st = stt s [] ∧ s.Ok 0 := by
  refine fn_Q d__law_start rfl rfl fun Q hQ => ?_
  simp [d__law_start, evalEs, evalPs, evalC, evalAnd, evalOr, bind_assoc, evalPar, evalKV, bind_ok, bind_stk, ofRC_ok, noExc_ok, unS, wipeE, backE, noOwn, derefs, List.replicate]
  refine W_forE D.int ns (fun pre fr => ∃ (mix : Int) (a2 : Sl), fr = ⟨[.val (.lst (ns.map D.int)), .val (.int mix), a2], []⟩ ∧ 0 ≤ mix ∧ mix < 2147483629 ∧ (a2 = .un ∨ ∃ x, a2 = .val x)) ⟨17, _, rfl, by decide, by decide, .inl rfl⟩ ?_ ?_
  · rintro pre c post fr e ⟨mix, a2, rfl, h0, h1, _⟩ R hR
    exact start_turn n _ a2 mix c [] R (hR _ ⟨_, _, rfl, Int.emod_nonneg _ (by decide), Int.emod_lt_of_pos _ (by decide), .inr ⟨_, rfl⟩⟩)
  · rintro fr ⟨mix, a2, rfl, h0, h1, h2⟩
    have hc : compL (lcT (cc n) [2] (.nm 2) [.cmp .ge (.var 2) (.bin .pow (.con (.int 10)) (.con (.int 18)))] (.var 2)) (ns.map D.int) [] ⟨[.val (.lst (ns.map D.int)), .val (.int mix), .un], []⟩ = .ok ((ns.filter fun c => decide (1000000000000000000 ≤ c)).map D.int) ⟨[.val (.lst (ns.map D.int)), .val (.int mix), .un], []⟩ := by
      rw [compL_map D.int (fun c => if (decide ((1000000000000000000 : Int) ≤ c)) = true then some (.int c) else none), filterMap_if]
      · simp
      · intro c _
        have hp : binD .pow (.int 10) (.int 18) = some (.int 1000000000000000000) := by
          have := binD_pow_int 10 18 (by decide) (by decide)
          exact this
        unfold lcT
        simp [hp, evalEs, evalPs, evalC, evalAnd, evalOr, bind_assoc, evalPar, evalKV, bind_ok, bind_stk, ofRC_ok, noExc_ok, unS, wipeE, backE, noOwn, derefs, List.replicate]
        by_cases hcc : (1000000000000000000 : Int) ≤ c <;> simp [hcc]
      · exact sz_le (by simp; omega)
    have hno : noOwn [.val (.lst (ns.map D.int)), .val (.int mix), a2] [2] = true := noOwn_cons _ _ _ a2 rfl h2 rfl
    simp [hno, hc, evalEs, evalPs, evalC, evalAnd, evalOr, bind_assoc, evalPar, evalKV, bind_ok, bind_stk, ofRC_ok, noExc_ok, unS, wipeE, backE, derefs, List.replicate]
    exact hQ _ _ ⟨⟨ns.filter fun c => decide (1000000000000000000 ≤ c), mix, 0, 0⟩, rfl, rfl, ⟨h0, h1, Int.le_refl 0, Int.le_refl 0, Int.le_refl 0, fun x hx => by
      have := of_decide_eq_true (List.mem_filter.mp hx).2
      show (0 : Int) < x
      omega⟩⟩
@[simp] theorem eqD_bl (a b : Bool) : eqD (.bl a) (.bl b) = some (a == b) := (rfl)
theorem same_ok (n : Nat) (w : Int) (st : List D) : (cc (n + 1)).fn f__law_same [.int w, .int w] st = .ok (.bl true) st := by
  refine fn_E d__law_same rfl rfl ?_
  simp [d__law_same, evalEs, evalPs, evalC, evalAnd, evalOr, bind_assoc, evalPar, evalKV, bind_ok, bind_stk, ofRC_ok, noExc_ok, unS, wipeE, backE, noOwn, derefs, List.replicate]
theorem rowD_facts {M : List MR} {rows : List FR} {ord : List Nat} {f : Nat → Nat} (C : Ctx M rows ord f) : pln (.lst (ord.map (rowD rows f))) = true ∧ asT (.lst (ord.map (rowD rows f))) = .tup (ord.map (rowD rows f)) ∧ dep (.lst (ord.map (rowD rows f))) ≤ 5 ∧ nd (.lst (ord.map (rowD rows f))) ≤ 25 := by
  have hn := C.n
  have hl := C.len
  have hop : ∀ o : Op, pln (opD f o) = true ∧ asT (opD f o) = opD f o ∧ dep (opD f o) = 0 ∧ nd (opD f o) = 0 := by
    intro o
    cases o <;> simp [opD, pln, asT, dep, nd]
  have hr : ∀ k ∈ ord, pln (rowD rows f k) = true ∧ asT (rowD rows f k) = rowD rows f k ∧ dep (rowD rows f k) ≤ 2 ∧ nd (rowD rows f k) = 2 := by
    intro k hk
    obtain ⟨g, hg, hro, hgo, hgp, hg4⟩ := C.row hk
    have e : rowD rows f k = .tup [.str g.r.w, .int (f k : Int), .tup (g.ops.map (opD f))] := by simp [rowD, hg]
    have h1 : plnL (g.ops.map (opD f)) = true := by
      rw [plnL_all]
      intro d hd
      obtain ⟨o, _, rfl⟩ := List.mem_map.mp hd
      exact (hop o).1
    have h2 : asTL (g.ops.map (opD f)) = g.ops.map (opD f) := by
      rw [asTL_map, List.map_map]
      apply List.map_congr_left
      intro o _
      exact (hop o).2.1
    have h3 : depL (g.ops.map (opD f)) ≤ 0 := by
      rw [depL_le]
      intro d hd
      obtain ⟨o, _, rfl⟩ := List.mem_map.mp hd
      rw [(hop o).2.2.1]
      exact Nat.le_refl _
    have h4 : ndL (g.ops.map (opD f)) = 0 := by
      induction g.ops with
      | nil => rfl
      | cons o os ih => simp [ndL, (hop o).2.2.2, ih]
    rw [e]
    refine ⟨?_, ?_, ?_, ?_⟩
    · have h5 : g.ops.length ≤ szL := sz_le (by omega)
      simp [pln, plnL, h1, h5]
    · simp [asT, asTL, h2]
    · simp [dep, depL]
      omega
    · simp [nd, ndL, h4]
  refine ⟨?_, ?_, ?_, ?_⟩
  · have h1 : plnL (ord.map (rowD rows f)) = true := by
      rw [plnL_all]
      intro d hd
      obtain ⟨k, hk, rfl⟩ := List.mem_map.mp hd
      exact (hr k hk).1
    have h2 : ord.length ≤ szL := sz_le (by omega)
    simp [pln, h1, h2]
  · simp only [asT, asTL_map, List.map_map]
    congr 1
    apply List.map_congr_left
    intro k hk
    exact (hr k hk).2.1
  · have : depL (ord.map (rowD rows f)) ≤ 2 := by
      rw [depL_le]
      intro d hd
      obtain ⟨k, hk, rfl⟩ := List.mem_map.mp hd
      exact (hr k hk).2.2.1
    simp only [dep]
    omega
  · have : ∀ l : List Nat, (∀ k ∈ l, k ∈ ord) → ndL (l.map (rowD rows f)) = 2 * l.length := by
      intro l
      induction l with
      | nil => intro _; rfl
      | cons k l ih =>
        intro h
        simp only [List.map_cons, ndL, (hr k (h k (by simp))).2.2.2, ih fun j hj => h j (by simp [hj]), List.length_cons]
        omega
    have := this ord fun _ h => h
    simp only [nd, this]
    omega
/-- one naming -/
theorem turn10 (s : Stm) (b : Nat) (hs : s.Ok b) (hb : b + 1000 < 2 ^ 40) (rest : List D) (mk : Nat) {M : List MR} (hM : MOk M) (hmk : rest[mk]? = some (mach M)) {rows : List FR} (hF : FlatOk M rows s_reg) (hn : rows.length ≤ 12) (w : Nat) (hw : w * pd rows.length (szf (rows.map FR.reads)) = fct rows.length)
    (least : Bool) (a0 a2 a3 a4 a6 a7 a10 a11 : Sl) (R : Fl → Fm → Prop)
    (hR : ∀ (s' : Stm) (more : List D) (a11 : Sl), s'.Ok (b + 60) → R .nx ⟨[a0, .val (.ref 1), a2, a3, a4, .val (.ref (mk + 2)), a6, a7, .val (.lst (rows.map FR.enc)), .val (.int (w : Int)), .val (.bl least), a11], stt s' (rest ++ more)⟩) :
    W (forT (cc 99) (.nm 10) [.asg (.nm 11) (.call f__law_r_named [.var 1, .var 8, .call f__law_r_order [.var 1, .var 8], .var 10]),
          .ite (.nt (.call f__law_same [.call f_orders_of [.var 5, .call f__law_loose [.var 1, .var 11]], .var 9]))
           [.ret (.con (.bl false))]
           []] (.bl least) ⟨[a0, .val (.ref 1), a2, a3, a4, .val (.ref (mk + 2)), a6, a7, .val (.lst (rows.map FR.enc)), .val (.int (w : Int)), a10, a11], stt s rest⟩) R := by
  have ho : ∀ f ∈ rows, f.ops.length ≤ 1000 := by
    intro f hf
    obtain ⟨i, hi⟩ := List.getElem?_of_mem hf
    have h1 := hF.row i f hi
    have := lv_len _ (hM.ok _ h1.r).t
    rw [h1.l]
    simp at this
    omega
  obtain ⟨_, _, e1, ord, s1, rfl, rfl, hs1, hperm, htop⟩ := r_order_ok 96 M rows s_reg hF hn ho s b hs (by omega) rest
  obtain ⟨_, _, e2, f, s2, more, rfl, rfl, hs2, hnm⟩ := r_named_ok 96 M hM rows s_reg hF hn ord hperm htop least s1 _ hs1 (by omega) rest
  have C : Ctx M rows ord f := ⟨hM, hF, hn, hperm, htop, hnm⟩
  obtain ⟨h1, h2, h3, h4⟩ := rowD_facts C
  obtain ⟨v, _, e3, s3, rfl, hs3, g1, g2, g3⟩ := loose_ok (rest ++ more) 5 92 (.lst (ord.map (rowD rows f))) s2 _ h1 h3 hs2 (by omega)
  have hmk2 : (stt s3 (rest ++ more))[mk + 2]? = some (mach M) := by
    rw [stt_get, List.getElem?_append_left (List.getElem?_eq_some_iff.mp hmk).1]
    exact hmk
  obtain ⟨c, e4⟩ := orders_of_ok 87 C _ (mk + 2) hmk2 v (g2.trans h2) g1 (by omega) w hw
  rw [stt_app, List.append_assoc] at e4
  have e5 := same_ok 98 (w : Int) (stt s3 (rest ++ (more ++ [c])))
  have hvl := solid_loc (pln_solid g1)
  generalize D.lst (ord.map (rowD rows f)) = dd at e2 e3 h1
  have hdl := solid_loc (pln_solid h1)
  unfold forT
  simp [e1, e2, e3, e4, e5, hvl, hdl, evalEs, evalPs, evalC, evalAnd, evalOr, bind_assoc, evalPar, evalKV, bind_ok, bind_stk, ofRC_ok, noExc_ok, unS, wipeE, backE, noOwn, derefs, List.replicate]
  exact hR s3 (more ++ [c]) _ (hs3.mono (by omega))
theorem loop10 (s : Stm) (b : Nat) (hs : s.Ok b) (hb : b + 2000 < 2 ^ 40) (rest : List D) (mk : Nat) {M : List MR} (hM : MOk M) (hmk : rest[mk]? = some (mach M)) {rows : List FR} (hF : FlatOk M rows s_reg) (hn : rows.length ≤ 12) (w : Nat) (hw : w * pd rows.length (szf (rows.map FR.reads)) = fct rows.length)
    (a0 a2 a3 a4 a6 a7 a10 a11 : Sl) (R : Fl → Fm → Prop)
    (hR : ∀ (s' : Stm) (more : List D) (a10 a11 : Sl), s'.Ok (b + 120) → R .nx ⟨[a0, .val (.ref 1), a2, a3, a4, .val (.ref (mk + 2)), a6, a7, .val (.lst (rows.map FR.enc)), .val (.int (w : Int)), a10, a11], stt s' (rest ++ more)⟩) :
    W ((forL (forT (cc 99) (.nm 10) [.asg (.nm 11) (.call f__law_r_named [.var 1, .var 8, .call f__law_r_order [.var 1, .var 8], .var 10]),
          .ite (.nt (.call f__law_same [.call f_orders_of [.var 5, .call f__law_loose [.var 1, .var 11]], .var 9]))
           [.ret (.con (.bl false))]
           []]) [.bl true, .bl false] ⟨[a0, .val (.ref 1), a2, a3, a4, .val (.ref (mk + 2)), a6, a7, .val (.lst (rows.map FR.enc)), .val (.int (w : Int)), a10, a11], stt s rest⟩).bind fun a fr => (thenR (cc 99) [] a fr).bind (thenR (cc 99) [])) R := by
  refine W_forE D.bl [true, false] (fun pre fr => ∃ (s' : Stm) (more : List D) (a10 a11 : Sl), fr = ⟨[a0, .val (.ref 1), a2, a3, a4, .val (.ref (mk + 2)), a6, a7, .val (.lst (rows.map FR.enc)), .val (.int (w : Int)), a10, a11], stt s' (rest ++ more)⟩ ∧ s'.Ok (b + 60 * pre.length)) ⟨s, [], a10, a11, by simp, hs⟩ ?_ ?_
  · rintro pre x post fr e ⟨s', more, a10, a11, rfl, hs'⟩ R hR
    have hpl : pre.length + 1 ≤ 2 := by
      have := congrArg List.length e
      simp at this
      omega
    refine turn10 s' _ hs' (by omega) (rest ++ more) mk hM (by rw [List.getElem?_append_left (List.getElem?_eq_some_iff.mp hmk).1]; exact hmk) hF hn w hw x _ _ _ _ _ _ _ _ R fun s3 m3 a11 hs3 => ?_
    rw [List.append_assoc]
    exact hR _ ⟨s3, more ++ m3, _, _, rfl, hs3.mono (by simp; omega)⟩
  · rintro fr ⟨s', more, a10, a11, rfl, hs'⟩
    simp [evalEs, evalPs, evalC, evalAnd, evalOr, bind_assoc, evalPar, evalKV, bind_ok, bind_stk, ofRC_ok, noExc_ok, unS, wipeE, backE, noOwn, derefs, List.replicate]
    exact hR s' more _ _ hs'
theorem KK6 : KK 6 ≤ 193072360 := by decide
/-- one cover -/
theorem turn6 (s : Stm) (b : Nat) (hs : s.Ok b) (hb : b + 400000000 < 2 ^ 40) (rest : List D) (mk : Nat) {M : List MR} (hM : MOk M) (hmk : rest[mk]? = some (mach M)) (t : Tr) (ht : t.Ok) (k : D)
    (a0 a2 a6 a7 a8 a9 a10 a11 : Sl) (R : Fl → Fm → Prop)
    (hR : ∀ (s' : Stm) (more : List D) (a7 a8 a9 a10 a11 : Sl), s'.Ok (b + 200000000) → R .nx ⟨[a0, .val (.ref 1), a2, .val (.lst (M.map MR.enc)), .val t.enc, .val (.ref (mk + 2)), .val k, a7, a8, a9, a10, a11], stt s' (rest ++ more)⟩) :
    W (forT (cc 99) (.nm 6) [.asg (.nm 7) (.call f__law_r_cover [.var 1, .var 3, .var 4, .tup [], .con (.str s_reg), .bin .add (.con (.int 3)) (.call f__law_draw [.var 1, .con (.int 4)])]),
      .asg (.nm 8) (.ite (.isNn (.var 7)) (.call f__law_r_flat [.var 7]) (.lst [])),
      .ite (.chn .lt .le (.con (.int 0)) (.bf .len [.var 8]) (.con (.int 12)))
       [.asg (.nm 9) (.call f__law_all_orders [.var 8]),
        .ite (.cmp .ne (.var 9) (.call f__law_by_sizes [.var 8]))
         [.ret (.con (.bl false))]
         [],
        .for (.nm 10) (.ex (.tup [.con (.bl true), .con (.bl false)]))
         [.asg (.nm 11) (.call f__law_r_named [.var 1, .var 8, .call f__law_r_order [.var 1, .var 8], .var 10]),
          .ite (.nt (.call f__law_same [.call f_orders_of [.var 5, .call f__law_loose [.var 1, .var 11]], .var 9]))
           [.ret (.con (.bl false))]
           []]]
       []] k ⟨[a0, .val (.ref 1), a2, .val (.lst (M.map MR.enc)), .val t.enc, .val (.ref (mk + 2)), a6, a7, a8, a9, a10, a11], stt s rest⟩) R := by
  obtain ⟨_, _, e1, r, s1, rfl, rfl, r0, r1, hs1⟩ := draw_ok 98 s b hs (by omega) 4 (by decide) (by decide) rest
  obtain ⟨d, hd⟩ : ∃ d : Nat, (3 : Int) + r = d := ⟨(3 + r).toNat, by omega⟩
  have hd6 : d ≤ 6 := by omega
  have hKK : KK d ≤ 193072360 := by
    have h1 : KK d ≤ KK 6 := by
      unfold KK
      exact Nat.mul_le_mul_left _ (Nat.pow_le_pow_right (by decide) hd6)
    exact Nat.le_trans h1 KK6
  obtain ⟨v, _, e2, s2, hv, rfl, hs2⟩ := r_cover_ok (92 - d) M hM t ht rest d s1 (b + 1) [] t s_reg hs1 (by omega) rfl (by simp; omega) (.inl rfl)
  rw [show 92 - d + d + 7 = 99 by omega] at e2
  have e2 : (cc 99).fn f__law_r_cover [.ref 1, .lst (M.map MR.enc), t.enc, .tup [], .str s_reg, .int (d : Int)] (stt s1 rest) = .ok v (stt s2 rest) := e2
  rcases hv with rfl | hv
  · unfold forT
    simp [e1, hd, e2, evalEs, evalPs, evalC, evalAnd, evalOr, bind_assoc, evalPar, evalKV, bind_ok, bind_stk, ofRC_ok, noExc_ok, unS, wipeE, backE, noOwn, derefs, List.replicate]
    have := hR s2 [] (.val .non) (.val (.lst [])) a9 a10 a11 (hs2.mono (by omega))
    simpa using this
  · have hty : isTy .tuple v = true := by
      cases d with
      | zero =>
        obtain ⟨h, _⟩ := hv
        simp at h
      | succ d =>
        rcases hv with ⟨h, _⟩ | ⟨_, _, _, _, _, rfl, _⟩
        · simp at h
        · rfl
    obtain ⟨rows, e3, hF, hrl⟩ := r_flat_ok (98 - d) M hM (stt s2 rest) d s_reg v hd6 hv hty
    rw [show 98 - d + d + 1 = 99 by omega] at e3
    obtain ⟨hvs, hvn⟩ := hv.solid
    have hvl := solid_loc hvs
    have hpos := hF.fo.pos
    by_cases hn : rows.length ≤ 12
    · have ho : ∀ f ∈ rows, f.ops.length ≤ 1000 := by
        intro f hf
        obtain ⟨i, hi⟩ := List.getElem?_of_mem hf
        have h1 := hF.row i f hi
        have := lv_len _ (hM.ok _ h1.r).t
        rw [h1.l]
        simp at this
        omega
      obtain ⟨w, e4, hw⟩ := all_orders_ok 96 (stt s2 rest) rows hn ho _ hF.fo
      have e5 := by_sizes_ok 96 (stt s2 rest) M rows s_reg hF hn ho w hw
      have hc3 : 0 < rows.length := by omega
      have hc4 : (rows.length : Int) ≤ 12 := by omega
      have hc5 : rows ≠ [] := by
        intro h
        rw [h] at hpos
        simp at hpos
      have hloop := fun a10 a11 => loop10 s2 (b + 193072361) (hs2.mono (by omega)) (by omega) rest mk hM hmk hF hn w hw a0 a2 (.val (.lst (M.map MR.enc))) (.val t.enc) (.val k) (.val v) a10 a11 R (fun s' more a10 a11 hs' => hR s' more _ _ _ _ _ (hs'.mono (by omega)))
      have hvd : ∀ fr, deref fr v = some v := fun fr => solid_deref hvs fr
      unfold forT
      simp [e1, hd, e2, hvl, hvn, hvd, e3, hc3, hc4, hc5, e4, e5, evalEs, evalPs, evalC, evalAnd, evalOr, bind_assoc, evalPar, evalKV, bind_ok, bind_stk, ofRC_ok, noExc_ok, unS, wipeE, backE, noOwn, derefs, List.replicate]
      exact hloop a10 a11
    · have hc3 : (0 : Int) < (rows.length : Int) := by omega
      have hc4 : ¬ (rows.length : Int) ≤ 12 := by omega
      have hc5 : rows ≠ [] := by
        intro h
        rw [h] at hpos
        simp at hpos
      have hvd : ∀ fr, deref fr v = some v := fun fr => solid_deref hvs fr
      unfold forT
      simp [e1, hd, e2, hvl, hvn, hvd, e3, hc3, hc4, hc5, evalEs, evalPs, evalC, evalAnd, evalOr, bind_assoc, evalPar, evalKV, bind_ok, bind_stk, ofRC_ok, noExc_ok, unS, wipeE, backE, noOwn, derefs, List.replicate]
      have := hR s2 [] (.val v) (.val (.lst (rows.map FR.enc))) a9 a10 a11 (hs2.mono (by omega))
      simpa using this
end K81
end Mr
end
section
set_option linter.all false
set_option backward.isDefEq.respectTransparency false
set_option maxRecDepth 100000
namespace Mr
open PySem
namespace K81
/-! Z25: the whole law -/
abbrev body6 : List DS := [.asg (.nm 7) (.call f__law_r_cover [.var 1, .var 3, .var 4, .tup [], .con (.str s_reg), .bin .add (.con (.int 3)) (.call f__law_draw [.var 1, .con (.int 4)])]),
      .asg (.nm 8) (.ite (.isNn (.var 7)) (.call f__law_r_flat [.var 7]) (.lst [])),
      .ite (.chn .lt .le (.con (.int 0)) (.bf .len [.var 8]) (.con (.int 12)))
       [.asg (.nm 9) (.call f__law_all_orders [.var 8]),
        .ite (.cmp .ne (.var 9) (.call f__law_by_sizes [.var 8]))
         [.ret (.con (.bl false))]
         [],
        .for (.nm 10) (.ex (.tup [.con (.bl true), .con (.bl false)]))
         [.asg (.nm 11) (.call f__law_r_named [.var 1, .var 8, .call f__law_r_order [.var 1, .var 8], .var 10]),
          .ite (.nt (.call f__law_same [.call f_orders_of [.var 5, .call f__law_loose [.var 1, .var 11]], .var 9]))
           [.ret (.con (.bl false))]
           []]]
       []]
theorem loop6 (s : Stm) (b : Nat) (hs : s.Ok b) (hb : b + 2000000000 < 2 ^ 40) (rest : List D) (mk : Nat) {M : List MR} (hM : MOk M) (hmk : rest[mk]? = some (mach M)) (t : Tr) (ht : t.Ok)
    (a0 a2 a6 a7 a8 a9 a10 a11 : Sl) (R : Fl → Fm → Prop)
    (hR : ∀ (s' : Stm) (more : List D) (a6 a7 a8 a9 a10 a11 : Sl), s'.Ok (b + 800000000) → R .nx ⟨[a0, .val (.ref 1), a2, .val (.lst (M.map MR.enc)), .val t.enc, .val (.ref (mk + 2)), a6, a7, a8, a9, a10, a11], stt s' (rest ++ more)⟩) :
    W ((forL (forT (cc 99) (.nm 6) body6) ((List.range 4).map nI) ⟨[a0, .val (.ref 1), a2, .val (.lst (M.map MR.enc)), .val t.enc, .val (.ref (mk + 2)), a6, a7, a8, a9, a10, a11], stt s rest⟩).bind (thenR (cc 99) [])) R := by
  refine W_forE nI (List.range 4) (fun pre fr => ∃ (s' : Stm) (more : List D) (a6 a7 a8 a9 a10 a11 : Sl), fr = ⟨[a0, .val (.ref 1), a2, .val (.lst (M.map MR.enc)), .val t.enc, .val (.ref (mk + 2)), a6, a7, a8, a9, a10, a11], stt s' (rest ++ more)⟩ ∧ s'.Ok (b + 200000000 * pre.length)) ⟨s, [], a6, a7, a8, a9, a10, a11, by simp, hs⟩ ?_ ?_
  · rintro pre x post fr e ⟨s', more, a6, a7, a8, a9, a10, a11, rfl, hs'⟩ R hR
    have hpl : pre.length + 1 ≤ 4 := by
      have := congrArg List.length e
      simp at this
      omega
    refine turn6 s' _ hs' (by omega) (rest ++ more) mk hM (by rw [List.getElem?_append_left (List.getElem?_eq_some_iff.mp hmk).1]; exact hmk) t ht (nI x) _ _ _ _ _ _ _ _ R fun s3 m3 a7 a8 a9 a10 a11 hs3 => ?_
    rw [List.append_assoc]
    exact hR _ ⟨s3, more ++ m3, _, _, _, _, _, _, rfl, hs3.mono (by simp; omega)⟩
  · rintro fr ⟨s', more, a6, a7, a8, a9, a10, a11, rfl, hs'⟩
    simp [evalEs, evalPs, evalC, evalAnd, evalOr, bind_assoc, evalPar, evalKV, bind_ok, bind_stk, ofRC_ok, noExc_ok, unS, wipeE, backE, noOwn, derefs, List.replicate]
    exact hR s' more _ _ _ _ _ _ (hs'.mono (by simp))
theorem turn2 (s : Stm) (b : Nat) (hs : s.Ok b) (hb : b + 3000000000 < 2 ^ 40) (rest : List D) (k : D)
    (a0 a2 a3 a4 a5 a6 a7 a8 a9 a10 a11 : Sl) (R : Fl → Fm → Prop)
    (hR : ∀ (s' : Stm) (rest' : List D) (a3 a4 a5 a6 a7 a8 a9 a10 a11 : Sl), s'.Ok (b + 1000000000) → R .nx ⟨[a0, .val (.ref 1), .val k, a3, a4, a5, a6, a7, a8, a9, a10, a11], stt s' rest'⟩) :
    W (forT (cc 99) (.nm 2) [.par [(3, false), (4, false)] [.call f__law_c_machine [.var 1, .con (.int 10), .cmp .gt (.call f__law_draw [.var 1, .con (.int 4)]) (.con (.int 0))], .call f__law_c_tree [.var 1, .bin .add (.con (.int 1)) (.call f__law_draw [.var 1, .con (.int 6)])]],
    .asg (.nm 5) (.new 0 [.var 3]),
    .for (.nm 6) (.rng (.con (.int 4))) body6] k ⟨[a0, .val (.ref 1), a2, a3, a4, a5, a6, a7, a8, a9, a10, a11], stt s rest⟩) R := by
  obtain ⟨_, _, e1, r, s1, rfl, rfl, r0, r1, hs1⟩ := draw_ok 98 s b hs (by omega) 4 (by decide) (by decide) rest
  obtain ⟨_, _, e2, M, s2, c, rfl, hM, rfl, hs2⟩ := c_machine_ok 96 s1 _ hs1 (by omega) (decide (0 < r)) rest
  obtain ⟨_, _, e3, r', s3, rfl, rfl, r0', r1', hs3⟩ := draw_ok 98 s2 _ hs2 (by omega) 6 (by decide) (by decide) (rest ++ [c])
  obtain ⟨m, hm⟩ : ∃ m : Nat, (1 : Int) + r' = m := ⟨(1 + r').toNat, by omega⟩
  obtain ⟨_, _, e4, t, s4, rfl, ht, rfl, hs4⟩ := c_tree_ok 6 91 s3 _ m (rest ++ [c]) (by omega) (by omega) (by decide) hs3 (by omega)
  obtain ⟨_, _, e5, rfl, rfl⟩ := machine_ok 90 M hM (stt s4 (rest ++ [c]))
  rw [stt_len, stt_app] at e5
  have hmk : (rest ++ [c] ++ [mach M])[(rest ++ [c]).length]? = some (mach M) := by simp
  have hrng : ∀ fr, rngR (.int 4) fr = .ok ((List.range 4).map nI) fr := fun fr => rngR_nat 4 fr (by decide)
  have hloop := fun a6 a7 a8 a9 a10 a11 => loop6 s4 (b + 200) (hs4.mono (by omega)) (by omega) (rest ++ [c] ++ [mach M]) (rest ++ [c]).length hM hmk t ht a0 (.val k) a6 a7 a8 a9 a10 a11 R (fun s' more a6 a7 a8 a9 a10 a11 hs' => hR s' _ _ _ _ _ _ _ _ _ _ (hs'.mono (by omega)))
  generalize rest ++ [c] ++ [mach M] = rest3 at e5 hmk hloop
  generalize (rest ++ [c]).length = mk at e5 hmk hloop
  generalize rest ++ [c] = rest2 at e2 e3 e4 e5
  have hreg : isLoc (D.ref (mk + 2)) = false := rfl
  unfold forT
  simp [e1, e2, e3, hm, e4, e5, hrng, evalEs, evalPs, evalC, evalAnd, evalOr, bind_assoc, evalPar, evalKV, bind_ok, bind_stk, ofRC_ok, noExc_ok, unS, wipeE, backE, noOwn, derefs, List.replicate]
  exact hloop a6 a7 a8 a9 a10 a11
def r0 : MR := ⟨s_w, s_reg, .num, 0, 0⟩
def rows0 : List FR := [⟨r0, [.num 5]⟩]
theorem ctx0 : Ctx [r0] rows0 [0] (fun _ => 3) := by
  refine ⟨⟨fun r hr => ?_, by simp, by simp⟩, ⟨⟨[], ⟨r0, [.num 5]⟩, rfl, rfl⟩, fun i f hf => ?_, ?_⟩, by decide, by decide, ?_, ?_⟩
  · rw [List.mem_singleton.mp hr]
    exact ⟨by simp [r0, wordsL], by simp [r0, tabT, baseT], Int.le_refl 0, Int.le_refl 0⟩
  · have hi : i = 0 ∧ f = ⟨r0, [.num 5]⟩ := by
      cases i with
      | zero => simp [rows0] at hf; exact ⟨rfl, hf.symm⟩
      | succ i => simp [rows0] at hf
    obtain ⟨rfl, rfl⟩ := hi
    refine ⟨by simp, rfl, fun q hq => ?_⟩
    simp [r0, Pat.lv] at hq
    rw [hq]
    exact rfl
  · exact List.Perm.refl _
  · intro pre k post e r hr
    have : rd rows0 k = [] := by
      cases k with
      | zero => rfl
      | succ k => rfl
    rw [this] at hr
    simp at hr
  · intro p1 j p2 k p3 e
    have := congrArg List.length e
    simp at this
    omega
theorem law_ok (ns : List Int) (h : ns.length ≤ 63) : ∃ st, (callD P 1000000 100).fn 36 [.lst (ns.map D.int)] [] = .ok (.bl true) st := by
  suffices H : Wc ((cc (99 + 1)).fn f_law [.lst (ns.map D.int)] []) fun v _ => v = .bl true by
    obtain ⟨_, st, e, rfl⟩ := H
    exact ⟨st, e⟩
  refine fn_Q d_law rfl rfl fun Q hQ => ?_
  obtain ⟨_, _, e1, s, rfl, rfl, hs⟩ := start_ok 98 ns h
  have hrng : ∀ fr, rngR (.int 6) fr = .ok ((List.range 6).map nI) fr := fun fr => rngR_nat 6 fr (by decide)
  simp [d_law, e1, hrng, evalEs, evalPs, evalC, evalAnd, evalOr, bind_assoc, evalPar, evalKV, bind_ok, bind_stk, ofRC_ok, noExc_ok, unS, wipeE, backE, noOwn, derefs, List.replicate]
  refine W_forE nI (List.range 6) (fun pre fr => ∃ (s' : Stm) (rest : List D) (a2 a3 a4 a5 a6 a7 a8 a9 a10 a11 : Sl), fr = ⟨[.val (.lst (ns.map D.int)), .val (.ref 1), a2, a3, a4, a5, a6, a7, a8, a9, a10, a11], stt s' rest⟩ ∧ s'.Ok (1000000000 * pre.length)) ⟨s, [], _, _, _, _, _, _, _, _, _, _, rfl, hs⟩ ?_ ?_
  · rintro pre x post fr e ⟨s', rest, a2, a3, a4, a5, a6, a7, a8, a9, a10, a11, rfl, hs'⟩ R hR
    have hpl : pre.length + 1 ≤ 6 := by
      have := congrArg List.length e
      simp at this
      omega
    exact turn2 s' _ hs' (by omega) rest (nI x) _ a2 a3 a4 a5 a6 a7 a8 a9 a10 a11 R fun s3 rest3 a3 a4 a5 a6 a7 a8 a9 a10 a11 hs3 => hR _ ⟨s3, rest3, _, _, _, _, _, _, _, _, _, _, rfl, hs3.mono (by simp; omega)⟩
  · rintro fr ⟨s', rest, a2, a3, a4, a5, a6, a7, a8, a9, a10, a11, rfl, hs'⟩
    obtain ⟨_, _, e5, rfl, rfl⟩ := machine_ok 90 [r0] ctx0.m (stt s' rest)
    have e5 : (cc 99).ini 0 [.lst [.tup [.str s_w, .str s_reg, .str s_num, .tup [.int 0, .int 0]]]] (stt s' rest) = .ok (.ref (rest.length + 2)) (stt s' (rest ++ [mach [r0]])) := e5
    obtain ⟨c, e6⟩ := orders_of_ok 87 ctx0 (stt s' (rest ++ [mach [r0]])) (rest.length + 2) (by simp) (.lst [.tup [.str s_w, .int 3, .tup [.int 5]]]) rfl (by simp [pln, plnL]) (by simp [dep, depL]) 1 rfl
    simp [e5, e6, evalEs, evalPs, evalC, evalAnd, evalOr, bind_assoc, evalPar, evalKV, bind_ok, bind_stk, ofRC_ok, noExc_ok, unS, wipeE, backE, noOwn, derefs, List.replicate]
    exact hQ _ _ rfl
end K81
end Mr
end
set_option maxRecDepth 100000 in
set_option maxHeartbeats 0 in
theorem PySem.Challenge.cw_anyprice_k81_whole_orders_of_code_holds : PySem.Challenge.rw_anyprice_k81_whole_orders_of_code.Holds :=
  Mr.K81.main fun ns h => Mr.K81.law_ok ns h
