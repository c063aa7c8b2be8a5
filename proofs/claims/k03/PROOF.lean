import PyProof.Rows.All
import HandS.ForMost
import HandS.Exc
import HandS.TryOnly
import HandS.TryMany
import HandS.ExcOwn
import HandS.CallSlots
import HandS.WordsExc
import HandS.Deep
import HandS.TupAny
import HandS.SortInts
import HandS.IsInst
import HandS.More
import HandS.HeadHook2
import KE.KSortedM
import HandS.Codes
import HandS.Style
import HandS.Defaults
import HandS.HeadHook1
import HandS.HeadWalk
import HandS.Head0
import HandS.Head1
import HandS.Head2
import HandS.HeadEnd
import PySem.Challenge.RW_leafmate_k03_leaves_at_cells
set_option Elab.async false
set_option linter.all false
set_option autoImplicit false
/-! The evaluator: a small language, its values, its runs. Plain Lean. -/
set_option linter.all false
set_option autoImplicit false
namespace E
abbrev Tx := List Nat
abbrev SZ : Nat := 16777216
inductive Ky where
  | i (k : Int)
  | s (t : Tx)
  | t (ks : List (Sum Int Tx))
  deriving DecidableEq
inductive Val where
  | non
  | bl (b : Bool)
  | int (i : Int)
  | str (s : Tx)
  | tup (vs : List Val)
  | lst (o : Bool) (vs : List Val)
  | dic (o : Bool) (ks : List Ky) (vs : List Val)
  | ins (c : Nat) (fs : List Tx) (vs : List Val)
  | ref (n : Nat)
  | ro (vs : List Val)
abbrev Store := List Val
structure Exn where
  c : Nat
  row : Option Int := none
inductive Res (α : Type) where
  | ok (a : α) (S : Store)
  | exc (e : Exn) (S : Store)
  | bad
def Res.bnd {α β : Type} (r : Res α) (k : α → Store → Res β) : Res β := match r with
  | .ok a S => k a S
  | .exc e S => .exc e S
  | .bad => .bad
abbrev Sl := List (Option Val)
def ofO {α : Type} (o : Option α) (S : Store) : Res α := match o with
  | some a => .ok a S
  | none => .bad

/-! ### values -/
mutual
/-- no refs, no owned containers, no instances -/
def pur : Val → Bool
  | .tup vs => purs vs
  | .lst o vs => !o && purs vs
  | .dic o _ vs => !o && purs vs
  | .ins _ _ _ => false
  | .ref _ => false
  | .ro vs => purs vs
  | .non => true
  | .bl _ => true
  | .int _ => true
  | .str _ => true
def purs : List Val → Bool
  | [] => true
  | v :: vs => pur v && purs vs
end
mutual
/-- all owned containers frozen -/
def frz : Val → Val
  | .tup vs => .tup (frzs vs)
  | .lst _ vs => .lst false (frzs vs)
  | .dic _ ks vs => .dic false ks (frzs vs)
  | .ins c fs vs => .ins c fs vs
  | .ref n => .ref n
  | .ro vs => .ro vs
  | .non => .non
  | .bl b => .bl b
  | .int i => .int i
  | .str s => .str s
def frzs : List Val → List Val
  | [] => []
  | v :: vs => frz v :: frzs vs
end
mutual
/-- the value as it stands, refs read by rd -/
def snapG (rd : Nat → Option Val) : Val → Option Val
  | .tup vs => (snapGs rd vs).map .tup
  | .lst _ vs => (snapGs rd vs).map (.lst false)
  | .dic _ ks vs => (snapGs rd vs).map (.dic false ks)
  | .ins _ _ _ => none
  | .ref n => rd n
  | .ro vs => if purs vs then some (.ro vs) else none
  | .non => some .non
  | .bl b => some (.bl b)
  | .int i => some (.int i)
  | .str s => some (.str s)
def snapGs (rd : Nat → Option Val) : List Val → Option (List Val)
  | [] => some []
  | v :: vs => (snapG rd v).bind fun w => (snapGs rd vs).map (w :: ·)
end
def snap : Nat → Store → Val → Option Val
  | 0, _ => snapG fun _ => none
  | k + 1, S => snapG fun n => (S[n]?).bind (snap k S)
def snaps (k : Nat) (S : Store) : List Val → Option (List Val)
  | [] => some []
  | v :: vs => (snap k S v).bind fun w => (snaps k S vs).map (w :: ·)
mutual
/-- depth at most k; data alone -/
def dle : Nat → Val → Bool
  | k, .tup vs => (match k with | 0 => false | k + 1 => dles k vs)
  | k, .lst _ vs => (match k with | 0 => false | k + 1 => dles k vs)
  | _, .dic _ _ _ => false
  | _, .ins _ _ _ => false
  | _, .ref _ => false
  | _, .ro _ => false
  | _, .non => true
  | _, .bl _ => true
  | _, .int _ => true
  | _, .str _ => true
def dles : Nat → List Val → Bool
  | _, [] => true
  | k, v :: vs => dle k v && dles k vs
end
def b2i (b : Bool) : Int := if b then 1 else 0
mutual
/-- == of data -/
def eqv : Val → Val → Bool
  | .non, .non => true
  | .bl a, .bl b => a == b
  | .bl a, .int j => b2i a == j
  | .int i, .bl b => i == b2i b
  | .int i, .int j => i == j
  | .str x, .str y => x == y
  | .lst _ xs, .lst _ ys => eqvs xs ys
  | .tup xs, .tup ys => eqvs xs ys
  | _, _ => false
def eqvs : List Val → List Val → Bool
  | [], [] => true
  | x :: xs, y :: ys => eqv x y && eqvs xs ys
  | _, _ => false
end
mutual
/-- every ref is below n -/
def below (n : Nat) : Val → Bool
  | .tup vs => belows n vs
  | .lst _ vs => belows n vs
  | .dic _ _ vs => belows n vs
  | .ins _ _ vs => belows n vs
  | .ref m => decide (m < n)
  | .ro vs => belows n vs
  | .non => true
  | .bl _ => true
  | .int _ => true
  | .str _ => true
def belows (n : Nat) : List Val → Bool
  | [] => true
  | v :: vs => below n v && belows n vs
end
/-- the container behind a value -/
def look (S : Store) : Val → Option Val
  | .ref n => S[n]?
  | v => some v
/-- a list's items -/
def lstOf (S : Store) (v : Val) : Option (List Val) := match look S v with
  | some (.lst _ vs) => some vs
  | _ => none
/-- a list's or a tuple's items -/
def seqOf (S : Store) (v : Val) : Option (List Val) := match look S v with
  | some (.lst _ vs) => some vs
  | some (.tup vs) => some vs
  | _ => none
def dicOf (S : Store) (v : Val) : Option (List Ky × List Val) := match look S v with
  | some (.dic _ ks vs) => some (ks, vs)
  | _ => none
/-- a new list, tracked or frozen -/
def newL (t : Bool) (vs : List Val) (S : Store) : Res Val :=
  if vs.length ≤ SZ then (if t then .ok (.ref S.length) (S ++ [.lst true vs]) else .ok (.lst false vs) S) else .bad
def truth (S : Store) (v : Val) : Option Bool := match look S v with
  | some (.non) => some false
  | some (.bl b) => some b
  | some (.int i) => some (i != 0)
  | some (.str s) => some (!s.isEmpty)
  | some (.lst _ vs) => some (!vs.isEmpty)
  | some (.tup vs) => some (!vs.isEmpty)
  | _ => none
/-! ### keys -/
def keyA : Val → Option (Sum Int Tx)
  | .int i => some (.inl i)
  | .str s => some (.inr s)
  | _ => none
def keyAs : List Val → Option (List (Sum Int Tx))
  | [] => some []
  | v :: vs => (keyA v).bind fun k => (keyAs vs).map (k :: ·)
def keyOf : Val → Option Ky
  | .int i => some (.i i)
  | .str s => some (.s s)
  | .tup vs => (keyAs vs).map .t
  | _ => none
def kyV : Ky → Val
  | .i k => .int k
  | .s t => .str t
  | .t ks => .tup (ks.map fun | .inl i => .int i | .inr s => .str s)
def getK : List Ky → List Val → Ky → Option Val
  | k :: ks, v :: vs, x => if k = x then some v else getK ks vs x
  | _, _, _ => none
def putK : List Ky → List Val → Ky → Val → List Ky × List Val
  | k :: ks, v :: vs, x, y => if k = x then (k :: ks, y :: vs) else ((k :: (putK ks vs x y).1), (v :: (putK ks vs x y).2))
  | _, _, x, y => ([x], [y])
def delK : List Ky → List Val → Ky → List Ky × List Val
  | k :: ks, v :: vs, x => if k = x then (ks, vs) else ((k :: (delK ks vs x).1), (v :: (delK ks vs x).2))
  | _, _, _ => ([], [])
/-- one kind of keys: all tuples or none -/
def tupK : Ky → Bool
  | .t _ => true
  | _ => false
def kindK (ks : List Ky) (x : Ky) : Bool := ks.all fun k => tupK k == tupK x
/-! ### places -/
def ixN (n : Nat) (i : Int) : Option Nat := if 0 ≤ i then (if i < n then some i.toNat else none) else if -(n : Int) ≤ i then some (i + n).toNat else none
def atI {α : Type} (xs : List α) (i : Int) : Option α := (ixN xs.length i).bind fun j => xs[j]?
def sIx (n d : Nat) : Option Int → Nat
  | none => d
  | some v => if v < 0 then (v + (n : Int)).toNat else min v.toNat n
def cut {α : Type} (xs : List α) (lo hi : Option Int) : List α := (xs.drop (sIx xs.length 0 lo)).take (sIx xs.length xs.length hi - sIx xs.length 0 lo)
/-! ### operators -/
inductive Op2 where
  | add | sub | mul | fdiv | mod | pow
  deriving DecidableEq
def big : Int := 18446744073709551616
def addV (t : Bool) (x y : Val) (S : Store) : Res Val := match x, y with
  | .int i, .int j => .ok (.int (i + j)) S
  | .str a, .str b => if a.length + b.length ≤ SZ then .ok (.str (a ++ b)) S else .bad
  | .tup a, .tup b => if a.length + b.length ≤ SZ then .ok (.tup (a ++ b)) S else .bad
  | x, y => (match lstOf S x, lstOf S y with
    | some a, some b => if a.length + b.length ≤ SZ then newL t (a ++ b) S else .bad
    | _, _ => .bad)
def mulV (t : Bool) (x y : Val) (S : Store) : Res Val := match x, y with
  | .int i, .int j => if (-big < i ∧ i < big) ∨ (-big < j ∧ j < big) then .ok (.int (i * j)) S else .bad
  | x, .int k => (match lstOf S x with
    | some a => if -1000000 ≤ k ∧ k ≤ 1000000 ∧ a.length * k.toNat ≤ SZ then newL t (List.replicate k.toNat a).flatten S else .bad
    | none => .bad)
  | _, _ => .bad
def arI (o : Op2) (i j : Int) (S : Store) : Res Val := match o with
  | .sub => .ok (.int (i - j)) S
  | .fdiv => if 0 < j ∧ j < 1073741824 then .ok (.int (i / j)) S else .bad
  | .mod => if 0 < j then .ok (.int (i % j)) S else .bad
  | .pow => if 0 ≤ j ∧ j ≤ 1000000 ∧ i.natAbs < 18446744073709551616 then .ok (.int (i ^ j.toNat)) S else .bad
  | _ => .bad
def op2 (t : Bool) (o : Op2) (x y : Val) (S : Store) : Res Val := match o with
  | .add => addV t x y S
  | .mul => mulV t x y S
  | o => (match x, y with
    | .int i, .int j => arI o i j S
    | _, _ => .bad)
inductive Cop where
  | eq | ne | lt | le | gt | ge | is | isnot | in_ | notin
  deriving DecidableEq
def lexTx : Tx → Tx → Bool
  | [], [] => false
  | [], _ :: _ => true
  | _ :: _, [] => false
  | x :: xs, y :: ys => if x = y then lexTx xs ys else decide (x < y)
def eqS (S : Store) (x y : Val) : Option Bool := match x, y with
  | .non, .non => some true
  | .int i, .int j => some (i == j)
  | .bl a, .bl b => some (a == b)
  | .str a, .str b => some (a == b)
  | x, y => match snap 64 S x, snap 64 S y with
    | some a, some b => if dle 60 a && dle 60 b then some (eqv a b) else none
    | _, _ => none
/-- a flat value -/
def flat : Val → Bool
  | .non => true
  | .bl _ => true
  | .int _ => true
  | .str _ => true
  | _ => false
def inL (S : Store) (x y : Val) : Option Bool := match snap 64 S x, snap 64 S y with
  | some a, some (.lst p bs) => if dle 60 a && dle 60 (.lst p bs) then some (bs.any fun b => eqv b a) else none
  | _, _ => none
def inS (S : Store) (x y : Val) : Option Bool := match y with
  | .str b => (match x with
    | .str [c] => some (decide (c ∈ b))
    | _ => none)
  | .tup vs => if flat x && vs.all flat then some (vs.any fun b => eqv b x) else none
  | .lst _ _ => inL S x y
  | .ref _ => inL S x y
  | _ => none
/-- behind not in: no text -/
def ninS (S : Store) (x y : Val) : Option Bool := match y with
  | .str _ => none
  | y => (inS S x y).map (!·)
def cop (o : Cop) (x y : Val) (S : Store) : Option Bool := match o with
  | .eq => eqS S x y
  | .ne => (eqS S x y).map (!·)
  | .in_ => inS S x y
  | .notin => ninS S x y
  | .is => (match y with
    | .non => some (match x with | .non => true | _ => false)
    | _ => none)
  | .isnot => (match y with
    | .non => some (match x with | .non => false | _ => true)
    | _ => none)
  | .lt => (match x, y with
    | .int i, .int j => some (decide (i < j))
    | .str a, .str b => some (lexTx a b)
    | _, _ => none)
  | .le => (match x, y with
    | .int i, .int j => some (decide (i ≤ j))
    | _, _ => none)
  | .gt => (match x, y with
    | .int i, .int j => some (decide (j < i))
    | _, _ => none)
  | .ge => (match x, y with
    | .int i, .int j => some (decide (j ≤ i))
    | _, _ => none)
inductive Ty where
  | int | bool | str | tuple | list
  deriving DecidableEq
/-- isinstance: True of a bool is an int -/
def isTy (S : Store) (v : Val) (t : Ty) : Option Bool := match look S v with
  | some .non => some false
  | some (.bl _) => some (t = .bool ∨ t = .int)
  | some (.int _) => some (t = .int)
  | some (.str _) => some (t = .str)
  | some (.tup _) => some (t = .tuple)
  | some (.lst _ _) => some (t = .list)
  | some (.dic _ _ _) => some false
  | _ => none
end E

/-! The evaluator: the language and its runs. -/
set_option linter.all false
set_option autoImplicit false
namespace E
/-! ### the language -/
inductive Tg where
  | n (i : Nat)
  | t (ts : List Tg)
inductive B1 where
  | len | list | tuple | str | int | sum | all | any | sorted | min | max | abs | dict
  deriving DecidableEq
inductive B2 where
  | min | max
  deriving DecidableEq
inductive Mt where
  | append | extend | pop | insert | clear | reverse | remove | index | count | join | split | partition | find | replace | get | popAt
  deriving DecidableEq
/-- what is walked: a value, range of one, two, three, enumerate, zip, reversed -/
inductive Ik where
  | val | r1 | r2 | r3 | enu | zip | rev
  deriving DecidableEq
inductive ME where
  | k (v : Val)
  | v (i : Nat)
  | g (x : Tx) (v : Val)
  | bin (t : Bool) (o : Op2) (a b : ME)
  | neg (a : ME)
  | not (a : ME)
  | cmp (o : Cop) (a b : ME)
  | chn (o p : Cop) (a b c : ME)
  | chn3 (o p q : Cop) (a b c d : ME)
  | and (a b : ME)
  | or (a b : ME)
  | one (a : ME)
  | ite (c a b : ME)
  | tup (es : List ME)
  | lst (t : Bool) (es : List ME)
  | dic (t : Bool) (ks : List ME) (vs : List ME)
  | ix (a b : ME)
  | sl (t : Bool) (a : ME) (hl : Bool) (lo : ME) (hh : Bool) (hi : ME)
  | bk (t : Bool) (a : ME)
  | b1 (f : B1) (t : Bool) (a : ME)
  | b2 (f : B2) (a b : ME)
  | isi (a : ME) (ty : Ty)
  | call (f : Nat) (t : Bool) (as : List ME)
  | m (f : Mt) (t : Bool) (o : ME) (as : List ME)
  | at (o : ME) (f : Tx)
  | um (f : Tx) (t : Bool) (o : ME) (as : List ME)
  | new (c : Nat) (as : List ME)
  | lc (t : Bool) (own : List Nat) (tg : Tg) (k : Ik) (a b : ME) (hc : Bool) (c e : ME)
inductive MS where
  | pass
  | ex (e : ME)
  | set (i : Nat) (e : ME)
  | tgt (ts : List Tg) (e : ME)
  | par (i j : Nat) (a b : ME)
  | sub (o i e : ME)
  | att (o : ME) (f : Tx) (e : ME)
  | aug (i : Nat) (o : Op2) (e : ME)
  | augs (a i : ME) (o : Op2) (e : ME)
  | ife (c : ME) (a b : List MS)
  | for (tg : Tg) (k : Ik) (a b : ME) (body : List MS)
  | whl (c : ME) (body : List MS)
  | ret (e : ME)
  | retn
  | rai (c : Nat)
  | raiR (c : Nat) (e : ME)
  | try (body : List MS) (ks cs : List Nat) (es : List ME)
/-- how a def is called: pure (an empty store of its own), on the caller's store with new objects let go, or kept -/
inductive Mode where
  | p | u | kp
  deriving DecidableEq
structure Fn where
  mode : Mode := .p
  np : Nat
  ns : Nat
  body : List MS
abbrev Gam := Nat → List Val → Store → Res Val
/-! ### targets, sources -/
mutual
def asg (S : Store) : Tg → Val → Sl → Option Sl
  | .n i, v, σ => if i < σ.length then some (σ.set i (some v)) else none
  | .t ts, v, σ => (match seqOf S v with
    | some vs => asgs S ts vs σ
    | none => none)
def asgs (S : Store) : List Tg → List Val → Sl → Option Sl
  | [], [], σ => some σ
  | t :: ts, v :: vs, σ => (asg S t v σ).bind fun σ' => asgs S ts vs σ'
  | _, _, _ => none
end
inductive Src where
  | fix (vs : List Val)
  | liv (n : Nat)
  | enu (x : Val)
  | zip (x y : Val)
def srcAt (S : Store) : Src → Nat → Option (Option Val)
  | .fix vs, i => some vs[i]?
  | .liv n, i => (match S[n]? with
    | some (.lst _ vs) => some vs[i]?
    | _ => none)
  | .enu x, i => (match lstOf S x with
    | some vs => some ((vs[i]?).map fun v => .tup [.int i, v])
    | none => none)
  | .zip x y, i => (match lstOf S x, lstOf S y with
    | some vs, some ws => (match vs[i]?, ws[i]? with
      | some v, some w => some (some (.tup [v, w]))
      | _, _ => some none)
    | _, _ => none)
def lim62 (i : Int) : Bool := decide (-4611686018427387904 ≤ i) && decide (i < 4611686018427387904)
def rngUp (lo : Int) (n : Nat) : List Val := (List.range n).map fun (i : Nat) => .int (lo + (i : Int))
def rngDn (lo : Int) (n : Nat) : List Val := (List.range n).map fun (i : Nat) => .int (lo - (i : Int))
/-- the source, and one more than its turns -/
def mkSrc (S : Store) (k : Ik) (x y : Val) : Option (Src × Nat) := match k with
  | .val => (match x with
    | .ref n => (match S[n]? with
      | some (.lst _ vs) => some (.liv n, vs.length + 1)
      | some (.dic _ ks _) => none
      | _ => none)
    | .lst _ vs => some (.fix vs, vs.length + 1)
    | .tup vs => some (.fix vs, vs.length + 1)
    | .str s => some (.fix (s.map fun c => .str [c]), s.length + 1)
    | .dic _ ks _ => some (.fix (ks.map kyV), ks.length + 1)
    | _ => none)
  | .r1 => (match x with
    | .int j => if lim62 j then some (.fix (rngUp 0 j.toNat), j.toNat + 1) else none
    | _ => none)
  | .r2 => (match x, y with
    | .int i, .int j => if lim62 i && lim62 j then some (.fix (rngUp i (j - i).toNat), (j - i).toNat + 1) else none
    | _, _ => none)
  | .r3 => (match x, y with
    | .int i, .int j => if lim62 i && lim62 j then some (.fix (rngDn i (i - j).toNat), (i - j).toNat + 1) else none
    | _, _ => none)
  | .enu => (match lstOf S x with
    | some vs => some (.enu x, vs.length + 1)
    | none => none)
  | .zip => (match lstOf S x, lstOf S y with
    | some vs, some ws => some (.zip x y, vs.length + 1)
    | _, _ => none)
  | .rev => (match x with
    | .lst _ vs => some (.fix vs.reverse, vs.length + 1)
    | _ => none)
/-! ### flows -/
inductive Fl where
  | nx (σ : Sl) (S : Store)
  | rt (v : Val) (S : Store)
  | exc (e : Exn) (σ : Sl) (S : Store)
  | bad
def Fl.bnd (r : Fl) (k : Sl → Store → Fl) : Fl := match r with
  | .nx σ S => k σ S
  | .rt v S => .rt v S
  | .exc e σ S => .exc e σ S
  | .bad => .bad
def Res.fl {α : Type} (r : Res α) (σ : Sl) (k : α → Store → Fl) : Fl := match r with
  | .ok a S => k a S
  | .exc e S => .exc e σ S
  | .bad => .bad
def lp (body : Sl → Store → Fl) (tg : Tg) (s : Src) : Nat → Nat → Sl → Store → Fl
  | 0, _, _, _ => .bad
  | k + 1, i, σ, S => (match srcAt S s i with
    | none => .bad
    | some none => .nx σ S
    | some (some x) => (match asg S tg x σ with
      | none => .bad
      | some σ1 => (body σ1 S).bnd fun σ2 S2 => lp body tg s k (i + 1) σ2 S2))
def lcl (ec : Sl → Store → Res Val) (cc : Sl → Store → Res Bool) (tg : Tg) (s : Src) (σ : Sl) : Nat → Nat → List Val → Store → Res (List Val)
  | 0, _, _, _ => .bad
  | k + 1, i, acc, S => (match srcAt S s i with
    | none => .bad
    | some none => .ok acc S
    | some (some x) => (match asg S tg x σ with
      | none => .bad
      | some σ1 => (cc σ1 S).bnd fun b S1 =>
        if b then (ec σ1 S1).bnd fun y S2 => if acc.length < SZ then lcl ec cc tg s σ k (i + 1) (acc ++ [y]) S2 else .bad
        else lcl ec cc tg s σ k (i + 1) acc S1))
def wl (c : Sl → Store → Res Bool) (body : Sl → Store → Fl) : Nat → Sl → Store → Fl
  | 0, _, _ => .bad
  | k + 1, σ, S => (c σ S).fl σ fun b S1 => if b then (body σ S1).bnd fun σ2 S2 => wl c body k σ2 S2 else .nx σ S1
def wipe (σ : Sl) : List Nat → Sl
  | [] => σ
  | v :: vs => (wipe σ vs).set v none
/-! ### owned trees -/
mutual
def thaw : Val → Store → Val × Store
  | .tup vs, S => (.tup (thaws vs S).1, (thaws vs S).2)
  | .lst true vs, S => (.ref (thaws vs S).2.length, (thaws vs S).2 ++ [.lst true (thaws vs S).1])
  | .dic true ks vs, S => (.ref (thaws vs S).2.length, (thaws vs S).2 ++ [.dic true ks (thaws vs S).1])
  | .ins c fs vs, S => (.ref (thaws vs S).2.length, (thaws vs S).2 ++ [.ins c fs (thaws vs S).1])
  | v, S => (v, S)
def thaws : List Val → Store → List Val × Store
  | [], S => ([], S)
  | v :: vs, S => ((thaw v S).1 :: (thaws vs (thaw v S).2).1, (thaws vs (thaw v S).2).2)
end
mutual
/-- refs to new objects taken as owned trees -/
def ownG (rd : Nat → Store → Option (Val × Store)) : Val → Store → Option (Val × Store)
  | .tup vs, S => (ownGs rd vs S).map fun p => (.tup p.1, p.2)
  | .ref n, S => rd n S
  | .ro _, _ => none
  | .ins _ _ _, _ => none
  | .lst o vs, S => if purs vs && !o then some (.lst o vs, S) else none
  | .dic o ks vs, S => if purs vs && !o then some (.dic o ks vs, S) else none
  | .non, S => some (.non, S)
  | .bl b, S => some (.bl b, S)
  | .int i, S => some (.int i, S)
  | .str s, S => some (.str s, S)
def ownGs (rd : Nat → Store → Option (Val × Store)) : List Val → Store → Option (List Val × Store)
  | [], S => some ([], S)
  | v :: vs, S => (ownG rd v S).bind fun p => (ownGs rd vs p.2).map fun q => (p.1 :: q.1, q.2)
end
def own (n0 : Nat) : Nat → Val → Store → Option (Val × Store)
  | 0 => ownG fun n S => if n < n0 then some (.ref n, S) else none
  | k + 1 => ownG fun n S => if n < n0 then some (.ref n, S) else match S[n]? with
    | some (.lst true vs) => (ownGs (fun m S => own n0 k (.ref m) S) vs (S.set n .non)).map fun p => (.lst true p.1, p.2)
    | some (.dic true ks vs) => (ownGs (fun m S => own n0 k (.ref m) S) vs (S.set n .non)).map fun p => (.dic true ks p.1, p.2)
    | some (.ins c fs vs) => (ownGs (fun m S => own n0 k (.ref m) S) vs (S.set n .non)).map fun p => (.ins c fs p.1, p.2)
    | _ => none
mutual
/-- no frozen container, no ref within -/
def clean : Val → Bool
  | .tup vs => cleans vs
  | .lst o vs => o && cleans vs
  | .dic o _ vs => o && cleans vs
  | .ins _ _ vs => cleans vs
  | .ref _ => false
  | .ro _ => false
  | .non => true
  | .bl _ => true
  | .int _ => true
  | .str _ => true
def cleans : List Val → Bool
  | [] => true
  | v :: vs => clean v && cleans vs
end
/-! ### built-ins -/
def intsOf : List Val → Option (List Int)
  | [] => some []
  | .int i :: r => (intsOf r).map (i :: ·)
  | _ :: _ => none
def boolsOf : List Val → Option (List Bool)
  | [] => some []
  | .bl i :: r => (boolsOf r).map (i :: ·)
  | _ :: _ => none
def strsOf : List Val → Option (List Tx)
  | [] => some []
  | .str i :: r => (strsOf r).map (i :: ·)
  | _ :: _ => none
def insI (x : Int) : List Int → List Int
  | [] => [x]
  | y :: r => if x ≤ y then x :: y :: r else y :: insI x r
def sortI : List Int → List Int
  | [] => []
  | x :: r => insI x (sortI r)
def insT (x : Tx) : List Tx → List Tx
  | [] => [x]
  | y :: r => if lexTx y x then y :: insT x r else x :: y :: r
def sortT : List Tx → List Tx
  | [] => []
  | x :: r => insT x (sortT r)
def digits : Nat → Nat → Tx
  | 0, _ => []
  | k + 1, n => if n < 10 then [48 + n] else digits k (n / 10) ++ [48 + n % 10]
/-- str(n) -/
def natTx (n : Nat) : Tx := digits (n + 1) n
def minI : Int → List Int → Int
  | m, [] => m
  | m, x :: r => minI (if x < m then x else m) r
def maxI : Int → List Int → Int
  | m, [] => m
  | m, x :: r => maxI (if m < x then x else m) r
def joinT (a : Tx) : List Tx → Tx
  | [] => []
  | [p] => p
  | p :: q :: r => p ++ (a ++ joinT a (q :: r))
def ixOf (a : Val) : List Val → Option Nat
  | [] => none
  | b :: bs => if eqv b a then some 0 else (ixOf a bs).map (· + 1)
def bi1 (f : B1) (t : Bool) (x : Val) (S : Store) : Res Val := match f with
  | .len => (match look S x with
    | some (.str s) => .ok (.int s.length) S
    | some (.lst _ vs) => .ok (.int vs.length) S
    | some (.tup vs) => .ok (.int vs.length) S
    | some (.dic _ ks _) => .ok (.int ks.length) S
    | _ => .bad)
  | .list => (match look S x with
    | some (.lst _ vs) => newL t vs S
    | some (.tup vs) => newL t vs S
    | _ => .bad)
  | .tuple => (match look S x with
    | some (.lst _ vs) => .ok (.tup vs) S
    | some (.tup vs) => .ok (.tup vs) S
    | _ => .bad)
  | .int => (match x with
    | .int i => .ok (.int i) S
    | .bl b => .ok (.int (b2i b)) S
    | _ => .bad)
  | .sum => (match lstOf S x with
    | some vs => (match intsOf vs with
      | some is => .ok (.int is.sum) S
      | none => .bad)
    | none => .bad)
  | .all => (match lstOf S x with
    | some vs => (match boolsOf vs with
      | some bs => .ok (.bl (bs.all id)) S
      | none => .bad)
    | none => .bad)
  | .any => (match lstOf S x with
    | some vs => (match boolsOf vs with
      | some bs => .ok (.bl (bs.any id)) S
      | none => .bad)
    | none => .bad)
  | .sorted => (match lstOf S x with
    | some vs => (match intsOf vs with
      | some is => if is.length ≤ SZ then newL t ((sortI is).map .int) S else .bad
      | none => (match strsOf vs with
        | some ss => if ss.length < 64 then newL t ((sortT ss).map .str) S else .bad
        | none => .bad))
    | none => .bad)
  | .min => (match lstOf S x with
    | some vs => (match intsOf vs with
      | some (i :: is) => .ok (.int (minI i is)) S
      | _ => .bad)
    | none => .bad)
  | .max => (match lstOf S x with
    | some vs => (match intsOf vs with
      | some (i :: is) => .ok (.int (maxI i is)) S
      | _ => .bad)
    | none => .bad)
  | .abs => (match x with
    | .int i => .ok (.int (if i < 0 then -i else i)) S
    | _ => .bad)
  | _ => .bad
def bi2 (f : B2) (x y : Val) (S : Store) : Res Val := match f, x, y with
  | .min, .int i, .int j => .ok (.int (if j < i then j else i)) S
  | .max, .int i, .int j => .ok (.int (if j > i then j else i)) S
  | _, _, _ => .bad
def mth (f : Mt) (t : Bool) (o : Val) (as : List Val) (S : Store) : Res Val := match f, o, as with
  | .append, .ref n, [y] => (match S[n]? with
    | some (.lst true vs) => if vs.length < SZ then .ok .non (S.set n (.lst true (vs ++ [y]))) else .bad
    | _ => .bad)
  | .extend, .ref n, [y] => (match S[n]?, lstOf S y with
    | some (.lst true vs), some ws => if vs.length + ws.length ≤ SZ then .ok .non (S.set n (.lst true (vs ++ ws))) else .bad
    | _, _ => .bad)
  | .clear, .ref n, [] => (match S[n]? with
    | some (.lst true _) => .ok .non (S.set n (.lst true []))
    | _ => .bad)
  | .pop, .ref n, [] => (match S[n]? with
    | some (.lst true vs) => (match vs[vs.length - 1]? with
      | some y => .ok y (S.set n (.lst true vs.dropLast))
      | none => .bad)
    | _ => .bad)
  | .popAt, .ref n, [.int i] => (match S[n]? with
    | some (.lst true vs) => if lim62 i then (match ixN vs.length i with
      | some k => (match vs[k]? with
        | some y => .ok y (S.set n (.lst true (vs.eraseIdx k)))
        | none => .bad)
      | none => .bad) else .bad
    | _ => .bad)
  | .insert, .ref n, [.int i, y] => (match S[n]? with
    | some (.lst true vs) => if vs.length < SZ ∧ 0 ≤ i ∧ lim62 i = true then .ok .non (S.set n (.lst true (vs.take i.toNat ++ [y] ++ vs.drop i.toNat))) else .bad
    | _ => .bad)
  | .reverse, .ref n, [] => (match S[n]? with
    | some (.lst true vs) => .ok .non (S.set n (.lst true vs.reverse))
    | _ => .bad)
  | .join, .str a, [y] => (match lstOf S y with
    | some vs => (match strsOf vs with
      | some ss => if (ss.map List.length).sum + ss.length * a.length ≤ SZ then .ok (.str (joinT a ss)) S else .bad
      | none => .bad)
    | none => .bad)
  | .index, o, [y] => (match lstOf S o, snap 64 S o, snap 64 S y with
    | some _, some (.lst p bs), some a => if dle 60 a && dle 60 (.lst p bs) then (match ixOf a bs with
      | some j => .ok (.int j) S
      | none => .bad) else .bad
    | _, _, _ => .bad)
  | _, _, _ => .bad
/-- what has the method -/
def recv (f : Mt) (x : Val) (S : Store) : Bool := match f with
  | .join | .split | .partition | .find | .replace => (match x with
    | .str _ => true
    | _ => false)
  | .get => (dicOf S x).isSome
  | .index | .count => (lstOf S x).isSome
  | _ => (match x with
    | .ref n => (match S[n]? with
      | some (.lst true _) => true
      | _ => false)
    | _ => false)
def ixV (S : Store) (x i : Val) : Option Val := match look S x, i with
  | some (.lst _ vs), .int j => atI vs j
  | some (.tup vs), .int j => atI vs j
  | some (.str s), .int j => (atI s j).map fun c => .str [c]
  | some (.dic _ ks vs), k => (match keyOf k with
    | some q => if kindK ks q then getK ks vs q else none
    | none => none)
  | _, _ => none
def slV (t : Bool) (x : Val) (lo hi : Option Int) (S : Store) : Res Val := match look S x with
  | some (.lst _ vs) => newL t (cut vs lo hi) S
  | some (.ro vs) => newL t (cut vs lo hi) S
  | some (.tup vs) => .ok (.tup (cut vs lo hi)) S
  | some (.str s) => .ok (.str (cut s lo hi)) S
  | _ => .bad
def setV (o i v : Val) (S : Store) : Option Store := match o, i with
  | .ref n, .int j => (match S[n]? with
    | some (.lst true vs) => (match ixN vs.length j with
      | some k => some (S.set n (.lst true (vs.set k v)))
      | none => none)
    | _ => none)
  | _, _ => none
def optI (h : Bool) (v : Val) : Option (Option Int) := if h then (match v with | .int i => some (some i) | _ => none) else some none
/-! ### expressions -/
mutual
def ev (Γ : Gam) : ME → Sl → Store → Res Val
  | .k v, _, S => .ok v S
  | .v i, σ, S => (match σ[i]? with
    | some (some v) => .ok v S
    | _ => .bad)
  | .g _ v, _, S => .ok v S
  | .bin t o a b, σ, S => (ev Γ a σ S).bnd fun x S1 => (ev Γ b σ S1).bnd fun y S2 => op2 t o x y S2
  | .neg a, σ, S => (ev Γ a σ S).bnd fun x S1 => (match x with
    | .int i => .ok (.int (-i)) S1
    | _ => .bad)
  | .not a, σ, S => (ev Γ a σ S).bnd fun x S1 => (match x with
    | .bl b => .ok (.bl (!b)) S1
    | _ => .bad)
  | .one a, σ, S => ev Γ a σ S
  | .cmp o a b, σ, S => (ev Γ a σ S).bnd fun x S1 => (ev Γ b σ S1).bnd fun y S2 => (match cop o x y S2 with
    | some c => .ok (.bl c) S2
    | none => .bad)
  | .chn o p a b c, σ, S => (ev Γ a σ S).bnd fun x S1 => (ev Γ b σ S1).bnd fun y S2 => (match cop o x y S2 with
    | some true => (ev Γ c σ S2).bnd fun z S3 => (match cop p y z S3 with
      | some d => .ok (.bl d) S3
      | none => .bad)
    | some false => .ok (.bl false) S2
    | none => .bad)
  | .chn3 .., _, _ => .bad
  | .and a b, σ, S => (ev Γ a σ S).bnd fun x S1 => (match x with
    | .bl true => ev Γ b σ S1
    | .bl false => .ok (.bl false) S1
    | _ => .bad)
  | .or a b, σ, S => (ev Γ a σ S).bnd fun x S1 => (match x with
    | .bl true => .ok (.bl true) S1
    | .bl false => ev Γ b σ S1
    | _ => .bad)
  | .ite c a b, σ, S => (ev Γ c σ S).bnd fun x S1 => (match truth S1 x with
    | some true => ev Γ a σ S1
    | some false => ev Γ b σ S1
    | none => .bad)
  | .tup es, σ, S => (evs Γ es σ S).bnd fun vs S1 => if vs.length ≤ SZ then .ok (.tup vs) S1 else .bad
  | .lst t es, σ, S => (evs Γ es σ S).bnd fun vs S1 => newL t vs S1
  | .dic t ks vs, _, S => (match ks, vs with
    | [], [] => if t then .ok (.ref S.length) (S ++ [.dic true [] []]) else .ok (.dic false [] []) S
    | _, _ => .bad)
  | .ix a b, σ, S => (ev Γ a σ S).bnd fun x S1 => (ev Γ b σ S1).bnd fun y S2 => ofO (ixV S2 x y) S2
  | .sl t a hl lo hh hi, σ, S => (ev Γ a σ S).bnd fun x S1 => (ev Γ lo σ S1).bnd fun l S2 => (match optI hl l with
      | some l => (ev Γ hi σ S2).bnd fun h S3 => (match optI hh h with
        | some h => slV t x l h S3
        | none => .bad)
      | none => .bad)
  | .bk t a, σ, S => (ev Γ a σ S).bnd fun x S1 => (match lstOf S1 x with
    | some vs => newL t vs.reverse S1
    | none => .bad)
  | .b1 f t a, σ, S => (ev Γ a σ S).bnd fun x S1 => bi1 f t x S1
  | .b2 f a b, σ, S => (ev Γ a σ S).bnd fun x S1 => (ev Γ b σ S1).bnd fun y S2 => bi2 f x y S2
  | .isi a ty, σ, S => (ev Γ a σ S).bnd fun x S1 => (match isTy S1 x ty with
    | some b => .ok (.bl b) S1
    | none => .bad)
  | .call f t as, σ, S => (evs Γ as σ S).bnd fun vs S1 => (Γ f vs S1).bnd fun v S2 => if t then .ok (thaw v S2).1 (thaw v S2).2 else .ok (frz v) S2
  | .m f t o as, σ, S => (ev Γ o σ S).bnd fun x S1 => if recv f x S1 then (evs Γ as σ S1).bnd fun vs S2 => mth f t x vs S2 else .bad
  | .at .., _, _ => .bad
  | .um .., _, _ => .bad
  | .new .., _, _ => .bad
  | .lc t ow tg k a b hc c e, σ, S => (ev Γ a σ S).bnd fun x S1 => (ev Γ b σ S1).bnd fun y S2 => (match mkSrc S2 k x y with
    | none => .bad
    | some (s, n) => (match lcl (ev Γ e) (fun σ S => if hc then (ev Γ c σ S).bnd fun x S1 => ofO (truth S1 x) S1 else .ok true S) tg s (wipe σ ow) n 0 [] S2 with
      | .ok acc S3 => newL t acc S3
      | _ => .bad))
def evs (Γ : Gam) : List ME → Sl → Store → Res (List Val)
  | [], _, S => .ok [] S
  | e :: es, σ, S => (ev Γ e σ S).bnd fun v S1 => (evs Γ es σ S1).bnd fun vs S2 => .ok (v :: vs) S2
end
def evT (Γ : Gam) (c : ME) (σ : Sl) (S : Store) : Res Bool := (ev Γ c σ S).bnd fun x S1 => ofO (truth S1 x) S1
/-! ### statements -/
/-- an exception of class c is caught by 'except d' -/
def catches (c d : Nat) : Bool := c == d || d == 0
/-- the clauses, one after the other -/
def evH (Γ : Gam) (c : Nat) : List Nat → List ME → Exn → Sl → Store → Fl
  | d :: ds, h :: hs, e, σ, S => if catches c d then (match ev Γ h σ S with
      | .ok v S2 => .rt v S2
      | _ => .bad) else evH Γ c ds hs e σ S
  | _, _, e, σ, S => .exc e σ S
mutual
def ex (Γ : Gam) : MS → Sl → Store → Fl
  | .pass, σ, S => .nx σ S
  | .ex e, σ, S => (ev Γ e σ S).fl σ fun _ S1 => .nx σ S1
  | .set i e, σ, S => (ev Γ e σ S).fl σ fun v S1 => (match asg S1 (.n i) v σ with
    | some σ1 => .nx σ1 S1
    | none => .bad)
  | .tgt ts e, σ, S => (ev Γ e σ S).fl σ fun v S1 => (match asg S1 (.t ts) v σ with
    | some σ1 => .nx σ1 S1
    | none => .bad)
  | .par .., _, _ => .bad
  | .sub o i e, σ, S => (ev Γ e σ S).fl σ fun v S1 => (ev Γ o σ S1).fl σ fun x S2 => (ev Γ i σ S2).fl σ fun j S3 => (match setV x j v S3 with
    | some S4 => .nx σ S4
    | none => .bad)
  | .att .., _, _ => .bad
  | .aug i o e, σ, S => (match σ[i]? with
    | some (some x) => (ev Γ e σ S).fl σ fun y S1 => (match x, y, o with
      | .int p, .int q, .add => .nx (σ.set i (some (.int (p + q)))) S1
      | _, _, _ => .bad)
    | _ => .bad)
  | .augs .., _, _ => .bad
  | .ife c a b, σ, S => (evT Γ c σ S).fl σ fun t S1 => if t then exs Γ a σ S1 else exs Γ b σ S1
  | .for tg k a b body, σ, S => (ev Γ a σ S).fl σ fun x S1 => (ev Γ b σ S1).fl σ fun y S2 => (match mkSrc S2 k x y with
    | none => .bad
    | some (s, n) => lp (exs Γ body) tg s n 0 σ S2)
  | .whl c body, σ, S => wl (evT Γ c) (exs Γ body) 100000 σ S
  | .ret e, σ, S => (ev Γ e σ S).fl σ fun v S1 => .rt v S1
  | .retn, _, S => .rt .non S
  | .rai c, σ, S => .exc ⟨c, none⟩ σ S
  | .raiR .., _, _ => .bad
  | .try body ks cs es, σ, S => (match exs Γ body σ S with
    | .exc e σ1 S1 => if ks.contains e.c then evH Γ e.c cs es e σ1 S1 else .bad
    | r => r)
def exs (Γ : Gam) : List MS → Sl → Store → Fl
  | [], σ, S => .nx σ S
  | s :: ss, σ, S => (ex Γ s σ S).bnd fun σ1 S1 => exs Γ ss σ1 S1
end
/-! ### defs -/
def startS (ns : Nat) (vs : List Val) : Sl := vs.map some ++ List.replicate (ns - vs.length) none
def endP (pu : Bool) (S : Store) (r : Fl) : Res Val := match r with
  | .rt v S1 => (match own 0 64 v S1 with
    | some (w, _) => if pu || clean w then .ok w S else .bad
    | none => .bad)
  | .nx _ _ => .ok .non S
  | .exc e _ _ => .exc e S
  | .bad => .bad
def endU (n0 : Nat) (r : Fl) : Res Val := match r with
  | .rt v S1 => (match own n0 64 v S1 with
    | some (w, _) => if belows n0 (S1.take n0) && decide (n0 ≤ S1.length) then .ok w (S1.take n0) else .bad
    | none => .bad)
  | .nx _ S1 => if belows n0 (S1.take n0) && decide (n0 ≤ S1.length) then .ok .non (S1.take n0) else .bad
  | .exc e _ S1 => if belows n0 (S1.take n0) && decide (n0 ≤ S1.length) then .exc e (S1.take n0) else .bad
  | .bad => .bad
def runFn (Γ : Gam) (fn : Fn) (vs : List Val) (S : Store) : Res Val :=
  if vs.length = fn.np ∧ vs.length ≤ fn.ns then (match fn.mode with
    | .p => (match snaps 64 S vs with
      | some ds => endP (purs vs) S (exs Γ fn.body (startS fn.ns ds) [])
      | none => .bad)
    | .u => endU S.length (exs Γ fn.body (startS fn.ns vs) S)
    | .kp => (match exs Γ fn.body (startS fn.ns vs) S with
      | .rt v S1 => .ok v S1
      | .nx _ S1 => .ok .non S1
      | .exc e _ S1 => .exc e S1
      | .bad => .bad)) else .bad
def call (prog : Nat → Option Fn) : Nat → Gam
  | 0 => fun _ _ _ => .bad
  | n + 1 => fun f vs S => match prog f with
    | some fn => runFn (call prog n) fn vs S
    | none => .bad
end E

set_option linter.all false
set_option autoImplicit false
set_option Elab.async false
set_option maxHeartbeats 2000000
/-! Soundness: the relations. -/
namespace E
open PySem PySem.Spec L2
abbrev Frag := PySem.W.Frag
def okT (s : Tx) : Bool := s.all (fun c => decide (c < 1114112)) && decide (s.length ≤ SZ)
def mkS (s : Tx) : Str := ⟨s.toArray⟩
mutual
/-- a value of the evaluator and one of the layer -/
inductive RV (K : Frag) (ι : List Addr) (F : Hp) : Val → V → Prop
  | non : RV K ι F .non .non
  | bl (b : Bool) : RV K ι F (.bl b) (.bl b)
  | int (i : Int) : RV K ι F (.int i) (.int i)
  | str (s : Tx) : okT s = true → RV K ι F (.str s) (.str (mkS s))
  | tup {a : Addr} {us : List V} {vs : List Val} : SqT K F a us → RVs K ι F vs us → RV K ι F (.tup vs) (.ref a)
  | lst {a : Addr} {us : List V} {vs : List Val} : F a = some (.lst us) → RVs K ι F vs us → RV K ι F (.lst false vs) (.ref a)
  | ro {a : Addr} {us : List V} {vs : List Val} : SqL K F a us → RVs K ι F vs us → RV K ι F (.ro vs) (.ref a)
  | ref {n : Nat} {a : Addr} : ι[n]? = some a → RV K ι F (.ref n) (.ref a)
inductive RVs (K : Frag) (ι : List Addr) (F : Hp) : List Val → List V → Prop
  | nil : RVs K ι F [] []
  | cons {v : Val} {u : V} {vs : List Val} {us : List V} : RV K ι F v u → RVs K ι F vs us → RVs K ι F (v :: vs) (u :: us)
end
/-- a tracked cell -/
inductive RC (K : Frag) (ι : List Addr) (F : Hp) : Val → HO → Prop
  | lst {vs : List Val} {us : List V} : RVs K ι F vs us → RC K ι F (.lst true vs) (.lst us)
def SubH (F F' : Hp) : Prop := ∀ a o, F a = some o → F' a = some o
theorem SubH.refl (F : Hp) : SubH F F := fun _ _ h => h
theorem SubH.trans {F G H : Hp} (a : SubH F G) (b : SubH G H) : SubH F H := fun x o h => b x o (a x o h)
theorem SubH.rd {F F' : Hp} (h : SubH F F') {a : Addr} {u : HO} (r : Rd F a u) : Rd F' a u := by
  rcases r with r | ⟨o, r⟩
  · exact .inl (h _ _ r)
  · exact .inr ⟨o, h _ _ r⟩
theorem SubH.sqT {K : Frag} {F F' : Hp} (h : SubH F F') {a : Addr} {us : List V} (r : SqT K F a us) : SqT K F' a us := by
  rcases r with r | r
  · exact .inl (h.rd r)
  · exact .inr r
theorem SubH.sqL {K : Frag} {F F' : Hp} (h : SubH F F') {a : Addr} {us : List V} (r : SqL K F a us) : SqL K F' a us := by
  rcases r with r | r
  · exact .inl (h.rd r)
  · exact .inr r
section
variable {K : Frag} {ι ι' : List Addr} {F F' : Hp}
theorem pre_get {ι ι' : List Addr} (h : ι <+: ι') {n : Nat} {a : Addr} (e : ι[n]? = some a) : ι'[n]? = some a := by
  obtain ⟨t, rfl⟩ := h
  rw [List.getElem?_append_left (List.getElem?_eq_some_iff.mp e).1]
  exact e
mutual
theorem RV.mono (hp : ι <+: ι') (hF : SubH F F') : ∀ {v : Val} {u : V}, RV K ι F v u → RV K ι' F' v u
  | _, _, .non => .non
  | _, _, .bl b => .bl b
  | _, _, .int i => .int i
  | _, _, .str s h => .str s h
  | _, _, .tup h r => .tup (hF.sqT h) (RVs.mono hp hF r)
  | _, _, .lst h r => .lst (hF _ _ h) (RVs.mono hp hF r)
  | _, _, .ro h r => .ro (hF.sqL h) (RVs.mono hp hF r)
  | _, _, .ref e => .ref (pre_get hp e)
theorem RVs.mono (hp : ι <+: ι') (hF : SubH F F') : ∀ {v : List Val} {u : List V}, RVs K ι F v u → RVs K ι' F' v u
  | _, _, .nil => .nil
  | _, _, .cons a b => .cons (RV.mono hp hF a) (RVs.mono hp hF b)
end
theorem RC.mono (hp : ι <+: ι') (hF : SubH F F') {c : Val} {o : HO} : RC K ι F c o → RC K ι' F' c o
  | .lst r => .lst (r.mono hp hF)
end
/-- the store and the heap -/
structure RlH (K : Frag) (ι : List Addr) (F : Hp) (S : Store) (H : Hp) : Prop where
  sub : SubH F H
  nd : ι.Nodup
  len : ι.length = S.length
  trk : ∀ (n : Nat) (a : Addr), ι[n]? = some a → F a = none ∧ ∃ (c : Val) (o : HO), S[n]? = some c ∧ H a = some o ∧ RC K ι F c o
/-- slots -/
structure RS (K : Frag) (ι : List Addr) (F : Hp) (σ' : Sl) (σ : St) : Prop where
  len : σ.length = σ'.length
  at_ : ∀ (i : Nat) (v : Val), σ'[i]? = some (some v) → ∃ u : V, σ[i]? = some (some u) ∧ RV K ι F v u
/-- what a step may do -/
structure Ex (ι : List Addr) (F H : Hp) (ι' : List Addr) (F' H' : Hp) : Prop where
  pre : ι <+: ι'
  sub : SubH F F'
  frame : ∀ a o, H a = some o → a ∉ ι → H' a = some o
  new : ∀ a, a ∈ ι' → a ∈ ι ∨ H a = none
  newF : ∀ a o, F' a = some o → F a = some o ∨ H a = none
theorem Ex.refl {ι : List Addr} {F H : Hp} : Ex ι F H ι F H := ⟨List.prefix_rfl, SubH.refl F, fun _ _ h _ => h, fun _ h => .inl h, fun _ _ h => .inl h⟩
theorem Ex.trans {ι ι1 ι2 : List Addr} {F H F1 H1 F2 H2 : Hp} (a : Ex ι F H ι1 F1 H1) (b : Ex ι1 F1 H1 ι2 F2 H2) (hk : ∀ x, H1 x = none → H x = none) : Ex ι F H ι2 F2 H2 where
  pre := a.pre.trans b.pre
  sub := a.sub.trans b.sub
  frame := fun x o h n => b.frame x o (a.frame x o h n) fun m => by
    rcases a.new x m with z | z
    · exact n z
    · rw [z] at h; cases h
  new := fun x m => by
    rcases b.new x m with z | z
    · exact a.new x z
    · exact .inr (hk x z)
  newF := fun x o h => by
    rcases b.newF x o h with z | z
    · exact a.newF x o z
    · exact .inr (hk x z)
/-- nothing that stood is gone -/
theorem Ex.keeps {K : Frag} {ι ι' : List Addr} {F H F' H' : Hp} {S' : Store} (e : Ex ι F H ι' F' H') (r : RlH K ι' F' S' H') : ∀ x, H' x = none → H x = none := fun x h => by
  cases q : H x with
  | none => rfl
  | some o =>
    by_cases m : x ∈ ι
    · obtain ⟨n, hn⟩ := List.mem_iff_getElem?.mp m
      obtain ⟨_, c, o', _, e2, _⟩ := r.trk n x (pre_get e.pre hn)
      rw [h] at e2; cases e2
    · rw [e.frame x o q m] at h; cases h
theorem RS.mono {K : Frag} {ι ι' : List Addr} {F F' : Hp} {σ' : Sl} {σ : St} (r : RS K ι F σ' σ) (hp : ι <+: ι') (hF : SubH F F') : RS K ι' F' σ' σ :=
  ⟨r.len, fun i v e => let ⟨u, h1, h2⟩ := r.at_ i v e; ⟨u, h1, h2.mono hp hF⟩⟩
theorem RS.set {K : Frag} {ι : List Addr} {F : Hp} {σ' : Sl} {σ : St} {v : Val} {u : V} (r : RS K ι F σ' σ) (h : RV K ι F v u) (i : Nat) : RS K ι F (σ'.set i (some v)) (σ.set i (some u)) where
  len := by rw [List.length_set, List.length_set, r.len]
  at_ := fun j w e => by
    by_cases hj : i = j
    · subst hj
      have hl : i < σ'.length := by
        have := (List.getElem?_eq_some_iff.mp e).1
        rw [List.length_set] at this
        exact this
      rw [List.getElem?_set_self hl] at e
      cases e
      exact ⟨u, by rw [List.getElem?_set_self (by rw [r.len]; exact hl)], h⟩
    · rw [List.getElem?_set_ne hj] at e
      obtain ⟨u', h1, h2⟩ := r.at_ j w e
      exact ⟨u', by rw [List.getElem?_set_ne hj]; exact h1, h2⟩
/-! ### readings -/
section
variable (K : Frag) (W : WX) (ca : Nat → Addr)
/-- what is wanted behind a run of an expression -/
def Fin (σ : L2.St) (ι : List Addr) (F H : Hp) (r : Res Val) (Q : VK) : Prop := match r with
  | .ok v S' => ∀ ι' F' H' u, Ex ι F H ι' F' H' → RlH K ι' F' S' H' → RV K ι' F' v u → Q u H'
  | .exc e S' => ∀ ι' F' H', Ex ι F H ι' F' H' → RlH K ι' F' S' H' → W (.ref (ca e.c)) none σ H'
  | .bad => False
def FinA (σ : L2.St) (ι : List Addr) (F H : Hp) (r : Res (List Val)) (Q : List V → Hp → Prop) : Prop := match r with
  | .ok v S' => ∀ ι' F' H' u, Ex ι F H ι' F' H' → RlH K ι' F' S' H' → RVs K ι' F' v u → Q u H'
  | .exc e S' => ∀ ι' F' H', Ex ι F H ι' F' H' → RlH K ι' F' S' H' → W (.ref (ca e.c)) none σ H'
  | .bad => False
def FinT (σ : L2.St) (ι : List Addr) (F H : Hp) (r : Res Bool) (Q : Bool → Hp → Prop) : Prop := match r with
  | .ok v S' => ∀ ι' F' H', Ex ι F H ι' F' H' → RlH K ι' F' S' H' → Q v H'
  | .exc e S' => ∀ ι' F' H', Ex ι F H ι' F' H' → RlH K ι' F' S' H' → W (.ref (ca e.c)) none σ H'
  | .bad => False
def FinS (ι : List Addr) (F H : Hp) (r : Fl) (D : Ends) : Prop := match r with
  | .nx σ1 S' => ∀ ι' F' H' σ2, Ex ι F H ι' F' H' → RS K ι' F' σ1 σ2 → RlH K ι' F' S' H' → D.nx σ2 H'
  | .rt v S' => ∀ ι' F' H' u, Ex ι F H ι' F' H' → RlH K ι' F' S' H' → RV K ι' F' v u → D.rt u H'
  | .exc e σ1 S' => ∀ ι' F' H' σ2, Ex ι F H ι' F' H' → RS K ι' F' σ1 σ2 → RlH K ι' F' S' H' → W (.ref (ca e.c)) none σ2 H'
  | .bad => False
def tM (m : Sl → Store → Res Val) : TE := fun σ H Q => ∃ ι F σ' S, RS K ι F σ' σ ∧ RlH K ι F S H ∧ Fin K W ca σ ι F H (m σ' S) Q
def tMs (m : Sl → Store → Res (List Val)) : TA := fun σ H Q => ∃ ι F σ' S, RS K ι F σ' σ ∧ RlH K ι F S H ∧ FinA K W ca σ ι F H (m σ' S) Q
def tMT (m : Sl → Store → Res Bool) : TT := fun σ H Q => ∃ ι F σ' S, RS K ι F σ' σ ∧ RlH K ι F S H ∧ FinT K W ca σ ι F H (m σ' S) Q
def tMS (m : Sl → Store → Fl) : TS := fun D σ H => ∃ ι F σ' S, RS K ι F σ' σ ∧ RlH K ι F S H ∧ FinS K W ca ι F H (m σ' S) D
end
section
variable {K : Frag} {W : WX} {ca : Nat → Addr} {σ : L2.St} {ι ι1 : List Addr} {F H F1 H1 : Hp} {S1 : Store}
theorem Fin.trans {r : Res Val} {Q : VK} (e : Ex ι F H ι1 F1 H1) (r1 : RlH K ι1 F1 S1 H1) (h : Fin K W ca σ ι F H r Q) : Fin K W ca σ ι1 F1 H1 r Q := by
  have k := e.keeps r1
  cases r with
  | ok v S => exact fun ι' F' H' u x y z => h ι' F' H' u (e.trans x k) y z
  | exc x S => exact fun ι' F' H' x y => h ι' F' H' (e.trans x k) y
  | bad => exact h
theorem FinA.trans {r : Res (List Val)} {Q : List V → Hp → Prop} (e : Ex ι F H ι1 F1 H1) (r1 : RlH K ι1 F1 S1 H1) (h : FinA K W ca σ ι F H r Q) : FinA K W ca σ ι1 F1 H1 r Q := by
  have k := e.keeps r1
  cases r with
  | ok v S => exact fun ι' F' H' u x y z => h ι' F' H' u (e.trans x k) y z
  | exc x S => exact fun ι' F' H' x y => h ι' F' H' (e.trans x k) y
  | bad => exact h
theorem FinT.trans {r : Res Bool} {Q : Bool → Hp → Prop} (e : Ex ι F H ι1 F1 H1) (r1 : RlH K ι1 F1 S1 H1) (h : FinT K W ca σ ι F H r Q) : FinT K W ca σ ι1 F1 H1 r Q := by
  have k := e.keeps r1
  cases r with
  | ok v S => exact fun ι' F' H' x y => h ι' F' H' (e.trans x k) y
  | exc x S => exact fun ι' F' H' x y => h ι' F' H' (e.trans x k) y
  | bad => exact h
theorem FinS.trans {r : Fl} {D : Ends} (e : Ex ι F H ι1 F1 H1) (r1 : RlH K ι1 F1 S1 H1) (h : FinS K W ca ι F H r D) : FinS K W ca ι1 F1 H1 r D := by
  have k := e.keeps r1
  cases r with
  | nx v S => exact fun ι' F' H' s x y z => h ι' F' H' s (e.trans x k) y z
  | rt v S => exact fun ι' F' H' u x y z => h ι' F' H' u (e.trans x k) y z
  | exc x σ S => exact fun ι' F' H' s x y z => h ι' F' H' s (e.trans x k) y z
  | bad => exact h
/-- a first part, then the rest -/
theorem Fin.bind {σ' : Sl} {r : Res Val} {k : Val → Store → Res Val} {Q : VK} {R : V → Hp → Prop} (s : RS K ι F σ' σ) (h : Fin K W ca σ ι F H (r.bnd k) Q)
    (f : ∀ v S' ι' F' H' u, r = .ok v S' → Ex ι F H ι' F' H' → RS K ι' F' σ' σ → RlH K ι' F' S' H' → RV K ι' F' v u → Fin K W ca σ ι' F' H' (k v S') Q → R u H') : Fin K W ca σ ι F H r R := by
  cases r with
  | ok v S => exact fun ι' F' H' u x y z => f v S ι' F' H' u rfl x (s.mono x.pre x.sub) y z (Fin.trans x y h)
  | exc x S => exact h
  | bad => exact h
end
/-- a weaker reading -/
theorem PE.weak {X : Cx} {e : Expr} {t t' : TE} (h : PE X e t) (w : ∀ σ H Q, t' σ H Q → t σ H Q) : PE X e t' := ⟨fun pins s σ H Q I q => h.run pins s σ H Q I (w σ H Q q)⟩
theorem PT.weak {X : Cx} {e : Expr} {t t' : TT} (h : PT X e t) (w : ∀ σ H Q, t' σ H Q → t σ H Q) : PT X e t' := ⟨fun pins s σ H Q I q => h.run pins s σ H Q I (w σ H Q q)⟩
theorem PA.weak {X : Cx} {e : List Expr} {t t' : TA} (h : PA X e t) (w : ∀ σ H Q, t' σ H Q → t σ H Q) : PA X e t' := ⟨fun pos pins s σ H Q I q => h.run pos pins s σ H Q I (w σ H Q q)⟩
theorem PS.weak {X : Cx} {e : Stmt} {t t' : TS} (h : PS X e t) (w : ∀ D σ H, t' D σ H → t D σ H) : PS X e t' := ⟨fun pins s σ H D I q => h.run pins s σ H D I (w D σ H q)⟩
theorem PSs.weak {X : Cx} {e : List Stmt} {t t' : TS} (h : PSs X e t) (w : ∀ D σ H, t' D σ H → t D σ H) : PSs X e t' := ⟨fun pins s σ H D I q => h.run pins s σ H D I (w D σ H q)⟩
end E

set_option linter.all false
set_option autoImplicit false
set_option Elab.async false
set_option maxHeartbeats 2000000
/-! Soundness: expressions. -/
namespace E
open PySem PySem.Spec L2
section
variable {K : Frag} {W : WX} {ca : Nat → Addr} {σ : L2.St} {ι ι1 : List Addr} {F H F1 H1 : Hp} {S S1 : Store}
theorem SubH.none {F H : Hp} (h : SubH F H) {p : Addr} (e : H p = none) : F p = none := by
  cases q : F p with
  | none => rfl
  | some o => rw [h _ _ q] at e; cases e
theorem SubH.upd {F H : Hp} (h : SubH F H) {p : Addr} (o : HO) : SubH (L2.upd F p o) (L2.upd H p o) := fun a x e => by
  by_cases ha : a = p
  · subst ha; rw [upd_same] at e; rw [upd_same]; exact e
  · rw [upd_ne ha] at e; rw [upd_ne ha]; exact h _ _ e
theorem subH_upd {F : Hp} {p : Addr} {o : HO} (e : F p = none) : SubH F (L2.upd F p o) := fun a x h => by
  rw [upd_ne (ne_of_none h e)]; exact h
/-- a new object, frozen -/
theorem RlH.pushF (rl : RlH K ι F S H) {p : Addr} (hp : H p = none) (o : HO) : RlH K ι (L2.upd F p o) S (L2.upd H p o) where
  sub := rl.sub.upd o
  nd := rl.nd
  len := rl.len
  trk := fun n a e => by
    obtain ⟨h1, c, o', h2, h3, h4⟩ := rl.trk n a e
    have hne : a ≠ p := ne_of_none h3 hp
    refine ⟨by rw [upd_ne hne]; exact h1, c, o', h2, by rw [upd_ne hne]; exact h3, h4.mono List.prefix_rfl (subH_upd (rl.sub.none hp))⟩
theorem Ex.pushF (rl : RlH K ι F S H) {p : Addr} (hp : H p = none) (o : HO) : Ex ι F H ι (L2.upd F p o) (L2.upd H p o) where
  pre := List.prefix_rfl
  sub := subH_upd (rl.sub.none hp)
  frame := fun a x e _ => by rw [upd_ne (ne_of_none e hp)]; exact e
  new := fun a h => .inl h
  newF := fun a x e => by
    by_cases ha : a = p
    · subst ha; exact .inr hp
    · rw [upd_ne ha] at e; exact .inl e
theorem RlH.notin (rl : RlH K ι F S H) {p : Addr} (hp : H p = none) : p ∉ ι := fun m => by
  obtain ⟨n, hn⟩ := List.mem_iff_getElem?.mp m
  obtain ⟨_, _, _, _, h, _⟩ := rl.trk n p hn
  rw [hp] at h; cases h
/-- a new object, tracked -/
theorem RlH.pushT (rl : RlH K ι F S H) {p : Addr} (hp : H p = none) {c : Val} {o : HO} (rc : RC K (ι ++ [p]) F c o) : RlH K (ι ++ [p]) F (S ++ [c]) (L2.upd H p o) where
  sub := fun a x e => by
    have e' := rl.sub _ _ e
    rw [upd_ne (ne_of_none e' hp)]; exact e'
  nd := by
    rw [List.nodup_append]
    refine ⟨rl.nd, by simp, fun a ha b hb => ?_⟩
    have : b = p := by simpa using hb
    subst this
    exact fun z => rl.notin hp (z ▸ ha)
  len := by rw [List.length_append, List.length_append, rl.len]; rfl
  trk := fun n a e => by
    by_cases hn : n < ι.length
    · rw [List.getElem?_append_left hn] at e
      obtain ⟨h1, c', o', h2, h3, h4⟩ := rl.trk n a e
      refine ⟨h1, c', o', ?_, ?_, h4.mono (List.prefix_append _ _) (SubH.refl F)⟩
      · rw [List.getElem?_append_left (by rw [← rl.len]; exact hn)]; exact h2
      · rw [upd_ne (ne_of_none h3 hp)]; exact h3
    · have hl : n < (ι ++ [p]).length := (List.getElem?_eq_some_iff.mp e).1
      rw [List.length_append] at hl
      have hn' : n = ι.length := by
        have : [p].length = 1 := rfl
        omega
      subst hn'
      rw [List.getElem?_append_right (Nat.le_refl _)] at e
      have ea : a = p := by simpa using e.symm
      subst ea
      refine ⟨rl.sub.none hp, c, o, ?_, upd_same, rc⟩
      rw [rl.len, List.getElem?_append_right (Nat.le_refl _)]; simp
theorem Ex.pushT (rl : RlH K ι F S H) {p : Addr} (hp : H p = none) (o : HO) : Ex ι F H (ι ++ [p]) F (L2.upd H p o) where
  pre := List.prefix_append _ _
  sub := SubH.refl F
  frame := fun a x e _ => by rw [upd_ne (ne_of_none e hp)]; exact e
  new := fun a h => by
    rcases List.mem_append.mp h with z | z
    · exact .inl z
    · have : a = p := by simpa using z
      subst this; exact .inr hp
  newF := fun a x e => .inl e
/-- a tracked object written -/
theorem RlH.write (rl : RlH K ι F S H) {n : Nat} {a : Addr} (hn : ι[n]? = some a) {c : Val} {o : HO} (rc : RC K ι F c o) : RlH K ι F (S.set n c) (L2.upd H a o) where
  sub := fun b x e => by
    have h1 := (rl.trk n a hn).1
    rw [upd_ne (ne_of_none e h1)]; exact rl.sub _ _ e
  nd := rl.nd
  len := by rw [List.length_set]; exact rl.len
  trk := fun m b e => by
    by_cases hm : n = m
    · subst hm
      rw [hn] at e; cases e
      refine ⟨(rl.trk n a hn).1, c, o, ?_, upd_same, rc⟩
      rw [List.getElem?_set_self]
      rw [← rl.len]; exact (List.getElem?_eq_some_iff.mp hn).1
    · obtain ⟨h1, c', o', h2, h3, h4⟩ := rl.trk m b e
      have hne : b ≠ a := fun z => hm (nd_ix rl.nd hn (z ▸ e))
      exact ⟨h1, c', o', by rw [List.getElem?_set_ne hm]; exact h2, by rw [upd_ne hne]; exact h3, h4⟩
theorem Ex.write (rl : RlH K ι F S H) {n : Nat} {a : Addr} (hn : ι[n]? = some a) (o : HO) : Ex ι F H ι F (L2.upd H a o) where
  pre := List.prefix_rfl
  sub := SubH.refl F
  frame := fun b x e hb => by
    have : b ≠ a := fun z => hb (z ▸ List.mem_iff_getElem?.mpr ⟨n, hn⟩)
    rw [upd_ne this]; exact e
  new := fun a h => .inl h
  newF := fun a x e => .inl e
theorem RVs.length {vs : List Val} {us : List V} : RVs K ι F vs us → vs.length = us.length := by
  intro h
  match h with
  | .nil => rfl
  | .cons _ t => simp [RVs.length t]
theorem RVs.get : ∀ {vs : List Val} {us : List V} {i : Nat} {v : Val}, RVs K ι F vs us → vs[i]? = some v → ∃ u, us[i]? = some u ∧ RV K ι F v u
  | _, _, _, _, .nil, e => by simp at e
  | _, _, 0, _, .cons r _, e => by simp at e; subst e; exact ⟨_, rfl, r⟩
  | _, _, i + 1, v, .cons _ t, e => by
    obtain ⟨u, h1, h2⟩ := RVs.get (i := i) (v := v) t (by simpa using e)
    exact ⟨u, by simpa using h1, h2⟩
theorem RVs.get' : ∀ {vs : List Val} {us : List V} {i : Nat} {u : V}, RVs K ι F vs us → us[i]? = some u → ∃ v, vs[i]? = some v ∧ RV K ι F v u
  | _, _, _, _, .nil, e => by simp at e
  | _, _, 0, _, .cons r _, e => by simp at e; subst e; exact ⟨_, rfl, r⟩
  | _, _, i + 1, v, .cons _ t, e => by
    obtain ⟨u, h1, h2⟩ := RVs.get' (i := i) t (by simpa using e)
    exact ⟨u, by simpa using h1, h2⟩
theorem RVs.append : ∀ {vs ws : List Val} {us xs : List V}, RVs K ι F vs us → RVs K ι F ws xs → RVs K ι F (vs ++ ws) (us ++ xs)
  | _, _, _, _, .nil, s => s
  | _, _, _, _, .cons r t, s => .cons r (RVs.append t s)
theorem RVs.take : ∀ {vs : List Val} {us : List V} (n : Nat), RVs K ι F vs us → RVs K ι F (vs.take n) (us.take n)
  | _, _, 0, _ => .nil
  | _, _, _ + 1, .nil => .nil
  | _, _, n + 1, .cons r t => .cons r (RVs.take n t)
theorem RVs.drop : ∀ {vs : List Val} {us : List V} (n : Nat), RVs K ι F vs us → RVs K ι F (vs.drop n) (us.drop n)
  | _, _, 0, r => r
  | _, _, _ + 1, .nil => .nil
  | _, _, n + 1, .cons _ t => RVs.drop n t
theorem RVs.set {v : Val} {u : V} (r : RV K ι F v u) : ∀ {vs : List Val} {us : List V} (i : Nat), RVs K ι F vs us → RVs K ι F (vs.set i v) (us.set i u)
  | _, _, _, .nil => .nil
  | _, _, 0, .cons _ t => .cons r t
  | _, _, i + 1, .cons q t => .cons q (RVs.set r i t)
theorem RVs.reverse {vs : List Val} {us : List V} (h : RVs K ι F vs us) : RVs K ι F vs.reverse us.reverse := by
  match h with
  | .nil => exact .nil
  | .cons r t =>
    rw [List.reverse_cons, List.reverse_cons]
    exact RVs.append (RVs.reverse t) (.cons r .nil)
theorem RVs.dropLast {vs : List Val} {us : List V} (h : RVs K ι F vs us) : RVs K ι F vs.dropLast us.dropLast := by
  rw [List.dropLast_eq_take, List.dropLast_eq_take, h.length]
  exact h.take _
theorem RVs.rep {vs : List Val} {us : List V} (h : RVs K ι F vs us) : ∀ k : Nat, RVs K ι F (List.replicate k vs).flatten (List.replicate k us).flatten
  | 0 => .nil
  | k + 1 => by
    rw [List.replicate_succ, List.replicate_succ, List.flatten_cons, List.flatten_cons]
    exact h.append (RVs.rep h k)
theorem cut_rv {vs : List Val} {us : List V} (h : RVs K ι F vs us) (lo hi : Option Int) : RVs K ι F (cut vs lo hi) (cutV us lo hi) := by
  have e : ∀ n d o, sIx n d o = HT.sIx n d o := fun n d o => by cases o <;> rfl
  unfold cut cutV
  rw [h.length, e, e]
  exact (h.drop _).take _
/-- a new list -/
theorem newL_ok {t : Bool} {vs : List Val} {us : List V} {Q : VK} (rl : RlH K ι F S H) (rv : RVs K ι F vs us) (h : Fin K W ca σ ι F H (newL t vs S) Q) :
    us.length ≤ sizeLine ∧ ∀ p, H p = none → Q (.ref p) (L2.upd H p (.lst us)) := by
  unfold newL at h
  by_cases hz : vs.length ≤ SZ
  · rw [if_pos hz] at h
    refine ⟨by rw [← rv.length, sizeLine_eq]; exact hz, fun p hp => ?_⟩
    cases t with
    | true => exact h (ι ++ [p]) F _ _ (Ex.pushT rl hp _) (rl.pushT hp (.lst (rv.mono (List.prefix_append _ _) (SubH.refl F)))) (.ref (by rw [rl.len.symm, List.getElem?_append_right (Nat.le_refl _)]; simp))
    | false => exact h ι (L2.upd F p (.lst us)) _ _ (Ex.pushF rl hp _) (rl.pushF hp _) (.lst upd_same (rv.mono List.prefix_rfl (subH_upd (rl.sub.none hp))))
  · rw [if_neg hz] at h; exact h.elim
theorem newT_ok {vs : List Val} {us : List V} {Q : VK} (rl : RlH K ι F S H) (rv : RVs K ι F vs us) (h : Fin K W ca σ ι F H (.ok (.tup vs) S) Q) :
    ∀ p, H p = none → Q (.ref p) (L2.upd H p (.tup us)) := fun p hp =>
  h ι (L2.upd F p (.tup us)) _ _ (Ex.pushF rl hp _) (rl.pushF hp _) (.tup (.inl (.inl upd_same)) (rv.mono List.prefix_rfl (subH_upd (rl.sub.none hp))))
/-- a value that stands -/
theorem Fin.val {v : Val} {u : V} {Q : VK} (rl : RlH K ι F S H) (rv : RV K ι F v u) (h : Fin K W ca σ ι F H (.ok v S) Q) : Q u H := h ι F H u Ex.refl rl rv
/-- the items of a list -/
theorem lstOf_rv {x : Val} {u : V} {vs : List Val} (rl : RlH K ι F S H) (rv : RV K ι F x u) (h : lstOf S x = some vs) : ∃ a us, u = .ref a ∧ H a = some (.lst us) ∧ RVs K ι F vs us := by
  cases rv with
  | lst e r =>
    have : vs = _ := (Option.some.inj h).symm
    subst this
    exact ⟨_, _, rfl, rl.sub _ _ e, r⟩
  | ref e =>
    obtain ⟨_, c, o, h2, h3, h4⟩ := rl.trk _ _ e
    unfold lstOf look at h
    simp only [h2] at h
    cases h4 with
    | lst r =>
      have : vs = _ := (Option.some.inj h).symm
      subst this
      exact ⟨_, _, rfl, h3, r⟩
  | _ => exact nomatch h
end
end E

set_option linter.all false
set_option autoImplicit false
set_option Elab.async false
set_option maxHeartbeats 2000000
/-! Soundness: owned trees, what a def promises. -/
namespace E
open PySem PySem.Spec L2
mutual
/-- a tree of new objects at L -/
inductive RO (K : Frag) (ι : List Addr) (F H : Hp) : List Addr → Val → V → Prop
  | old {v : Val} {u : V} : RV K ι F v u → RO K ι F H [] v u
  | tup {L : List Addr} {a : Addr} {us : List V} {vs : List Val} : SqT K F a us → ROs K ι F H L vs us → RO K ι F H L (.tup vs) (.ref a)
  | lst {L : List Addr} {a : Addr} {us : List V} {vs : List Val} : H a = some (.lst us) → ROs K ι F H L vs us → RO K ι F H (a :: L) (.lst true vs) (.ref a)
inductive ROs (K : Frag) (ι : List Addr) (F H : Hp) : List Addr → List Val → List V → Prop
  | nil : ROs K ι F H [] [] []
  | cons {L L' : List Addr} {v : Val} {u : V} {vs : List Val} {us : List V} : RO K ι F H L v u → ROs K ι F H L' vs us → ROs K ι F H (L ++ L') (v :: vs) (u :: us)
end
section
variable {K : Frag} {ι : List Addr} {F H : Hp}
mutual
theorem RV.frz : ∀ {v : Val} {u : V}, RV K ι F v u → E.frz v = v
  | _, _, .non => by simp only [E.frz]
  | _, _, .bl b => by simp only [E.frz]
  | _, _, .int i => by simp only [E.frz]
  | _, _, .str s h => by simp only [E.frz]
  | _, _, .tup h r => by simp only [E.frz, RVs.frz r]
  | _, _, .lst h r => by simp only [E.frz, RVs.frz r]
  | _, _, .ro h r => by simp only [E.frz]
  | _, _, .ref e => by simp only [E.frz]
theorem RVs.frz : ∀ {v : List Val} {u : List V}, RVs K ι F v u → E.frzs v = v
  | _, _, .nil => by simp only [E.frzs]
  | _, _, .cons a b => by simp only [E.frzs, RV.frz a, RVs.frz b]
end
mutual
theorem RO.frz {F' : Hp} (hF : SubH F F') : ∀ {L : List Addr} {v : Val} {u : V}, RO K ι F H L v u → (∀ a ∈ L, F' a = H a) → RV K ι F' (E.frz v) u
  | _, _, _, .old r, _ => by rw [RV.frz r]; exact r.mono List.prefix_rfl hF
  | _, _, _, .tup h r, e => by simp only [E.frz]; exact .tup (hF.sqT h) (ROs.frz hF r e)
  | _, _, _, .lst h r, e => by
    simp only [E.frz]
    exact .lst (by rw [e _ List.mem_cons_self]; exact h) (ROs.frz hF r fun a m => e a (List.mem_cons_of_mem _ m))
theorem ROs.frz {F' : Hp} (hF : SubH F F') : ∀ {L : List Addr} {v : List Val} {u : List V}, ROs K ι F H L v u → (∀ a ∈ L, F' a = H a) → RVs K ι F' (E.frzs v) u
  | _, _, _, .nil, _ => by simp only [E.frzs]; exact .nil
  | _, _, _, .cons a b, e => by
    simp only [E.frzs]
    exact .cons (RO.frz hF a fun x m => e x (List.mem_append_left _ m)) (ROs.frz hF b fun x m => e x (List.mem_append_right _ m))
end
/-- an object that stands is tracked from now on -/
theorem RlH.adopt {S : Store} (rl : RlH K ι F S H) {p : Addr} {o : HO} (hp : H p = some o) (hi : p ∉ ι) (hF : F p = none) {c : Val} (rc : RC K (ι ++ [p]) F c o) : RlH K (ι ++ [p]) F (S ++ [c]) H where
  sub := rl.sub
  nd := by
    rw [List.nodup_append]
    refine ⟨rl.nd, by simp, fun a ha b hb => ?_⟩
    have : b = p := by simpa using hb
    subst this
    exact fun z => hi (z ▸ ha)
  len := by rw [List.length_append, List.length_append, rl.len]; rfl
  trk := fun n a e => by
    by_cases hn : n < ι.length
    · rw [List.getElem?_append_left hn] at e
      obtain ⟨h1, c', o', h2, h3, h4⟩ := rl.trk n a e
      refine ⟨h1, c', o', ?_, h3, h4.mono (List.prefix_append _ _) (SubH.refl F)⟩
      rw [List.getElem?_append_left (by rw [← rl.len]; exact hn)]; exact h2
    · have hl : n < (ι ++ [p]).length := (List.getElem?_eq_some_iff.mp e).1
      rw [List.length_append] at hl
      have hn' : n = ι.length := by
        have : [p].length = 1 := rfl
        omega
      subst hn'
      rw [List.getElem?_append_right (Nat.le_refl _)] at e
      have ea : a = p := by simpa using e.symm
      subst ea
      refine ⟨hF, c, o, ?_, hp, rc⟩
      rw [rl.len, List.getElem?_append_right (Nat.le_refl _)]; simp
mutual
theorem RV.thaw : ∀ {v : Val} {u : V}, RV K ι F v u → ∀ S, E.thaw v S = (v, S)
  | _, _, .non, S => by simp only [E.thaw]
  | _, _, .bl b, S => by simp only [E.thaw]
  | _, _, .int i, S => by simp only [E.thaw]
  | _, _, .str s h, S => by simp only [E.thaw]
  | _, _, .tup h r, S => by simp only [E.thaw, RVs.thaw r]
  | _, _, .lst h r, S => by simp only [E.thaw]
  | _, _, .ro h r, S => by simp only [E.thaw]
  | _, _, .ref e, S => by simp only [E.thaw]
theorem RVs.thaw : ∀ {v : List Val} {u : List V}, RVs K ι F v u → ∀ S, E.thaws v S = (v, S)
  | _, _, .nil, S => by simp only [E.thaws]
  | _, _, .cons a b, S => by simp only [E.thaws, RV.thaw a, RVs.thaw b]
end
mutual
theorem RO.thaw : ∀ {L : List Addr} {v : Val} {u : V}, RO K ι F H L v u → ∀ (ι0 : List Addr) (S : Store), ι <+: ι0 → RlH K ι0 F S H → L.Nodup → (∀ a ∈ L, a ∉ ι0 ∧ F a = none) →
    ∃ ι1, RlH K (ι0 ++ ι1) F (E.thaw v S).2 H ∧ RV K (ι0 ++ ι1) F (E.thaw v S).1 u ∧ ∀ a, a ∈ ι1 → a ∈ L
  | _, _, _, .old r, ι0, S, hp, rl, _, _ => by
    refine ⟨[], ?_⟩
    rw [RV.thaw r, List.append_nil]
    exact ⟨rl, r.mono hp (SubH.refl F), fun _ z => nomatch z⟩
  | _, _, _, .tup h r, ι0, S, hp, rl, hn, hd => by
    obtain ⟨ι1, h1, h2, h3⟩ := ROs.thaw r ι0 S hp rl hn hd
    simp only [E.thaw]
    exact ⟨ι1, h1, .tup h h2, h3⟩
  | _, _, _, .lst (a := a) h r, ι0, S, hp, rl, hn, hd => by
    rw [List.nodup_cons] at hn
    obtain ⟨ι1, h1, h2, h3⟩ := ROs.thaw r ι0 S hp rl hn.2 fun x m => hd x (List.mem_cons_of_mem _ m)
    have ha := hd a List.mem_cons_self
    have hi : a ∉ ι0 ++ ι1 := fun z => by
      rcases List.mem_append.mp z with z | z
      · exact ha.1 z
      · exact hn.1 (h3 a z)
    refine ⟨ι1 ++ [a], ?_⟩
    simp only [E.thaw]
    rw [← List.append_assoc]
    refine ⟨h1.adopt h hi ha.2 (.lst (h2.mono (List.prefix_append _ _) (SubH.refl F))), .ref ?_, fun x m => ?_⟩
    · rw [← h1.len, List.getElem?_append_right (Nat.le_refl _)]; simp
    · rcases List.mem_append.mp m with z | z
      · exact List.mem_cons_of_mem _ (h3 x z)
      · have : x = a := by simpa using z
        rw [this]; exact List.mem_cons_self
theorem ROs.thaw : ∀ {L : List Addr} {v : List Val} {u : List V}, ROs K ι F H L v u → ∀ (ι0 : List Addr) (S : Store), ι <+: ι0 → RlH K ι0 F S H → L.Nodup → (∀ a ∈ L, a ∉ ι0 ∧ F a = none) →
    ∃ ι1, RlH K (ι0 ++ ι1) F (E.thaws v S).2 H ∧ RVs K (ι0 ++ ι1) F (E.thaws v S).1 u ∧ ∀ a, a ∈ ι1 → a ∈ L
  | _, _, _, .nil, ι0, S, hp, rl, _, _ => by
    refine ⟨[], ?_⟩
    simp only [E.thaws, List.append_nil]
    exact ⟨rl, .nil, fun _ z => nomatch z⟩
  | _, _, _, .cons a b, ι0, S, hp, rl, hn, hd => by
    rw [List.nodup_append] at hn
    obtain ⟨n1, n2, n3⟩ := hn
    obtain ⟨ι1, h1, h2, h3⟩ := RO.thaw a ι0 S hp rl n1 fun x m => hd x (List.mem_append_left _ m)
    obtain ⟨ι2, g1, g2, g3⟩ := ROs.thaw b (ι0 ++ ι1) _ (hp.trans (List.prefix_append _ _)) h1 n2 fun x m => by
      have q := hd x (List.mem_append_right _ m)
      refine ⟨fun z => ?_, q.2⟩
      rcases List.mem_append.mp z with z | z
      · exact q.1 z
      · exact n3 x (h3 x z) x m rfl
    refine ⟨ι1 ++ ι2, ?_⟩
    simp only [E.thaws]
    rw [← List.append_assoc]
    refine ⟨g1, .cons (h2.mono (List.prefix_append _ _) (SubH.refl F)) g2, fun x m => ?_⟩
    rcases List.mem_append.mp m with z | z
    · exact List.mem_append_left _ (h3 x z)
    · exact List.mem_append_right _ (g3 x z)
end
end
/-! ### what a def promises -/
section
variable (K : Frag) (ca : Nat → Addr)
def FinC (ι : List Addr) (F H : Hp) (r : Res Val) (Q : VK) (E : XK) : Prop := match r with
  | .ok v S' => ∀ ι' F' H' u L, Ex ι F H ι' F' H' → RlH K ι' F' S' H' → RO K ι' F' H' L v u → L.Nodup → (∀ a ∈ L, a ∉ ι' ∧ F' a = none ∧ H a = none) → Q u H'
  | .exc e S' => ∀ ι' F' H', Ex ι F H ι' F' H' → RlH K ι' F' S' H' → E (.ref (ca e.c)) none H'
  | .bad => False
def spec (g : List Val → Store → Res Val) (n : Nat) : Sp := fun us H Q E => us.length = n ∧ ∃ vs ι F S, RVs K ι F vs us ∧ RlH K ι F S H ∧ FinC K ca ι F H (g vs S) Q E
end
/-- F with the objects at L of H -/
def addF (F H : Hp) (L : List Addr) : Hp := fun a => if a ∈ L then H a else F a
section
variable {K : Frag} {W : WX} {ca : Nat → Addr} {σ : L2.St} {ι : List Addr} {F H : Hp} {S : Store}
/-- from the callee's end to the caller's -/
theorem FinC.of_fin {t : Bool} {r : Res Val} {Q : VK} (h : Fin K W ca σ ι F H (r.bnd fun v S2 => if t then .ok (thaw v S2).1 (thaw v S2).2 else .ok (frz v) S2) Q) : FinC K ca ι F H r Q (WE W σ) := by
  cases r with
  | bad => exact h
  | exc e S' => exact fun ι' F' H' x y => h ι' F' H' x y
  | ok v S' =>
    intro ι' F' H' u L x rl ro hn hd
    cases t with
    | true =>
      obtain ⟨ι1, h1, h2, h3⟩ := ro.thaw ι' S' List.prefix_rfl rl hn fun a m => ⟨(hd a m).1, (hd a m).2.1⟩
      refine h (ι' ++ ι1) F' H' u ⟨x.pre.trans (List.prefix_append _ _), x.sub, x.frame, fun a m => ?_, x.newF⟩ h1 h2
      rcases List.mem_append.mp m with z | z
      · exact x.new a z
      · exact .inr (hd a (h3 a z)).2.2
    | false =>
      have hF : SubH F' (addF F' H' L) := fun a o e => by
        unfold addF
        split
        · rename_i m
          rw [(hd a m).2.1] at e; cases e
        · exact e
      refine h ι' (addF F' H' L) H' u ⟨x.pre, x.sub.trans hF, x.frame, x.new, fun a o e => ?_⟩ ⟨fun a o e => ?_, rl.nd, rl.len, fun n a e => ?_⟩ (ro.frz hF fun a m => by unfold addF; rw [if_pos m])
      · unfold addF at e
        split at e
        · rename_i m; exact .inr (hd a m).2.2
        · exact x.newF a o e
      · unfold addF at e
        split at e
        · exact e
        · exact rl.sub a o e
      · obtain ⟨g1, c, o, g2, g3, g4⟩ := rl.trk n a e
        refine ⟨?_, c, o, g2, g3, g4.mono List.prefix_rfl hF⟩
        unfold addF
        rw [if_neg fun m => (hd a m).1 (List.mem_iff_getElem?.mpr ⟨n, e⟩)]
        exact g1
end
end E

set_option linter.all false
set_option autoImplicit false
set_option Elab.async false
set_option maxHeartbeats 2000000
/-! Soundness: what leaves a def. -/
namespace E
open PySem PySem.Spec L2
section
variable {K : Frag} {F : Hp}
mutual
/-- a value without refs leans on no store -/
theorem RV.any {ι : List Addr} (ι' : List Addr) : ∀ {v : Val} {u : V}, RV K ι F v u → pur v = true → RV K ι' F v u
  | _, _, .non, _ => .non
  | _, _, .bl b, _ => .bl b
  | _, _, .int i, _ => .int i
  | _, _, .str s h, _ => .str s h
  | _, _, .tup h r, p => .tup h (RVs.any ι' r (by simpa only [pur] using p))
  | _, _, .lst h r, p => .lst h (RVs.any ι' r (by simpa [pur] using p))
  | _, _, .ro h r, p => .ro h (RVs.any ι' r (by simpa [pur] using p))
  | _, _, .ref e, p => by simp [pur] at p
theorem RVs.any {ι : List Addr} (ι' : List Addr) : ∀ {v : List Val} {u : List V}, RVs K ι F v u → purs v = true → RVs K ι' F v u
  | _, _, .nil, _ => .nil
  | _, _, .cons a b, p => by
    rw [purs, Bool.and_eq_true] at p
    exact .cons (RV.any ι' a p.1) (RVs.any ι' b p.2)
end
mutual
/-- refs below n0: the first n0 addresses do -/
theorem RV.low {ι : List Addr} (n0 : Nat) : ∀ {v : Val} {u : V}, RV K ι F v u → below n0 v = true → RV K (ι.take n0) F v u
  | _, _, .non, _ => .non
  | _, _, .bl b, _ => .bl b
  | _, _, .int i, _ => .int i
  | _, _, .str s h, _ => .str s h
  | _, _, .tup h r, p => .tup h (RVs.low n0 r (by simpa only [below] using p))
  | _, _, .lst h r, p => .lst h (RVs.low n0 r (by simpa only [below] using p))
  | _, _, .ro h r, p => .ro h (RVs.low n0 r (by simpa only [below] using p))
  | _, _, .ref e, p => .ref (by
      rw [List.getElem?_take_of_lt (by simpa [below] using p)]; exact e)
theorem RVs.low {ι : List Addr} (n0 : Nat) : ∀ {v : List Val} {u : List V}, RVs K ι F v u → belows n0 v = true → RVs K (ι.take n0) F v u
  | _, _, .nil, _ => .nil
  | _, _, .cons a b, p => by
    rw [belows, Bool.and_eq_true] at p
    exact .cons (RV.low n0 a p.1) (RVs.low n0 b p.2)
end
end
def Alive (S1 S : Store) : Prop := ∀ (m : Nat) (c : Val), S[m]? = some c → c = .non ∨ S1[m]? = some c
def dead (S : Store) (m : Nat) : Prop := S[m]? = some .non
/-- what taking a tree leaves -/
structure OwnP (K : Frag) (ι1 : List Addr) (n0 : Nat) (F H : Hp) (S1 S S' : Store) (L : List Addr) : Prop where
  alive : Alive S1 S'
  keep : ∀ m, dead S m → dead S' m
  at_ : ∀ a ∈ L, ∃ m : Nat, n0 ≤ m ∧ ι1[m]? = some a ∧ ¬ dead S m ∧ dead S' m
  nd : L.Nodup
section
variable {K : Frag} {ι1 : List Addr} {n0 : Nat} {F H : Hp} {S1 : Store}
theorem OwnP.nil {S : Store} (h : Alive S1 S) : OwnP K ι1 n0 F H S1 S S [] := ⟨h, fun _ z => z, (fun _ z => nomatch z), List.Pairwise.nil⟩
theorem OwnP.append {S Sa S' : Store} {L L' : List Addr} (nd1 : ι1.Nodup) (p : OwnP K ι1 n0 F H S1 S Sa L) (q : OwnP K ι1 n0 F H S1 Sa S' L') : OwnP K ι1 n0 F H S1 S S' (L ++ L') where
  alive := q.alive
  keep := fun m z => q.keep m (p.keep m z)
  at_ := fun a z => by
    rcases List.mem_append.mp z with z | z
    · obtain ⟨m, h1, h2, h3, h4⟩ := p.at_ a z
      exact ⟨m, h1, h2, h3, q.keep m h4⟩
    · obtain ⟨m, h1, h2, h3, h4⟩ := q.at_ a z
      exact ⟨m, h1, h2, fun w => h3 (p.keep m w), h4⟩
  nd := by
    rw [List.nodup_append]
    refine ⟨p.nd, q.nd, fun a ha b hb e => ?_⟩
    subst e
    obtain ⟨m, _, h2, _, h4⟩ := p.at_ a ha
    obtain ⟨m', _, g2, g3, _⟩ := q.at_ a hb
    have : m = m' := nd_ix nd1 h2 g2
    subst this
    exact g3 h4
def RdOk (K : Frag) (ι1 : List Addr) (n0 : Nat) (F H : Hp) (S1 : Store) (rd : Nat → Store → Option (Val × Store)) : Prop :=
  ∀ (m : Nat) (a : Addr) (S S' : Store) (w : Val), ι1[m]? = some a → Alive S1 S → rd m S = some (w, S') → ∃ L, RO K (ι1.take n0) F H L w (.ref a) ∧ OwnP K ι1 n0 F H S1 S S' L
mutual
theorem ownG_ok (nd1 : ι1.Nodup) {rd : Nat → Store → Option (Val × Store)} (hr : RdOk K ι1 n0 F H S1 rd) : ∀ {v : Val} {u : V}, RV K ι1 F v u → ∀ (S S' : Store) (w : Val), Alive S1 S → ownG rd v S = some (w, S') →
    ∃ L, RO K (ι1.take n0) F H L w u ∧ OwnP K ι1 n0 F H S1 S S' L
  | _, _, .non, S, S', w, al, e => by
    simp only [ownG, Option.some.injEq, Prod.mk.injEq] at e
    obtain ⟨rfl, rfl⟩ := e
    exact ⟨[], .old .non, .nil al⟩
  | _, _, .bl b, S, S', w, al, e => by
    simp only [ownG, Option.some.injEq, Prod.mk.injEq] at e
    obtain ⟨rfl, rfl⟩ := e
    exact ⟨[], .old (.bl b), .nil al⟩
  | _, _, .int b, S, S', w, al, e => by
    simp only [ownG, Option.some.injEq, Prod.mk.injEq] at e
    obtain ⟨rfl, rfl⟩ := e
    exact ⟨[], .old (.int b), .nil al⟩
  | _, _, .str b h, S, S', w, al, e => by
    simp only [ownG, Option.some.injEq, Prod.mk.injEq] at e
    obtain ⟨rfl, rfl⟩ := e
    exact ⟨[], .old (.str b h), .nil al⟩
  | _, _, .ro h r, S, S', w, al, e => by simp only [ownG] at e; cases e
  | _, _, .tup h r, S, S', w, al, e => by
    simp only [ownG, Option.map_eq_some_iff] at e
    obtain ⟨⟨ws, S2⟩, e1, e2⟩ := e
    simp only [Prod.mk.injEq] at e2
    obtain ⟨rfl, rfl⟩ := e2
    obtain ⟨L, h1, h2⟩ := ownGs_ok nd1 hr r S _ _ al e1
    exact ⟨L, .tup h h1, h2⟩
  | _, _, .lst (vs := vs) h r, S, S', w, al, e => by
    simp only [ownG] at e
    by_cases hp : purs vs = true
    · simp only [hp, Bool.not_false, Bool.and_self, if_true, Option.some.injEq, Prod.mk.injEq] at e
      obtain ⟨rfl, rfl⟩ := e
      exact ⟨[], .old (.lst h (RVs.any _ r hp)), .nil al⟩
    · simp only [Bool.not_eq_true] at hp
      simp [hp] at e
  | _, _, .ref hn, S, S', w, al, e => by
    simp only [ownG] at e
    exact hr _ _ _ _ _ hn al e
theorem ownGs_ok (nd1 : ι1.Nodup) {rd : Nat → Store → Option (Val × Store)} (hr : RdOk K ι1 n0 F H S1 rd) : ∀ {v : List Val} {u : List V}, RVs K ι1 F v u → ∀ (S S' : Store) (w : List Val), Alive S1 S → ownGs rd v S = some (w, S') →
    ∃ L, ROs K (ι1.take n0) F H L w u ∧ OwnP K ι1 n0 F H S1 S S' L
  | _, _, .nil, S, S', w, al, e => by
    simp only [ownGs, Option.some.injEq, Prod.mk.injEq] at e
    obtain ⟨rfl, rfl⟩ := e
    exact ⟨[], .nil, .nil al⟩
  | _, _, .cons a b, S, S', w, al, e => by
    simp only [ownGs, Option.bind_eq_some_iff, Option.map_eq_some_iff] at e
    obtain ⟨⟨w1, Sa⟩, e1, ⟨ws, Sb⟩, e2, e3⟩ := e
    simp only [Prod.mk.injEq] at e3
    obtain ⟨rfl, rfl⟩ := e3
    obtain ⟨L1, h1, h2⟩ := ownG_ok nd1 hr a S _ _ al e1
    obtain ⟨L2, g1, g2⟩ := ownGs_ok nd1 hr b _ _ _ h2.alive e2
    exact ⟨L1 ++ L2, .cons h1 g1, h2.append nd1 g2⟩
end
theorem alive_set {S : Store} (al : Alive S1 S) (n : Nat) : Alive S1 (S.set n .non) := fun m c e => by
  by_cases h : n = m
  · subst h
    have hl : n < S.length := by
      have := (List.getElem?_eq_some_iff.mp e).1
      rw [List.length_set] at this; exact this
    rw [List.getElem?_set_self hl] at e
    cases e; exact .inl rfl
  · rw [List.getElem?_set_ne h] at e
    exact al m c e
theorem own_rd (rl : RlH K ι1 F S1 H) : ∀ k : Nat, RdOk K ι1 n0 F H S1 fun m S => own n0 k (.ref m) S
  | 0 => fun m a S S' w hn al e => by
    simp only [own, ownG] at e
    by_cases hm : m < n0
    · rw [if_pos hm] at e
      cases e
      exact ⟨[], .old (.ref (by rw [List.getElem?_take_of_lt hm]; exact hn)), .nil al⟩
    · rw [if_neg hm] at e; cases e
  | k + 1 => fun m a S S' w hn al e => by
    have ih := own_rd rl k
    simp only [own, ownG] at e
    by_cases hm : m < n0
    · rw [if_pos hm] at e
      cases e
      exact ⟨[], .old (.ref (by rw [List.getElem?_take_of_lt hm]; exact hn)), .nil al⟩
    · rw [if_neg hm] at e
      obtain ⟨hF, c, o, h2, h3, h4⟩ := rl.trk m a hn
      split at e
      · rename_i vs hS
        have hc := al m _ hS
        rcases hc with hc | hc
        · cases hc
        · rw [h2] at hc; cases hc
          cases h4 with
          | lst r =>
            rw [Option.map_eq_some_iff] at e
            obtain ⟨⟨ws, S2⟩, e1, e2⟩ := e
            simp only [Prod.mk.injEq] at e2
            obtain ⟨rfl, rfl⟩ := e2
            obtain ⟨L, g1, g2⟩ := ownGs_ok rl.nd ih r _ _ _ (alive_set al m) e1
            have hl : m < S.length := (List.getElem?_eq_some_iff.mp hS).1
            have hd : dead (S.set m .non) m := by unfold dead; rw [List.getElem?_set_self hl]
            refine ⟨a :: L, .lst h3 g1, ⟨g2.alive, fun j z => g2.keep j ?_, fun b z => ?_, ?_⟩⟩
            · by_cases hj : m = j
              · subst hj; exact hd
              · unfold dead; rw [List.getElem?_set_ne hj]; exact z
            · rcases List.mem_cons.mp z with z | z
              · subst z
                refine ⟨m, by omega, hn, fun z => ?_, g2.keep m hd⟩
                unfold dead at z; rw [hS] at z; cases z
              · obtain ⟨j, q1, q2, q3, q4⟩ := g2.at_ b z
                refine ⟨j, q1, q2, fun w => q3 ?_, q4⟩
                by_cases hj : m = j
                · subst hj; exact hd
                · unfold dead; rw [List.getElem?_set_ne hj]; exact w
            · rw [List.nodup_cons]
              refine ⟨fun z => ?_, g2.nd⟩
              obtain ⟨j, q1, q2, q3, q4⟩ := g2.at_ a z
              have : m = j := nd_ix rl.nd hn q2
              subst this
              exact q3 hd
      · rename_i ks vs hS
        rcases al m _ hS with hc | hc
        · cases hc
        · rw [h2] at hc; cases hc; cases h4
      · rename_i c fs vs hS
        rcases al m _ hS with hc | hc
        · cases hc
        · rw [h2] at hc; cases hc; cases h4
      · cases e
theorem own_ok (rl : RlH K ι1 F S1 H) {k : Nat} {v w : Val} {u : V} {S' : Store} (rv : RV K ι1 F v u) (e : own n0 k v S1 = some (w, S')) :
    ∃ L, RO K (ι1.take n0) F H L w u ∧ L.Nodup ∧ ∀ a ∈ L, ∃ m : Nat, n0 ≤ m ∧ ι1[m]? = some a := by
  have al : Alive S1 S1 := fun m c e => .inr e
  have key : ∃ L, RO K (ι1.take n0) F H L w u ∧ OwnP K ι1 n0 F H S1 S1 S' L := by
    cases k with
    | zero =>
      refine ownG_ok rl.nd (rd := fun n S => if n < n0 then some (.ref n, S) else none) (fun m a S S' w hn al e => ?_) rv _ _ _ al (by simpa only [own] using e)
      exact own_rd rl 0 m a S S' w hn al (by simpa only [own, ownG] using e)
    | succ k =>
      refine ownG_ok rl.nd (fun m a S S' w hn al e => ?_) rv _ _ _ al (by simpa only [own] using e)
      exact own_rd rl (k + 1) m a S S' w hn al (by simpa only [own, ownG] using e)
  obtain ⟨L, h1, h2⟩ := key
  exact ⟨L, h1, h2.nd, fun a z => let ⟨m, q1, q2, _, _⟩ := h2.at_ a z; ⟨m, q1, q2⟩⟩
end
end E

set_option linter.all false
set_option autoImplicit false
set_option Elab.async false
set_option maxHeartbeats 2000000
/-! Soundness: operators. -/
namespace E
open PySem PySem.Spec L2
section
variable {X : Cx} {W : WX} {ca : Nat → Addr}
/-- an operation on values, and its rule -/
def Ok1 (X : Cx) (W : WX) (ca : Nat → Addr) (f : Val → Store → Res Val) (r : V → Hp → VK → Prop) : Prop :=
  ∀ (σ : L2.St) (ι : List Addr) (F : Hp) (S : Store) (H : Hp) (x : Val) (u : V) (Q : VK), RlH X.K ι F S H → RV X.K ι F x u → Fin X.K W ca σ ι F H (f x S) Q → r u H Q
def Ok2 (X : Cx) (W : WX) (ca : Nat → Addr) (f : Val → Val → Store → Res Val) (r : R2) : Prop :=
  ∀ (σ : L2.St) (ι : List Addr) (F : Hp) (S : Store) (H : Hp) (x y : Val) (u w : V) (Q : VK), RlH X.K ι F S H → RV X.K ι F x u → RV X.K ι F y w → Fin X.K W ca σ ι F H (f x y S) Q → r u w H Q
abbrev T (X : Cx) (W : WX) (ca : Nat → Addr) (m : Sl → Store → Res Val) : TE := tM X.K W ca m
abbrev TTt (X : Cx) (W : WX) (ca : Nat → Addr) (m : Sl → Store → Res Bool) : TT := tMT X.K W ca m
abbrev TAa (X : Cx) (W : WX) (ca : Nat → Addr) (m : Sl → Store → Res (List Val)) : TA := tMs X.K W ca m
theorem two {ma mb : Sl → Store → Res Val} {f : Val → Val → Store → Res Val} {r : R2} (h : Ok2 X W ca f r) (σ : L2.St) (H : Hp) (Q : VK) :
    T X W ca (fun σ S => (ma σ S).bnd fun x S1 => (mb σ S1).bnd fun y S2 => f x y S2) σ H Q → tOp r (T X W ca ma) (T X W ca mb) σ H Q := by
  rintro ⟨ι, F, σ', S, rs, rl, q⟩
  refine ⟨ι, F, σ', S, rs, rl, Fin.bind rs q fun v S1 ι1 F1 H1 u _ x1 rs1 rl1 rv1 q1 => ?_⟩
  refine ⟨ι1, F1, σ', S1, rs1, rl1, Fin.bind rs1 q1 fun v2 S2 ι2 F2 H2 u2 _ x2 rs2 rl2 rv2 q2 => ?_⟩
  exact h σ ι2 F2 S2 H2 v v2 u u2 Q rl2 (rv1.mono x2.pre x2.sub) rv2 q2
theorem one {ma : Sl → Store → Res Val} {f : Val → Store → Res Val} {r : V → Hp → VK → Prop} (h : Ok1 X W ca f r) (σ : L2.St) (H : Hp) (Q : VK) :
    T X W ca (fun σ S => (ma σ S).bnd fun x S1 => f x S1) σ H Q → tUn r (T X W ca ma) σ H Q := by
  rintro ⟨ι, F, σ', S, rs, rl, q⟩
  exact ⟨ι, F, σ', S, rs, rl, Fin.bind rs q fun v S1 ι1 F1 H1 u _ x1 rs1 rl1 rv1 q1 => h σ ι1 F1 S1 H1 v u Q rl1 rv1 q1⟩
/-! ### + -/
abbrev rAddS : R2 := fun x y H Q => ∃ i j, x = .str i ∧ y = .str j ∧ i.length + j.length ≤ sizeLine ∧ Q (.str (i ++ j)) H
abbrev rAddAll (K : Frag) : R2 := fun x y H Q => (rI0 (fun i j => .int (i + j)) x y H Q ∨ rAddS x y H Q) ∨ (rCatA K x y H Q ∨ rCat x y H Q)
theorem opr_add : OpR X (binaryOp .Add) (rAddAll X.K) := OpR.or (OpR.or op_add op_add_str) (OpR.or op_catA op_cat)
theorem okT_len {s : Tx} (h : okT s = true) : s.length ≤ SZ := by
  unfold okT at h; rw [Bool.and_eq_true] at h; exact of_decide_eq_true h.2
theorem okT_all {s : Tx} (h : okT s = true) : ∀ c ∈ s, c < 1114112 := by
  unfold okT at h; rw [Bool.and_eq_true, List.all_eq_true] at h
  exact fun c m => of_decide_eq_true (h.1 c m)
theorem okT_of {s : Tx} (h1 : ∀ c ∈ s, c < 1114112) (h2 : s.length ≤ SZ) : okT s = true := by
  unfold okT; rw [Bool.and_eq_true, List.all_eq_true]
  exact ⟨fun c m => decide_eq_true (h1 c m), decide_eq_true h2⟩
theorem okT_app {a b : Tx} (ha : okT a = true) (hb : okT b = true) (h : a.length + b.length ≤ SZ) : okT (a ++ b) = true :=
  okT_of (fun c m => (List.mem_append.mp m).elim (okT_all ha c) (okT_all hb c)) (by rw [List.length_append]; exact h)
theorem mkS_len (a : Tx) : (mkS a).length = a.length := by unfold mkS Str.length; simp
theorem mkS_app (a b : Tx) : mkS a ++ mkS b = mkS (a ++ b) := by
  show (⟨a.toArray ++ b.toArray⟩ : Str) = ⟨(a ++ b).toArray⟩
  simp
theorem ok_add {t : Bool} : Ok2 X W ca (addV t) (rAddAll X.K) := by
  intro σ ι F S H x y u w Q rl r1 r2 h
  have key : Fin X.K W ca σ ι F H (match lstOf S x, lstOf S y with
    | some a, some b => if a.length + b.length ≤ SZ then newL t (a ++ b) S else .bad
    | _, _ => .bad) Q → rCat u w H Q := by
    intro h
    cases hx : lstOf S x with
    | none => rw [hx] at h; exact h.elim
    | some a =>
      cases hy : lstOf S y with
      | none => rw [hx, hy] at h; exact h.elim
      | some b =>
        rw [hx, hy] at h
        obtain ⟨p, us, rfl, e1, q1⟩ := lstOf_rv rl r1 hx
        obtain ⟨p2, us2, rfl, e2, q2⟩ := lstOf_rv rl r2 hy
        by_cases hz : a.length + b.length ≤ SZ
        · simp only [if_pos hz] at h
          exact ⟨_, _, _, _, rfl, rfl, e1, e2, by rw [← q1.length, ← q2.length, sizeLine_eq]; exact hz, fun p hp => (newL_ok rl (q1.append q2) h).2 p hp⟩
        · simp only [if_neg hz] at h; exact h.elim
  cases r1 <;> cases r2 <;> first
    | exact .inr (.inr (key h))
    | exact .inl (.inl ⟨_, _, rfl, rfl, Fin.val rl (.int _) h⟩)
    | skip
  · rename_i a ha b hb
    change Fin X.K W ca σ ι F H (if a.length + b.length ≤ SZ then .ok (.str (a ++ b)) S else .bad) Q at h
    by_cases hz : a.length + b.length ≤ SZ
    · rw [if_pos hz] at h
      refine .inl (.inr ⟨_, _, rfl, rfl, by rw [mkS_len, mkS_len, sizeLine_eq]; exact hz, ?_⟩)
      rw [mkS_app]
      exact Fin.val rl (.str _ (okT_app ha hb hz)) h
    · rw [if_neg hz] at h; exact h.elim
  · rename_i pa us a ha qa pb us2 b hb qb
    change Fin X.K W ca σ ι F H (if a.length + b.length ≤ SZ then .ok (.tup (a ++ b)) S else .bad) Q at h
    by_cases hz : a.length + b.length ≤ SZ
    · rw [if_pos hz] at h
      refine .inr (.inl ⟨_, _, _, _, rfl, rfl, rl.sub.sqT ha, rl.sub.sqT hb, by rw [← qa.length, ← qb.length, sizeLine_eq]; exact hz, fun e => ?_, fun _ e => ?_, fun _ _ p hp => ?_⟩)
      · subst e
        cases qa
        exact Fin.val rl (.tup hb qb) h
      · subst e
        cases qb
        rw [List.append_nil] at h
        exact Fin.val rl (.tup ha qa) h
      · exact newT_ok rl (qa.append qb) h p hp
    · rw [if_neg hz] at h; exact h.elim
/-! ### * -/
abbrev rMulAll : R2 := fun x y H Q => rI CMul (fun i j => .int (i * j)) x y H Q ∨ rRep x y H Q
theorem opr_mul : OpR X (binaryOp .Mult) rMulAll := OpR.or op_mul op_rep
theorem ok_mul {t : Bool} : Ok2 X W ca (mulV t) rMulAll := by
  intro σ ι F S H x y u w Q rl r1 r2 h
  have key : ∀ k, y = .int k → w = .int k → Fin X.K W ca σ ι F H (match lstOf S x with
    | some a => if -1000000 ≤ k ∧ k ≤ 1000000 ∧ a.length * k.toNat ≤ SZ then newL t (List.replicate k.toNat a).flatten S else .bad
    | none => .bad) Q → rRep u w H Q := by
    intro k hy hw h
    cases hx : lstOf S x with
    | none => rw [hx] at h; exact h.elim
    | some a =>
      rw [hx] at h
      obtain ⟨p, us, rfl, e1, q1⟩ := lstOf_rv rl r1 hx
      by_cases hz : -1000000 ≤ k ∧ k ≤ 1000000 ∧ a.length * k.toNat ≤ SZ
      · simp only [if_pos hz] at h
        refine ⟨_, k, _, rfl, hw, e1, ?_, ?_, by rw [← q1.length, sizeLine_eq]; exact hz.2.2, fun p hp => (newL_ok rl (q1.rep _) h).2 p hp⟩
        · have := hz.1; omega
        · have := hz.2.1; omega
      · simp only [if_neg hz] at h; exact h.elim
  cases r2 with
  | int k =>
    cases r1 with
    | int i =>
      change Fin X.K W ca σ ι F H (if (-big < i ∧ i < big) ∨ (-big < k ∧ k < big) then .ok (.int (i * k)) S else .bad) Q at h
      by_cases hz : (-big < i ∧ i < big) ∨ (-big < k ∧ k < big)
      · rw [if_pos hz] at h
        exact .inl ⟨_, _, rfl, rfl, hz, Fin.val rl (.int _) h⟩
      · rw [if_neg hz] at h; exact h.elim
    | _ => exact .inr (key k rfl rfl h)
  | _ => cases r1 <;> exact h.elim
/-! ### -, //, percent, ** -/
theorem ok_sub {t : Bool} : Ok2 X W ca (op2 t .sub) (rI0 fun i j => .int (i - j)) := by
  intro σ ι F S H x y u w Q rl r1 r2 h
  cases r1 <;> cases r2 <;> first
    | exact h.elim
    | exact ⟨_, _, rfl, rfl, Fin.val rl (.int _) h⟩
theorem ok_fdiv {t : Bool} : Ok2 X W ca (op2 t .fdiv) (rI CDiv fun i j => .int (i / j)) := by
  intro σ ι F S H x y u w Q rl r1 r2 h
  cases r1 <;> cases r2 <;> first
    | exact h.elim
    | skip
  rename_i i j
  change Fin X.K W ca σ ι F H (if 0 < j ∧ j < 1073741824 then .ok (.int (i / j)) S else .bad) Q at h
  by_cases hz : 0 < j ∧ j < 1073741824
  · rw [if_pos hz] at h; exact ⟨_, _, rfl, rfl, hz, Fin.val rl (.int _) h⟩
  · rw [if_neg hz] at h; exact h.elim
theorem ok_mod {t : Bool} : Ok2 X W ca (op2 t .mod) (rI (fun _ j => 0 < j) fun i j => .int (i % j)) := by
  intro σ ι F S H x y u w Q rl r1 r2 h
  cases r1 <;> cases r2 <;> first
    | exact h.elim
    | skip
  rename_i i j
  change Fin X.K W ca σ ι F H (if 0 < j then .ok (.int (i % j)) S else .bad) Q at h
  by_cases hz : 0 < j
  · rw [if_pos hz] at h; exact ⟨_, _, rfl, rfl, hz, Fin.val rl (.int _) h⟩
  · rw [if_neg hz] at h; exact h.elim
theorem ok_pow {t : Bool} : Ok2 X W ca (op2 t .pow) (rI CPow fun i j => .int (i ^ j.toNat)) := by
  intro σ ι F S H x y u w Q rl r1 r2 h
  cases r1 <;> cases r2 <;> first
    | exact h.elim
    | skip
  rename_i i j
  change Fin X.K W ca σ ι F H (if 0 ≤ j ∧ j ≤ 1000000 ∧ i.natAbs < 18446744073709551616 then .ok (.int (i ^ j.toNat)) S else .bad) Q at h
  by_cases hz : 0 ≤ j ∧ j ≤ 1000000 ∧ i.natAbs < 18446744073709551616
  · rw [if_pos hz] at h; exact ⟨_, _, rfl, rfl, hz, Fin.val rl (.int _) h⟩
  · rw [if_neg hz] at h; exact h.elim
def opOf : Op2 → Operator
  | .add => .Add
  | .sub => .Sub
  | .mul => .Mult
  | .fdiv => .FloorDiv
  | .mod => .Mod
  | .pow => .Pow
theorem pe_bin {a b : Expr} {pos : Pos} {ma mb : Sl → Store → Res Val} {t : Bool} (o : Op2) (ha : PE X a (T X W ca ma)) (hb : PE X b (T X W ca mb)) :
    PE X (.BinOp a (opOf o) b pos) (T X W ca fun σ S => (ma σ S).bnd fun x S1 => (mb σ S1).bnd fun y S2 => op2 t o x y S2) := by
  cases o with
  | add => exact PE.weak (pe_op opr_add ha hb) (two ok_add)
  | mul => exact PE.weak (pe_op opr_mul ha hb) (two ok_mul)
  | sub => exact PE.weak (pe_op op_sub ha hb) (two ok_sub)
  | fdiv => exact PE.weak (pe_op op_fdiv ha hb) (two ok_fdiv)
  | mod => exact PE.weak (pe_op op_mod ha hb) (two ok_mod)
  | pow => exact PE.weak (pe_op op_pow ha hb) (two ok_pow)
theorem pe_neg {a : Expr} {pos : Pos} {ma : Sl → Store → Res Val} (ha : PE X a (T X W ca ma)) :
    PE X (.UnaryOp .USub a pos) (T X W ca fun σ S => (ma σ S).bnd fun x S1 => (match x with
    | .int i => .ok (.int (-i)) S1
    | _ => .bad)) :=
  PE.weak (pe_un un_neg ha) (one (f := fun x S1 => (match x with
    | .int i => .ok (.int (-i)) S1
    | _ => .bad)) fun σ ι F S H x u Q rl r1 h => by
    cases r1 <;> first
      | exact h.elim
      | exact ⟨_, rfl, Fin.val rl (.int _) h⟩)
end
end E

set_option linter.all false
set_option autoImplicit false
set_option Elab.async false
set_option maxHeartbeats 2000000
/-! Soundness: comparisons, truth, and, or. -/
namespace E
open PySem PySem.Spec L2
mutual
def toPD : Val → PyData
  | .bl b => .bool b
  | .int i => .int i
  | .str s => .str (mkS s)
  | .tup vs => .tuple (toPDs vs)
  | .lst _ vs => .list (toPDs vs)
  | .non => .none
  | .dic _ _ _ => .none
  | .ins _ _ _ => .none
  | .ref _ => .none
  | .ro _ => .none
def toPDs : List Val → List PyData
  | [] => []
  | v :: vs => toPD v :: toPDs vs
end
theorem mkS_inj {a b : Tx} (h : mkS a = mkS b) : a = b := by
  unfold mkS at h
  injection h with h
  simpa using congrArg Array.toList h
theorem mkS_beq (a b : Tx) : (mkS a == mkS b) = (a == b) := by
  by_cases h : a = b
  · subst h; simp
  · rw [beq_eq_false_iff_ne.mpr h, beq_eq_false_iff_ne.mpr fun z => h (mkS_inj z)]
mutual
theorem eqv_pd : ∀ (k j : Nat) (a b : Val), dle k a = true → dle j b = true → PyData.eqv (toPD a) (toPD b) = eqv a b
  | k, j, .non, b, h, g => by cases b <;> first | (simp [dle] at g; done) | simp [toPD, PyData.eqv, eqv]
  | k, j, .bl x, b, h, g => by cases b <;> first | (simp [dle] at g; done) | simp [toPD, PyData.eqv, eqv, b2i]
  | k, j, .int x, b, h, g => by cases b <;> first | (simp [dle] at g; done) | simp [toPD, PyData.eqv, eqv, b2i]
  | k, j, .str x, b, h, g => by cases b <;> first | (simp [dle] at g; done) | simp [toPD, PyData.eqv, eqv, mkS_beq]
  | k, j, .tup x, b, h, g => by
    cases b with
    | tup y =>
      simp only [toPD, PyData.eqv, eqv]
      cases k with
      | zero => simp [dle] at h
      | succ k => cases j with
        | zero => simp [dle] at g
        | succ j => exact eqvs_pd k j x y (by simpa [dle] using h) (by simpa [dle] using g)
    | _ => first | (simp [dle] at g; done) | simp [toPD, PyData.eqv, eqv]
  | k, j, .lst o x, b, h, g => by
    cases b with
    | lst p y =>
      simp only [toPD, PyData.eqv, eqv]
      cases k with
      | zero => simp [dle] at h
      | succ k => cases j with
        | zero => simp [dle] at g
        | succ j => exact eqvs_pd k j x y (by simpa [dle] using h) (by simpa [dle] using g)
    | _ => first | (simp [dle] at g; done) | simp [toPD, PyData.eqv, eqv]
  | k, j, .dic o ks vs, b, h, g => by simp [dle] at h
  | k, j, .ins c fs vs, b, h, g => by simp [dle] at h
  | k, j, .ref n, b, h, g => by simp [dle] at h
  | k, j, .ro vs, b, h, g => by simp [dle] at h
theorem eqvs_pd : ∀ (k j : Nat) (a b : List Val), dles k a = true → dles j b = true → PyData.eqvAll (toPDs a) (toPDs b) = eqvs a b
  | k, j, [], b, h, g => by cases b <;> simp [toPDs, PyData.eqvAll, eqvs]
  | k, j, x :: xs, b, h, g => by
    cases b with
    | nil => simp [toPDs, PyData.eqvAll, eqvs]
    | cons y ys =>
      rw [dles, Bool.and_eq_true] at h g
      simp only [toPDs, PyData.eqvAll, eqvs]
      rw [eqv_pd k j x y h.1 g.1, eqvs_pd k j xs ys h.2 g.2]
end
theorem strOk_of {s : Tx} (h : okT s = true) : PyData.strOk (mkS s) = true := by
  unfold PyData.strOk mkS
  rw [Array.all_eq_true_iff_forall_mem]
  intro c m
  exact decide_eq_true (okT_all h c (by simpa using m))
section
variable {K : Frag} {ι : List Addr} {F H : Hp} {S : Store}
/-- data as it stands -/
def Stands (K : Frag) (H : Hp) (a : Val) (u : V) : Prop := ∀ k, dle k a = true → Dp K H u (toPD a) ∧ (toPD a).canLay0 = true ∧ (toPD a).depth ≤ k
def StandsAll (K : Frag) (H : Hp) (a : List Val) (u : List V) : Prop := ∀ k, dles k a = true → DpAll K H u (toPDs a) ∧ PyData.canLayAll0 (toPDs a) = true ∧ PyData.depthAll (toPDs a) ≤ k
mutual
theorem snapG_ok (rl : RlH K ι F S H) {rd : Nat → Option Val} (hr : ∀ (n : Nat) (a : Addr) (b : Val), ι[n]? = some a → rd n = some b → Stands K H b (.ref a)) : ∀ {v : Val} {u : V}, RV K ι F v u → ∀ a, snapG rd v = some a → Stands K H a u
  | _, _, .non, a, e => by
    simp only [snapG] at e; cases e
    exact fun k _ => ⟨.non, by simp [toPD, PyData.canLay0], by simp [toPD, PyData.depth]⟩
  | _, _, .bl b, a, e => by
    simp only [snapG] at e; cases e
    exact fun k _ => ⟨.bl b, by simp [toPD, PyData.canLay0], by simp [toPD, PyData.depth]⟩
  | _, _, .int b, a, e => by
    simp only [snapG] at e; cases e
    exact fun k _ => ⟨.int b, by simp [toPD, PyData.canLay0], by simp [toPD, PyData.depth]⟩
  | _, _, .str b h, a, e => by
    simp only [snapG] at e; cases e
    exact fun k _ => ⟨.str _, by simp only [toPD, PyData.canLay0]; exact strOk_of h, by simp [toPD, PyData.depth]⟩
  | _, _, .tup h r, a, e => by
    simp only [snapG, Option.map_eq_some_iff] at e
    obtain ⟨ws, e1, rfl⟩ := e
    have ih := snapGs_ok rl hr r ws e1
    intro k hk
    cases k with
    | zero => simp [dle] at hk
    | succ k =>
      obtain ⟨h1, h2, h3⟩ := ih k (by simpa [dle] using hk)
      refine ⟨.tup (rl.sub.sqT h) h1, by simp only [toPD, PyData.canLay0]; exact h2, ?_⟩
      simp only [toPD, PyData.depth]; omega
  | _, _, .lst h r, a, e => by
    simp only [snapG, Option.map_eq_some_iff] at e
    obtain ⟨ws, e1, rfl⟩ := e
    have ih := snapGs_ok rl hr r ws e1
    intro k hk
    cases k with
    | zero => simp [dle] at hk
    | succ k =>
      obtain ⟨h1, h2, h3⟩ := ih k (by simpa [dle] using hk)
      refine ⟨.lst (.inl (.inl (rl.sub _ _ h))) h1, by simp only [toPD, PyData.canLay0]; exact h2, ?_⟩
      simp only [toPD, PyData.depth]; omega
  | _, _, .ro h r, a, e => by
    simp only [snapG] at e
    split at e
    · cases e; intro k hk; simp [dle] at hk
    · cases e
  | _, _, .ref hn, a, e => by
    simp only [snapG] at e
    exact hr _ _ _ hn e
theorem snapGs_ok (rl : RlH K ι F S H) {rd : Nat → Option Val} (hr : ∀ (n : Nat) (a : Addr) (b : Val), ι[n]? = some a → rd n = some b → Stands K H b (.ref a)) : ∀ {v : List Val} {u : List V}, RVs K ι F v u → ∀ a, snapGs rd v = some a → StandsAll K H a u
  | _, _, .nil, a, e => by
    simp only [snapGs] at e; cases e
    exact fun k _ => ⟨.nil, by simp [toPDs, PyData.canLayAll0], by simp [toPDs, PyData.depthAll]⟩
  | _, _, .cons p q, a, e => by
    simp only [snapGs, Option.bind_eq_some_iff, Option.map_eq_some_iff] at e
    obtain ⟨w, e1, ws, e2, rfl⟩ := e
    have h1 := snapG_ok rl hr p w e1
    have h2 := snapGs_ok rl hr q ws e2
    intro k hk
    rw [dles, Bool.and_eq_true] at hk
    obtain ⟨a1, a2, a3⟩ := h1 k hk.1
    obtain ⟨b1, b2, b3⟩ := h2 k hk.2
    refine ⟨.cons a1 b1, by simp only [toPDs, PyData.canLayAll0, a2, b2, Bool.and_self], ?_⟩
    simp only [toPDs, PyData.depthAll]; omega
end
theorem snap_rd (rl : RlH K ι F S H) : ∀ (k n : Nat) (a : Addr) (b : Val), ι[n]? = some a → snap k S (.ref n) = some b → Stands K H b (.ref a)
  | 0, n, a, b, hn, e => by simp only [snap, snapG] at e; cases e
  | k + 1, n, a, b, hn, e => by
    simp only [snap, snapG, Option.bind_eq_some_iff] at e
    obtain ⟨c, e1, e2⟩ := e
    obtain ⟨_, c', o, h2, h3, h4⟩ := rl.trk n a hn
    rw [h2] at e1; cases e1
    cases h4 with
    | @lst vs us r =>
      have e3 : snapG (fun m => snap k S (.ref m)) (.lst true vs) = some b := by
        cases k with
        | zero => simp only [snap] at e2 ⊢; simpa only [snapG] using e2
        | succ k => simp only [snap] at e2 ⊢; simpa only [snapG] using e2
      simp only [snapG, Option.map_eq_some_iff] at e3
      obtain ⟨ws, e4, rfl⟩ := e3
      have ih := snapGs_ok rl (fun n a b h1 h2 => snap_rd rl k n a b h1 h2) r ws e4
      intro j hj
      cases j with
      | zero => simp [dle] at hj
      | succ j =>
        obtain ⟨q1, q2, q3⟩ := ih j (by simpa [dle] using hj)
        refine ⟨.lst (.inl (.inl h3)) q1, by simp only [toPD, PyData.canLay0]; exact q2, ?_⟩
        simp only [toPD, PyData.depth]; omega
theorem snap_ok (rl : RlH K ι F S H) {k : Nat} {v a : Val} {u : V} (rv : RV K ι F v u) (e : snap k S v = some a) : Stands K H a u := by
  have e3 : snapG (fun m => snap k S (.ref m)) v = some a := by
    cases k with
    | zero => simp only [snap] at e ⊢; simpa only [snapG] using e
    | succ k => simp only [snap] at e ⊢; simpa only [snapG] using e
  exact snapG_ok rl (fun n a b h1 h2 => snap_rd rl k n a b h1 h2) rv a e3
theorem Stands.shaped {a : Val} {u : V} (h : Stands K H a u) (hd : dle 60 a = true) : Dp K H u (toPD a) ∧ SeqAt.shaped (toPD a) = true := by
  obtain ⟨h1, h2, h3⟩ := h 60 hd
  refine ⟨h1, ?_⟩
  unfold SeqAt.shaped
  rw [h2, Bool.true_and]
  exact decide_eq_true (by omega)
end
section
variable {X : Cx} {W : WX} {ca : Nat → Addr}
/-- a comparison's answer -/
def cF (o : Cop) (x y : Val) (S : Store) : Res Val := match cop o x y S with
  | some c => .ok (.bl c) S
  | none => .bad
abbrev rEqAll (K : Frag) : R2 := fun x y H Q => rEq x y H Q ∨ rEqD K x y H Q
abbrev rNeAll (K : Frag) : R2 := fun x y H Q => rNe x y H Q ∨ rNeD K x y H Q
theorem eqS_ok {ι : List Addr} {F H : Hp} {S : Store} {x y : Val} {u w : V} {b : Bool} (rl : RlH X.K ι F S H) (r1 : RV X.K ι F x u) (r2 : RV X.K ι F y w) (h : eqS S x y = some b) :
    (scal u w = true ∧ decide (u = w) = b) ∨ ∃ d e, Dp X.K H u d ∧ Dp X.K H w e ∧ SeqAt.shaped d = true ∧ SeqAt.shaped e = true ∧ PyData.eqv d e = b := by
  have key : (match snap 64 S x, snap 64 S y with
    | some a, some b => if dle 60 a && dle 60 b then some (eqv a b) else none
    | _, _ => none) = some b → ∃ d e, Dp X.K H u d ∧ Dp X.K H w e ∧ SeqAt.shaped d = true ∧ SeqAt.shaped e = true ∧ PyData.eqv d e = b := by
    intro h
    cases hx : snap 64 S x with
    | none => rw [hx] at h; cases h
    | some a =>
      cases hy : snap 64 S y with
      | none => rw [hx, hy] at h; cases h
      | some c =>
        rw [hx, hy] at h
        by_cases hd : (dle 60 a && dle 60 c) = true
        · simp only [hd, if_true, Option.some.injEq] at h
          rw [Bool.and_eq_true] at hd
          obtain ⟨d1, s1⟩ := (snap_ok rl r1 hx).shaped hd.1
          obtain ⟨d2, s2⟩ := (snap_ok rl r2 hy).shaped hd.2
          exact ⟨_, _, d1, d2, s1, s2, by rw [eqv_pd 60 60 a c hd.1 hd.2]; exact h⟩
        · simp only [hd] at h; cases h
  cases r1 <;> cases r2 <;> exact .inr (key h)
theorem ok_eq : Ok2 X W ca (cF .eq) (rEqAll X.K) := by
  intro σ ι F S H x y u w Q rl r1 r2 h
  unfold cF cop at h
  cases e : eqS S x y with
  | none => rw [e] at h; exact h.elim
  | some b =>
    rw [e] at h
    rcases eqS_ok rl r1 r2 e with ⟨h1, h2⟩ | ⟨d, e, h1, h2, h3, h4, h5⟩
    · exact .inl ⟨h1, by rw [h2]; exact Fin.val rl (.bl _) h⟩
    · exact .inr ⟨d, e, h1, h2, h3, h4, by rw [h5]; exact Fin.val rl (.bl _) h⟩
theorem ok_ne : Ok2 X W ca (cF .ne) (rNeAll X.K) := by
  intro σ ι F S H x y u w Q rl r1 r2 h
  unfold cF cop at h
  cases e : eqS S x y with
  | none => rw [e] at h; exact h.elim
  | some b =>
    rw [e] at h
    rcases eqS_ok rl r1 r2 e with ⟨h1, h2⟩ | ⟨d, e, h1, h2, h3, h4, h5⟩
    · exact .inl ⟨h1, by rw [h2]; exact Fin.val rl (.bl _) h⟩
    · exact .inr ⟨d, e, h1, h2, h3, h4, by rw [h5]; exact Fin.val rl (.bl _) h⟩
abbrev rLtS : R2 := fun x y H Q => ∃ i j, x = .str i ∧ y = .str j ∧ Q (.bl (decide (i.cps.toList < j.cps.toList))) H
theorem lex_eq : ∀ a b : Tx, decide (a < b) = lexTx a b
  | [], [] => by simp [lexTx]
  | [], _ :: _ => by simp [lexTx]
  | _ :: _, [] => by simp [lexTx]
  | x :: xs, y :: ys => by
    unfold lexTx
    by_cases h : x = y
    · subst h
      rw [if_pos rfl, ← lex_eq xs ys]
      simp [List.cons_lt_cons_iff]
    · rw [if_neg h]
      simp [List.cons_lt_cons_iff, h]
theorem ok_lt : Ok2 X W ca (cF .lt) (fun x y H Q => rI0 (fun i j => .bl (decide (i < j))) x y H Q ∨ rLtS x y H Q) := by
  intro σ ι F S H x y u w Q rl r1 r2 h
  cases r1 <;> cases r2 <;> first
    | exact h.elim
    | exact .inl ⟨_, _, rfl, rfl, Fin.val rl (.bl _) h⟩
    | exact .inr ⟨_, _, rfl, rfl, by
        have e : ∀ a b : Tx, decide ((mkS a).cps.toList < (mkS b).cps.toList) = lexTx a b := fun a b => by unfold mkS; simpa using lex_eq a b
        rw [e]; exact Fin.val rl (.bl _) h⟩
theorem ok_le : Ok2 X W ca (cF .le) (rI0 fun i j => .bl (decide (i ≤ j))) := by
  intro σ ι F S H x y u w Q rl r1 r2 h
  cases r1 <;> cases r2 <;> first
    | exact h.elim
    | exact ⟨_, _, rfl, rfl, Fin.val rl (.bl _) h⟩
theorem ok_gt : Ok2 X W ca (cF .gt) (rI0 fun i j => .bl (decide (j < i))) := by
  intro σ ι F S H x y u w Q rl r1 r2 h
  cases r1 <;> cases r2 <;> first
    | exact h.elim
    | exact ⟨_, _, rfl, rfl, Fin.val rl (.bl _) h⟩
theorem ok_ge : Ok2 X W ca (cF .ge) (rI0 fun i j => .bl (decide (j ≤ i))) := by
  intro σ ι F S H x y u w Q rl r1 r2 h
  cases r1 <;> cases r2 <;> first
    | exact h.elim
    | exact ⟨_, _, rfl, rfl, Fin.val rl (.bl _) h⟩
theorem ok_is : Ok2 X W ca (cF .is) (fun x y H Q => y = .non ∧ Q (.bl (decide (x = .non))) H) := by
  intro σ ι F S H x y u w Q rl r1 r2 h
  cases r2 <;> first
    | exact h.elim
    | skip
  refine ⟨rfl, ?_⟩
  cases r1 <;> exact Fin.val rl (.bl _) h
theorem ok_isnot : Ok2 X W ca (cF .isnot) (fun x y H Q => y = .non ∧ Q (.bl (!decide (x = .non))) H) := by
  intro σ ι F S H x y u w Q rl r1 r2 h
  cases r2 <;> first
    | exact h.elim
    | skip
  refine ⟨rfl, ?_⟩
  cases r1 <;> exact Fin.val rl (.bl _) h
end
end E

set_option linter.all false
set_option autoImplicit false
set_option Elab.async false
set_option maxHeartbeats 2000000
/-! Soundness: tests, and, or, chains, if. -/
namespace E
open PySem PySem.Spec L2
def copOf : Cop → CmpOp
  | .eq => .Eq
  | .ne => .NotEq
  | .lt => .Lt
  | .le => .LtE
  | .gt => .Gt
  | .ge => .GtE
  | .is => .Is
  | .isnot => .IsNot
  | .in_ => .In
  | .notin => .NotIn
abbrev rSign : R2 := fun x y H Q => ∃ (c : Nat) (z : Str), x = .str ⟨#[c]⟩ ∧ y = .str z ∧ Q (.bl (decide (c ∈ z.cps.toList))) H
def ruleOf (K : Frag) : Cop → R2
  | .eq => rEqAll K
  | .ne => rNeAll K
  | .lt => fun x y H Q => rI0 (fun i j => .bl (decide (i < j))) x y H Q ∨ rLtS x y H Q
  | .le => rI0 fun i j => .bl (decide (i ≤ j))
  | .gt => rI0 fun i j => .bl (decide (j < i))
  | .ge => rI0 fun i j => .bl (decide (j ≤ i))
  | .is => fun x y H Q => y = .non ∧ Q (.bl (decide (x = .non))) H
  | .isnot => fun x y H Q => y = .non ∧ Q (.bl (!decide (x = .non))) H
  | .in_ => fun x y H Q => rSign x y H Q ∨ (rIn K false x y H Q ∨ rInD K x y H Q)
  | .notin => fun x y H Q => rIn K true x y H Q ∨ rNotInD K x y H Q
/-- the operators served here -/
def plainC : Cop → Bool
  | .in_ => false
  | .notin => false
  | _ => true
section
variable {X : Cx} {W : WX} {ca : Nat → Addr}
theorem rule_op (hu : X.A.units + 65 < cLine) (o : Cop) : OpR X (compareOp (copOf o)) (ruleOf X.K o) := by
  cases o with
  | eq => exact OpR.or op_eq (op_eqD (by omega))
  | ne => exact OpR.or op_ne (op_neD (by omega))
  | lt => exact OpR.or op_lt op_lt_str
  | le => exact op_le
  | gt => exact op_gt
  | ge => exact op_ge
  | is => exact op_isN
  | isnot => exact op_notN
  | in_ => exact OpR.or op_in_sign (OpR.or op_in_seq (op_inD hu))
  | notin => exact OpR.or op_notIn_seq (op_notInD hu)
/-! in, not in -/
theorem flat_rv {ι : List Addr} {F : Hp} {x : Val} {u : V} (r : RV X.K ι F x u) (h : flat x = true) : flatV u = true := by
  cases r <;> first | rfl | cases h
theorem flats_rv {ι : List Addr} {F : Hp} : ∀ {xs : List Val} {us : List V}, RVs X.K ι F xs us → xs.all flat = true → us.all flatV = true
  | _, _, .nil, _ => rfl
  | _, _, .cons a b, h => by
    rw [List.all_cons] at h ⊢
    obtain ⟨h1, h2⟩ := Bool.and_eq_true_iff.mp h
    rw [flat_rv a h1, flats_rv b h2]; rfl
theorem mkS_eq (a b : Tx) : (mkS a == mkS b) = (a == b) := by
  by_cases h : a = b
  · subst h; simp
  · have : mkS a ≠ mkS b := fun z => h (by unfold mkS at z; simpa using z)
    rw [beq_eq_false_iff_ne.mpr this, beq_eq_false_iff_ne.mpr h]
theorem eqv_rv {ι : List Addr} {F : Hp} {x y : Val} {u w : V} (r1 : RV X.K ι F x u) (r2 : RV X.K ι F y w) (h1 : flat x = true) (h2 : flat y = true) : eqV u w = eqv x y := by
  cases r1 <;> first | (cases h1; done) | (cases r2 <;> first | (cases h2; done) | (simp [eqV, eqv, b2i]; done) | exact mkS_eq _ _ | (simp only [eqV, eqv, b2i]; done))
theorem inV_rv {ι : List Addr} {F : Hp} {x : Val} {u : V} (r1 : RV X.K ι F x u) (h1 : flat x = true) : ∀ {ys : List Val} {ws : List V}, RVs X.K ι F ys ws → ys.all flat = true → inV u ws = ys.any fun b => eqv b x
  | _, _, .nil, _ => rfl
  | _, _, .cons a b, h => by
    rw [List.all_cons] at h
    obtain ⟨h2, h3⟩ := Bool.and_eq_true_iff.mp h
    have := inV_rv r1 h1 b h3
    unfold inV at this ⊢
    rw [List.any_cons, List.any_cons, eqv_rv a r1 h2 h1, this]
theorem anyPD {k j : Nat} {a : Val} : ∀ {bs : List Val}, dles k bs = true → dle j a = true → ((toPDs bs).any fun z => PyData.eqv z (toPD a)) = bs.any fun b => eqv b a
  | [], _, _ => by simp [toPDs]
  | b :: bs, h, g => by
    rw [dles] at h
    obtain ⟨h1, h2⟩ := Bool.and_eq_true_iff.mp h
    rw [toPDs, List.any_cons, List.any_cons, eqv_pd k j b a h1 g, anyPD h2 g]
theorem inL_ok {ι : List Addr} {F H : Hp} {S : Store} {x y : Val} {u w : V} {b : Bool} (rl : RlH X.K ι F S H) (r1 : RV X.K ι F x u) (r2 : RV X.K ι F y w) (h : inL S x y = some b) :
    ∃ d ds, Dp X.K H u d ∧ Dp X.K H w (.list ds) ∧ SeqAt.shaped d = true ∧ SeqAt.shaped (.list ds) = true ∧ (ds.any fun z => PyData.eqv z d) = b := by
  unfold inL at h
  cases hx : snap 64 S x with
  | none => rw [hx] at h; cases h
  | some a =>
    cases hy : snap 64 S y with
    | none => rw [hx, hy] at h; cases h
    | some c =>
      rw [hx, hy] at h
      cases c with
      | lst p bs =>
        simp only at h
        split at h
        · rename_i hd
          cases h
          obtain ⟨g1, g2⟩ := Bool.and_eq_true_iff.mp hd
          obtain ⟨d1, s1⟩ := (snap_ok rl r1 hx).shaped g1
          obtain ⟨d2, s2⟩ := (snap_ok rl r2 hy).shaped g2
          simp only [toPD] at d2 s2
          refine ⟨_, _, d1, d2, s1, s2, anyPD (k := 59) (j := 60) ?_ g1⟩
          simpa only [dle] using g2
        · cases h
      | _ => cases h
theorem ok_in : Ok2 X W ca (cF .in_) (ruleOf X.K .in_) := by
  intro σ ι F S H x y u w Q rl r1 r2 h
  unfold cF cop at h
  cases e : inS S x y with
  | none => simp only [e] at h; exact h.elim
  | some b =>
    simp only [e] at h
    have hq : Q (.bl b) H := Fin.val rl (.bl _) h
    unfold inS at e
    split at e
    · rename_i s
      split at e
      · rename_i c
        cases e
        cases r1
        cases r2
        refine .inl ⟨c, mkS s, rfl, rfl, ?_⟩
        have : (mkS s).cps.toList = s := by unfold mkS; simp
        rw [this]; exact hq
      · cases e
    · rename_i vs
      split at e
      · rename_i hf
        cases e
        obtain ⟨f1, f2⟩ := Bool.and_eq_true_iff.mp hf
        cases r2 with
        | tup q r =>
          refine .inr (.inl ⟨_, _, rfl, .inr (rl.sub.sqT q), flat_rv r1 f1, flats_rv r f2, ?_⟩)
          rw [inV_rv r1 f1 r f2]; exact hq
      · cases e
    · obtain ⟨d, ds, h1, h2, h3, h4, h5⟩ := inL_ok rl r1 r2 e
      exact .inr (.inr ⟨d, ds, h1, h2, h3, h4, by rw [h5]; exact hq⟩)
    · obtain ⟨d, ds, h1, h2, h3, h4, h5⟩ := inL_ok rl r1 r2 e
      exact .inr (.inr ⟨d, ds, h1, h2, h3, h4, by rw [h5]; exact hq⟩)
    · cases e
theorem ok_notin : Ok2 X W ca (cF .notin) (ruleOf X.K .notin) := by
  intro σ ι F S H x y u w Q rl r1 r2 h
  unfold cF cop at h
  cases e : ninS S x y with
  | none => simp only [e] at h; exact h.elim
  | some b =>
    simp only [e] at h
    have hq : Q (.bl b) H := Fin.val rl (.bl _) h
    unfold ninS at e
    split at e
    · cases e
    · rename_i hs
      rw [Option.map_eq_some_iff] at e
      obtain ⟨b', e, rfl⟩ := e
      unfold inS at e
      split at e
      · exact absurd rfl (hs _)
      · rename_i vs
        split at e
        · rename_i hf
          cases e
          obtain ⟨f1, f2⟩ := Bool.and_eq_true_iff.mp hf
          cases r2 with
          | tup q r =>
            refine .inl ⟨_, _, rfl, .inr (rl.sub.sqT q), flat_rv r1 f1, flats_rv r f2, ?_⟩
            rw [inV_rv r1 f1 r f2]; exact hq
        · cases e
      · obtain ⟨d, ds, h1, h2, h3, h4, h5⟩ := inL_ok rl r1 r2 e
        exact .inr ⟨d, ds, h1, h2, h3, h4, by rw [h5]; exact hq⟩
      · obtain ⟨d, ds, h1, h2, h3, h4, h5⟩ := inL_ok rl r1 r2 e
        exact .inr ⟨d, ds, h1, h2, h3, h4, by rw [h5]; exact hq⟩
      · cases e
theorem rule_ok {o : Cop} : Ok2 X W ca (cF o) (ruleOf X.K o) := by
  cases o with
  | eq => exact ok_eq
  | ne => exact ok_ne
  | lt => exact ok_lt
  | le => exact ok_le
  | gt => exact ok_gt
  | ge => exact ok_ge
  | is => exact ok_is
  | isnot => exact ok_isnot
  | in_ => exact ok_in
  | notin => exact ok_notin
def noSetE : Expr → Bool
  | .Set _ _ _ => false
  | _ => true
theorem nomkS (o : CmpOp) {b : Expr} (h : noSetE b = true) : behindInMarks o b = false := by
  cases b <;> first | rfl | cases h
theorem nomk {o : Cop} (h : plainC o = true) (b : Expr) : behindInMarks (copOf o) b = false :=
  nomark b (by cases o <;> first | (intro z; cases z; done) | cases h) (by cases o <;> first | (intro z; cases z; done) | cases h)
/-- the truth of what came -/
def tr (m : Sl → Store → Res Val) : Sl → Store → Res Bool := fun σ S => (m σ S).bnd fun x S1 => ofO (truth S1 x) S1
theorem look_rv {ι : List Addr} {F H : Hp} {S : Store} {x : Val} {u : V} {b : Bool} (rl : RlH X.K ι F S H) (r : RV X.K ι F x u) (h : truth S x = some b) : TruV X.K u H b := by
  cases r with
  | non => unfold truth look at h; cases h; rfl
  | bl _ => unfold truth look at h; cases h; rfl
  | int _ => unfold truth look at h; cases h; rfl
  | str s hs =>
    unfold truth look at h
    cases h
    refine ⟨by rw [mkS_len, sizeLine_eq]; exact okT_len hs, ?_⟩
    rw [mkS_len]
    cases s with
    | nil => rfl
    | cons c r =>
      rw [List.length_cons]
      simp
      omega
  | tup e q =>
    unfold truth look at h
    cases h
    refine .inr (.inl ⟨_, rl.sub.sqT e, ?_⟩)
    cases q <;> rfl
  | lst e q =>
    unfold truth look at h
    cases h
    refine .inl ⟨_, .inl (.inl (rl.sub _ _ e)), ?_⟩
    cases q <;> rfl
  | ro e q => unfold truth look at h; cases h
  | ref e =>
    obtain ⟨_, c, o, h2, h3, h4⟩ := rl.trk _ _ e
    unfold truth look at h
    simp only [h2] at h
    cases h4 with
    | lst q =>
      cases h
      refine .inl ⟨_, .inl (.inl h3), ?_⟩
      cases q <;> rfl
/-- e's test is its value's truth -/
def plainT : Expr → Bool
  | .UnaryOp .Not _ _ => false
  | .BoolOp _ _ _ => false
  | .IfExp _ _ _ _ => false
  | .Compare _ _ _ _ => false
  | _ => true
theorem plainT_is {e : Expr} (h : plainT e = true) (env : Env) : ∀ whole, isTrue e env whole = (do let v ← whole; standAt e.pos; holding [v] (truthy v)) := by
  intro whole
  cases e <;> first
    | rfl
    | (cases h; done)
    | (rename_i op _ _; cases op <;> first | rfl | (cases h; done))
theorem FinT.ofB {σ : L2.St} {ι : List Addr} {F H : Hp} {S : Store} {v : Val} {u : V} {Q : Bool → Hp → Prop} (rl : RlH X.K ι F S H) (rv : RV X.K ι F v u) (h : FinT X.K W ca σ ι F H (ofO (truth S v) S) Q) : ∃ k, TruV X.K u H k ∧ Q k H := by
  cases e : truth S v with
  | none => rw [e] at h; exact h.elim
  | some b =>
    rw [e] at h
    exact ⟨b, look_rv rl rv e, h ι F H Ex.refl rl⟩
/-- a first part of a test -/
theorem FinT.bind {σ : L2.St} {ι : List Addr} {F H : Hp} {σ' : Sl} {r : Res Val} {k : Val → Store → Res Bool} {Q : Bool → Hp → Prop} {R : V → Hp → Prop} (s : RS X.K ι F σ' σ) (h : FinT X.K W ca σ ι F H (r.bnd k) Q)
    (f : ∀ v S' ι' F' H' u, r = .ok v S' → Ex ι F H ι' F' H' → RS X.K ι' F' σ' σ → RlH X.K ι' F' S' H' → RV X.K ι' F' v u → FinT X.K W ca σ ι' F' H' (k v S') Q → R u H') : Fin X.K W ca σ ι F H r R := by
  cases r with
  | ok v S => exact fun ι' F' H' u x y z => f v S ι' F' H' u rfl x (s.mono x.pre x.sub) y z (FinT.trans x y h)
  | exc x S => exact h
  | bad => exact h
theorem FinT.bindT {σ : L2.St} {ι : List Addr} {F H : Hp} {σ' : Sl} {r : Res Bool} {k : Bool → Store → Res Bool} {Q : Bool → Hp → Prop} {R : Bool → Hp → Prop} (s : RS X.K ι F σ' σ) (h : FinT X.K W ca σ ι F H (r.bnd k) Q)
    (f : ∀ v S' ι' F' H', r = .ok v S' → Ex ι F H ι' F' H' → RS X.K ι' F' σ' σ → RlH X.K ι' F' S' H' → FinT X.K W ca σ ι' F' H' (k v S') Q → R v H') : FinT X.K W ca σ ι F H r R := by
  cases r with
  | ok v S => exact fun ι' F' H' x y => f v S ι' F' H' rfl x (s.mono x.pre x.sub) y (FinT.trans x y h)
  | exc x S => exact h
  | bad => exact h
theorem Fin.bindT {σ : L2.St} {ι : List Addr} {F H : Hp} {σ' : Sl} {r : Res Bool} {k : Bool → Store → Res Val} {Q : VK} {R : Bool → Hp → Prop} (s : RS X.K ι F σ' σ) (h : Fin X.K W ca σ ι F H (r.bnd k) Q)
    (f : ∀ v S' ι' F' H', r = .ok v S' → Ex ι F H ι' F' H' → RS X.K ι' F' σ' σ → RlH X.K ι' F' S' H' → Fin X.K W ca σ ι' F' H' (k v S') Q → R v H') : FinT X.K W ca σ ι F H r R := by
  cases r with
  | ok v S => exact fun ι' F' H' x y => f v S ι' F' H' rfl x (s.mono x.pre x.sub) y (Fin.trans x y h)
  | exc x S => exact h
  | bad => exact h
theorem pt_plain {e : Expr} {m : Sl → Store → Res Val} (h : PE X e (T X W ca m)) (hp : plainT e = true) : PT X e (TTt X W ca (tr m)) :=
  PT.weak (pt_truth h (plainT_is hp X.env)) fun σ H Q ⟨ι, F, σ', S, rs, rl, q⟩ =>
    ⟨ι, F, σ', S, rs, rl, FinT.bind rs q fun v S1 ι1 F1 H1 u _ x1 rs1 rl1 rv1 q1 => FinT.ofB rl1 rv1 q1⟩
/-- what is shown of each expression -/
structure Snd (X : Cx) (W : WX) (ca : Nat → Addr) (m : Sl → Store → Res Val) (e : Expr) : Prop where
  pe : PE X e (T X W ca m)
  pt : PT X e (TTt X W ca (tr m))
  pw : (match e with | .BoolOp _ _ _ => True | _ => False) → PW X e (TTt X W ca (tr m))
theorem Snd.plain {e : Expr} {m : Sl → Store → Res Val} (h : PE X e (T X W ca m)) (hp : plainT e = true) : Snd X W ca m e :=
  ⟨h, pt_plain h hp, fun z => by cases e <;> first | exact z.elim | cases hp⟩
/-! ### comparisons -/
def mCmp (o : Cop) (ma mb : Sl → Store → Res Val) : Sl → Store → Res Val := fun σ S => (ma σ S).bnd fun x S1 => (mb σ S1).bnd fun y S2 => cF o x y S2
/-- a comparison that gives a bool, as a test -/
theorem test_of {t : TE} {m : Sl → Store → Res Val} (hb : ∀ σ S v S', m σ S = .ok v S' → ∃ b, v = .bl b) (h : ∀ σ H Q, T X W ca m σ H Q → t σ H Q) :
    ∀ σ H Q, TTt X W ca (tr m) σ H Q → tTest t σ H Q := by
  rintro σ H Q ⟨ι, F, σ', S, rs, rl, q⟩
  refine h σ H _ ⟨ι, F, σ', S, rs, rl, FinT.bind rs q fun v S1 ι1 F1 H1 u e x1 rs1 rl1 rv1 q1 => ?_⟩
  obtain ⟨b, rfl⟩ := hb _ _ _ _ e
  cases rv1
  exact ⟨b, rfl, q1 ι1 F1 H1 Ex.refl rl1⟩
theorem bnd_ok {α β : Type} {r : Res α} {k : α → Store → Res β} {v : β} {S' : Store} (h : r.bnd k = .ok v S') : ∃ a S1, r = .ok a S1 ∧ k a S1 = .ok v S' := by
  cases r with
  | ok a S1 => exact ⟨a, S1, rfl, h⟩
  | exc _ _ => cases h
  | bad => cases h
theorem cF_bl {o : Cop} {x y : Val} {S S' : Store} {v : Val} (h : cF o x y S = .ok v S') : ∃ b, v = .bl b := by
  unfold cF at h
  cases e3 : cop o x y S with
  | none => rw [e3] at h; cases h
  | some c => rw [e3] at h; cases h; exact ⟨c, rfl⟩
theorem mCmp_bl {o : Cop} {ma mb : Sl → Store → Res Val} : ∀ σ S v S', mCmp o ma mb σ S = .ok v S' → ∃ b, v = .bl b := by
  intro σ S v S' h
  obtain ⟨x, S1, e1, h⟩ := bnd_ok h
  obtain ⟨y, S2, e2, h⟩ := bnd_ok h
  exact cF_bl h
theorem mk_ok {o : Cop} {b : Expr} (h : plainC o = true ∨ noSetE b = true) : behindInMarks (copOf o) b = false := by
  rcases h with h | h
  · exact nomk h b
  · exact nomkS _ h
theorem snd_cmp {o : Cop} {a b : Expr} {pos : Pos} {ma mb : Sl → Store → Res Val} (hu : X.A.units + 65 < cLine) (ho : plainC o = true ∨ noSetE b = true) (ha : PE X a (T X W ca ma)) (hb : PE X b (T X W ca mb)) :
    Snd X W ca (mCmp o ma mb) (.Compare a [copOf o] [b] pos) :=
  ⟨PE.weak (pe_cmpR (rule_op hu o) ha hb (mk_ok ho)) (two (rule_ok)), PT.weak (pt_cmpR (rule_op hu o) ha hb (mk_ok ho)) (test_of mCmp_bl (two (rule_ok))), fun z => z.elim⟩
def mChn (o p : Cop) (ma mb mc : Sl → Store → Res Val) : Sl → Store → Res Val := fun σ S => (ma σ S).bnd fun x S1 => (mb σ S1).bnd fun y S2 => (match cop o x y S2 with
    | some true => (mc σ S2).bnd fun z S3 => cF p y z S3
    | some false => .ok (.bl false) S2
    | none => .bad)
theorem chain_ok {o p : Cop} {ma mb mc : Sl → Store → Res Val} (ho : plainC o = true) (hp : plainC p = true) (σ : L2.St) (H : Hp) (Q : VK) :
    T X W ca (mChn o p ma mb mc) σ H Q → tChain (ruleOf X.K o) (ruleOf X.K p) (T X W ca ma) (T X W ca mb) (T X W ca mc) σ H Q := by
  rintro ⟨ι, F, σ', S, rs, rl, q⟩
  refine ⟨ι, F, σ', S, rs, rl, Fin.bind rs q fun v S1 ι1 F1 H1 u _ x1 rs1 rl1 rv1 q1 => ?_⟩
  refine ⟨ι1, F1, σ', S1, rs1, rl1, Fin.bind rs1 q1 fun v2 S2 ι2 F2 H2 u2 _ x2 rs2 rl2 rv2 q2 => ?_⟩
  cases e : cop o v v2 S2 with
  | none => rw [e] at q2; exact q2.elim
  | some b =>
    rw [e] at q2
    refine rule_ok (W := W) (ca := ca) σ ι2 F2 S2 H2 v v2 u u2 _ rl2 (rv1.mono x2.pre x2.sub) rv2 ?_
    unfold cF
    rw [e]
    intro ι3 F3 H3 u3 x3 rl3 rv3
    cases rv3
    refine ⟨b, rfl, ?_⟩
    have q3 := Fin.trans x3 rl3 q2
    have rs3 := rs2.mono x3.pre x3.sub
    cases b with
    | false => exact Fin.val rl3 (.bl _) q3
    | true =>
      refine ⟨ι3, F3, σ', S2, rs3, rl3, Fin.bind rs3 q3 fun v4 S4 ι4 F4 H4 u4 _ x4 rs4 rl4 rv4 q4 => ?_⟩
      exact rule_ok (W := W) (ca := ca) σ ι4 F4 S4 H4 v2 v4 u2 u4 Q rl4 (rv2.mono (x3.pre.trans x4.pre) (x3.sub.trans x4.sub)) rv4 q4
theorem mChn_bl {o p : Cop} {ma mb mc : Sl → Store → Res Val} : ∀ σ S v S', mChn o p ma mb mc σ S = .ok v S' → ∃ b, v = .bl b := by
  intro σ S v S' h
  obtain ⟨x, S1, e1, h⟩ := bnd_ok h
  obtain ⟨y, S2, e2, h⟩ := bnd_ok h
  split at h
  · obtain ⟨z, S3, e3, h⟩ := bnd_ok h
    exact cF_bl h
  · cases h; exact ⟨_, rfl⟩
  · cases h
theorem snd_chn {o p : Cop} {a b c : Expr} {pos : Pos} {ma mb mc : Sl → Store → Res Val} (hu : X.A.units + 65 < cLine) (ho : plainC o = true) (hp : plainC p = true) (ha : PE X a (T X W ca ma)) (hb : PE X b (T X W ca mb)) (hc : PE X c (T X W ca mc)) :
    Snd X W ca (mChn o p ma mb mc) (.Compare a [copOf o, copOf p] [b, c] pos) :=
  ⟨PE.weak (pe_chain (rule_op hu o) (rule_op hu p) ha hb hc (nomk hp c)) (chain_ok ho hp), PT.weak (pt_chain (rule_op hu o) (rule_op hu p) ha hb hc (nomk hp c)) (test_of mChn_bl (chain_ok ho hp)), fun z => z.elim⟩
/-! ### and, or, not -/
def mAnd (ma mb : Sl → Store → Res Val) : Sl → Store → Res Val := fun σ S => (ma σ S).bnd fun x S1 => (match x with
    | .bl true => mb σ S1
    | .bl false => .ok (.bl false) S1
    | _ => .bad)
def mOr (ma mb : Sl → Store → Res Val) : Sl → Store → Res Val := fun σ S => (ma σ S).bnd fun x S1 => (match x with
    | .bl true => .ok (.bl true) S1
    | .bl false => mb σ S1
    | _ => .bad)
def mNot (ma : Sl → Store → Res Val) : Sl → Store → Res Val := fun σ S => (ma σ S).bnd fun x S1 => (match x with
    | .bl b => .ok (.bl (!b)) S1
    | _ => .bad)
/-- what a test's first part gives -/
theorem tr_of {σ : L2.St} {ι : List Addr} {F H : Hp} {σ' : Sl} {r : Res Val} {R : Bool → Hp → Prop}
    (h : Fin X.K W ca σ ι F H r fun u H' => ∃ b, u = .bl b ∧ R b H') (hb : ∀ v S', r = .ok v S' → (∃ b, v = .bl b) ∨ ∃ ι' F' H' u, Ex ι F H ι' F' H' ∧ RlH X.K ι' F' S' H' ∧ RV X.K ι' F' v u) : FinT X.K W ca σ ι F H (r.bnd fun x S1 => ofO (truth S1 x) S1) R := by
  cases r with
  | bad => exact h
  | exc e S => exact h
  | ok v S =>
    have fix : ∀ {ι' F' H' u}, Ex ι F H ι' F' H' → RlH X.K ι' F' S H' → RV X.K ι' F' v u → ∃ b, v = .bl b := fun x y z => by
      obtain ⟨b, rfl, _⟩ := h _ _ _ _ x y z
      cases z; exact ⟨b, rfl⟩
    have hv : ∃ b, v = .bl b := by
      rcases hb v S rfl with z | ⟨ι', F', H', u, x, y, z⟩
      · exact z
      · exact fix x y z
    obtain ⟨b, rfl⟩ := hv
    intro ι' F' H' x y
    obtain ⟨b', e, q⟩ := h ι' F' H' (.bl b) x y (.bl b)
    cases e; exact q
theorem snd_one {op : BoolOp} {a : Expr} {pos : Pos} {ma : Sl → Store → Res Val} (ha : Snd X W ca ma a) : Snd X W ca ma (.BoolOp op [a] pos) := by
  have hw : PW X (.BoolOp op [a] pos) (TTt X W ca (tr ma)) := by
    cases op with
    | And => exact pw_and1 ha.pt
    | Or => exact pw_or1 ha.pt
  exact ⟨pe_one ha.pe, hw.pt, fun _ => hw⟩
theorem snd_and {a b : Expr} {rest : List Expr} {pos : Pos} {ma mb : Sl → Store → Res Val} (ha : Snd X W ca ma a) (hb : Snd X W ca mb (.BoolOp .And (b :: rest) pos)) : Snd X W ca (mAnd ma mb) (.BoolOp .And (a :: b :: rest) pos) := by
  have hw : PW X (.BoolOp .And (a :: b :: rest) pos) (TTt X W ca (tr (mAnd ma mb))) := by
    refine ⟨fun wh pins s σ H Q I h => (pw_and ha.pt (hb.pw trivial)).run wh pins s σ H Q I ?_⟩
    obtain ⟨ι, F, σ', S, rs, rl, q⟩ := h
    refine ⟨ι, F, σ', S, rs, rl, ?_⟩
    unfold tr mAnd at q
    unfold tr
    cases e : ma σ' S with
    | bad => rw [e] at q; exact q
    | exc x S1 => rw [e] at q; exact q
    | ok v S1 =>
      rw [e] at q
      cases v <;> first
        | exact q.elim
        | skip
      rename_i c
      intro ι1 F1 H1 x1 rl1
      have q1 := FinT.trans x1 rl1 q
      cases c with
      | false => exact q1 ι1 F1 H1 Ex.refl rl1
      | true => exact ⟨ι1, F1, σ', S1, rs.mono x1.pre x1.sub, rl1, q1⟩
  refine ⟨PE.weak (pe_and ha.pe hb.pe) fun σ H Q ⟨ι, F, σ', S, rs, rl, q⟩ => ⟨ι, F, σ', S, rs, rl, Fin.bind rs q fun v S1 ι1 F1 H1 u _ x1 rs1 rl1 rv1 q1 => ?_⟩, hw.pt, fun _ => hw⟩
  cases rv1 with
  | bl c =>
    refine ⟨c, rfl, ?_⟩
    cases c with
    | true => exact ⟨ι1, F1, σ', S1, rs1, rl1, q1⟩
    | false => exact Fin.val rl1 (.bl _) q1
  | _ => exact q1.elim
theorem snd_or {a b : Expr} {rest : List Expr} {pos : Pos} {ma mb : Sl → Store → Res Val} (ha : Snd X W ca ma a) (hb : Snd X W ca mb (.BoolOp .Or (b :: rest) pos)) : Snd X W ca (mOr ma mb) (.BoolOp .Or (a :: b :: rest) pos) := by
  have hw : PW X (.BoolOp .Or (a :: b :: rest) pos) (TTt X W ca (tr (mOr ma mb))) := by
    refine ⟨fun wh pins s σ H Q I h => (pw_or ha.pt (hb.pw trivial)).run wh pins s σ H Q I ?_⟩
    obtain ⟨ι, F, σ', S, rs, rl, q⟩ := h
    refine ⟨ι, F, σ', S, rs, rl, ?_⟩
    unfold tr mOr at q
    unfold tr
    cases e : ma σ' S with
    | bad => rw [e] at q; exact q
    | exc x S1 => rw [e] at q; exact q
    | ok v S1 =>
      rw [e] at q
      cases v <;> first
        | exact q.elim
        | skip
      rename_i c
      intro ι1 F1 H1 x1 rl1
      have q1 := FinT.trans x1 rl1 q
      cases c with
      | true => exact q1 ι1 F1 H1 Ex.refl rl1
      | false => exact ⟨ι1, F1, σ', S1, rs.mono x1.pre x1.sub, rl1, q1⟩
  refine ⟨PE.weak (pe_or ha.pe hb.pe) fun σ H Q ⟨ι, F, σ', S, rs, rl, q⟩ => ⟨ι, F, σ', S, rs, rl, Fin.bind rs q fun v S1 ι1 F1 H1 u _ x1 rs1 rl1 rv1 q1 => ?_⟩, hw.pt, fun _ => hw⟩
  cases rv1 with
  | bl c =>
    refine ⟨c, rfl, ?_⟩
    cases c with
    | false => exact ⟨ι1, F1, σ', S1, rs1, rl1, q1⟩
    | true => exact Fin.val rl1 (.bl _) q1
  | _ => exact q1.elim
theorem snd_not {a : Expr} {pos : Pos} {ma : Sl → Store → Res Val} (ha : Snd X W ca ma a) : Snd X W ca (mNot ma) (.UnaryOp .Not a pos) := by
  refine ⟨PE.weak (pe_not ha.pe) fun σ H Q ⟨ι, F, σ', S, rs, rl, q⟩ => ⟨ι, F, σ', S, rs, rl, Fin.bind rs q fun v S1 ι1 F1 H1 u _ x1 rs1 rl1 rv1 q1 => ?_⟩, PT.weak (pt_not ha.pt) fun σ H Q ⟨ι, F, σ', S, rs, rl, q⟩ => ⟨ι, F, σ', S, rs, rl, ?_⟩, fun z => z.elim⟩
  · cases rv1 <;> first
      | exact q1.elim
      | exact ⟨_, rfl, Fin.val rl1 (.bl _) q1⟩
  · unfold tr mNot at q
    unfold tr
    cases e : ma σ' S with
    | bad => rw [e] at q; exact q
    | exc x S1 => rw [e] at q; exact q
    | ok v S1 =>
      rw [e] at q
      cases v <;> first
        | exact q.elim
        | skip
      rename_i c
      exact q
def mIte (mc ma mb : Sl → Store → Res Val) : Sl → Store → Res Val := fun σ S => (mc σ S).bnd fun x S1 => (match truth S1 x with
    | some true => ma σ S1
    | some false => mb σ S1
    | none => .bad)
theorem pe_ite {c a b : Expr} {pos : Pos} {mc ma mb : Sl → Store → Res Val} (hc : Snd X W ca mc c) (ha : PE X a (T X W ca ma)) (hb : PE X b (T X W ca mb)) : PE X (.IfExp c a b pos) (T X W ca (mIte mc ma mb)) := by
  refine PE.weak (pe_ifExp hc.pt ha hb) fun σ H Q ⟨ι, F, σ', S, rs, rl, q⟩ => ⟨ι, F, σ', S, rs, rl, ?_⟩
  unfold mIte at q
  unfold tr
  cases e : mc σ' S with
  | bad => rw [e] at q; exact q
  | exc x S1 => rw [e] at q; exact q
  | ok v S1 =>
    rw [e] at q
    show FinT X.K W ca σ ι F H (ofO (truth S1 v) S1) _
    change Fin X.K W ca σ ι F H (match truth S1 v with
    | some true => ma σ' S1
    | some false => mb σ' S1
    | none => .bad) Q at q
    cases e2 : truth S1 v with
    | none => rw [e2] at q; exact q
    | some d =>
      rw [e2] at q
      intro ι1 F1 H1 x1 rl1
      have q1 := Fin.trans x1 rl1 q
      cases d with
      | true => exact ⟨ι1, F1, σ', S1, rs.mono x1.pre x1.sub, rl1, q1⟩
      | false => exact ⟨ι1, F1, σ', S1, rs.mono x1.pre x1.sub, rl1, q1⟩
theorem pt_ifE {c a b : Expr} {pos : Pos} {tA tB tC : TT} (hc : PT X c tA) (ha : PT X a tB) (hb : PT X b tC) : PT X (.IfExp c a b pos) (fun σ H Q => tA σ H fun k H1 => if k = true then tB σ H1 Q else tC σ H1 Q) := by
  refine ⟨fun pins s σ H Q I h => ?_⟩
  show wpAny _ _ (do if ← isTrue c X.env (eval c X.env) then isTrue a X.env (eval a X.env) else isTrue b X.env (eval b X.env)) _ _ _
  refine wpAny_bind (thn (hc.run pins s σ H _ I h) fun d s1 ⟨H1, I1, q1⟩ => ?_)
  cases d with
  | true => exact ha.run pins s1 σ H1 Q I1 q1
  | false => exact hb.run pins s1 σ H1 Q I1 q1
theorem snd_ite {c a b : Expr} {pos : Pos} {mc ma mb : Sl → Store → Res Val} (hc : Snd X W ca mc c) (ha : Snd X W ca ma a) (hb : Snd X W ca mb b) : Snd X W ca (mIte mc ma mb) (.IfExp c a b pos) := by
  refine ⟨pe_ite hc ha.pe hb.pe, PT.weak (pt_ifE hc.pt ha.pt hb.pt) fun σ H Q ⟨ι, F, σ', S, rs, rl, q⟩ => ⟨ι, F, σ', S, rs, rl, ?_⟩, fun z => z.elim⟩
  unfold tr mIte at q
  unfold tr
  cases e : mc σ' S with
  | bad => rw [e] at q; exact q
  | exc x S1 => rw [e] at q; exact q
  | ok v S1 =>
    rw [e] at q
    show FinT X.K W ca σ ι F H (ofO (truth S1 v) S1) _
    change FinT X.K W ca σ ι F H (Res.bnd (match truth S1 v with
    | some true => ma σ' S1
    | some false => mb σ' S1
    | none => .bad) fun x S1 => ofO (truth S1 x) S1) Q at q
    cases e2 : truth S1 v with
    | none => rw [e2] at q; exact q
    | some d =>
      rw [e2] at q
      intro ι1 F1 H1 x1 rl1
      have q1 := FinT.trans x1 rl1 q
      cases d with
      | true => exact ⟨ι1, F1, σ', S1, rs.mono x1.pre x1.sub, rl1, q1⟩
      | false => exact ⟨ι1, F1, σ', S1, rs.mono x1.pre x1.sub, rl1, q1⟩
end
end E

set_option linter.all false
set_option autoImplicit false
set_option Elab.async false
set_option maxHeartbeats 2000000
/-! Soundness: names, displays, subscripts, built-ins. -/
namespace E
open PySem PySem.Spec L2
section
variable {X : Cx} {W : WX} {ca : Nat → Addr}
/-! ### constants and names -/
theorem pe_kint {i : Int} {j : Nat} {pos : Pos} : PE X (.Constant (.int i) j pos) (T X W ca fun _ S => .ok (.int i) S) :=
  PE.weak pe_int fun σ H Q ⟨ι, F, σ', S, rs, rl, q⟩ => Fin.val rl (.int i) q
theorem pe_kbl {i : Bool} {j : Nat} {pos : Pos} : PE X (.Constant (.bool i) j pos) (T X W ca fun _ S => .ok (.bl i) S) :=
  PE.weak pe_bl fun σ H Q ⟨ι, F, σ', S, rs, rl, q⟩ => Fin.val rl (.bl i) q
theorem pe_knon {j : Nat} {pos : Pos} : PE X (.Constant .none j pos) (T X W ca fun _ S => .ok .non S) :=
  PE.weak pe_non fun σ H Q ⟨ι, F, σ', S, rs, rl, q⟩ => Fin.val rl .non q
theorem pe_kstr {s : Tx} {x : Str} {j : Nat} {pos : Pos} (hx : x = mkS s) (h : okT s = true) : PE X (.Constant (.str x) j pos) (T X W ca fun _ S => .ok (.str s) S) := by
  subst hx
  exact PE.weak pe_str fun σ H Q ⟨ι, F, σ', S, rs, rl, q⟩ => Fin.val rl (.str s h) q
theorem pe_vr {i : Nat} {x : Str} {pos : Pos} (hN : X.N[i]? = some x) (hv : Vis X.env.scope x) (hd : (x == ("__debug__" : Str)) = false) (hcd : (x == ("__classdict__" : Str)) = false) :
    PE X (.Name x pos) (T X W ca fun σ S => (match σ[i]? with
    | some (some v) => .ok v S
    | _ => .bad)) :=
  PE.weak (pe_var hN hv hd hcd) fun σ H Q ⟨ι, F, σ', S, rs, rl, q⟩ => by
    cases e : σ'[i]? with
    | none => simp only [e] at q; exact q.elim
    | some o =>
      cases o with
      | none => simp only [e] at q; exact q.elim
      | some v =>
        simp only [e] at q
        obtain ⟨u, h1, h2⟩ := rs.at_ i v e
        exact ⟨u, h1, Fin.val rl h2 q⟩
theorem pe_gl {x : Str} {v : Val} {u : V} {w : Value} {pos : Pos} (hg : Gl X x) (hm : X.mg x = some w) (r : RelV u w) (rv : ∀ ι F, RV X.K ι F v u) (hd : (x == ("__debug__" : Str)) = false) :
    PE X (.Name x pos) (T X W ca fun _ S => .ok v S) :=
  PE.weak (pe_glob hg hm r hd) fun σ H Q ⟨ι, F, σ', S, rs, rl, q⟩ => Fin.val rl (rv ι F) q
/-! ### argument lists, displays -/
def noStar : Expr → Bool
  | .Starred _ _ => false
  | _ => true
theorem star_cons {e : Expr} (h : noStar e = true) (es : List Expr) (env : Env) : starEach (e :: es) env = (false, eval e env) :: starEach es env := by
  cases e <;> first | rfl | cases h
theorem star_any {pos : Pos} {env : Env} : ∀ es : List Expr, es.all noStar = true → (backTo pos (starEach es env)).any (·.1) = false
  | [], _ => rfl
  | e :: es, h => by
    rw [List.all_cons, Bool.and_eq_true] at h
    rw [star_cons h.1]
    show (false || (backTo pos (starEach es env)).any (·.1)) = false
    rw [star_any es h.2]; rfl
def mCons (m : Sl → Store → Res Val) (ms : Sl → Store → Res (List Val)) : Sl → Store → Res (List Val) := fun σ S => (m σ S).bnd fun v S1 => (ms σ S1).bnd fun vs S2 => .ok (v :: vs) S2
theorem pa_n : PA X [] (TAa X W ca fun _ S => .ok [] S) :=
  PA.weak pa_nil fun σ H Q ⟨ι, F, σ', S, rs, rl, q⟩ => q ι F H [] Ex.refl rl .nil
theorem pa_c {e : Expr} {es : List Expr} {m : Sl → Store → Res Val} {ms : Sl → Store → Res (List Val)} (hs : noStar e = true) (h : PE X e (T X W ca m)) (hr : PA X es (TAa X W ca ms)) : PA X (e :: es) (TAa X W ca (mCons m ms)) := by
  refine PA.weak (pa_cons h hr (star_cons hs es X.env)) fun σ H Q ⟨ι, F, σ', S, rs, rl, q⟩ => ⟨ι, F, σ', S, rs, rl, ?_⟩
  unfold mCons at q
  cases e1 : m σ' S with
  | bad => rw [e1] at q; exact q
  | exc x S1 => rw [e1] at q; exact q
  | ok v S1 =>
    rw [e1] at q
    change FinA X.K W ca σ ι F H ((ms σ' S1).bnd fun vs S2 => .ok (v :: vs) S2) Q at q
    intro ι1 F1 H1 u x1 rl1 rv1
    refine ⟨ι1, F1, σ', S1, rs.mono x1.pre x1.sub, rl1, ?_⟩
    have q1 := FinA.trans x1 rl1 q
    cases e2 : ms σ' S1 with
    | bad => rw [e2] at q1; exact q1
    | exc x S2 => rw [e2] at q1; exact q1
    | ok vs S2 =>
      rw [e2] at q1
      exact fun ι2 F2 H2 us x2 rl2 rvs2 => q1 ι2 F2 H2 (u :: us) x2 rl2 (.cons (rv1.mono x2.pre x2.sub) rvs2)
/-- from an argument list to a value -/
theorem FinA.bind {σ : L2.St} {ι : List Addr} {F H : Hp} {σ' : Sl} {r : Res (List Val)} {k : List Val → Store → Res Val} {Q : VK} {R : List V → Hp → Prop} (s : RS X.K ι F σ' σ) (h : Fin X.K W ca σ ι F H (r.bnd k) Q)
    (f : ∀ v S' ι' F' H' u, r = .ok v S' → Ex ι F H ι' F' H' → RS X.K ι' F' σ' σ → RlH X.K ι' F' S' H' → RVs X.K ι' F' v u → Fin X.K W ca σ ι' F' H' (k v S') Q → R u H') : FinA X.K W ca σ ι F H r R := by
  cases r with
  | ok v S => exact fun ι' F' H' u x y z => f v S ι' F' H' u rfl x (s.mono x.pre x.sub) y z (Fin.trans x y h)
  | exc x S => exact h
  | bad => exact h
theorem pe_tp {es : List Expr} {x1 : Nat} {pos : Pos} {ms : Sl → Store → Res (List Val)} (h : PA X es (TAa X W ca ms)) :
    PE X (.Tuple es x1 pos) (T X W ca fun σ S => (ms σ S).bnd fun vs S1 => if vs.length ≤ SZ then .ok (.tup vs) S1 else .bad) :=
  PE.weak (pe_tup h) fun σ H Q ⟨ι, F, σ', S, rs, rl, q⟩ => ⟨ι, F, σ', S, rs, rl, FinA.bind rs q fun vs S1 ι1 F1 H1 us _ x1 rs1 rl1 rv1 q1 => by
    by_cases hz : vs.length ≤ SZ
    · rw [if_pos hz] at q1
      exact ⟨by rw [← rv1.length, sizeLine_eq]; exact hz, newT_ok rl1 rv1 q1⟩
    · rw [if_neg hz] at q1; exact q1.elim⟩
theorem pe_ls {es : List Expr} {pos : Pos} {t : Bool} {ms : Sl → Store → Res (List Val)} (h : PA X es (TAa X W ca ms)) :
    PE X (.List es pos) (T X W ca fun σ S => (ms σ S).bnd fun vs S1 => newL t vs S1) :=
  PE.weak (pe_lst h) fun σ H Q ⟨ι, F, σ', S, rs, rl, q⟩ => ⟨ι, F, σ', S, rs, rl, FinA.bind rs q fun vs S1 ι1 F1 H1 us _ x1 rs1 rl1 rv1 q1 => newL_ok rl1 rv1 q1⟩
/-! ### subscripts -/
def noSlice : Expr → Bool
  | .Slice _ _ _ _ => false
  | _ => true
theorem plainIx_of {b : Expr} (h : noSlice b = true) : PlainIx b := fun o i => by
  cases b <;> first | rfl | cases h
theorem atI_eq {α : Type} (xs : List α) (i : Int) : E.atI xs i = L2.atI xs i := rfl
theorem atI_rv {K : Frag} {ι : List Addr} {F : Hp} {vs : List Val} {us : List V} {i : Int} {v : Val} (r : RVs K ι F vs us) (h : E.atI vs i = some v) : ∃ u, L2.atI us i = some u ∧ RV K ι F v u := by
  unfold E.atI at h
  rw [Option.bind_eq_some_iff] at h
  obtain ⟨j, h1, h2⟩ := h
  obtain ⟨u, h3, h4⟩ := r.get h2
  refine ⟨u, ?_, h4⟩
  unfold L2.atI
  have e : L2.ixN us.length i = some j := by rw [← r.length]; exact h1
  rw [e]; exact h3
theorem ok_ix : Ok2 X W ca (fun x i S => ofO (ixV S x i) S) (rIx X.K) := by
  intro σ ι F S H x y u w Q rl r1 r2 h
  cases r1 with
  | tup e q =>
    cases r2 with
    | int j =>
      change Fin X.K W ca σ ι F H (ofO (E.atI _ j) S) Q at h
      cases e2 : E.atI _ j with
      | none => rw [e2] at h; exact h.elim
      | some v =>
        rw [e2] at h
        obtain ⟨u, h1, h2⟩ := atI_rv q e2
        exact .inr (.inl ⟨_, _, _, _, rfl, rfl, rl.sub.sqT e, h1, Fin.val rl h2 h⟩)
    | _ => exact h.elim
  | lst e q =>
    cases r2 with
    | int j =>
      change Fin X.K W ca σ ι F H (ofO (E.atI _ j) S) Q at h
      cases e2 : E.atI _ j with
      | none => rw [e2] at h; exact h.elim
      | some v =>
        rw [e2] at h
        obtain ⟨u, h1, h2⟩ := atI_rv q e2
        exact .inl ⟨_, _, _, _, rfl, rfl, .inl (.inl (rl.sub _ _ e)), h1, Fin.val rl h2 h⟩
    | _ => exact h.elim
  | str s hs =>
    cases r2 with
    | int j =>
      change Fin X.K W ca σ ι F H (ofO ((E.atI s j).map fun c => .str [c]) S) Q at h
      cases e2 : E.atI s j with
      | none => rw [e2] at h; exact h.elim
      | some c =>
        rw [e2] at h
        refine .inr (.inr ⟨_, _, c, rfl, rfl, by rw [mkS_len, sizeLine_eq]; exact okT_len hs, ?_, ?_⟩)
        · have e3 : (mkS s).cps.toList = s := by unfold mkS; simp
          rw [e3]; exact e2
        · have hc : c ∈ s := by
            unfold E.atI at e2
            rw [Option.bind_eq_some_iff] at e2
            obtain ⟨j, _, h2⟩ := e2
            exact List.mem_iff_getElem?.mpr ⟨j, h2⟩
          exact Fin.val rl (.str [c] (okT_of (fun d m => by
            have : d = c := by simpa using m
            rw [this]; exact okT_all hs c hc) (by show 1 ≤ 16777216; decide))) h
    | _ => exact h.elim
  | ref e =>
    obtain ⟨_, c, o, h2, h3, h4⟩ := rl.trk _ _ e
    cases h4 with
    | @lst vs us q =>
      simp only [ixV, look, h2] at h
      cases r2 with
      | int j =>
        change Fin X.K W ca σ ι F H (ofO (E.atI vs j) S) Q at h
        cases e2 : E.atI vs j with
        | none => rw [e2] at h; exact h.elim
        | some v =>
          rw [e2] at h
          obtain ⟨u, g1, g2⟩ := atI_rv q e2
          exact .inl ⟨_, _, _, _, rfl, rfl, .inl (.inl h3), g1, Fin.val rl g2 h⟩
      | _ => exact h.elim
  | _ =>
    exfalso
    cases r2 <;> exact h
theorem pe_sub {a b : Expr} {pos : Pos} {ma mb : Sl → Store → Res Val} (hb' : noSlice b = true) (ha : PE X a (T X W ca ma)) (hb : PE X b (T X W ca mb)) :
    PE X (.Subscript a b pos) (T X W ca fun σ S => (ma σ S).bnd fun x S1 => (mb σ S1).bnd fun y S2 => ofO (ixV S2 x y) S2) :=
  PE.weak (pe_ix ix_seq ha hb (plainIx_of hb')) (two ok_ix)
/-! ### slices -/
abbrev rSlAll (K : Frag) : V → Option Int → Option Int → Hp → VK → Prop := fun x lo hi H Q => (rSlL K x lo hi H Q ∨ rSlA K x lo hi H Q) ∨ rSlS x lo hi H Q
theorem slr_all : SlR X (rSlAll X.K) := SlR.or (SlR.or sl_list sl_tupA) sl_str
theorem ok_sl {t : Bool} {σ : L2.St} {ι : List Addr} {F H : Hp} {S : Store} {x : Val} {u : V} {lo hi : Option Int} {Q : VK} (rl : RlH X.K ι F S H) (r : RV X.K ι F x u) (h : Fin X.K W ca σ ι F H (slV t x lo hi S) Q) : rSlAll X.K u lo hi H Q := by
  cases r with
  | lst e q => exact .inl (.inl ⟨_, _, rfl, .inl (.inl (rl.sub _ _ e)), (newL_ok rl (cut_rv q lo hi) h).2⟩)
  | ro e q => exact .inl (.inl ⟨_, _, rfl, rl.sub.sqL e, (newL_ok rl (cut_rv q lo hi) h).2⟩)
  | @tup a us vs e q =>
    refine .inl (.inr ⟨_, _, rfl, rl.sub.sqT e, fun z => ?_, fun _ p hp => newT_ok rl (cut_rv q lo hi) h p hp⟩)
    have e1 : ∀ n d o, sIx n d o = HT.sIx n d o := fun n d o => by cases o <;> rfl
    have e2 : cut vs lo hi = vs := by
      unfold cut
      rw [q.length, e1, e1, z.1, z.2, List.drop_zero, Nat.sub_zero, ← q.length, List.take_length]
    change Fin X.K W ca σ ι F H (.ok (.tup (cut vs lo hi)) S) Q at h
    rw [e2] at h
    exact Fin.val rl (.tup e q) h
  | str s hs =>
    change Fin X.K W ca σ ι F H (.ok (.str (cut s lo hi)) S) Q at h
    refine .inr ?_
    have e1 : ∀ n d o, sIx n d o = HT.sIx n d o := fun n d o => by cases o <;> rfl
    have hk : okT (cut s lo hi) = true := by
      unfold cut
      exact okT_of (fun c m => okT_all hs c (List.mem_of_mem_drop (List.mem_of_mem_take m))) (Nat.le_trans (by rw [List.length_take, List.length_drop]; omega) (okT_len hs))
    refine ⟨_, rfl, by rw [mkS_len, sizeLine_eq]; exact okT_len hs, ?_⟩
    have e3 : cutS (mkS s) lo hi = mkS (cut s lo hi) := by
      show (⟨(((mkS s).cps.toList.drop (HT.sIx (mkS s).length 0 lo)).take (HT.sIx (mkS s).length (mkS s).length hi - HT.sIx (mkS s).length 0 lo)).toArray⟩ : Str) = _
      have e4 : (mkS s).cps.toList = s := by unfold mkS; simp
      rw [e4, mkS_len]
      unfold cut mkS
      rw [e1, e1]
    rw [e3]
    exact Fin.val rl (.str _ hk) h
  | ref e =>
    obtain ⟨_, c, o, h2, h3, h4⟩ := rl.trk _ _ e
    cases h4 with
    | @lst vs us q =>
      have e5 : ∀ n, S[n]? = some (.lst true vs) → slV t (.ref n) lo hi S = newL t (cut vs lo hi) S := fun n hn => by unfold slV look; simp only [hn]
      rw [e5 _ h2] at h
      exact .inl (.inl ⟨_, _, rfl, .inl (.inl h3), (newL_ok rl (cut_rv q lo hi) h).2⟩)
  | _ => exact h.elim
/-- a part of a slice -/
def mPart (h : Bool) (m : Sl → Store → Res Val) : Sl → Store → Res (Option Int) := fun σ S => (m σ S).bnd fun v S1 => ofO (optI h v) S1
def OPE (X : Cx) (W : WX) (ca : Nat → Addr) (o : Option Expr) (m : Sl → Store → Res Val) : Prop := match o with
  | some e => PE X e (T X W ca m)
  | none => m = fun _ S => .ok .non S
theorem pe_sl {a : Expr} {lo hi : Option Expr} {p2 pos : Pos} {t : Bool} {ma ml mh : Sl → Store → Res Val} (ha : PE X a (T X W ca ma))
    (hl : OPE X W ca lo ml) (hh : OPE X W ca hi mh) :
    PE X (.Subscript a (.Slice lo hi none p2) pos) (T X W ca fun σ S => (ma σ S).bnd fun x S1 => (ml σ S1).bnd fun l S2 => (match optI lo.isSome l with
      | some l => (mh σ S2).bnd fun h S3 => (match optI hi.isSome h with
        | some h => slV t x l h S3
        | none => .bad)
      | none => .bad)) := by
  unfold OPE at hl hh
  cases lo with
  | none =>
    subst hl
    cases hi with
    | none =>
      subst hh
      refine PE.weak (pe_slice slr_all ha po_none po_none) fun σ H Q ⟨ι, F, σ', S, rs, rl, q⟩ => ⟨ι, F, σ', S, rs, rl, Fin.bind rs q fun v S1 ι1 F1 H1 u _ x1 rs1 rl1 rv1 q1 => ?_⟩
      exact ok_sl rl1 rv1 q1
    | some eh =>
      refine PE.weak (pe_slice slr_all ha po_none (po_some hh)) fun σ H Q ⟨ι, F, σ', S, rs, rl, q⟩ => ⟨ι, F, σ', S, rs, rl, Fin.bind rs q fun v S1 ι1 F1 H1 u _ x1 rs1 rl1 rv1 q1 => ?_⟩
      refine ⟨ι1, F1, σ', S1, rs1, rl1, Fin.bind rs1 q1 fun v2 S2 ι2 F2 H2 u2 _ x2 rs2 rl2 rv2 q2 => ?_⟩
      cases rv2 with
      | int j => exact ⟨j, rfl, ok_sl rl2 (rv1.mono x2.pre x2.sub) q2⟩
      | _ => exact q2.elim
  | some el =>
    cases hi with
    | none =>
      subst hh
      refine PE.weak (pe_slice slr_all ha (po_some hl) po_none) fun σ H Q ⟨ι, F, σ', S, rs, rl, q⟩ => ⟨ι, F, σ', S, rs, rl, Fin.bind rs q fun v S1 ι1 F1 H1 u _ x1 rs1 rl1 rv1 q1 => ?_⟩
      refine ⟨ι1, F1, σ', S1, rs1, rl1, Fin.bind rs1 q1 fun v2 S2 ι2 F2 H2 u2 _ x2 rs2 rl2 rv2 q2 => ?_⟩
      cases rv2 with
      | int j => exact ⟨j, rfl, ok_sl rl2 (rv1.mono x2.pre x2.sub) q2⟩
      | _ => exact q2.elim
    | some eh =>
      refine PE.weak (pe_slice slr_all ha (po_some hl) (po_some hh)) fun σ H Q ⟨ι, F, σ', S, rs, rl, q⟩ => ⟨ι, F, σ', S, rs, rl, Fin.bind rs q fun v S1 ι1 F1 H1 u _ x1 rs1 rl1 rv1 q1 => ?_⟩
      refine ⟨ι1, F1, σ', S1, rs1, rl1, Fin.bind rs1 q1 fun v2 S2 ι2 F2 H2 u2 _ x2 rs2 rl2 rv2 q2 => ?_⟩
      cases rv2 with
      | int j =>
        refine ⟨j, rfl, ι2, F2, σ', S2, rs2, rl2, Fin.bind rs2 q2 fun v3 S3 ι3 F3 H3 u3 _ x3 rs3 rl3 rv3 q3 => ?_⟩
        cases rv3 with
        | int i => exact ⟨i, rfl, ok_sl rl3 (rv1.mono (x2.pre.trans x3.pre) (x2.sub.trans x3.sub)) q3⟩
        | _ => exact q3.elim
      | _ => exact q2.elim
/-! ### built-ins of one argument -/
theorem pe_b {e : Expr} {x : Str} {id : String} {r : List V → Hp → VK → Prop} {f : Val → Store → Res Val} {m : Sl → Store → Res Val} {p pos : Pos} (hc : CallR X (.builtin id) r) (hg : Gl X x) (hm : X.mg x = none) (hv : bootBuiltins x = some (.builtin id))
    (hs : noStar e = true) (ha : PE X e (T X W ca m)) (hok : Ok1 X W ca f fun u H Q => r [u] H Q) (hn : x ≠ "__name__") (hdb : (x == ("__debug__" : Str)) = false) :
    PE X (.Call (.Name x p) [e] [] pos) (T X W ca fun σ S => (m σ S).bnd fun x S1 => f x S1) :=
  PE.weak (pe_callB hc hg hm hv (pa_cons ha pa_nil (star_cons hs [] X.env)) hn hdb (star_cons hs [] X.env) rfl) (one hok)
theorem pe_bT {e : Expr} {x : Str} {id : String} {r : List V → Hp → VK → Prop} {f : Val → Store → Res Val} {m : Sl → Store → Res Val} {p pos : Pos} (hc : CallR X (.type id) r) (hg : Gl X x) (hm : X.mg x = none) (hv : bootBuiltins x = some (.type id))
    (hs : noStar e = true) (ha : PE X e (T X W ca m)) (hok : Ok1 X W ca f fun u H Q => r [u] H Q) (hn : x ≠ "__name__") (hdb : (x == ("__debug__" : Str)) = false) :
    PE X (.Call (.Name x p) [e] [] pos) (T X W ca fun σ S => (m σ S).bnd fun x S1 => f x S1) :=
  PE.weak (pe_callTy hc hg hm hv (pa_cons ha pa_nil (star_cons hs [] X.env)) hn hdb (star_cons hs [] X.env) rfl) (one hok)
theorem ok_len {t : Bool} : Ok1 X W ca (bi1 .len t) (fun u H Q => (∃ p ys, [u] = [.ref p] ∧ (SqL X.K H p ys ∨ SqT X.K H p ys) ∧ Q (.int ys.length) H) ∨ ∃ z, [u] = [.str z] ∧ z.length ≤ sizeLine ∧ Q (.int z.length) H) := by
  intro σ ι F S H x u Q rl r h
  cases r with
  | str s hs =>
    refine .inr ⟨_, rfl, by rw [mkS_len, sizeLine_eq]; exact okT_len hs, ?_⟩
    rw [mkS_len]
    exact Fin.val rl (.int _) h
  | tup e q =>
    refine .inl ⟨_, _, rfl, .inr (rl.sub.sqT e), ?_⟩
    rw [← q.length]
    exact Fin.val rl (.int _) h
  | lst e q =>
    refine .inl ⟨_, _, rfl, .inl (.inl (.inl (rl.sub _ _ e))), ?_⟩
    rw [← q.length]
    exact Fin.val rl (.int _) h
  | ref e =>
    obtain ⟨_, c, o, h2, h3, h4⟩ := rl.trk _ _ e
    cases h4 with
    | @lst vs us q =>
      simp only [bi1, look, h2] at h
      refine .inl ⟨_, _, rfl, .inl (.inl (.inl h3)), ?_⟩
      rw [← q.length]
      exact Fin.val rl (.int _) h
  | _ => exact h.elim
theorem ok_list {t : Bool} : Ok1 X W ca (bi1 .list t) (fun u H Q => ∃ p ys, [u] = [.ref p] ∧ (SqL X.K H p ys ∨ SqT X.K H p ys) ∧ ∀ l, H l = none → Q (.ref l) (L2.upd H l (.lst ys))) := by
  intro σ ι F S H x u Q rl r h
  cases r with
  | tup e q => exact ⟨_, _, rfl, .inr (rl.sub.sqT e), (newL_ok rl q h).2⟩
  | lst e q => exact ⟨_, _, rfl, .inl (.inl (.inl (rl.sub _ _ e))), (newL_ok rl q h).2⟩
  | ref e =>
    obtain ⟨_, c, o, h2, h3, h4⟩ := rl.trk _ _ e
    cases h4 with
    | @lst vs us q =>
      simp only [bi1, look, h2] at h
      exact ⟨_, _, rfl, .inl (.inl (.inl h3)), (newL_ok rl q h).2⟩
  | _ => exact h.elim
theorem ok_tuple {t : Bool} : Ok1 X W ca (bi1 .tuple t) (fun u H Q => ∃ p ys, [u] = [.ref p] ∧ ((SqL X.K H p ys ∧ ∀ l, H l = none → Q (.ref l) (L2.upd H l (.tup ys))) ∨ (SqT X.K H p ys ∧ Q (.ref p) H))) := by
  intro σ ι F S H x u Q rl r h
  cases r with
  | tup e q => exact ⟨_, _, rfl, .inr ⟨rl.sub.sqT e, Fin.val rl (.tup e q) h⟩⟩
  | lst e q => exact ⟨_, _, rfl, .inl ⟨.inl (.inl (rl.sub _ _ e)), newT_ok rl q h⟩⟩
  | ref e =>
    obtain ⟨_, c, o, h2, h3, h4⟩ := rl.trk _ _ e
    cases h4 with
    | @lst vs us q =>
      simp only [bi1, look, h2] at h
      exact ⟨_, _, rfl, .inl ⟨.inl (.inl h3), newT_ok rl q h⟩⟩
  | _ => exact h.elim
theorem ints_rv {K : Frag} {ι : List Addr} {F : Hp} : ∀ {vs : List Val} {us : List V} {is : List Int}, RVs K ι F vs us → intsOf vs = some is → us = is.map V.int
  | _, _, _, .nil, h => by cases h; rfl
  | v :: vs, _, is, .cons r t, h => by
    cases r with
    | int i =>
      simp only [intsOf, Option.map_eq_some_iff] at h
      obtain ⟨js, h1, rfl⟩ := h
      rw [ints_rv t h1]; rfl
    | _ => simp [intsOf] at h
theorem bools_rv {K : Frag} {ι : List Addr} {F : Hp} : ∀ {vs : List Val} {us : List V} {is : List Bool}, RVs K ι F vs us → boolsOf vs = some is → us = is.map V.bl
  | _, _, _, .nil, h => by cases h; rfl
  | v :: vs, _, is, .cons r t, h => by
    cases r with
    | bl i =>
      simp only [boolsOf, Option.map_eq_some_iff] at h
      obtain ⟨js, h1, rfl⟩ := h
      rw [bools_rv t h1]; rfl
    | _ => simp [boolsOf] at h
theorem ok_sum {t : Bool} : Ok1 X W ca (bi1 .sum t) (fun u H Q => rSum X.K [u] H Q) := by
  intro σ ι F S H x u Q rl r h
  simp only [bi1] at h
  cases e1 : lstOf S x with
  | none => rw [e1] at h; exact h.elim
  | some vs =>
    rw [e1] at h
    obtain ⟨a, us, rfl, h3, q⟩ := lstOf_rv rl r e1
    cases e2 : intsOf vs with
    | none => simp only [e2] at h; exact h.elim
    | some is =>
      simp only [e2] at h
      exact ⟨a, is, rfl, .inl (.inl (by rw [h3, ints_rv q e2])), Fin.val rl (.int _) h⟩
theorem ok_all {t : Bool} : Ok1 X W ca (bi1 .all t) (fun u H Q => rAll X.K [u] H Q) := by
  intro σ ι F S H x u Q rl r h
  simp only [bi1] at h
  cases e1 : lstOf S x with
  | none => rw [e1] at h; exact h.elim
  | some vs =>
    rw [e1] at h
    obtain ⟨a, us, rfl, h3, q⟩ := lstOf_rv rl r e1
    cases e2 : boolsOf vs with
    | none => simp only [e2] at h; exact h.elim
    | some is =>
      simp only [e2] at h
      exact ⟨a, is, rfl, .inl (.inl (by rw [h3, bools_rv q e2])), Fin.val rl (.bl _) h⟩
theorem ok_any {t : Bool} : Ok1 X W ca (bi1 .any t) (fun u H Q => rAny X.K [u] H Q) := by
  intro σ ι F S H x u Q rl r h
  simp only [bi1] at h
  cases e1 : lstOf S x with
  | none => rw [e1] at h; exact h.elim
  | some vs =>
    rw [e1] at h
    obtain ⟨a, us, rfl, h3, q⟩ := lstOf_rv rl r e1
    cases e2 : boolsOf vs with
    | none => simp only [e2] at h; exact h.elim
    | some is =>
      simp only [e2] at h
      exact ⟨a, is, rfl, .inl (.inl (by rw [h3, bools_rv q e2])), Fin.val rl (.bl _) h⟩
/-! ### isinstance -/
def tyName : Ty → String
  | .int => "int"
  | .bool => "bool"
  | .str => "str"
  | .tuple => "tuple"
  | .list => "list"
theorem tup_ty {K : Frag} {F H : Hp} {a : Addr} {us : List V} (hs : SubH F H) (e : SqT K F a us) : TyX K H (.ref a) (.type "tuple") := by
  rcases e with (e | ⟨o, e⟩) | ⟨o, its, n, h1, h2, _⟩
  · exact .base (.tup (hs _ _ e))
  · exact .fTuple (hs _ _ e)
  · exact .kTuple h1 h2
theorem ok_isi (ty : Ty) : Ok1 X W ca (fun x S1 => (match isTy S1 x ty with
    | some b => .ok (.bl b) S1
    | none => .bad)) (fun u H Q => rIsi X.K [u, .ty (tyName ty)] H Q) := by
  intro σ ι F S H x u Q rl r h
  cases r with
  | non => cases ty <;> exact ⟨_, _, _, _, _, rfl, .ty _, .base .non, kit_ty (by decide +kernel), Fin.val rl (.bl _) h⟩
  | bl b => cases ty <;> exact ⟨_, _, _, _, _, rfl, .ty _, .base (.bl b), kit_ty (by decide +kernel), Fin.val rl (.bl _) h⟩
  | int b => cases ty <;> exact ⟨_, _, _, _, _, rfl, .ty _, .base (.int b), kit_ty (by decide +kernel), Fin.val rl (.bl _) h⟩
  | str b hb => cases ty <;> exact ⟨_, _, _, _, _, rfl, .ty _, .base (.str _), kit_ty (by decide +kernel), Fin.val rl (.bl _) h⟩
  | tup e q => cases ty <;> exact ⟨_, _, _, _, _, rfl, .ty _, tup_ty rl.sub e, kit_ty (by decide +kernel), Fin.val rl (.bl _) h⟩
  | lst e q => cases ty <;> exact ⟨_, _, _, _, _, rfl, .ty _, .base (.lst (rl.sub _ _ e)), kit_ty (by decide +kernel), Fin.val rl (.bl _) h⟩
  | ref e =>
    obtain ⟨_, c, o, h2, h3, h4⟩ := rl.trk _ _ e
    cases h4 with
    | @lst vs us q =>
      simp only [isTy, look, h2] at h
      cases ty <;> exact ⟨_, _, _, _, _, rfl, .ty _, .base (.lst h3), kit_ty (by decide +kernel), Fin.val rl (.bl _) h⟩
  | ro e q => exact h.elim
theorem pe_isi {e : Expr} {x : Str} {ty : Ty} {m : Sl → Store → Res Val} {p p2 pos : Pos} (hg : Gl X "isinstance") (hm : X.mg "isinstance" = none) (hgT : Gl X x) (hmT : X.mg x = none) (hvT : bootBuiltins x = some (.type (tyName ty)))
    (hs : noStar e = true) (ha : PE X e (T X W ca m)) (hn : x ≠ "__name__") (hdb : (x == ("__debug__" : Str)) = false) :
    PE X (.Call (.Name "isinstance" p) [e, .Name x p2] [] pos) (T X W ca fun σ S => (m σ S).bnd fun x S1 => (match isTy S1 x ty with
    | some b => .ok (.bl b) S1
    | none => .bad)) :=
  PE.weak (pe_callB call_isi hg hm PyProof.Rows.boot_isinstance (pa_cons ha (pa_cons (pe_bltn (v := .ty (tyName ty)) hgT hmT hvT rfl hn hdb) pa_nil rfl) (star_cons hs _ X.env)) (by decide) (by decide) (star_cons hs _ X.env) rfl) (one (ok_isi ty))
/-! ### a def called -/
theorem pe_cl {e : Expr} {es : List Expr} {x : Str} {k : Nat} {f : Addr} {fd : FuncData} {ps : List Str} {g : List Val → Store → Res Val} {t : Bool} {ms : Sl → Store → Res (List Val)} {p pos : Pos} (tk : Takes X W)
    (Fk : FnOk X.prog X.w X.K X.mg X.base (L2.CX X.prog X.w) k f fd ps (spec X.K ca g ps.length)) (hr : Room k X.A) (hg : Gl X x) (hm : X.mg x = some (.ref f)) (hk : PySem.W.keepIn X.K (.ref f) = true) (hb : Binds X.K fd ps [])
    (hl : (e :: es).length = ps.length) (hs : (e :: es).all noStar = true) (ha : PA X (e :: es) (TAa X W ca ms)) (hlen : ∀ σ S vs S', ms σ S = .ok vs S' → vs.length = ps.length) (hdb : (x == ("__debug__" : Str)) = false) :
    PE X (.Call (.Name x p) (e :: es) [] pos) (T X W ca fun σ S => (ms σ S).bnd fun vs S1 => (g vs S1).bnd fun v S2 => if t then .ok (thaw v S2).1 (thaw v S2).2 else .ok (frz v) S2) := by
  rw [List.all_cons, Bool.and_eq_true] at hs
  refine PE.weak (pe_callS Fk hr hg hm hk hb (fun σ => passAt tk σ) ha hdb (star_cons hs.1 es X.env) (star_any es hs.2)) fun σ H Q ⟨ι, F, σ', S, rs, rl, q⟩ => ⟨ι, F, σ', S, rs, rl, FinA.bind rs q fun vs S1 ι1 F1 H1 us e1 x1 rs1 rl1 rv1 q1 => ?_⟩
  exact ⟨by rw [← rv1.length]; exact hlen _ _ _ _ e1, vs, ι1, F1, S1, rv1, rl1, FinC.of_fin q1⟩
end
end E

set_option linter.all false
set_option autoImplicit false
set_option Elab.async false
set_option maxHeartbeats 2000000
/-! Soundness: targets, what is walked. -/
namespace E
open PySem PySem.Spec L2
section
variable {X : Cx} {W : WX} {ca : Nat → Addr}
/-! ### targets -/
mutual
/-- the slots of a target -/
def tgS : Tg → List Nat
  | .n i => [i]
  | .t ts => tgSs ts
def tgSs : List Tg → List Nat
  | [] => []
  | t :: ts => tgS t ++ tgSs ts
end
/-- only the slots at l are changed -/
def Out (l : List Nat) (σ σ2 : L2.St) : Prop := σ2.length = σ.length ∧ ∀ i : Nat, i ∉ l → σ2[i]? = σ[i]?
def gM (K : Frag) (tg : Tg) : TG := fun u σ H Q => ∃ ι F σ' S v σ1, RS K ι F σ' σ ∧ RlH K ι F S H ∧ RV K ι F v u ∧ asg S tg v σ' = some σ1 ∧ ∀ σ2, RS K ι F σ1 σ2 → Out (tgS tg) σ σ2 → Q σ2 H
def gMs (K : Frag) (ts : List Tg) : TGs := fun us σ H Q => ∃ ι F σ' S vs σ1, RS K ι F σ' σ ∧ RlH K ι F S H ∧ RVs K ι F vs us ∧ asgs S ts vs σ' = some σ1 ∧ ∀ σ2, RS K ι F σ1 σ2 → Out (tgSs ts) σ σ2 → Q σ2 H
theorem PG.weak {e : Expr} {t t' : TG} (h : PG X e t) (w : ∀ v σ H Q, t' v σ H Q → t v σ H Q) : PG X e t' := ⟨fun pins s σ H v u Q I r q => h.run pins s σ H v u Q I r (w v σ H Q q)⟩
theorem PGs.weak {e : List Expr} {t t' : TGs} (h : PGs X e t) (w : ∀ v σ H Q, t' v σ H Q → t v σ H Q) : PGs X e t' := ⟨fun pins s σ H v u Q I r q => h.run pins s σ H v u Q I r (w v σ H Q q)⟩
theorem PG.or {e : Expr} {t t' : TG} (h : PG X e t) (h' : PG X e t') : PG X e (fun v σ H Q => t v σ H Q ∨ t' v σ H Q) :=
  ⟨fun pins s σ H v u Q I r q => q.elim (h.run pins s σ H v u Q I r) (h'.run pins s σ H v u Q I r)⟩
theorem pg_n {i : Nat} {x : Str} {pos : Pos} (hN : X.N.Nodup) (hi : X.N[i]? = some x) (hx : Loc X.env.scope x) (hf : X.fn x = true ∨ X.env.scope.names.lookup x = some .local) : PG X (.Name x pos) (gM X.K (.n i)) :=
  PG.weak (pg_name hN hi hx hf) fun u σ H Q ⟨ι, F, σ', S, v, σ1, rs, rl, rv, e, q⟩ => by
    unfold asg at e
    split at e
    · cases e
      refine q _ (rs.set rv i) ⟨by rw [List.length_set], fun j hj => ?_⟩
      rw [tgS] at hj
      rw [List.getElem?_set_ne (by intro z; exact hj (by simp [z]))]
    · cases e
theorem assign_cons {e : Expr} (h : noStar e = true) (es : List Expr) (env : Env) : assignEach (e :: es) env = (false, assign e env) :: assignEach es env := by
  cases e <;> first | rfl | cases h
theorem assign_len {env : Env} : ∀ es : List Expr, es.all noStar = true → (assignEach es env).length = es.length
  | [], _ => rfl
  | e :: es, h => by
    rw [List.all_cons, Bool.and_eq_true] at h
    rw [assign_cons h.1, List.length_cons, assign_len es h.2, List.length_cons]
theorem assign_star {env : Env} : ∀ es : List Expr, es.all noStar = true → (assignEach es env).findIdx? (·.1) = none
  | [], _ => rfl
  | e :: es, h => by
    rw [List.all_cons, Bool.and_eq_true] at h
    rw [assign_cons h.1, List.findIdx?_cons]
    simp only [Bool.false_eq_true, if_false, assign_star es h.2]
    rfl
theorem pgs_n : PGs X [] (gMs X.K []) :=
  PGs.weak pgs_nil fun us σ H Q ⟨ι, F, σ', S, vs, σ1, rs, rl, rv, e, q⟩ => by
    cases rv with
    | nil => simp only [asgs] at e; cases e; exact ⟨rfl, q _ rs ⟨rfl, fun _ _ => rfl⟩⟩
    | cons a b => simp only [asgs] at e; cases e
theorem pgs_c {e : Expr} {es : List Expr} {t : Tg} {ts : List Tg} (hs : noStar e = true) (h : PG X e (gM X.K t)) (hr : PGs X es (gMs X.K ts)) : PGs X (e :: es) (gMs X.K (t :: ts)) :=
  PGs.weak (pgs_cons h hr (by rw [assign_cons hs]; rfl)) fun us σ H Q ⟨ι, F, σ', S, vs, σ1, rs, rl, rv, e, q⟩ => by
    cases rv with
    | nil => simp only [asgs] at e; cases e
    | @cons v u vs us a b =>
      simp only [asgs, Option.bind_eq_some_iff] at e
      obtain ⟨σa, e1, e2⟩ := e
      refine ⟨_, _, rfl, ι, F, σ', S, _, σa, rs, rl, a, e1, fun σ2 rs2 o2 => ⟨ι, F, σa, S, _, σ1, rs2, rl, b, e2, fun σ3 rs3 o3 => q σ3 rs3 ⟨o3.1.trans o2.1, fun j hj => ?_⟩⟩⟩
      rw [tgSs, List.mem_append] at hj
      exact (o3.2 j fun z => hj (.inr z)).trans (o2.2 j fun z => hj (.inl z))
theorem asgs_len {S : Store} : ∀ {ts : List Tg} {vs : List Val} {σ σ1 : Sl}, asgs S ts vs σ = some σ1 → vs.length = ts.length
  | [], [], _, _, _ => rfl
  | [], _ :: _, _, _, h => by simp only [asgs] at h; cases h
  | _ :: _, [], _, _, h => by simp only [asgs] at h; cases h
  | t :: ts, v :: vs, σ, σ1, h => by
    simp only [asgs, Option.bind_eq_some_iff] at h
    obtain ⟨_, _, h2⟩ := h
    rw [List.length_cons, List.length_cons, asgs_len h2]
theorem pg_t {es : List Expr} {k : Nat} {pos : Pos} {ts : List Tg} (hc : X.calm = true) (hs : es.all noStar = true) (hl : es.length = ts.length) (h : PGs X es (gMs X.K ts)) : PG X (.Tuple es k pos) (gM X.K (.t ts)) :=
  PG.weak (PG.or (pg_tup hc h (assign_len es hs) (assign_star es hs)) (pg_lst hc h (assign_len es hs) (assign_star es hs))) fun u σ H Q ⟨ι, F, σ', S, v, σ1, rs, rl, rv, e, q⟩ => by
    simp only [asg] at e
    cases rv with
    | @tup a us vs e1 r =>
      simp only [seqOf, look] at e
      exact .inl ⟨_, _, rfl, rl.sub.sqT e1, by rw [← r.length, asgs_len e, hl], ι, F, σ', S, _, σ1, rs, rl, r, e, fun σ2 rs2 o2 => q σ2 rs2 (by rw [tgS]; exact o2)⟩
    | @lst a us vs e1 r =>
      simp only [seqOf, look] at e
      exact .inr ⟨_, _, rfl, .inl (.inl (rl.sub _ _ e1)), by rw [← r.length, asgs_len e, hl], ι, F, σ', S, _, σ1, rs, rl, r, e, fun σ2 rs2 o2 => q σ2 rs2 (by rw [tgS]; exact o2)⟩
    | ref hn =>
      obtain ⟨_, c, o, h2, h3, h4⟩ := rl.trk _ _ hn
      cases h4 with
      | @lst vs us r =>
        simp only [seqOf, look, h2] at e
        exact .inr ⟨_, _, rfl, .inl (.inl h3), by rw [← r.length, asgs_len e, hl], ι, F, σ', S, _, σ1, rs, rl, r, e, fun σ2 rs2 o2 => q σ2 rs2 (by rw [tgS]; exact o2)⟩
    | _ => simp only [seqOf, look] at e; cases e
/-! ### what is walked -/
/-- the walk J gives what the source s tells -/
def ItOk (K : Frag) (ι : List Addr) (F : Hp) (J : It) (s : Src) : Prop :=
  ∀ (i : Nat) (ι' : List Addr) (F' H' : Hp) (S' : Store), ι <+: ι' → SubH F F' → RlH K ι' F' S' H' →
    (srcAt S' s i = some none → J.stop i H') ∧
    ∀ v, srcAt S' s i = some (some v) → J.go i H' ∧ ∀ x H'', J.yld i H' x H'' → ∃ F'', Ex ι' F' H' ι' F'' H'' ∧ RlH K ι' F'' S' H'' ∧ RV K ι' F'' v x
def FinI (K : Frag) (W : WX) (ca : Nat → Addr) (σ : L2.St) (ι : List Addr) (F H : Hp) (r : Res (Src × Nat)) (R : It → Hp → Prop) : Prop := match r with
  | .ok s S' => ∀ ι' F' H' J, Ex ι F H ι' F' H' → RlH K ι' F' S' H' → ItOk K ι' F' J s.1 → R J H'
  | .exc e S' => ∀ ι' F' H', Ex ι F H ι' F' H' → RlH K ι' F' S' H' → W (.ref (ca e.c)) none σ H'
  | .bad => False
def tI (K : Frag) (W : WX) (ca : Nat → Addr) (m : Sl → Store → Res (Src × Nat)) : TI := fun σ H R => ∃ ι F σ' S, RS K ι F σ' σ ∧ RlH K ι F S H ∧ FinI K W ca σ ι F H (m σ' S) R
theorem PI.weak {tg e : Expr} {t t' : TI} (h : PI X tg e t) (w : ∀ σ H R, t' σ H R → t σ H R) : PI X tg e t' := ⟨fun pins s σ H R I q => h.run pins s σ H R I (w σ H R q)⟩
theorem PI.or {tg e : Expr} {t t' : TI} (h : PI X tg e t) (h' : PI X tg e t') : PI X tg e (fun σ H R => t σ H R ∨ t' σ H R) :=
  ⟨fun pins s σ H R I q => q.elim (h.run pins s σ H R I) (h'.run pins s σ H R I)⟩
/-- the source's expressions, then the source -/
def mSrc (k : Ik) (ma mb : Sl → Store → Res Val) : Sl → Store → Res (Src × Nat) := fun σ S => (ma σ S).bnd fun x S1 => (mb σ S1).bnd fun y S2 => ofO (mkSrc S2 k x y) S2
theorem FinI.trans {σ : L2.St} {ι ι1 : List Addr} {F H F1 H1 : Hp} {S1 : Store} {r : Res (Src × Nat)} {R : It → Hp → Prop} (e : Ex ι F H ι1 F1 H1) (r1 : RlH X.K ι1 F1 S1 H1) (h : FinI X.K W ca σ ι F H r R) : FinI X.K W ca σ ι1 F1 H1 r R := by
  have k := e.keeps r1
  cases r with
  | ok v S => exact fun ι' F' H' u x y z => h ι' F' H' u (e.trans x k) y z
  | exc x S => exact fun ι' F' H' x y => h ι' F' H' (e.trans x k) y
  | bad => exact h
theorem FinI.bind {σ : L2.St} {ι : List Addr} {F H : Hp} {σ' : Sl} {r : Res Val} {k : Val → Store → Res (Src × Nat)} {Q : It → Hp → Prop} {R : V → Hp → Prop} (s : RS X.K ι F σ' σ) (h : FinI X.K W ca σ ι F H (r.bnd k) Q)
    (f : ∀ v S' ι' F' H' u, r = .ok v S' → Ex ι F H ι' F' H' → RS X.K ι' F' σ' σ → RlH X.K ι' F' S' H' → RV X.K ι' F' v u → FinI X.K W ca σ ι' F' H' (k v S') Q → R u H') : Fin X.K W ca σ ι F H r R := by
  cases r with
  | ok v S => exact fun ι' F' H' u x y z => f v S ι' F' H' u rfl x (s.mono x.pre x.sub) y z (FinI.trans x y h)
  | exc x S => exact h
  | bad => exact h
/-- a value that is walked -/
theorem itok_fixL {K : Frag} {ι : List Addr} {F : Hp} {a : Addr} {us : List V} {vs : List Val} (e : F a = some (.lst us)) (r : RVs K ι F vs us) : ItOk K ι F (Itl K a) (.fix vs) := by
  intro i ι' F' H' S' hp hF rl
  have e' : SqL K H' a us := .inl (.inl (rl.sub _ _ (hF _ _ e)))
  refine ⟨fun h => ?_, fun v h => ?_⟩
  · simp only [srcAt, Option.some.injEq] at h
    exact ⟨us, e', by rw [← r.length]; exact List.getElem?_eq_none_iff.mp h⟩
  · simp only [srcAt, Option.some.injEq] at h
    obtain ⟨u, h1, h2⟩ := r.get h
    refine ⟨⟨us, u, e', h1⟩, fun x H'' hy => ?_⟩
    obtain ⟨rfl, hx⟩ := hy
    have := hx us e'
    rw [h1] at this; cases this
    exact ⟨F', Ex.refl, rl, h2.mono hp hF⟩
theorem itok_fixT {K : Frag} {ι : List Addr} {F : Hp} {a : Addr} {us : List V} {vs : List Val} (e : SqT K F a us) (r : RVs K ι F vs us) : ItOk K ι F (Itt K a) (.fix vs) := by
  intro i ι' F' H' S' hp hF rl
  have e' : SqT K H' a us := rl.sub.sqT (hF.sqT e)
  refine ⟨fun h => ?_, fun v h => ?_⟩
  · simp only [srcAt, Option.some.injEq] at h
    exact ⟨us, e', by rw [← r.length]; exact List.getElem?_eq_none_iff.mp h⟩
  · simp only [srcAt, Option.some.injEq] at h
    obtain ⟨u, h1, h2⟩ := r.get h
    refine ⟨⟨us, u, e', h1⟩, fun x H'' hy => ?_⟩
    obtain ⟨rfl, hx⟩ := hy
    have := hx us e'
    rw [h1] at this; cases this
    exact ⟨F', Ex.refl, rl, h2.mono hp hF⟩
theorem itok_str {K : Frag} {ι : List Addr} {F : Hp} {s : Tx} (hs : okT s = true) : ItOk K ι F (Its (mkS s)) (.fix (s.map fun c => .str [c])) := by
  intro i ι' F' H' S' hp hF rl
  have hz : (mkS s).cps.size = s.length := by unfold mkS; simp
  refine ⟨fun h => ?_, fun v h => ?_⟩
  · simp only [srcAt, Option.some.injEq, List.getElem?_eq_none_iff, List.length_map] at h
    show (mkS s).cps.size ≤ i
    omega
  · simp only [srcAt, Option.some.injEq, List.getElem?_map, Option.map_eq_some_iff] at h
    obtain ⟨c, h1, rfl⟩ := h
    have hl : i < s.length := (List.getElem?_eq_some_iff.mp h1).1
    refine ⟨show i < (mkS s).cps.size by omega, fun x H'' hy => ?_⟩
    obtain ⟨rfl, d, hd, rfl⟩ := hy
    have : d = c := by
      unfold mkS at hd
      simp only [List.getElem?_toArray] at hd
      rw [h1] at hd; cases hd; rfl
    subst this
    refine ⟨F', Ex.refl, rl, .str [d] (okT_of (fun e m => ?_) (by show 1 ≤ 16777216; decide))⟩
    have : e = d := by simpa using m
    rw [this]; exact okT_all hs d (List.mem_iff_getElem?.mpr ⟨i, h1⟩)
theorem itok_liv {K : Frag} {ι : List Addr} {F : Hp} {n : Nat} {a : Addr} (e : ι[n]? = some a) : ItOk K ι F (Itl K a) (.liv n) := by
  intro i ι' F' H' S' hp hF rl
  obtain ⟨_, c, o, h2, h3, h4⟩ := rl.trk n a (pre_get hp e)
  cases h4 with
  | @lst vs us r =>
    have e' : SqL K H' a us := .inl (.inl h3)
    refine ⟨fun h => ?_, fun v h => ?_⟩
    · simp only [srcAt, h2, Option.some.injEq] at h
      exact ⟨us, e', by rw [← r.length]; exact List.getElem?_eq_none_iff.mp h⟩
    · simp only [srcAt, h2, Option.some.injEq] at h
      obtain ⟨u, h1, h2⟩ := r.get h
      refine ⟨⟨us, u, e', h1⟩, fun x H'' hy => ?_⟩
      obtain ⟨rfl, hx⟩ := hy
      have := hx us e'
      rw [h1] at this; cases this
      exact ⟨F', Ex.refl, rl, h2⟩
theorem itok_up {K : Frag} {ι : List Addr} {F : Hp} {lo : Int} {n : Nat} : ItOk K ι F (Itr lo n) (.fix (rngUp lo n)) := by
  intro i ι' F' H' S' hp hF rl
  refine ⟨fun h => ?_, fun v h => ?_⟩
  · simp only [srcAt, Option.some.injEq, rngUp, List.getElem?_eq_none_iff, List.length_map, List.length_range] at h
    exact h
  · simp only [srcAt, Option.some.injEq, rngUp, List.getElem?_map, Option.map_eq_some_iff] at h
    obtain ⟨j, h1, rfl⟩ := h
    have hl : i < n := by
      have := (List.getElem?_eq_some_iff.mp h1).1
      rw [List.length_range] at this; exact this
    have hj : i = j := by
      rw [List.getElem?_range hl] at h1; cases h1; rfl
    subst hj
    refine ⟨hl, fun x H'' hy => ?_⟩
    obtain ⟨rfl, rfl⟩ := hy
    exact ⟨F', Ex.refl, rl, .int _⟩
theorem itok_dn {K : Frag} {ι : List Addr} {F : Hp} {lo : Int} {n : Nat} : ItOk K ι F (Itc lo (-1) n) (.fix (rngDn lo n)) := by
  intro i ι' F' H' S' hp hF rl
  refine ⟨fun h => ?_, fun v h => ?_⟩
  · simp only [srcAt, Option.some.injEq, rngDn, List.getElem?_eq_none_iff, List.length_map, List.length_range] at h
    exact h
  · simp only [srcAt, Option.some.injEq, rngDn, List.getElem?_map, Option.map_eq_some_iff] at h
    obtain ⟨j, h1, rfl⟩ := h
    have hl : i < n := by
      have := (List.getElem?_eq_some_iff.mp h1).1
      rw [List.length_range] at this; exact this
    have hj : i = j := by
      rw [List.getElem?_range hl] at h1; cases h1; rfl
    subst hj
    refine ⟨hl, fun x H'' hy => ?_⟩
    obtain ⟨rfl, rfl⟩ := hy
    refine ⟨F', Ex.refl, rl, ?_⟩
    have e : lo + (i : Int) * -1 = lo - i := by omega
    rw [e]
    exact .int _
end
end E

set_option linter.all false
set_option autoImplicit false
set_option Elab.async false
set_option maxHeartbeats 2000000
/-! Soundness: sources, loops, comprehensions. -/
namespace E
open PySem PySem.Spec L2
section
variable {X : Cx} {W : WX} {ca : Nat → Addr}
abbrev mNon : Sl → Store → Res Val := fun _ S => .ok .non S
abbrev TIi (X : Cx) (W : WX) (ca : Nat → Addr) (m : Sl → Store → Res (Src × Nat)) : TI := tI X.K W ca m
theorem pi_v {tg e : Expr} {m : Sl → Store → Res Val} (he : PE X e (T X W ca m)) : PI X tg e (TIi X W ca (mSrc .val m mNon)) := by
  refine PI.weak (PI.or (pi_list he) (PI.or (pi_tup he) (pi_str he))) fun σ H R ⟨ι, F, σ', S, rs, rl, q⟩ => ?_
  unfold mSrc at q
  cases e1 : m σ' S with
  | bad => rw [e1] at q; exact q.elim
  | exc x S1 => refine .inl ⟨ι, F, σ', S, rs, rl, ?_⟩; rw [e1] at q ⊢; exact q
  | ok v S1 =>
    have q0 := q
    rw [e1] at q
    change FinI X.K W ca σ ι F H (ofO (mkSrc S1 .val v .non) S1) R at q
    cases v with
    | lst o vs =>
      refine .inl ⟨ι, F, σ', S, rs, rl, FinI.bind rs q0 fun v' S1' ι1 F1 H1 u e2 x1 rs1 rl1 rv1 q1 => ?_⟩
      rw [e1] at e2; cases e2
      cases rv1 with
      | lst e3 r => exact ⟨_, rfl, ⟨_, .inl (.inl (rl1.sub _ _ e3))⟩, q1 ι1 F1 H1 _ Ex.refl rl1 (itok_fixL e3 r)⟩
    | tup vs =>
      refine .inr (.inl ⟨ι, F, σ', S, rs, rl, FinI.bind rs q0 fun v' S1' ι1 F1 H1 u e2 x1 rs1 rl1 rv1 q1 => ?_⟩)
      rw [e1] at e2; cases e2
      cases rv1 with
      | tup e3 r => exact ⟨_, rfl, ⟨_, rl1.sub.sqT e3⟩, q1 ι1 F1 H1 _ Ex.refl rl1 (itok_fixT e3 r)⟩
    | str s =>
      refine .inr (.inr ⟨ι, F, σ', S, rs, rl, FinI.bind rs q0 fun v' S1' ι1 F1 H1 u e2 x1 rs1 rl1 rv1 q1 => ?_⟩)
      rw [e1] at e2; cases e2
      cases rv1 with
      | str _ hs => exact ⟨_, rfl, q1 ι1 F1 H1 _ Ex.refl rl1 (itok_str hs)⟩
    | ref n =>
      refine .inl ⟨ι, F, σ', S, rs, rl, FinI.bind rs q0 fun v' S1' ι1 F1 H1 u e2 x1 rs1 rl1 rv1 q1 => ?_⟩
      rw [e1] at e2; cases e2
      cases rv1 with
      | ref hn =>
        obtain ⟨_, c, o, h2, h3, h4⟩ := rl1.trk _ _ hn
        cases h4 with
        | lst r =>
          change FinI X.K W ca σ ι1 F1 H1 (ofO (mkSrc _ .val (.ref n) .non) _) R at q1
          simp only [mkSrc, h2] at q1
          exact ⟨_, rfl, ⟨_, .inl (.inl h3)⟩, q1 ι1 F1 H1 _ Ex.refl rl1 (itok_liv hn)⟩
    | dic o ks vs =>
      refine .inl ⟨ι, F, σ', S, rs, rl, FinI.bind rs q0 fun v' S1' ι1 F1 H1 u e2 x1 rs1 rl1 rv1 q1 => ?_⟩
      rw [e1] at e2; cases e2
      cases rv1
    | _ => exact q.elim
theorem lim_of {i : Int} (h : lim62 i = true) : -(2 ^ 62) ≤ i ∧ i < 2 ^ 62 := by
  unfold lim62 at h
  rw [Bool.and_eq_true] at h
  exact ⟨of_decide_eq_true h.1, of_decide_eq_true h.2⟩
theorem pi_1 {tg e : Expr} {p pos : Pos} {m : Sl → Store → Res Val} (hg : Gl X "range") (hm : X.mg "range" = none) (hs : noStar e = true) (he : PE X e (T X W ca m)) : PI X tg (.Call (.Name "range" p) [e] [] pos) (TIi X W ca (mSrc .r1 m mNon)) := by
  refine PI.weak (pi_range1 hg hm (pa_cons he pa_nil (star_cons hs [] X.env)) (star_cons hs [] X.env)) fun σ H R ⟨ι, F, σ', S, rs, rl, q⟩ => ?_
  refine ⟨ι, F, σ', S, rs, rl, FinI.bind rs q fun v S1 ι1 F1 H1 u e2 x1 rs1 rl1 rv1 q1 => ?_⟩
  change FinI X.K W ca σ ι1 F1 H1 (ofO (mkSrc S1 .r1 v .non) S1) R at q1
  cases rv1 with
  | int j =>
    simp only [mkSrc] at q1
    by_cases hl : lim62 j = true
    · rw [if_pos hl] at q1
      obtain ⟨h1, h2⟩ := lim_of hl
      exact ⟨j, rfl, h1, h2, q1 ι1 F1 H1 _ Ex.refl rl1 itok_up⟩
    · rw [if_neg hl] at q1; exact q1.elim
  | _ => exact q1.elim
theorem pi_2 {tg e e' : Expr} {p pos : Pos} {m m' : Sl → Store → Res Val} (hg : Gl X "range") (hm : X.mg "range" = none) (hs : noStar e = true) (hs' : noStar e' = true) (he : PE X e (T X W ca m)) (he' : PE X e' (T X W ca m')) :
    PI X tg (.Call (.Name "range" p) [e, e'] [] pos) (TIi X W ca (mSrc .r2 m m')) := by
  refine PI.weak (pi_range2 hg hm (pa_cons he (pa_cons he' pa_nil (star_cons hs' [] X.env)) (star_cons hs _ X.env)) (by rw [star_cons hs, star_cons hs']; rfl) (star_cons hs' [] X.env)) fun σ H R ⟨ι, F, σ', S, rs, rl, q⟩ => ?_
  refine ⟨ι, F, σ', S, rs, rl, FinI.bind rs q fun v S1 ι1 F1 H1 u e2 x1 rs1 rl1 rv1 q1 => ?_⟩
  refine ⟨ι1, F1, σ', S1, rs1, rl1, FinI.bind rs1 q1 fun v2 S2 ι2 F2 H2 u2 e3 x2 rs2 rl2 rv2 q2 => ?_⟩
  change FinI X.K W ca σ ι2 F2 H2 (ofO (mkSrc S2 .r2 v v2) S2) R at q2
  cases rv1 with
  | int i =>
    cases rv2 with
    | int j =>
      simp only [mkSrc] at q2
      by_cases hl : (lim62 i && lim62 j) = true
      · rw [if_pos hl] at q2
        rw [Bool.and_eq_true] at hl
        obtain ⟨h1, h2⟩ := lim_of hl.1
        obtain ⟨h3, h4⟩ := lim_of hl.2
        exact ⟨i, j, rfl, ⟨h1, h2, h3, h4⟩, q2 ι2 F2 H2 _ Ex.refl rl2 itok_up⟩
      · rw [if_neg hl] at q2; exact q2.elim
    | _ => exact q2.elim
  | _ => exact q2.elim
theorem pi_3 {tg e e' : Expr} {p p2 p3 pos : Pos} {j3 : Nat} {m m' : Sl → Store → Res Val} (hg : Gl X "range") (hm : X.mg "range" = none) (hs : noStar e = true) (hs' : noStar e' = true) (he : PE X e (T X W ca m)) (he' : PE X e' (T X W ca m')) :
    PI X tg (.Call (.Name "range" p) [e, e', .UnaryOp .USub (.Constant (.int 1) j3 p2) p3] [] pos) (TIi X W ca (mSrc .r3 m m')) := by
  refine PI.weak (pi_range3 hg hm (pa_cons he (pa_cons he' (pa_cons (pe_un un_neg pe_int) pa_nil rfl) (star_cons hs' _ X.env)) (star_cons hs _ X.env)) (star_cons hs _ X.env) (star_any _ (by rw [List.all_cons, hs']; rfl))) fun σ H R ⟨ι, F, σ', S, rs, rl, q⟩ => ?_
  refine ⟨ι, F, σ', S, rs, rl, FinI.bind rs q fun v S1 ι1 F1 H1 u e2 x1 rs1 rl1 rv1 q1 => ?_⟩
  refine ⟨ι1, F1, σ', S1, rs1, rl1, FinI.bind rs1 q1 fun v2 S2 ι2 F2 H2 u2 e3 x2 rs2 rl2 rv2 q2 => ?_⟩
  change FinI X.K W ca σ ι2 F2 H2 (ofO (mkSrc S2 .r3 v v2) S2) R at q2
  refine ⟨1, rfl, ?_⟩
  cases rv1 with
  | int i =>
    cases rv2 with
    | int j =>
      simp only [mkSrc] at q2
      by_cases hl : (lim62 i && lim62 j) = true
      · rw [if_pos hl] at q2
        rw [Bool.and_eq_true] at hl
        obtain ⟨h1, h2⟩ := lim_of hl.1
        obtain ⟨h3, h4⟩ := lim_of hl.2
        exact ⟨i, j, -1, _, rfl, RgC.neg h1 h2 h3 h4, q2 ι2 F2 H2 _ Ex.refl rl2 itok_dn⟩
      · rw [if_neg hl] at q2; exact q2.elim
    | _ => exact q2.elim
  | _ => exact q2.elim
theorem itok_enu {K : Frag} {ι : List Addr} {F : Hp} {x : Val} {a : Addr} (r : RV K ι F x (.ref a)) : ItOk K ι F (Ite K a) (.enu x) := by
  intro i ι' F' H' S' hp hF rl
  refine ⟨fun h => ?_, fun v h => ?_⟩
  · simp only [srcAt] at h
    cases e : lstOf S' x with
    | none => rw [e] at h; cases h
    | some vs =>
      rw [e] at h
      obtain ⟨b, us, eb, h3, q⟩ := lstOf_rv rl (r.mono hp hF) e
      cases eb
      simp only [Option.some.injEq, Option.map_eq_none_iff, List.getElem?_eq_none_iff] at h
      exact ⟨us, .inl (.inl h3), by rw [← q.length]; exact h⟩
  · simp only [srcAt] at h
    cases e : lstOf S' x with
    | none => rw [e] at h; cases h
    | some vs =>
      rw [e] at h
      obtain ⟨b, us, eb, h3, q⟩ := lstOf_rv rl (r.mono hp hF) e
      cases eb
      simp only [Option.some.injEq, Option.map_eq_some_iff] at h
      obtain ⟨w, h1, rfl⟩ := h
      obtain ⟨u, h4, h5⟩ := q.get h1
      have e' : SqL K H' a us := .inl (.inl h3)
      refine ⟨⟨us, u, e', h4⟩, fun y H'' hy => ?_⟩
      obtain ⟨T, z, rfl, nT, rfl, hz⟩ := hy
      have := hz us e'
      rw [h4] at this; cases this
      exact ⟨_, Ex.pushF rl nT _, rl.pushF nT _, .tup (.inl (.inl upd_same)) (.cons (.int _) (.cons (h5.mono List.prefix_rfl (subH_upd (rl.sub.none nT))) .nil))⟩
theorem lstOf_ref {K : Frag} {ι : List Addr} {F H : Hp} {S : Store} {x : Val} {u : V} {vs : List Val} (rl : RlH K ι F S H) (r : RV K ι F x u) (h : lstOf S x = some vs) : ∃ a us, u = .ref a ∧ SqL K H a us ∧ RVs K ι F vs us := by
  obtain ⟨a, us, h1, h2, h3⟩ := lstOf_rv rl r h
  exact ⟨a, us, h1, .inl (.inl h2), h3⟩
theorem pi_e {e : Expr} {elts : List Expr} {kk : Nat} {tpos p pos : Pos} {m : Sl → Store → Res Val} (hg : Gl X "enumerate") (hm : X.mg "enumerate" = none) (hs : noStar e = true) (he : PE X e (T X W ca m)) :
    PI X (.Tuple elts kk tpos) (.Call (.Name "enumerate" p) [e] [] pos) (TIi X W ca (mSrc .enu m mNon)) := by
  refine PI.weak (pi_enum hg hm (pa_cons he pa_nil (star_cons hs [] X.env)) (star_cons hs [] X.env)) fun σ H R ⟨ι, F, σ', S, rs, rl, q⟩ => ?_
  refine ⟨ι, F, σ', S, rs, rl, FinI.bind rs q fun v S1 ι1 F1 H1 u e2 x1 rs1 rl1 rv1 q1 => ?_⟩
  change FinI X.K W ca σ ι1 F1 H1 (ofO (mkSrc S1 .enu v .non) S1) R at q1
  simp only [mkSrc] at q1
  cases e3 : lstOf S1 v with
  | none => rw [e3] at q1; exact q1.elim
  | some vs =>
    rw [e3] at q1
    obtain ⟨a, us, rfl, h2, h3⟩ := lstOf_ref rl1 rv1 e3
    exact ⟨a, us, rfl, h2, q1 ι1 F1 H1 _ Ex.refl rl1 (itok_enu rv1)⟩
theorem itok_zip {K : Frag} {ι : List Addr} {F : Hp} {x y : Val} {a b : Addr} (r : RV K ι F x (.ref a)) (r' : RV K ι F y (.ref b)) : ItOk K ι F (Itz K a b) (.zip x y) := by
  intro i ι' F' H' S' hp hF rl
  have key : ∀ {o}, srcAt S' (.zip x y) i = some o → ∃ vs ws us zs, H' a = some (.lst us) ∧ H' b = some (.lst zs) ∧ RVs K ι' F' vs us ∧ RVs K ι' F' ws zs ∧ (match vs[i]?, ws[i]? with
      | some v, some w => some (some (Val.tup [v, w]))
      | _, _ => some none) = some o := by
    intro o h
    simp only [srcAt] at h
    cases e : lstOf S' x with
    | none => rw [e] at h; cases h
    | some vs =>
      cases e2 : lstOf S' y with
      | none => rw [e, e2] at h; cases h
      | some ws =>
        rw [e, e2] at h
        obtain ⟨_, us, eb, h3, q⟩ := lstOf_rv rl (r.mono hp hF) e
        cases eb
        obtain ⟨_, zs, eb, h4, q'⟩ := lstOf_rv rl (r'.mono hp hF) e2
        cases eb
        exact ⟨vs, ws, us, zs, h3, h4, q, q', h⟩
  refine ⟨fun h => ?_, fun v h => ?_⟩
  · obtain ⟨vs, ws, us, zs, h3, h4, q, q', h⟩ := key h
    refine ⟨us, zs, .inl (.inl h3), .inl (.inl h4), ?_⟩
    cases e : vs[i]? with
    | none => exact .inl (by rw [← q.length]; exact List.getElem?_eq_none_iff.mp e)
    | some v =>
      cases e2 : ws[i]? with
      | none => exact .inr (by rw [← q'.length]; exact List.getElem?_eq_none_iff.mp e2)
      | some w => rw [e, e2] at h; cases h
  · obtain ⟨vs, ws, us, zs, h3, h4, q, q', h⟩ := key h
    cases e : vs[i]? with
    | none => rw [e] at h; cases h
    | some p =>
      cases e2 : ws[i]? with
      | none => rw [e, e2] at h; cases h
      | some w =>
        rw [e, e2] at h; cases h
        obtain ⟨u, g1, g2⟩ := q.get e
        obtain ⟨u', g3, g4⟩ := q'.get e2
        have ea : SqL K H' a us := .inl (.inl h3)
        have eb : SqL K H' b zs := .inl (.inl h4)
        refine ⟨⟨us, zs, u, u', ea, eb, g1, g3⟩, fun y' H'' hy => ?_⟩
        obtain ⟨T, z1, z2, rfl, nT, rfl, k1, k2⟩ := hy
        have := k1 us ea
        rw [g1] at this; cases this
        have := k2 zs eb
        rw [g3] at this; cases this
        have hs := subH_upd (o := HO.tup [u, u']) (rl.sub.none nT)
        exact ⟨_, Ex.pushF rl nT _, rl.pushF nT _, .tup (.inl (.inl upd_same)) (.cons (g2.mono List.prefix_rfl hs) (.cons (g4.mono List.prefix_rfl hs) .nil))⟩
theorem pi_z {e e' : Expr} {elts : List Expr} {kk : Nat} {tpos p pos : Pos} {m m' : Sl → Store → Res Val} (hg : Gl X "zip") (hm : X.mg "zip" = none) (hs : noStar e = true) (hs' : noStar e' = true) (he : PE X e (T X W ca m)) (he' : PE X e' (T X W ca m')) :
    PI X (.Tuple elts kk tpos) (.Call (.Name "zip" p) [e, e'] [] pos) (TIi X W ca (mSrc .zip m m')) := by
  refine PI.weak (pi_zip hg hm (pa_cons he (pa_cons he' pa_nil (star_cons hs' [] X.env)) (star_cons hs _ X.env)) (star_cons hs _ X.env) (star_any _ (by rw [List.all_cons, hs']; rfl))) fun σ H R ⟨ι, F, σ', S, rs, rl, q⟩ => ?_
  refine ⟨ι, F, σ', S, rs, rl, FinI.bind rs q fun v S1 ι1 F1 H1 u e2 x1 rs1 rl1 rv1 q1 => ?_⟩
  refine ⟨ι1, F1, σ', S1, rs1, rl1, FinI.bind rs1 q1 fun v2 S2 ι2 F2 H2 u2 e3 x2 rs2 rl2 rv2 q2 => ?_⟩
  change FinI X.K W ca σ ι2 F2 H2 (ofO (mkSrc S2 .zip v v2) S2) R at q2
  simp only [mkSrc] at q2
  have rv1' := rv1.mono x2.pre x2.sub
  cases e4 : lstOf S2 v with
  | none => rw [e4] at q2; exact q2.elim
  | some vs =>
    cases e5 : lstOf S2 v2 with
    | none => rw [e4, e5] at q2; exact q2.elim
    | some ws =>
      rw [e4, e5] at q2
      obtain ⟨a, us, rfl, h2, h3⟩ := lstOf_ref rl2 rv1' e4
      obtain ⟨b, zs, rfl, h4, h5⟩ := lstOf_ref rl2 rv2 e5
      exact ⟨a, b, us, zs, rfl, h2, h4, q2 ι2 F2 H2 _ Ex.refl rl2 (itok_zip rv1' rv2)⟩
theorem itok_rev {K : Frag} {ι : List Addr} {F : Hp} {a : Addr} {us : List V} {vs : List Val} (e : F a = some (.lst us)) (r : RVs K ι F vs us) : ItOk K ι F (Itv K a us.length) (.fix vs.reverse) := by
  intro i ι' F' H' S' hp hF rl
  have e' : SqL K H' a us := .inl (.inl (rl.sub _ _ (hF _ _ e)))
  refine ⟨fun h => ?_, fun v h => ?_⟩
  · simp only [srcAt, Option.some.injEq, List.getElem?_eq_none_iff, List.length_reverse] at h
    show us.length ≤ i
    rw [← r.length]; exact h
  · simp only [srcAt, Option.some.injEq] at h
    have hl : i < vs.length := by
      have := (List.getElem?_eq_some_iff.mp h).1
      rw [List.length_reverse] at this; exact this
    rw [List.getElem?_reverse hl] at h
    obtain ⟨u, h1, h2⟩ := r.get h
    rw [r.length] at h1 hl
    refine ⟨⟨hl, us, u, e', h1⟩, fun x H'' hy => ?_⟩
    obtain ⟨rfl, hx⟩ := hy
    have := hx us e'
    rw [h1] at this; cases this
    exact ⟨F', Ex.refl, rl, h2.mono hp hF⟩
theorem pi_r {tg e : Expr} {p pos : Pos} {m : Sl → Store → Res Val} (hg : Gl X "reversed") (hm : X.mg "reversed" = none) (hs : noStar e = true) (he : PE X e (T X W ca m)) :
    PI X tg (.Call (.Name "reversed" p) [e] [] pos) (TIi X W ca (mSrc .rev m mNon)) := by
  refine PI.weak (pi_reversed hg hm (pa_cons he pa_nil (star_cons hs [] X.env)) (star_cons hs [] X.env)) fun σ H R ⟨ι, F, σ', S, rs, rl, q⟩ => ?_
  refine ⟨ι, F, σ', S, rs, rl, FinI.bind rs q fun v S1 ι1 F1 H1 u e2 x1 rs1 rl1 rv1 q1 => ?_⟩
  change FinI X.K W ca σ ι1 F1 H1 (ofO (mkSrc S1 .rev v .non) S1) R at q1
  cases rv1 with
  | lst e3 r => exact ⟨_, _, rfl, .inl (.inl (rl1.sub _ _ e3)), q1 ι1 F1 H1 _ Ex.refl rl1 (itok_rev e3 r)⟩
  | _ => exact q1.elim
/-! ### for -/
def mFor (mi : Sl → Store → Res (Src × Nat)) (tg : Tg) (mb : Sl → Store → Fl) : Sl → Store → Fl := fun σ S => (mi σ S).fl σ fun s S2 => lp mb tg s.1 s.2 0 σ S2
theorem ps_fr {tgE iter : Expr} {body : List Stmt} {pos : Pos} {mi : Sl → Store → Res (Src × Nat)} {tg : Tg} {mb : Sl → Store → Fl} (hp : PassesOwn (model X.prog X.w) X.A X.env X.xe) (hc : X.calm = true) (hi : PI X tgE iter (TIi X W ca mi)) (hg : PG X tgE (gM X.K tg)) (hb : PSs X body (tMS X.K W ca mb))
    (hs : ∀ x, foldedSetIterable iter X.env x = pure x) : PS X (.For tgE iter body [] pos) (tMS X.K W ca (mFor mi tg mb)) := by
  refine PS.weak (ps_for hp hc hi hg hb hs) fun D σ H ⟨ι, F, σ', S, rs, rl, q⟩ => ⟨ι, F, σ', S, rs, rl, ?_⟩
  unfold mFor at q
  cases e1 : mi σ' S with
  | bad => rw [e1] at q; exact q.elim
  | exc x S1 =>
    rw [e1] at q
    exact fun ι' F' H' x y => q ι' F' H' σ x (rs.mono x.pre x.sub) y
  | ok s S1 =>
    rw [e1] at q
    change FinS X.K W ca ι F H (lp mb tg s.1 s.2 0 σ' S1) D at q
    intro ι1 F1 H1 J x1 rl1 it
    have q1 := FinS.trans x1 rl1 q
    refine ⟨fun i m σx Hx => ∃ ι2 F2 σ2' S2, ι1 <+: ι2 ∧ SubH F1 F2 ∧ RS X.K ι2 F2 σ2' σx ∧ RlH X.K ι2 F2 S2 Hx ∧ FinS X.K W ca ι2 F2 Hx (lp mb tg s.1 m i σ2' S2) D,
      ⟨s.2, ι1, F1, σ', S1, List.prefix_rfl, SubH.refl _, rs.mono x1.pre x1.sub, rl1, q1⟩, fun i m σx Hx hW => ?_⟩
    obtain ⟨ι2, F2, σ2', S2, hp2, hF2, rs2, rl2, q2⟩ := hW
    cases m with
    | zero => exact q2.elim
    | succ k =>
      unfold lp at q2
      have it2 := it i ι2 F2 Hx S2 hp2 hF2 rl2
      cases e2 : srcAt S2 s.1 i with
      | none => rw [e2] at q2; exact q2.elim
      | some o =>
        rw [e2] at q2
        cases o with
        | none => exact .inl ⟨it2.1 e2, q2 ι2 F2 Hx σx Ex.refl rs2 rl2⟩
        | some v =>
          obtain ⟨hgo, hyl⟩ := it2.2 v e2
          simp only at q2
          cases e3 : asg S2 tg v σ2' with
          | none => rw [e3] at q2; exact q2.elim
          | some σ1 =>
            rw [e3] at q2
            change FinS X.K W ca ι2 F2 Hx ((mb σ1 S2).bnd fun σ2 S2 => lp mb tg s.1 k (i + 1) σ2 S2) D at q2
            refine .inr ⟨hgo, fun σy Hy => ∃ ι3 F3 σ3' S3, ι1 <+: ι3 ∧ SubH F1 F3 ∧ RS X.K ι3 F3 σ3' σy ∧ RlH X.K ι3 F3 S3 Hy ∧ FinS X.K W ca ι3 F3 Hy (lp mb tg s.1 k (i + 1) σ3' S3) D,
              fun σy Hy h => ⟨k, Nat.lt_succ_self k, h⟩, fun x Hy hy => ?_⟩
            obtain ⟨F3, x3, rl3, rv3⟩ := hyl x Hy hy
            refine ⟨ι2, F3, σ2', S2, v, σ1, rs2.mono x3.pre x3.sub, rl3, rv3, e3, fun σ4 rs4 _ => ⟨ι2, F3, σ1, S2, rs4, rl3, ?_⟩⟩
            have q3 := FinS.trans x3 rl3 q2
            cases e4 : mb σ1 S2 with
            | bad => rw [e4] at q3; exact q3.elim
            | rt w S5 => rw [e4] at q3; exact q3
            | exc ee σ5 S5 => rw [e4] at q3; exact q3
            | nx σ5 S5 =>
              rw [e4] at q3
              exact fun ι5 F5 H5 σ6 x5 rs5 rl5 => ⟨ι5, F5, σ5, S5, hp2.trans x5.pre, hF2.trans (x3.sub.trans x5.sub), rs5, rl5, FinS.trans x5 rl5 q3⟩
end
end E

set_option linter.all false
set_option autoImplicit false
set_option Elab.async false
set_option maxHeartbeats 2000000
/-! Soundness: comprehensions, statements. -/
namespace E
open PySem PySem.Spec L2
section
variable {X : Cx} {W : WX} {ca : Nat → Addr}
/-! ### slots wiped -/
theorem wipe_len (σ : Sl) : ∀ vs : List Nat, (E.wipe σ vs).length = σ.length
  | [] => rfl
  | v :: vs => by unfold E.wipe; rw [List.length_set, wipe_len σ vs]
theorem RS.setN {K : Frag} {ι : List Addr} {F : Hp} {σ' : Sl} {σ : L2.St} (r : RS K ι F σ' σ) (i : Nat) : RS K ι F (σ'.set i none) (σ.set i none) where
  len := by rw [List.length_set, List.length_set, r.len]
  at_ := fun j w e => by
    by_cases hj : i = j
    · subst hj
      have hl : i < σ'.length := by
        have := (List.getElem?_eq_some_iff.mp e).1
        rw [List.length_set] at this; exact this
      rw [List.getElem?_set_self hl] at e
      cases e
    · rw [List.getElem?_set_ne hj] at e
      obtain ⟨u', h1, h2⟩ := r.at_ j w e
      exact ⟨u', by rw [List.getElem?_set_ne hj]; exact h1, h2⟩
theorem RS.wipe {K : Frag} {ι : List Addr} {F : Hp} {σ' : Sl} {σ : L2.St} (r : RS K ι F σ' σ) : ∀ vs : List Nat, RS K ι F (E.wipe σ' vs) (L2.wipe σ vs)
  | [] => r
  | v :: vs => by unfold E.wipe L2.wipe; exact (RS.wipe r vs).setN v
theorem wipe_in {σ : L2.St} {i : Nat} : ∀ {vs : List Nat}, i ∈ vs → (L2.wipe σ vs)[i]? = if i < σ.length then some none else none
  | [], h => nomatch h
  | v :: vs, h => by
    unfold L2.wipe
    by_cases hv : v = i
    · subst hv
      by_cases hl : v < σ.length
      · rw [if_pos hl, List.getElem?_set_self (by rw [wipe_length]; exact hl)]
      · rw [if_neg hl]
        exact List.getElem?_eq_none_iff.mpr (by rw [List.length_set, wipe_length]; omega)
    · rw [List.getElem?_set_ne hv]
      rcases List.mem_cons.mp h with z | z
      · exact absurd z.symm hv
      · exact wipe_in z
theorem wipe_same {σ σ2 : L2.St} {l vs : List Nat} (h : Out l (L2.wipe σ vs) σ2) (hs : ∀ i ∈ l, i ∈ vs) : L2.wipe σ2 vs = L2.wipe σ vs := by
  refine List.ext_getElem? fun i => ?_
  have hl : σ2.length = σ.length := by rw [h.1, wipe_length]
  by_cases hi : i ∈ vs
  · rw [wipe_in hi, wipe_in hi, hl]
  · rw [wipe_out hi, h.2 i fun z => hi (hs i z), wipe_out hi]
abbrev Wf : WX := fun _ _ _ _ => False
/-! ### a comprehension -/
def finL (t : Bool) (r : Res (List Val)) : Res Val := match r with
  | .ok acc S3 => newL t acc S3
  | _ => .bad
def mLc (t : Bool) (ow : List Nat) (tg : Tg) (mi : Sl → Store → Res (Src × Nat)) (mc : Sl → Store → Res Bool) (me : Sl → Store → Res Val) : Sl → Store → Res Val := fun σ S => (mi σ S).bnd fun s S2 => finL t (lcl me mc tg s.1 (E.wipe σ ow) s.2 0 [] S2)
/-- an object that is neither tracked nor frozen is written -/
theorem RlH.aside {K : Frag} {ι : List Addr} {F H : Hp} {S : Store} (rl : RlH K ι F S H) {D : Addr} (hi : D ∉ ι) (hF : F D = none) (o : HO) : RlH K ι F S (L2.upd H D o) where
  sub := fun a x e => by rw [upd_ne (ne_of_none e hF)]; exact rl.sub _ _ e
  nd := rl.nd
  len := rl.len
  trk := fun n a e => by
    obtain ⟨h1, c, o', h2, h3, h4⟩ := rl.trk n a e
    have : a ≠ D := fun z => hi (z ▸ List.mem_iff_getElem?.mpr ⟨n, e⟩)
    exact ⟨h1, c, o', h2, by rw [upd_ne this]; exact h3, h4⟩
theorem Ex.aside {ι ι' : List Addr} {F H F' H' : Hp} (e : Ex ι F H ι' F' H') {D : Addr} (hD : H D = none) (o : HO) : Ex ι F H ι' F' (L2.upd H' D o) :=
  ⟨e.pre, e.sub, fun a x h n => by rw [upd_ne (ne_of_none h hD)]; exact e.frame a x h n, e.new, e.newF⟩
/-- the new list is done -/
theorem done_ok {t : Bool} {σ : L2.St} {ι ι1 : List Addr} {F H F1 H1 : Hp} {S1 : Store} {acc : List Val} {us : List V} {D : Addr} {Q : VK} (x : Ex ι F H ι1 F1 H1) (rl : RlH X.K ι1 F1 S1 H1) (hD : H D = none) (hi : D ∉ ι1) (hF : F1 D = none) (e : H1 D = some (.lst us)) (rv : RVs X.K ι1 F1 acc us)
    (h : Fin X.K W ca σ ι F H (newL t acc S1) Q) : Q (.ref D) H1 := by
  unfold newL at h
  by_cases hz : acc.length ≤ SZ
  · rw [if_pos hz] at h
    cases t with
    | true =>
      refine h (ι1 ++ [D]) F1 H1 _ ⟨x.pre.trans (List.prefix_append _ _), x.sub, x.frame, fun a m => ?_, x.newF⟩ (rl.adopt e hi hF (.lst (rv.mono (List.prefix_append _ _) (SubH.refl _)))) (.ref (by rw [← rl.len, List.getElem?_append_right (Nat.le_refl _)]; simp))
      rcases List.mem_append.mp m with z | z
      · exact x.new a z
      · have : a = D := by simpa using z
        rw [this]; exact .inr hD
    | false =>
      have hs : SubH F1 (L2.upd F1 D (.lst us)) := subH_upd hF
      refine h ι1 (L2.upd F1 D (.lst us)) H1 _ ⟨x.pre, x.sub.trans hs, x.frame, x.new, fun a o z => ?_⟩ ⟨fun a o z => ?_, rl.nd, rl.len, fun n a z => ?_⟩ (.lst upd_same (rv.mono List.prefix_rfl hs))
      · by_cases ha : a = D
        · subst ha; exact .inr hD
        · rw [upd_ne ha] at z; exact x.newF a o z
      · by_cases ha : a = D
        · subst ha; rw [upd_same] at z; cases z; exact e
        · rw [upd_ne ha] at z; exact rl.sub a o z
      · obtain ⟨g1, c, o, g2, g3, g4⟩ := rl.trk n a z
        have : a ≠ D := fun w => hi (w ▸ List.mem_iff_getElem?.mpr ⟨n, z⟩)
        exact ⟨by rw [upd_ne this]; exact g1, c, o, g2, g3, g4.mono List.prefix_rfl hs⟩
  · rw [if_neg hz] at h; exact h.elim
theorem lc_ok {t : Bool} {ow : List Nat} {tg : Tg} {mi : Sl → Store → Res (Src × Nat)} {mc : Sl → Store → Res Bool} {me : Sl → Store → Res Val} (hs : ∀ i ∈ tgS tg, i ∈ ow) (σ : L2.St) (H : Hp) (Q : VK) (h : T X W ca (mLc t ow tg mi mc me) σ H Q) :
    tLc (TIi X W ca mi) (gM X.K tg) (tMT X.K Wf ca mc) (tM X.K Wf ca me) ow σ H Q := by
  obtain ⟨ι, F, σ', S, rs, rl, q⟩ := h
  refine ⟨ι, F, σ', S, rs, rl, ?_⟩
  unfold mLc at q
  cases e1 : mi σ' S with
  | bad => rw [e1] at q; exact q.elim
  | exc x S1 => rw [e1] at q; exact q
  | ok s S1 =>
    rw [e1] at q
    change Fin X.K W ca σ ι F H (finL t (lcl me mc tg s.1 (E.wipe σ' ow) s.2 0 [] S1)) Q at q
    intro ι1 F1 H1 J x1 rl1 it D hD
    have q1 := Fin.trans x1 rl1 q
    have nD : D ∉ ι1 := rl1.notin hD
    have fD : F1 D = none := rl1.sub.none hD
    have rs1 := rs.mono x1.pre x1.sub
    refine ⟨fun i m Hx => ∃ ι2 F2 S2 acc us, Ex ι1 F1 H1 ι2 F2 Hx ∧ RlH X.K ι2 F2 S2 Hx ∧ D ∉ ι2 ∧ F2 D = none ∧ Hx D = some (.lst us) ∧ RVs X.K ι2 F2 acc us ∧ Fin X.K W ca σ ι1 F1 H1 (finL t (lcl me mc tg s.1 (E.wipe σ' ow) m i acc S2)) Q,
      ⟨s.2, ι1, F1, S1, [], [], Ex.refl.aside hD _, rl1.aside nD fD _, nD, fD, upd_same, .nil, q1⟩, fun i m Hx hW => ?_⟩
    obtain ⟨ι2, F2, S2, acc, us, x2, rl2, nD2, fD2, eD, racc, q2⟩ := hW
    cases m with
    | zero => exact q2.elim
    | succ k =>
      unfold lcl at q2
      have it2 := it i ι2 F2 Hx S2 x2.pre x2.sub rl2
      cases e2 : srcAt S2 s.1 i with
      | none => rw [e2] at q2; exact q2.elim
      | some o =>
        rw [e2] at q2
        cases o with
        | none => exact .inl ⟨it2.1 e2, done_ok x2 rl2 hD nD2 fD2 eD racc q2⟩
        | some v =>
          obtain ⟨hgo, hyl⟩ := it2.2 v e2
          simp only at q2
          cases e3 : asg S2 tg v (E.wipe σ' ow) with
          | none => rw [e3] at q2; exact q2.elim
          | some σ1 =>
            rw [e3] at q2
            refine .inr ⟨hgo, fun Hy => ∃ ι3 F3 S3 acc us, Ex ι1 F1 H1 ι3 F3 Hy ∧ RlH X.K ι3 F3 S3 Hy ∧ D ∉ ι3 ∧ F3 D = none ∧ Hy D = some (.lst us) ∧ RVs X.K ι3 F3 acc us ∧ Fin X.K W ca σ ι1 F1 H1 (finL t (lcl me mc tg s.1 (E.wipe σ' ow) k (i + 1) acc S3)) Q,
              fun Hy h => ⟨k, Nat.lt_succ_self k, h⟩, fun x Hy hy => ?_⟩
            obtain ⟨F3, x3, rl3, rv3⟩ := hyl x Hy hy
            have k2 := x2.keeps rl2
            have x13 : Ex ι1 F1 H1 ι2 F3 Hy := x2.trans x3 k2
            have eD3 : Hy D = some (.lst us) := x3.frame D _ eD nD2
            have fD3 : F3 D = none := by
              cases z : F3 D with
              | none => rfl
              | some o =>
                rcases x3.newF D o z with w | w
                · rw [fD2] at w; cases w
                · rw [eD] at w; cases w
            refine ⟨ι2, F3, E.wipe σ' ow, S2, v, σ1, ((rs1.mono x2.pre x2.sub).mono x3.pre x3.sub).wipe ow, rl3, rv3, e3, fun σ4 rs4 o4 => ⟨wipe_same o4 hs, ι2, F3, σ1, S2, rs4, rl3, ?_⟩⟩
            change Fin X.K W ca σ ι1 F1 H1 (finL t ((mc σ1 S2).bnd fun b S1 => if b then (me σ1 S1).bnd fun y S2 => if acc.length < SZ then lcl me mc tg s.1 (E.wipe σ' ow) k (i + 1) (acc ++ [y]) S2 else .bad else lcl me mc tg s.1 (E.wipe σ' ow) k (i + 1) acc S1)) Q at q2
            -- what stays of D over a step
            have stay : ∀ {ι4 : List Addr} {F4 H4 : Hp}, Ex ι2 F3 Hy ι4 F4 H4 → D ∉ ι4 ∧ F4 D = none ∧ H4 D = some (.lst us) := fun {ι4 F4 H4} x4 => by
              refine ⟨fun z => ?_, ?_, x4.frame D _ eD3 nD2⟩
              · rcases x4.new D z with w | w
                · exact nD2 w
                · rw [eD3] at w; cases w
              · cases z : F4 D with
                | none => rfl
                | some o =>
                  rcases x4.newF D o z with w | w
                  · rw [fD3] at w; cases w
                  · rw [eD3] at w; cases w
            have k3 : ∀ z, Hy z = none → H1 z = none := x13.keeps rl3
            cases e4 : mc σ1 S2 with
            | bad => rw [e4] at q2; exact q2.elim
            | exc ee S4 => rw [e4] at q2; exact q2.elim
            | ok b S4 =>
              rw [e4] at q2
              intro ι4 F4 H4 x4 rl4
              obtain ⟨nD4, fD4, eD4⟩ := stay x4
              have racc3 : RVs X.K ι2 F3 acc us := racc.mono x3.pre x3.sub
              cases b with
              | false => exact ⟨ι4, F4, S4, acc, us, x13.trans x4 k3, rl4, nD4, fD4, eD4, racc3.mono x4.pre x4.sub, q2⟩
              | true =>
                change Fin X.K W ca σ ι1 F1 H1 (finL t ((me σ1 S4).bnd fun y S2 => if acc.length < SZ then lcl me mc tg s.1 (E.wipe σ' ow) k (i + 1) (acc ++ [y]) S2 else .bad)) Q at q2
                refine ⟨ι4, F4, σ1, S4, rs4.mono x4.pre x4.sub, rl4, ?_⟩
                cases e5 : me σ1 S4 with
                | bad => rw [e5] at q2; exact q2.elim
                | exc ee S5 => rw [e5] at q2; exact q2.elim
                | ok y S5 =>
                  rw [e5] at q2
                  change Fin X.K W ca σ ι1 F1 H1 (finL t (if acc.length < SZ then lcl me mc tg s.1 (E.wipe σ' ow) k (i + 1) (acc ++ [y]) S5 else .bad)) Q at q2
                  intro ι5 F5 H5 u x5 rl5 rv5
                  have x25 := x4.trans x5 (x4.keeps rl4)
                  obtain ⟨nD5, fD5, eD5⟩ := stay x25
                  by_cases hz : acc.length < SZ
                  · rw [if_pos hz] at q2
                    exact ⟨us, eD5, by rw [← racc.length, sizeLine_eq]; exact hz, ι5, F5, S5, acc ++ [y], us ++ [u], (x13.trans x25 k3).aside hD _, rl5.aside nD5 fD5 _, nD5, fD5, upd_same, (racc3.mono x25.pre x25.sub).append (.cons rv5 .nil), q2⟩
                  · rw [if_neg hz] at q2; exact q2.elim
/-! ### statements -/
abbrev TSs (X : Cx) (W : WX) (ca : Nat → Addr) (m : Sl → Store → Fl) : TS := tMS X.K W ca m
/-- from an expression to a statement -/
theorem FinS.bind {ι : List Addr} {F H : Hp} {σ : L2.St} {σ' : Sl} {r : Res Val} {k : Val → Store → Fl} {D : Ends} {R : V → Hp → Prop} (s : RS X.K ι F σ' σ) (h : FinS X.K W ca ι F H (r.fl σ' k) D)
    (f : ∀ v S' ι' F' H' u, r = .ok v S' → Ex ι F H ι' F' H' → RS X.K ι' F' σ' σ → RlH X.K ι' F' S' H' → RV X.K ι' F' v u → FinS X.K W ca ι' F' H' (k v S') D → R u H') : Fin X.K W ca σ ι F H r R := by
  cases r with
  | ok v S => exact fun ι' F' H' u x y z => f v S ι' F' H' u rfl x (s.mono x.pre x.sub) y z (FinS.trans x y h)
  | exc x S => exact fun ι' F' H' x y => h ι' F' H' σ x (s.mono x.pre x.sub) y
  | bad => exact h
theorem FinS.bindT {ι : List Addr} {F H : Hp} {σ : L2.St} {σ' : Sl} {r : Res Bool} {k : Bool → Store → Fl} {D : Ends} {R : Bool → Hp → Prop} (s : RS X.K ι F σ' σ) (h : FinS X.K W ca ι F H (r.fl σ' k) D)
    (f : ∀ v S' ι' F' H', r = .ok v S' → Ex ι F H ι' F' H' → RS X.K ι' F' σ' σ → RlH X.K ι' F' S' H' → FinS X.K W ca ι' F' H' (k v S') D → R v H') : FinT X.K W ca σ ι F H r R := by
  cases r with
  | ok v S => exact fun ι' F' H' x y => f v S ι' F' H' rfl x (s.mono x.pre x.sub) y (FinS.trans x y h)
  | exc x S => exact fun ι' F' H' x y => h ι' F' H' σ x (s.mono x.pre x.sub) y
  | bad => exact h
theorem pss_n : PSs X [] (TSs X W ca fun σ S => .nx σ S) :=
  PSs.weak pss_nil fun D σ H ⟨ι, F, σ', S, rs, rl, q⟩ => q ι F H σ Ex.refl rs rl
theorem pss_c {st : Stmt} {rest : List Stmt} {m ms : Sl → Store → Fl} (h1 : PS X st (TSs X W ca m)) (h2 : PSs X rest (TSs X W ca ms)) : PSs X (st :: rest) (TSs X W ca fun σ S => (m σ S).bnd fun σ1 S1 => ms σ1 S1) :=
  PSs.weak (pss_cons h1 h2) fun D σ H ⟨ι, F, σ', S, rs, rl, q⟩ => ⟨ι, F, σ', S, rs, rl, by
    change FinS X.K W ca ι F H ((m σ' S).bnd fun σ1 S1 => ms σ1 S1) D at q
    cases e : m σ' S with
    | bad => rw [e] at q; exact q
    | rt v S1 => rw [e] at q; exact q
    | exc x σ1 S1 => rw [e] at q; exact q
    | nx σ1 S1 =>
      rw [e] at q
      exact fun ι1 F1 H1 σ2 x1 rs1 rl1 => ⟨ι1, F1, σ1, S1, rs1, rl1, FinS.trans x1 rl1 q⟩⟩
theorem ps_ps {pos : Pos} : PS X (.Pass pos) (TSs X W ca fun σ S => .nx σ S) :=
  PS.weak ps_pass fun D σ H ⟨ι, F, σ', S, rs, rl, q⟩ => q ι F H σ Ex.refl rs rl
/-- no comprehension as a whole -/
def noComp : Expr → Bool
  | .ListComp _ _ _ _ => false
  | .SetComp _ _ _ _ => false
  | .DictComp _ _ _ _ _ => false
  | _ => true
theorem swap_no {e : Expr} (h : noComp e = true) (t : Option Expr) (l : Nat) (env : Env) : swapsWith e t l env = pure false := by
  cases e <;> first | rfl | cases h
theorem ps_ex {e : Expr} {pos : Pos} {m : Sl → Store → Res Val} (hn : noComp e = true) (h : PE X e (T X W ca m)) : PS X (.Expr e pos) (TSs X W ca fun σ S => (m σ S).fl σ fun _ S1 => .nx σ S1) :=
  PS.weak (ps_expr h (swap_no hn _ _ _)) fun D σ H ⟨ι, F, σ', S, rs, rl, q⟩ => ⟨ι, F, σ', S, rs, rl, FinS.bind rs q fun v S1 ι1 F1 H1 u _ x1 rs1 rl1 rv1 q1 => q1 ι1 F1 H1 σ Ex.refl rs1 rl1⟩
theorem ps_rt {e : Expr} {pos : Pos} {m : Sl → Store → Res Val} (h : PE X e (T X W ca m)) : PS X (.Return (some e) pos) (TSs X W ca fun σ S => (m σ S).fl σ fun v S1 => .rt v S1) :=
  PS.weak (ps_ret h) fun D σ H ⟨ι, F, σ', S, rs, rl, q⟩ => ⟨ι, F, σ', S, rs, rl, FinS.bind rs q fun v S1 ι1 F1 H1 u _ x1 rs1 rl1 rv1 q1 => q1 ι1 F1 H1 u Ex.refl rl1 rv1⟩
theorem ps_rn {pos : Pos} : PS X (.Return none pos) (TSs X W ca fun _ S => .rt .non S) :=
  PS.weak ps_retN fun D σ H ⟨ι, F, σ', S, rs, rl, q⟩ => q ι F H .non Ex.refl rl .non
def mAsg (m : Sl → Store → Res Val) (tg : Tg) : Sl → Store → Fl := fun σ S => (m σ S).fl σ fun v S1 => (match asg S1 tg v σ with
    | some σ1 => .nx σ1 S1
    | none => .bad)
theorem asg_ok {te : TE} {m : Sl → Store → Res Val} {tg : Tg} (h : ∀ σ H Q, T X W ca m σ H Q → te σ H Q) : ∀ D σ H, TSs X W ca (mAsg m tg) D σ H → tAsg te (gM X.K tg) D σ H := by
  rintro D σ H ⟨ι, F, σ', S, rs, rl, q⟩
  refine h σ H _ ⟨ι, F, σ', S, rs, rl, FinS.bind rs q fun v S1 ι1 F1 H1 u _ x1 rs1 rl1 rv1 q1 => ?_⟩
  cases e : asg S1 tg v σ' with
  | none => rw [e] at q1; exact q1.elim
  | some σ1 =>
    rw [e] at q1
    exact ⟨ι1, F1, σ', S1, v, σ1, rs1, rl1, rv1, e, fun σ2 rs2 _ => q1 ι1 F1 H1 σ2 Ex.refl rs2 rl1⟩
/-- target = value, no swapping -/
theorem ps_as {tgE e : Expr} {pos : Pos} {m : Sl → Store → Res Val} {tg : Tg} (hns : noStar tgE = true) (hs : swapsWithSole [tgE] e pos.line X.env = pure false) (hw : swappedStores [tgE] e X.env = pure none) (h : PE X e (T X W ca m)) (hg : PG X tgE (gM X.K tg)) :
    PS X (.Assign [tgE] e pos) (TSs X W ca (mAsg m tg)) := PS.weak (ps_asg h hg hs hw (by rw [assign_cons hns]; rfl)) (asg_ok fun _ _ _ h => h)
def mIf (mc : Sl → Store → Res Bool) (ma mb : Sl → Store → Fl) : Sl → Store → Fl := fun σ S => (mc σ S).fl σ fun t S1 => if t then ma σ S1 else mb σ S1
theorem ps_ife {c : Expr} {a b : List Stmt} {pos : Pos} {mc : Sl → Store → Res Bool} {ma mb : Sl → Store → Fl} (hc : PT X c (TTt X W ca mc)) (ha : PSs X a (TSs X W ca ma)) (hb : PSs X b (TSs X W ca mb)) : PS X (.If c a b pos) (TSs X W ca (mIf mc ma mb)) :=
  PS.weak (ps_if hc ha hb) fun D σ H ⟨ι, F, σ', S, rs, rl, q⟩ => ⟨ι, F, σ', S, rs, rl, FinS.bindT rs q fun t S1 ι1 F1 H1 _ x1 rs1 rl1 q1 => by
    cases t with
    | true => exact ⟨ι1, F1, σ', S1, rs1, rl1, q1⟩
    | false => exact ⟨ι1, F1, σ', S1, rs1, rl1, q1⟩⟩
/-- o[i] = e -/
def mSub (mo mi me : Sl → Store → Res Val) : Sl → Store → Fl := fun σ S => (me σ S).fl σ fun v S1 => (mo σ S1).fl σ fun x S2 => (mi σ S2).fl σ fun j S3 => (match setV x j v S3 with
    | some S4 => .nx σ S4
    | none => .bad)
theorem ok_set {ι : List Addr} {F H : Hp} {S S4 : Store} {x j v : Val} {o i u : V} (rl : RlH X.K ι F S H) (r1 : RV X.K ι F x o) (r2 : RV X.K ι F j i) (r3 : RV X.K ι F v u) (h : setV x j v S = some S4) {Q : Hp → Prop}
    (q : ∀ H', Ex ι F H ι F H' → RlH X.K ι F S4 H' → Q H') : rSetL o i u H Q := by
  cases r1 with
  | ref hn =>
    obtain ⟨_, c, ob, h2, h3, h4⟩ := rl.trk _ _ hn
    cases r2 with
    | int k =>
      cases h4 with
      | @lst vs us r =>
        simp only [setV, h2] at h
        cases e : E.ixN vs.length k with
        | none => rw [e] at h; cases h
        | some n =>
          rw [e] at h; cases h
          exact ⟨_, us, k, n, rfl, rfl, h3, by rw [← r.length]; exact e, q _ (Ex.write rl hn _) (rl.write hn (.lst (r.set r3 n)))⟩
    | _ => simp only [setV] at h; cases h
  | _ => simp only [setV] at h; cases h
theorem assign_sub {o i : Expr} {pos : Pos} (hi : noSlice i = true) (env : Env) : ∀ v, assign (.Subscript o i pos) env v = (do
      let ov ← holding [v] (eval o env)
      let iv ← holding [v, ov] (eval i env)
      standAt pos
      holding [v, ov, iv] (setItem ov iv v)
      release [v, ov, iv] []) := by
  intro v
  cases i <;> first | rfl | cases hi
theorem ps_sb {o i e : Expr} {p pos : Pos} {mo mi me : Sl → Store → Res Val} (hi' : noSlice i = true) (hn : noComp e = true) (hw : swappedStores [.Subscript o i p] e X.env = pure none) (ho : PE X o (T X W ca mo)) (hi : PE X i (T X W ca mi)) (he : PE X e (T X W ca me)) :
    PS X (.Assign [.Subscript o i p] e pos) (TSs X W ca (mSub mo mi me)) := by
  refine PS.weak (ps_asg he (pg_sub ho hi set_list (assign_sub hi' X.env)) (swap_no hn (some (.Subscript o i p)) pos.line X.env) hw) fun D σ H ⟨ι, F, σ', S, rs, rl, q⟩ => ⟨ι, F, σ', S, rs, rl, FinS.bind rs q fun v S1 ι1 F1 H1 u _ x1 rs1 rl1 rv1 q1 => ?_⟩
  refine ⟨ι1, F1, σ', S1, rs1, rl1, FinS.bind rs1 q1 fun v2 S2 ι2 F2 H2 u2 _ x2 rs2 rl2 rv2 q2 => ?_⟩
  refine ⟨ι2, F2, σ', S2, rs2, rl2, FinS.bind rs2 q2 fun v3 S3 ι3 F3 H3 u3 _ x3 rs3 rl3 rv3 q3 => ?_⟩
  cases e4 : setV v2 v3 v S3 with
  | none => rw [e4] at q3; exact q3.elim
  | some S4 =>
    rw [e4] at q3
    exact ok_set rl3 (rv2.mono x3.pre x3.sub) rv3 (rv1.mono (x2.pre.trans x3.pre) (x2.sub.trans x3.sub)) e4 fun H' x4 rl4 => q3 ι3 F3 H' σ x4 rs3 rl4
/-- while -/
theorem ps_wl {c : Expr} {body : List Stmt} {pos : Pos} {n : Nat} {mc : Sl → Store → Res Bool} {mb : Sl → Store → Fl} (hp : PassesOwn (model X.prog X.w) X.A X.env X.xe) (hc : PT X c (TTt X W ca mc)) (hb : PSs X body (TSs X W ca mb)) :
    PS X (.While c body [] pos) (TSs X W ca (wl mc mb n)) := by
  refine PS.weak (ps_while hp hc hb) fun D σ H ⟨ι, F, σ', S, rs, rl, q⟩ => ?_
  refine ⟨fun m σx Hx => ∃ ι2 F2 σ2' S2, RS X.K ι2 F2 σ2' σx ∧ RlH X.K ι2 F2 S2 Hx ∧ FinS X.K W ca ι2 F2 Hx (wl mc mb m σ2' S2) D, ⟨n, ι, F, σ', S, rs, rl, q⟩, fun m σx Hx hW => ?_⟩
  obtain ⟨ι2, F2, σ2', S2, rs2, rl2, q2⟩ := hW
  cases m with
  | zero => exact q2.elim
  | succ k =>
    unfold wl at q2
    refine ⟨ι2, F2, σ2', S2, rs2, rl2, FinS.bindT rs2 q2 fun b S3 ι3 F3 H3 _ x3 rs3 rl3 q3 => ?_⟩
    cases b with
    | false => exact q3 ι3 F3 H3 σx Ex.refl rs3 rl3
    | true =>
      change FinS X.K W ca ι3 F3 H3 ((mb σ2' S3).bnd fun σ2 S2 => wl mc mb k σ2 S2) D at q3
      refine ⟨fun σy Hy => ∃ ι4 F4 σ4' S4, RS X.K ι4 F4 σ4' σy ∧ RlH X.K ι4 F4 S4 Hy ∧ FinS X.K W ca ι4 F4 Hy (wl mc mb k σ4' S4) D, fun σy Hy h => ⟨k, Nat.lt_succ_self k, h⟩, ι3, F3, σ2', S3, rs3, rl3, ?_⟩
      cases e4 : mb σ2' S3 with
      | bad => rw [e4] at q3; exact q3.elim
      | rt w S5 => rw [e4] at q3; exact q3
      | exc ee σ5 S5 => rw [e4] at q3; exact q3
      | nx σ5 S5 =>
        rw [e4] at q3
        exact fun ι5 F5 H5 σ6 x5 rs5 rl5 => ⟨ι5, F5, σ5, S5, rs5, rl5, FinS.trans x5 rl5 q3⟩
/-- raise C('..') -/
theorem ps_ra {x m : Str} {C : Addr} {c j : Nat} {p p2 pos pos2 : Pos} (hc : X.calm = true) (tk : Takes X W) (hca : ca c = C) (q : PySem.W.excIn X.K C He.veBase "ValueError.__new__" = true) (gC : X.mg x = some (.ref C)) (kC : PySem.W.keepIn X.K (.ref C) = true)
    (hr : Raises X (.ref C)) (hg : Gl X x) (hd : (x == ("__debug__" : Str)) = false) :
    PS X (.Raise (some (.Call (.Name x p) [.Constant (.str m) j p2] [] pos)) none pos2) (TSs X W ca fun σ S => .exc ⟨c, none⟩ σ S) :=
  PS.weak (ps_raise hc tk (pmk_own PySem.F.excBase_ValueError q gC kC hr hg hd)) fun D σ H ⟨ι, F, σ', S, rs, rl, q⟩ => by
    have := q ι F H σ Ex.refl rs rl
    rw [hca] at this
    exact this
/-! ### try -/
/-- a suite that hands back a value -/
structure HOk1 (X : Cx) (ca : Nat → Addr) (me : Sl → Store → Res Val) (e : Expr) : Prop where
  pe : ∀ (a : Addr) (oe : Obj) (pn : List (Addr × Obj)), PE (X.suite a ((a, oe) :: pn)) e (tM X.K Wf ca me)
end
end E

set_option linter.all false
set_option autoImplicit false
set_option Elab.async false
set_option maxHeartbeats 2000000
/-! Soundness: methods, augmented assignment, try. -/
namespace E
open PySem PySem.Spec L2
section
variable {X : Cx} {W : WX} {ca : Nat → Addr}
/-! ### name += e -/
def mAug (i : Nat) (me : Sl → Store → Res Val) : Sl → Store → Fl := fun σ S => (match σ[i]? with
    | some (some x) => (me σ S).fl σ fun y S1 => (match x, y, Op2.add with
      | .int p, .int q, .add => .nx (σ.set i (some (.int (p + q)))) S1
      | _, _, _ => .bad)
    | _ => .bad)
theorem ps_ag {i : Nat} {x : Str} {e : Expr} {p pos : Pos} {me : Sl → Store → Res Val} (hN : X.N.Nodup) (hi : X.N[i]? = some x) (hx : Loc X.env.scope x) (hf : X.fn x = true ∨ X.env.scope.names.lookup x = some .local) (he : PE X e (T X W ca me)) :
    PS X (.AugAssign (.Name x p) .Add e pos) (TSs X W ca (mAug i me)) :=
  PS.weak (ps_aug hN hi hx he ip_add hf) fun D σ H ⟨ι, F, σ', S, rs, rl, q⟩ => by
    unfold mAug at q
    cases e1 : σ'[i]? with
    | none => simp only [e1] at q; exact q.elim
    | some o =>
      cases o with
      | none => simp only [e1] at q; exact q.elim
      | some v =>
        simp only [e1] at q
        obtain ⟨u, h1, h2⟩ := rs.at_ i v e1
        refine ⟨u, h1, ι, F, σ', S, rs, rl, FinS.bind rs q fun y S1 ι1 F1 H1 w _ x1 rs1 rl1 rv1 q1 => ?_⟩
        cases h2 with
        | int a =>
          cases rv1 with
          | int b => exact ⟨a, b, rfl, rfl, q1 ι1 F1 H1 _ Ex.refl (rs1.set (.int _) i) rl1⟩
          | _ => exact q1.elim
        | _ => cases rv1 <;> exact q1.elim
/-! ### methods of lists that change them -/
theorem base_no {o : Expr} {a : Str} {env : Env} (h : (match o with | .Call _ _ _ _ => false | _ => true) = true) : attributeBase o a env (eval o env) = eval o env := by
  cases o <;> first | rfl | cases h
theorem few1 {e : Expr} {cpos : Pos} {env : Env} (hs : noStar e = true) : ((backTo cpos (starEach [e] env)).all (fun x => !x.1) && (backToKw cpos (keywordEach [] env)).all (fun x => x.1.isSome)
      && decide ([e].length + ([] : List Keyword).length + (if ([] : List Keyword).isEmpty then 0 else 1) < 30)) = true := by
  rw [star_cons hs]; rfl
def mM (f : Mt) (t : Bool) (mo : Sl → Store → Res Val) (ms : Sl → Store → Res (List Val)) : Sl → Store → Res Val := fun σ S => (mo σ S).bnd fun x S1 => if recv f x S1 then (ms σ S1).bnd fun vs S2 => mth f t x vs S2 else .bad
/-- a method of a tracked list -/
def muts : Mt → Bool
  | .append | .extend | .pop | .insert | .clear | .reverse | .remove | .popAt => true
  | _ => false
theorem recv_ref {f : Mt} {x : Val} {S : Store} (hm : muts f = true) (h : recv f x S = true) : ∃ n vs, x = .ref n ∧ S[n]? = some (.lst true vs) := by
  cases f <;> first
    | (cases hm; done)
    | skip
  all_goals
    simp only [recv] at h
    cases x <;> first
      | (cases h; done)
      | skip
    rename_i n
    simp only at h
    split at h
    · rename_i vs e; exact ⟨n, vs, rfl, e⟩
    · cases h
/-- the rule of a method on a tracked list -/
def OkM (X : Cx) (W : WX) (ca : Nat → Addr) (f : Mt) (t : Bool) (r : V → List V → Hp → VK → Prop) : Prop :=
  ∀ (σ : L2.St) (ι : List Addr) (F : Hp) (S : Store) (H : Hp) (n : Nat) (a : Addr) (vs : List Val) (us : List V) (as : List Val) (ws : List V) (Q : VK), RlH X.K ι F S H → ι[n]? = some a → S[n]? = some (.lst true vs) → H a = some (.lst us) → RVs X.K ι F vs us →
    RVs X.K ι F as ws → Fin X.K W ca σ ι F H (mth f t (.ref n) as S) Q → r (.ref a) ws H Q
theorem pe_lm {o e : Expr} {es : List Expr} {name : Str} {id : String} {apos cpos : Pos} {f : Mt} {t : Bool} {r : V → List V → Hp → VK → Prop} {mo : Sl → Store → Res Val} {ms : Sl → Store → Res (List Val)} (slot : Slot "list" name id) (hty : typeOf (.builtin id) = pure (.type "method_descriptor")) (hm : MtR X id r) (hmu : muts f = true) (hok : OkM X W ca f t r)
    (hb : (match o with | .Call _ _ _ _ => false | _ => true) = true) (hl : (apos.endLine == cpos.line) = true) (hs : (e :: es).all noStar = true) (hlen : (e :: es).length < 30) (ho : PE X o (T X W ca mo)) (ha : PA X (e :: es) (TAa X W ca ms)) :
    PE X (.Call (.Attribute o name apos) (e :: es) [] cpos) (T X W ca (mM f t mo ms)) := by
  have hs' := hs
  rw [List.all_cons, Bool.and_eq_true] at hs'
  have few : ∀ (es : List Expr), es.all noStar = true → (backTo cpos (starEach es X.env)).all (fun x => !x.1) = true := by
    intro es
    induction es with
    | nil => intro _; rfl
    | cons e es ih =>
      intro h
      rw [List.all_cons, Bool.and_eq_true] at h
      rw [star_cons h.1]
      show (true && (backTo cpos (starEach es X.env)).all (fun x => !x.1)) = true
      rw [ih h.2]; rfl
  refine PE.weak (pe_bm PySem.F.plainAttrs_list slot hty hm ho ha (base_no hb) ?_ hl (star_cons hs'.1 es X.env) (star_any es hs'.2)) fun σ H Q ⟨ι, F, σ', S, rs, rl, q⟩ => ⟨ι, F, σ', S, rs, rl, Fin.bind rs q fun v S1 ι1 F1 H1 u e1 x1 rs1 rl1 rv1 q1 => ?_⟩
  · rw [few _ hs, Bool.true_and]
    show (true && decide ((e :: es).length + 0 + 0 < 30)) = true
    rw [Bool.true_and]
    exact decide_eq_true hlen
  · by_cases hr : recv f v S1 = true
    · rw [if_pos hr] at q1
      obtain ⟨n, vs, rfl, hS⟩ := recv_ref hmu hr
      cases rv1 with
      | @ref _ a hn =>
        obtain ⟨_, c, ob, h2, h3, h4⟩ := rl1.trk _ _ hn
        cases h4 with
        | lst r0 =>
          refine ⟨.inl ⟨rfl, _, .inl (.inl h3)⟩, ι1, F1, σ', S1, rs1, rl1, FinA.bind rs1 q1 fun as S2 ι2 F2 H2 ws e2 x2 rs2 rl2 rv2 q2 => ?_⟩
          have hn2 := pre_get x2.pre hn
          obtain ⟨_, c, ob, g2, g3, g4⟩ := rl2.trk _ _ hn2
          cases g4 with
          | lst r2 => exact hok σ ι2 F2 S2 H2 n a _ _ as ws Q rl2 hn2 g2 g3 r2 rv2 q2
    · rw [if_neg hr] at q1; exact q1.elim
theorem pe_lm0 {o : Expr} {name : Str} {id : String} {apos cpos : Pos} {f : Mt} {t : Bool} {r : V → List V → Hp → VK → Prop} {mo : Sl → Store → Res Val} (slot : Slot "list" name id) (hty : typeOf (.builtin id) = pure (.type "method_descriptor")) (hm : MtR X id r) (hmu : muts f = true) (hok : OkM X W ca f t r)
    (hb : (match o with | .Call _ _ _ _ => false | _ => true) = true) (hl : (apos.endLine == cpos.line) = true) (ho : PE X o (T X W ca mo)) :
    PE X (.Call (.Attribute o name apos) [] [] cpos) (T X W ca (mM f t mo fun _ S => .ok [] S)) := by
  refine PE.weak (pe_bm0 PySem.F.plainAttrs_list slot hty hm ho (base_no hb) hl) fun σ H Q ⟨ι, F, σ', S, rs, rl, q⟩ => ⟨ι, F, σ', S, rs, rl, Fin.bind rs q fun v S1 ι1 F1 H1 u e1 x1 rs1 rl1 rv1 q1 => ?_⟩
  by_cases hr : recv f v S1 = true
  · rw [if_pos hr] at q1
    obtain ⟨n, vs, rfl, hS⟩ := recv_ref hmu hr
    cases rv1 with
    | @ref _ a hn =>
      obtain ⟨_, c, ob, h2, h3, h4⟩ := rl1.trk _ _ hn
      cases h4 with
      | lst r0 => exact ⟨.inl ⟨rfl, _, .inl (.inl h3)⟩, hok σ ι1 F1 S1 H1 n a _ _ [] [] Q rl1 hn h2 h3 r0 .nil q1⟩
  · rw [if_neg hr] at q1; exact q1.elim
theorem okm_append {t : Bool} : OkM X W ca .append t rAppend := by
  intro σ ι F S H n a vs us as ws Q rl hn hS hH r rw' q
  cases rw' with
  | nil => exact q.elim
  | cons rv rt =>
    cases rt with
    | cons _ _ => exact q.elim
    | nil =>
      simp only [mth, hS] at q
      by_cases hz : vs.length < SZ
      · rw [if_pos hz] at q
        exact ⟨_, _, _, rfl, rfl, hH, by rw [← r.length, sizeLine_eq]; exact hz, q ι F _ .non (Ex.write rl hn _) (rl.write hn (.lst (r.append (.cons rv .nil)))) .non⟩
      · rw [if_neg hz] at q; exact q.elim
theorem okm_extend {t : Bool} : OkM X W ca .extend t rExtend := by
  intro σ ι F S H n a vs us as ws Q rl hn hS hH r rw' q
  cases rw' with
  | nil => exact q.elim
  | @cons v _ _ _ rv rt =>
    cases rt with
    | cons _ _ => exact q.elim
    | nil =>
      simp only [mth, hS] at q
      cases e : lstOf S v with
      | none => rw [e] at q; exact q.elim
      | some zs =>
        rw [e] at q
        obtain ⟨b, ys, rfl, h3, q3⟩ := lstOf_rv rl rv e
        by_cases hz : vs.length + zs.length ≤ SZ
        · simp only [if_pos hz] at q
          exact ⟨_, _, _, _, rfl, rfl, hH, h3, by rw [← r.length, ← q3.length, sizeLine_eq]; exact hz, q ι F _ .non (Ex.write rl hn _) (rl.write hn (.lst (r.append q3))) .non⟩
        · simp only [if_neg hz] at q; exact q.elim
theorem okm_clear {t : Bool} : OkM X W ca .clear t rClear := by
  intro σ ι F S H n a vs us as ws Q rl hn hS hH r rw' q
  cases rw' with
  | cons _ _ => exact q.elim
  | nil =>
    simp only [mth, hS] at q
    exact ⟨_, _, rfl, rfl, hH, q ι F _ .non (Ex.write rl hn _) (rl.write hn (.lst .nil)) .non⟩
theorem okm_pop {t : Bool} : OkM X W ca .pop t rPop := by
  intro σ ι F S H n a vs us as ws Q rl hn hS hH r rw' q
  cases rw' with
  | cons _ _ => exact q.elim
  | nil =>
    simp only [mth, hS] at q
    cases e : vs[vs.length - 1]? with
    | none => rw [e] at q; exact q.elim
    | some y =>
      rw [e] at q
      obtain ⟨u, h1, h2⟩ := r.get e
      exact ⟨_, _, u, rfl, rfl, hH, by rw [← r.length]; exact h1, q ι F _ u (Ex.write rl hn _) (rl.write hn (.lst r.dropLast)) h2⟩
/-! ### try -/
theorem ps_tr {body : List Stmt} {h₀ : ExceptHandler} {hds : List ExceptHandler} {pos : Pos} {mb mh : Sl → Store → Fl} {l : List (Value × (Addr → Value → Option Addr → TS))} {kn : Nat → Bool} {mH : Exn → Sl → Store → Fl}
    (hs : X.stack = X.env :: X.outer) (hf : X.env.frame = some X.env.locals) (tk : Takes X W)
    (hb : ∀ (W' : WX) (pn : List (Addr × Obj)) (xe : Value → Shared → Prop), Takes (X.tr pn xe) W' → PassesOwn (model X.prog X.w) X.A X.env xe → PSs (X.tr pn xe) body (tMS X.K W' ca mb))
    (hh : HdsOk X (h₀ :: hds) l)
    (hw : ∀ (e : Exn) (D : Ends) (σ : L2.St) (ι : List Addr) (F H : Hp) (σ' : Sl) (S : Store), kn e.c = true → RS X.K ι F σ' σ → RlH X.K ι F S H → FinS X.K W ca ι F H (mH e σ' S) D → wMany X.K W D l (.ref (ca e.c)) none σ H) :
    PS X (.Try body (h₀ :: hds) [] [] pos) (TSs X W ca fun σ S => (match mb σ S with
    | .exc e σ1 S1 => if kn e.c then mH e σ1 S1 else .bad
    | r => r)) := by
  refine PS.weak (ps_try_many (tb := fun W' => tMS X.K W' ca mb) hs hf tk hb hh) fun D σ H ⟨ι, F, σ', S, rs, rl, q⟩ => ⟨ι, F, σ', S, rs, rl, ?_⟩
  cases e : mb σ' S with
  | bad => simp only [e] at q; exact q.elim
  | nx σ1 S1 => simp only [e] at q; exact q
  | rt v S1 => simp only [e] at q; exact q
  | exc x σ1 S1 =>
    simp only [e] at q
    by_cases hk : kn x.c = true
    · rw [if_pos hk] at q
      exact fun ι1 F1 H1 σ2 x1 rs1 rl1 => hw x D σ2 ι1 F1 H1 σ1 S1 hk rs1 rl1 (FinS.trans x1 rl1 q)
    · rw [if_neg hk] at q; exact q.elim
end
end E

set_option linter.all false
set_option autoImplicit false
set_option Elab.async false
set_option maxHeartbeats 2000000
/-! Soundness: more built-ins and methods. -/
namespace E
open PySem PySem.Spec L2
/-! ### sorting -/
theorem insI_perm (x : Int) : ∀ l : List Int, (insI x l).Perm (x :: l)
  | [] => List.Perm.refl _
  | y :: r => by
    unfold insI
    split
    · exact List.Perm.refl _
    · exact ((insI_perm x r).cons y).trans (List.Perm.swap x y r)
theorem sortI_perm : ∀ l : List Int, (sortI l).Perm l
  | [] => List.Perm.refl _
  | x :: r => (insI_perm x (sortI r)).trans ((sortI_perm r).cons x)
theorem insI_srt (x : Int) : ∀ l : List Int, l.Pairwise (· ≤ ·) → (insI x l).Pairwise (· ≤ ·)
  | [], _ => by simp [insI]
  | y :: r, h => by
    rw [List.pairwise_cons] at h
    unfold insI
    split
    · rename_i hx
      refine List.pairwise_cons.mpr ⟨fun a ha => ?_, List.pairwise_cons.mpr h⟩
      rcases List.mem_cons.mp ha with rfl | ha
      · exact hx
      · have := h.1 a ha; omega
    · rename_i hx
      refine List.pairwise_cons.mpr ⟨fun a ha => ?_, insI_srt x r h.2⟩
      rcases List.mem_cons.mp ((insI_perm x r).mem_iff.mp ha) with rfl | ha
      · omega
      · exact h.1 a ha
theorem sortI_srt : ∀ l : List Int, (sortI l).Pairwise (· ≤ ·)
  | [] => List.Pairwise.nil
  | x :: r => insI_srt x _ (sortI_srt r)
theorem sortI_is {l m : List Int} (h : m.Perm l) (s : m.Pairwise (· ≤ ·)) : m = sortI l :=
  List.Perm.eq_of_pairwise (fun a b _ _ h1 h2 => by omega) s (sortI_srt l) (h.trans (sortI_perm l).symm)
/-! texts -/
theorem lt_cps : ∀ a b : List Nat, ltCps a b = lexTx a b
  | [], [] => by simp [ltCps, lexTx]
  | [], _ :: _ => by simp [ltCps, lexTx]
  | _ :: _, [] => by simp [ltCps, lexTx]
  | x :: xs, y :: ys => by
    unfold ltCps lexTx
    rw [lt_cps xs ys]
    by_cases h : x = y
    · subst h; simp
    · rw [if_neg h]
      have : (x == y) = false := by simpa using h
      simp [this]
theorem lex_lt (a b : Tx) : lexTx a b = true ↔ a < b := by rw [← lex_eq]; exact decide_eq_true_iff
def leT (a b : Tx) : Prop := lexTx b a = false
theorem leT_iff (a b : Tx) : leT a b ↔ ¬ b < a := by
  unfold leT
  constructor
  · intro h z
    rw [(lex_lt b a).mpr z] at h; cases h
  · intro h
    cases e : lexTx b a with
    | false => rfl
    | true => exact absurd ((lex_lt b a).mp e) h
theorem leT_trans {a b c : Tx} (h1 : leT a b) (h2 : leT b c) : leT a c := by
  rw [leT_iff] at *
  exact List.not_lt.mpr (List.le_trans (List.not_lt.mp h1) (List.not_lt.mp h2))
theorem leT_antisymm {a b : Tx} (h1 : leT a b) (h2 : leT b a) : a = b := by
  rw [leT_iff] at *
  exact List.le_antisymm (List.not_lt.mp h1) (List.not_lt.mp h2)
theorem insT_perm (x : Tx) : ∀ l : List Tx, (insT x l).Perm (x :: l)
  | [] => List.Perm.refl _
  | y :: r => by
    unfold insT
    split
    · exact ((insT_perm x r).cons y).trans (List.Perm.swap x y r)
    · exact List.Perm.refl _
theorem sortT_perm : ∀ l : List Tx, (sortT l).Perm l
  | [] => List.Perm.refl _
  | x :: r => (insT_perm x (sortT r)).trans ((sortT_perm r).cons x)
theorem lt_leT {a b : Tx} (h : lexTx a b = true) : leT a b := by
  rw [leT_iff]
  intro z
  exact absurd (List.lt_trans ((lex_lt a b).mp h) z) (List.lt_irrefl a)
theorem insT_srt (x : Tx) : ∀ l : List Tx, l.Pairwise leT → (insT x l).Pairwise leT
  | [], _ => by simp [insT]
  | y :: r, h => by
    rw [List.pairwise_cons] at h
    unfold insT
    split
    · rename_i hx
      refine List.pairwise_cons.mpr ⟨fun a ha => ?_, insT_srt x r h.2⟩
      rcases List.mem_cons.mp ((insT_perm x r).mem_iff.mp ha) with rfl | ha
      · exact lt_leT hx
      · exact h.1 a ha
    · rename_i hx
      have hxy : leT x y := by unfold leT; simpa using hx
      refine List.pairwise_cons.mpr ⟨fun a ha => ?_, List.pairwise_cons.mpr h⟩
      rcases List.mem_cons.mp ha with rfl | ha
      · exact hxy
      · exact leT_trans hxy (h.1 a ha)
theorem sortT_srt : ∀ l : List Tx, (sortT l).Pairwise leT
  | [] => List.Pairwise.nil
  | x :: r => insT_srt x _ (sortT_srt r)
theorem rising_pw : ∀ (r : List Tx) (p : Tx), PyProof.Rows.risingS (mkS p) (r.map mkS) = true → (p :: r).Pairwise leT
  | [], p, _ => by simp
  | x :: r, p, h => by
    simp only [List.map_cons, PyProof.Rows.risingS] at h
    obtain ⟨h1, h2⟩ := Bool.and_eq_true_iff.mp h
    have hpx : leT p x := by
      have e : ∀ z : Tx, (mkS z).cps.toList = z := fun z => by unfold mkS; simp
      rw [e, e, lt_cps] at h1
      unfold leT; simpa using h1
    have ih := rising_pw r x h2
    refine List.pairwise_cons.mpr ⟨fun a ha => ?_, ih⟩
    rcases List.mem_cons.mp ha with rfl | ha
    · exact hpx
    · exact leT_trans hpx ((List.pairwise_cons.mp ih).1 a ha)
theorem sorted_pw {l : List Tx} (h : PyProof.Rows.sortedS (l.map mkS) = true) : l.Pairwise leT := by
  cases l with
  | nil => exact List.Pairwise.nil
  | cons x r => exact rising_pw r x h
theorem sortT_is {l : List Tx} {m : List Str} (h : m.Perm (l.map mkS)) (s : PyProof.Rows.sortedS m = true) : m = (sortT l).map mkS := by
  have hm : ∀ z : Str, mkS z.cps.toList = z := fun z => by cases z; unfold mkS; simp
  have hk : ∀ z : Tx, (mkS z).cps.toList = z := fun z => by unfold mkS; simp
  have e : m = (m.map fun z => z.cps.toList).map mkS := by
    rw [List.map_map]
    have : (mkS ∘ fun z : Str => z.cps.toList) = id := funext hm
    rw [this, List.map_id]
  have p : (m.map fun z => z.cps.toList).Perm l := by
    have := h.map fun z => z.cps.toList
    rw [List.map_map] at this
    have e2 : ((fun z : Str => z.cps.toList) ∘ mkS) = id := funext hk
    rwa [e2, List.map_id] at this
  rw [e] at s
  rw [e]
  congr 1
  exact List.Perm.eq_of_pairwise (fun a b _ _ h1 h2 => leT_antisymm h1 h2) (sorted_pw s) (sortT_srt l) (p.trans (sortT_perm l).symm)
section
variable {X : Cx} {W : WX} {ca : Nat → Addr}
theorem strs_rv {K : Frag} {ι : List Addr} {F : Hp} : ∀ {vs : List Val} {us : List V} {ss : List Tx}, RVs K ι F vs us → strsOf vs = some ss → us = (ss.map mkS).map V.str ∧ ∀ s ∈ ss, okT s = true
  | _, _, _, .nil, h => by cases h; exact ⟨rfl, fun _ z => nomatch z⟩
  | v :: vs, _, ss, .cons r t, h => by
    cases r with
    | str s hs =>
      simp only [strsOf, Option.map_eq_some_iff] at h
      obtain ⟨l, e, rfl⟩ := h
      obtain ⟨h1, h2⟩ := strs_rv t e
      refine ⟨by rw [h1]; rfl, fun z hz => ?_⟩
      rcases List.mem_cons.mp hz with rfl | hz
      · exact hs
      · exact h2 z hz
    | _ => simp [strsOf] at h
theorem rvs_strs {K : Frag} {ι : List Addr} {F : Hp} : ∀ {ss : List Tx}, (∀ s ∈ ss, okT s = true) → RVs K ι F (ss.map .str) ((ss.map mkS).map V.str)
  | [], _ => .nil
  | s :: ss, h => .cons (.str s (h s (List.mem_cons_self ..))) (rvs_strs fun z hz => h z (List.mem_cons_of_mem _ hz))
theorem rvs_ints {K : Frag} {ι : List Addr} {F : Hp} : ∀ (is : List Int), RVs K ι F (is.map .int) (is.map V.int)
  | [] => .nil
  | i :: is => .cons (.int i) (rvs_ints is)
theorem ok_sorted {t : Bool} : Ok1 X W ca (bi1 .sorted t) (fun u H Q => rSortedI X.K [u] H Q ∨ rSortedS X.K [u] H Q) := by
  intro σ ι F S H x u Q rl r h
  simp only [bi1] at h
  cases e : lstOf S x with
  | none => rw [e] at h; exact h.elim
  | some vs =>
    rw [e] at h
    obtain ⟨a, us, rfl, h3, q3⟩ := lstOf_rv rl r e
    cases e2 : intsOf vs with
    | some is =>
      simp only [e2] at h
      split at h
      · have e3 := ints_rv q3 e2
        subst e3
        refine .inl ⟨a, is, rfl, .inl (.inl h3), fun ns p hp hs hn => ?_⟩
        rw [sortI_is hp hs]
        exact (newL_ok rl (rvs_ints _) h).2 p hn
      · exact h.elim
    | none =>
      simp only [e2] at h
      cases e3 : strsOf vs with
      | none => simp only [e3] at h; exact h.elim
      | some ss =>
        simp only [e3] at h
        split at h
        · rename_i hl
          obtain ⟨e4, e5⟩ := strs_rv q3 e3
          subst e4
          refine .inr ⟨a, ss.map mkS, rfl, .inl (.inl h3), by rw [List.length_map]; exact hl, fun ns p hp hs hn => ?_⟩
          rw [sortT_is hp hs]
          exact (newL_ok rl (rvs_strs fun s hs => e5 s ((sortT_perm ss).mem_iff.mp hs)) h).2 p hn
        · exact h.elim
theorem minI_le : ∀ (l : List Int) (m : Int), minI m l ≤ m ∧ (∀ y ∈ l, minI m l ≤ y) ∧ (minI m l = m ∨ minI m l ∈ l)
  | [], m => ⟨by simp [minI], by simp, .inl rfl⟩
  | x :: r, m => by
    obtain ⟨h1, h2, h3⟩ := minI_le r (if x < m then x else m)
    simp only [minI]
    generalize minI (if x < m then x else m) r = q at *
    by_cases hx : x < m
    · rw [if_pos hx] at h1 h3
      refine ⟨by omega, fun y hy => ?_, ?_⟩
      · rcases List.mem_cons.mp hy with rfl | hy
        · omega
        · exact h2 y hy
      · rcases h3 with rfl | h3
        · exact .inr (List.mem_cons_self ..)
        · exact .inr (List.mem_cons_of_mem _ h3)
    · rw [if_neg hx] at h1 h3
      refine ⟨by omega, fun y hy => ?_, ?_⟩
      · rcases List.mem_cons.mp hy with rfl | hy
        · omega
        · exact h2 y hy
      · rcases h3 with rfl | h3
        · exact .inl rfl
        · exact .inr (List.mem_cons_of_mem _ h3)
theorem maxI_le : ∀ (l : List Int) (m : Int), m ≤ maxI m l ∧ (∀ y ∈ l, y ≤ maxI m l) ∧ (maxI m l = m ∨ maxI m l ∈ l)
  | [], m => ⟨by simp [maxI], by simp, .inl rfl⟩
  | x :: r, m => by
    obtain ⟨h1, h2, h3⟩ := maxI_le r (if m < x then x else m)
    simp only [maxI]
    generalize maxI (if m < x then x else m) r = q at *
    by_cases hx : m < x
    · rw [if_pos hx] at h1 h3
      refine ⟨by omega, fun y hy => ?_, ?_⟩
      · rcases List.mem_cons.mp hy with rfl | hy
        · omega
        · exact h2 y hy
      · rcases h3 with rfl | h3
        · exact .inr (List.mem_cons_self ..)
        · exact .inr (List.mem_cons_of_mem _ h3)
    · rw [if_neg hx] at h1 h3
      refine ⟨by omega, fun y hy => ?_, ?_⟩
      · rcases List.mem_cons.mp hy with rfl | hy
        · omega
        · exact h2 y hy
      · rcases h3 with rfl | h3
        · exact .inl rfl
        · exact .inr (List.mem_cons_of_mem _ h3)
theorem ok_min {t : Bool} : Ok1 X W ca (bi1 .min t) (fun u H Q => rMin X.K [u] H Q) := by
  intro σ ι F S H x u Q rl r h
  simp only [bi1] at h
  cases e : lstOf S x with
  | none => rw [e] at h; exact h.elim
  | some vs =>
    rw [e] at h
    obtain ⟨a, us, rfl, h3, q3⟩ := lstOf_rv rl r e
    cases e2 : intsOf vs with
    | none => simp only [e2] at h; exact h.elim
    | some is =>
      simp only [e2] at h
      cases is with
      | nil => exact h.elim
      | cons i is =>
        have e3 := ints_rv q3 e2
        subst e3
        refine ⟨a, i :: is, rfl, .inl (.inl h3), by simp, fun m hm hy => ?_⟩
        obtain ⟨k1, k2, k3⟩ := minI_le is i
        have : m = minI i is := by
          have a1 : minI i is ≤ m := by
            rcases List.mem_cons.mp hm with rfl | hm
            · exact k1
            · exact k2 m hm
          have a2 : m ≤ minI i is := by
            rcases k3 with k3 | k3
            · rw [k3]; exact hy i (List.mem_cons_self ..)
            · exact hy _ (List.mem_cons_of_mem _ k3)
          omega
        rw [this]
        exact Fin.val rl (.int _) h
theorem ok_max {t : Bool} : Ok1 X W ca (bi1 .max t) (fun u H Q => rMax X.K [u] H Q) := by
  intro σ ι F S H x u Q rl r h
  simp only [bi1] at h
  cases e : lstOf S x with
  | none => rw [e] at h; exact h.elim
  | some vs =>
    rw [e] at h
    obtain ⟨a, us, rfl, h3, q3⟩ := lstOf_rv rl r e
    cases e2 : intsOf vs with
    | none => simp only [e2] at h; exact h.elim
    | some is =>
      simp only [e2] at h
      cases is with
      | nil => exact h.elim
      | cons i is =>
        have e3 := ints_rv q3 e2
        subst e3
        refine ⟨a, i :: is, rfl, .inl (.inl h3), by simp, fun m hm hy => ?_⟩
        obtain ⟨k1, k2, k3⟩ := maxI_le is i
        have : m = maxI i is := by
          have a1 : m ≤ maxI i is := by
            rcases List.mem_cons.mp hm with rfl | hm
            · exact k1
            · exact k2 m hm
          have a2 : maxI i is ≤ m := by
            rcases k3 with k3 | k3
            · rw [k3]; exact hy i (List.mem_cons_self ..)
            · exact hy _ (List.mem_cons_of_mem _ k3)
          omega
        rw [this]
        exact Fin.val rl (.int _) h
theorem ok_int {t : Bool} : Ok1 X W ca (bi1 .int t) (fun u H Q => (∃ i, [u] = [.int i] ∧ Q (.int i) H) ∨ ∃ k, [u] = [.bl k] ∧ Q (.int (if k then 1 else 0)) H) := by
  intro σ ι F S H x u Q rl r h
  cases r with
  | int i => exact .inl ⟨i, rfl, Fin.val rl (.int _) h⟩
  | bl b => exact .inr ⟨b, rfl, by cases b <;> exact Fin.val rl (.int _) h⟩
  | _ => exact h.elim
/-! two arguments -/
theorem ok_min2 : Ok2 X W ca (bi2 .min) (fun x y H Q => ∃ i j, [x, y] = [.int i, .int j] ∧ Q (.int (if j < i then j else i)) H) := by
  intro σ ι F S H x y u w Q rl r1 r2 h
  cases r1 <;> cases r2 <;> first | exact h.elim | exact ⟨_, _, rfl, Fin.val rl (.int _) h⟩
theorem ok_max2 : Ok2 X W ca (bi2 .max) (fun x y H Q => ∃ i j, [x, y] = [.int i, .int j] ∧ Q (.int (if j > i then j else i)) H) := by
  intro σ ι F S H x y u w Q rl r1 r2 h
  cases r1 <;> cases r2 <;> first | exact h.elim | exact ⟨_, _, rfl, Fin.val rl (.int _) h⟩
theorem pe_b2 {e e' : Expr} {x : Str} {id : String} {r : List V → Hp → VK → Prop} {f : Val → Val → Store → Res Val} {m m' : Sl → Store → Res Val} {p pos : Pos} (hc : CallR X (.builtin id) r) (hg : Gl X x) (hm : X.mg x = none) (hv : bootBuiltins x = some (.builtin id))
    (hs : noStar e = true) (hs' : noStar e' = true) (ha : PE X e (T X W ca m)) (hb : PE X e' (T X W ca m')) (hok : Ok2 X W ca f fun u w H Q => r [u, w] H Q) (hn : x ≠ "__name__") (hdb : (x == ("__debug__" : Str)) = false) :
    PE X (.Call (.Name x p) [e, e'] [] pos) (T X W ca fun σ S => (m σ S).bnd fun x S1 => (m' σ S1).bnd fun y S2 => f x y S2) :=
  PE.weak (pe_callB hc hg hm hv (pa_cons ha (pa_cons hb pa_nil (star_cons hs' [] X.env)) (star_cons hs [e'] X.env)) hn hdb (star_cons hs [e'] X.env) (star_any [e'] (by simp [hs']))) fun σ H Q ⟨ι, F, σ', S, rs, rl, q⟩ =>
    ⟨ι, F, σ', S, rs, rl, Fin.bind rs q fun v S1 ι1 F1 H1 u _ x1 rs1 rl1 rv1 q1 => ⟨ι1, F1, σ', S1, rs1, rl1, Fin.bind rs1 q1 fun v2 S2 ι2 F2 H2 u2 _ x2 rs2 rl2 rv2 q2 => hok σ ι2 F2 S2 H2 v v2 u u2 Q rl2 (rv1.mono x2.pre x2.sub) rv2 q2⟩⟩
/-! ### methods that read -/
structure OkN (X : Cx) (W : WX) (ca : Nat → Addr) (f : Mt) (t : Bool) (T : String) (r : V → List V → Hp → VK → Prop) : Prop where
  ty : ∀ (ι : List Addr) (F : Hp) (S : Store) (H : Hp) (x : Val) (u : V), RlH X.K ι F S H → RV X.K ι F x u → recv f x S = true → tyV X.K T u H
  ok : ∀ (σ : L2.St) (ι : List Addr) (F : Hp) (S : Store) (H : Hp) (x : Val) (u : V) (as : List Val) (ws : List V) (Q : VK), RlH X.K ι F S H → RV X.K ι F x u → RVs X.K ι F as ws → Fin X.K W ca σ ι F H (mth f t x as S) Q → r u ws H Q
theorem pe_nm {o e : Expr} {es : List Expr} {name : Str} {T id : String} {apos cpos : Pos} {f : Mt} {t : Bool} {r : V → List V → Hp → VK → Prop} {mo : Sl → Store → Res Val} {ms : Sl → Store → Res (List Val)} (pa : PlainAttrs T) (slot : Slot T name id) (hty : typeOf (.builtin id) = pure (.type "method_descriptor")) (hm : MtR X id r) (hok : OkN X W ca f t T r)
    (hb : (match o with | .Call _ _ _ _ => false | _ => true) = true) (hl : (apos.endLine == cpos.line) = true) (hs : (e :: es).all noStar = true) (hlen : (e :: es).length < 30) (ho : PE X o (E.T X W ca mo)) (ha : PA X (e :: es) (TAa X W ca ms)) :
    PE X (.Call (.Attribute o name apos) (e :: es) [] cpos) (E.T X W ca (mM f t mo ms)) := by
  have hs' := hs
  rw [List.all_cons, Bool.and_eq_true] at hs'
  have few : ∀ (es : List Expr), es.all noStar = true → (backTo cpos (starEach es X.env)).all (fun x => !x.1) = true := by
    intro es
    induction es with
    | nil => intro _; rfl
    | cons e es ih =>
      intro h
      rw [List.all_cons, Bool.and_eq_true] at h
      rw [star_cons h.1]
      show (true && (backTo cpos (starEach es X.env)).all (fun x => !x.1)) = true
      rw [ih h.2]; rfl
  refine PE.weak (pe_bm pa slot hty hm ho ha (base_no hb) ?_ hl (star_cons hs'.1 es X.env) (star_any es hs'.2)) fun σ H Q ⟨ι, F, σ', S, rs, rl, q⟩ => ⟨ι, F, σ', S, rs, rl, Fin.bind rs q fun v S1 ι1 F1 H1 u e1 x1 rs1 rl1 rv1 q1 => ?_⟩
  · rw [few _ hs, Bool.true_and]
    show (true && decide ((e :: es).length + 0 + 0 < 30)) = true
    rw [Bool.true_and]
    exact decide_eq_true hlen
  · by_cases hr : recv f v S1 = true
    · rw [if_pos hr] at q1
      refine ⟨hok.ty ι1 F1 S1 H1 v u rl1 rv1 hr, ι1, F1, σ', S1, rs1, rl1, FinA.bind rs1 q1 fun as S2 ι2 F2 H2 ws e2 x2 rs2 rl2 rv2 q2 => ?_⟩
      exact hok.ok σ ι2 F2 S2 H2 v u as ws Q rl2 (rv1.mono x2.pre x2.sub) rv2 q2
    · rw [if_neg hr] at q1; exact q1.elim
theorem joinL_eq (a : Tx) : ∀ ss : List Tx, TL.joinL a ss = joinT a ss
  | [] => rfl
  | [p] => rfl
  | p :: q :: r => by simp only [TL.joinL, joinT, joinL_eq a (q :: r)]
theorem joinT_len (a : Tx) : ∀ ss : List Tx, (joinT a ss).length ≤ (ss.map List.length).sum + ss.length * a.length
  | [] => by simp [joinT]
  | [p] => by simp [joinT]
  | p :: q :: r => by
    have := joinT_len a (q :: r)
    simp only [joinT, List.length_append, List.map_cons, List.sum_cons, List.length_cons] at this ⊢
    simp only [Nat.add_mul, Nat.one_mul] at this ⊢
    omega
theorem joinT_all (a : Tx) (p : Nat → Bool) (ha : a.all p = true) : ∀ ss : List Tx, (∀ s ∈ ss, s.all p = true) → (joinT a ss).all p = true
  | [], _ => rfl
  | [s], h => by simpa [joinT] using h s (List.mem_cons_self ..)
  | s :: q :: r, h => by
    have := joinT_all a p ha (q :: r) fun z hz => h z (List.mem_cons_of_mem _ hz)
    simp only [joinT, List.all_append, ha, this, h s (List.mem_cons_self ..)]; rfl
theorem okn_join {t : Bool} : OkN X W ca .join t "str" (fun x xs H Q => ∃ a p, ∃ ys : List Str, x = .str a ∧ xs = [.ref p] ∧ (SqL X.K H p (ys.map V.str) ∨ SqT X.K H p (ys.map V.str)) ∧
    (ys.map (·.length)).sum + ys.length * a.length ≤ 16777216 ∧ Q (.str (Txt.join a ys)) H) where
  ty := fun ι F S H x u rl rv h => by
    cases rv <;> first
      | (simp [recv] at h; done)
      | rfl
  ok := fun σ ι F S H x u as ws Q rl rv ra h => by
    cases rv with
    | str a hs =>
      cases ra with
      | nil => exact h.elim
      | @cons v w vs' ws' rv rt =>
        cases rt with
        | cons _ _ => exact h.elim
        | nil =>
          simp only [mth] at h
          cases e : lstOf S v with
          | none => simp only [e] at h; exact h.elim
          | some vs =>
            simp only [e] at h
            obtain ⟨p, us, rfl, h3, q3⟩ := lstOf_rv rl rv e
            cases e3 : strsOf vs with
            | none => simp only [e3] at h; exact h.elim
            | some ss =>
              simp only [e3] at h
              by_cases hz : (ss.map List.length).sum + ss.length * a.length ≤ SZ
              · rw [if_pos hz] at h
                obtain ⟨e4, e5⟩ := strs_rv q3 e3
                subst e4
                have hl : ((ss.map mkS).map (·.length)) = ss.map List.length := by
                  rw [List.map_map]
                  exact List.map_congr_left fun s _ => mkS_len s
                refine ⟨mkS a, p, ss.map mkS, rfl, rfl, .inl (.inl (.inl h3)), ?_, ?_⟩
                · rw [hl, List.length_map, mkS_len]; exact hz
                · have e6 : Txt.join (mkS a) (ss.map mkS) = mkS (joinT a ss) := (SX.join_S a ss).trans (by rw [joinL_eq]; rfl)
                  rw [e6]
                  refine Fin.val rl (.str _ ?_) h
                  unfold okT at hs ⊢
                  rw [joinT_all a _ (Bool.and_eq_true_iff.mp hs).1 ss (fun s hs => by
                    have := e5 s hs
                    unfold okT at this
                    exact (Bool.and_eq_true_iff.mp this).1)]
                  exact decide_eq_true (Nat.le_trans (joinT_len a ss) hz)
              · rw [if_neg hz] at h; exact h.elim
    | _ => simp only [mth] at h; exact h.elim
theorem ixOf_ok {k j : Nat} {a : Val} : ∀ {bs : List Val} {n : Nat}, ixOf a bs = some n → dles k bs = true → dle j a = true → (∃ z, (toPDs bs)[n]? = some z ∧ PyData.eqv z (toPD a) = true) ∧ ∀ (m : Nat) (z' : PyData), m < n → (toPDs bs)[m]? = some z' → PyData.eqv z' (toPD a) = false
  | [], n, h, _, _ => by simp [ixOf] at h
  | b :: bs, n, h, g, g2 => by
    rw [dles] at g
    obtain ⟨g3, g4⟩ := Bool.and_eq_true_iff.mp g
    simp only [ixOf] at h
    split at h
    · rename_i hb
      cases h
      refine ⟨⟨toPD b, by simp [toPDs], by rw [eqv_pd k j b a g3 g2]; exact hb⟩, fun m z' hm => by omega⟩
    · rename_i hb
      rw [Option.map_eq_some_iff] at h
      obtain ⟨n', e, rfl⟩ := h
      obtain ⟨⟨z, z1, z2⟩, z3⟩ := ixOf_ok e g4 g2
      refine ⟨⟨z, by simpa [toPDs] using z1, z2⟩, fun m z' hm hz => ?_⟩
      cases m with
      | zero =>
        simp [toPDs] at hz
        subst hz
        rw [eqv_pd k j b a g3 g2]
        simpa using hb
      | succ m => exact z3 m z' (by omega) (by simpa [toPDs] using hz)
theorem okn_index {t : Bool} : OkN X W ca .index t "list" (rIndexD X.K) where
  ty := fun ι F S H x u rl rv h => by
    simp only [recv] at h
    cases e : lstOf S x with
    | none => rw [e] at h; cases h
    | some vs =>
      obtain ⟨p, us, rfl, h3, q3⟩ := lstOf_rv rl rv e
      exact .inl ⟨rfl, us, .inl (.inl h3)⟩
  ok := fun σ ι F S H x u as ws Q rl rv ra h => by
    cases ra with
    | nil => cases x <;> exact h.elim
    | @cons v w vs' ws' rv2 rt =>
      cases rt with
      | cons _ _ => cases x <;> exact h.elim
      | nil =>
        have h' : Fin X.K W ca σ ι F H (match lstOf S x, snap 64 S x, snap 64 S v with
          | some _, some (.lst p bs), some a => if dle 60 a && dle 60 (.lst p bs) then (match ixOf a bs with
            | some j => .ok (.int j) S
            | none => .bad) else .bad
          | _, _, _ => .bad) Q := by cases x <;> exact h
        cases e : lstOf S x with
        | none => rw [e] at h'; exact h'.elim
        | some vs =>
          obtain ⟨p, us, rfl, h3, q3⟩ := lstOf_rv rl rv e
          cases hx : snap 64 S x with
          | none => rw [e, hx] at h'; exact h'.elim
          | some c =>
            cases hy : snap 64 S v with
            | none => rw [e, hx, hy] at h'; cases c <;> exact h'.elim
            | some a =>
              rw [e, hx, hy] at h'
              cases c with
              | lst o bs =>
                simp only at h'
                split at h'
                · rename_i hd
                  obtain ⟨g1, g2⟩ := Bool.and_eq_true_iff.mp hd
                  obtain ⟨d1, s1⟩ := (snap_ok rl rv2 hy).shaped g1
                  obtain ⟨d2, s2⟩ := (snap_ok rl rv hx).shaped g2
                  simp only [toPD] at d2 s2
                  cases ei : ixOf a bs with
                  | none => simp only [ei] at h'; exact h'.elim
                  | some j =>
                    simp only [ei] at h'
                    obtain ⟨⟨z, z1, z2⟩, z3⟩ := ixOf_ok (k := 59) (j := 60) ei (by simpa only [dle] using g2) g1
                    exact ⟨p, w, _, _, j, z, rfl, rfl, d2, d1, s2, s1, z1, z2, z3, Fin.val rl (.int _) h'⟩
                · exact h'.elim
              | _ => exact h'.elim
/-! ### more that change a list -/
theorem okm_reverse {t : Bool} : OkM X W ca .reverse t rReverse := by
  intro σ ι F S H n a vs us as ws Q rl hn hS hH r rw' q
  cases rw' with
  | cons _ _ => exact q.elim
  | nil =>
    simp only [mth, hS] at q
    exact ⟨_, _, rfl, rfl, hH, q ι F _ .non (Ex.write rl hn _) (rl.write hn (.lst r.reverse)) .non⟩
theorem RVs.erase {ι : List Addr} {F : Hp} : ∀ {vs : List Val} {us : List V} (k : Nat), RVs X.K ι F vs us → RVs X.K ι F (vs.eraseIdx k) (us.eraseIdx k)
  | _, _, _, .nil => .nil
  | _, _, 0, .cons a b => b
  | _, _, k + 1, .cons a b => .cons a (RVs.erase k b)
theorem lim_is {i : Int} (h : lim62 i = true) : -(2 ^ 63) ≤ i ∧ i < 2 ^ 63 := by
  unfold lim62 at h
  rw [Bool.and_eq_true, decide_eq_true_iff, decide_eq_true_iff] at h
  omega
theorem okm_insert {t : Bool} : OkM X W ca .insert t (fun x vs H Q => ∃ (l : Addr) (xs : List V) (i : Int) (y : V), x = .ref l ∧ vs = [.int i, y] ∧ H l = some (.lst xs) ∧ xs.length < sizeLine ∧ 0 ≤ i ∧ i < 2 ^ 63 ∧
    Q .non (upd H l (.lst (xs.take i.toNat ++ [y] ++ xs.drop i.toNat)))) := by
  intro σ ι F S H n a vs us as ws Q rl hn hS hH r rw' q
  cases rw' with
  | nil => exact q.elim
  | cons rv rt =>
    cases rt with
    | nil => cases rv <;> exact q.elim
    | cons rv2 rt2 =>
      cases rt2 with
      | cons _ _ => cases rv <;> exact q.elim
      | nil =>
        cases rv with
        | int i =>
          simp only [mth, hS] at q
          split at q
          · rename_i hc
            obtain ⟨h1, h2, h3⟩ := hc
            exact ⟨a, us, i, _, rfl, rfl, hH, by rw [← r.length, sizeLine_eq]; exact h1, h2, (lim_is h3).2, q ι F _ .non (Ex.write rl hn _) (rl.write hn (.lst (((r.take _).append (.cons rv2 .nil)).append (r.drop _)))) .non⟩
          · exact q.elim
        | _ => exact q.elim
theorem seq_ix {n k : Nat} {i : Int} (e : E.ixN n i = some k) : seqIndex? i n = some k := by
  unfold E.ixN at e
  unfold seqIndex?
  by_cases h0 : 0 ≤ i
  · rw [if_pos h0] at e
    by_cases h1 : i < n
    · rw [if_pos h1] at e
      cases e
      have : ¬ i < 0 := by omega
      simp [this, h0, h1]
    · rw [if_neg h1] at e; cases e
  · rw [if_neg h0] at e
    by_cases h1 : -(n : Int) ≤ i
    · rw [if_pos h1] at e
      cases e
      have a1 : i < 0 := by omega
      have a2 : 0 ≤ i + (n : Int) := by omega
      have a3 : i + (n : Int) < n := by omega
      simp [a1, a2, a3]
    · rw [if_neg h1] at e; cases e
theorem okm_popAt {t : Bool} : OkM X W ca .popAt t rPopAt := by
  intro σ ι F S H n a vs us as ws Q rl hn hS hH r rw' q
  cases rw' with
  | nil => exact q.elim
  | cons rv rt =>
    cases rt with
    | cons _ _ => cases rv <;> exact q.elim
    | nil =>
      cases rv with
      | int i =>
        simp only [mth, hS] at q
        split at q
        · rename_i hc
          cases e : E.ixN vs.length i with
          | none => simp only [e] at q; exact q.elim
          | some k =>
            simp only [e] at q
            cases e2 : vs[k]? with
            | none => simp only [e2] at q; exact q.elim
            | some y =>
              simp only [e2] at q
              obtain ⟨u, h1, h2⟩ := r.get e2
              refine ⟨a, us, i, k, u, rfl, rfl, hH, (lim_is hc).1, (lim_is hc).2, ?_, h1, q ι F _ u (Ex.write rl hn _) (rl.write hn (.lst (RVs.erase k r))) h2⟩
              rw [← r.length]
              exact seq_ix e
        · exact q.elim
      | _ => exact q.elim
/-! ### xs[::-1] -/
theorem pe_bk {e : Expr} {k : Nat} {p1 p2 p3 pos : Pos} {t : Bool} {m : Sl → Store → Res Val} (he : PE X e (E.T X W ca m)) : PE X (.Subscript e (.Slice none none (some (.UnaryOp .USub (.Constant (.int 1) k p1) p2)) p3) pos)
    (E.T X W ca fun σ S => (m σ S).bnd fun x S1 => (match lstOf S1 x with
    | some vs => newL t vs.reverse S1
    | none => .bad)) :=
  PE.weak (pe_revL he) fun σ H Q ⟨ι, F, σ', S, rs, rl, q⟩ => ⟨ι, F, σ', S, rs, rl, Fin.bind rs q fun v S1 ι1 F1 H1 u _ x1 rs1 rl1 rv1 q1 => by
    cases e : lstOf S1 v with
    | none => simp only [e] at q1; exact q1.elim
    | some vs =>
      simp only [e] at q1
      obtain ⟨p, us, rfl, h3, q3⟩ := lstOf_rv rl1 rv1 e
      exact ⟨p, us, rfl, .inl (.inl h3), (newL_ok rl1 q3.reverse q1).2⟩⟩
end
end E

set_option linter.all false
set_option autoImplicit false
set_option Elab.async false
set_option maxHeartbeats 4000000
/-! Soundness: the check of a text against its term, and what it gives. -/
namespace E
open PySem PySem.Spec L2
mutual
def eqVal : Val → Val → Bool
  | .non, .non => true
  | .bl a, .bl b => a == b
  | .int a, .int b => a == b
  | .str a, .str b => a == b
  | .tup a, .tup b => eqVals a b
  | _, _ => false
def eqVals : List Val → List Val → Bool
  | [], [] => true
  | a :: as, b :: bs => eqVal a b && eqVals as bs
  | _, _ => false
end
mutual
theorem eqVal_ok : ∀ (a b : Val), eqVal a b = true → a = b
  | .non, b, h => by cases b <;> first | rfl | (simp only [eqVal] at h; cases h)
  | .bl x, b, h => by cases b <;> first | (simp only [eqVal] at h; cases h; done) | (simp only [eqVal, beq_iff_eq] at h; rw [h])
  | .int x, b, h => by cases b <;> first | (simp only [eqVal] at h; cases h; done) | (simp only [eqVal, beq_iff_eq] at h; rw [h])
  | .str x, b, h => by cases b <;> first | (simp only [eqVal] at h; cases h; done) | (simp only [eqVal, beq_iff_eq] at h; rw [h])
  | .tup x, b, h => by
    cases b with
    | tup y => simp only [eqVal] at h; rw [eqVals_ok x y h]
    | _ => simp only [eqVal] at h; cases h
  | .lst _ _, b, h => by simp only [eqVal] at h; cases h
  | .dic _ _ _, b, h => by simp only [eqVal] at h; cases h
  | .ins _ _ _, b, h => by simp only [eqVal] at h; cases h
  | .ref _, b, h => by simp only [eqVal] at h; cases h
  | .ro _, b, h => by simp only [eqVal] at h; cases h
theorem eqVals_ok : ∀ (a b : List Val), eqVals a b = true → a = b
  | [], b, h => by cases b <;> first | rfl | (simp only [eqVals] at h; cases h)
  | x :: xs, b, h => by
    cases b with
    | nil => simp only [eqVals] at h; cases h
    | cons y ys =>
      rw [eqVals, Bool.and_eq_true] at h
      rw [eqVal_ok x y h.1, eqVals_ok xs ys h.2]
end
/-- what of the module is known -/
structure Sta where
  fn : List (Nat × Str × Nat) := []
  con : List (Str × Val) := []
  free : List Str := []
  exc : List (Nat × Str) := []
structure Ctx where
  N : List Str
  sc : Scope
  st : Str → Bool
  calm : Bool := true
  top : Bool := true
def visB (sc : Scope) (x : Str) : Bool := match sc.names.lookup x with
  | some .local => true
  | some .cell => true
  | some .free => true
  | _ => false
def glB (sc : Scope) (x : Str) : Bool := match sc.names.lookup x with
  | some .globalImplicit => true
  | _ => false
def locB (sc : Scope) (x : Str) : Bool := match sc.names.lookup x with
  | some .local => true
  | some .cell => true
  | _ => false
def isLocB (sc : Scope) (x : Str) : Bool := match sc.names.lookup x with
  | some .local => true
  | _ => false
def plainN (x : Str) : Bool := !(x == ("__debug__" : Str)) && !(x == ("__classdict__" : Str)) && !decide (x = "__name__")
def opB : Op2 → Operator → Bool
  | .add, .Add => true
  | .sub, .Sub => true
  | .mul, .Mult => true
  | .fdiv, .FloorDiv => true
  | .mod, .Mod => true
  | .pow, .Pow => true
  | _, _ => false
theorem opB_ok {o : Op2} {p : Operator} (h : opB o p = true) : p = opOf o := by
  cases o <;> cases p <;> first | rfl | cases h
def copB : Cop → CmpOp → Bool
  | .eq, .Eq => true
  | .ne, .NotEq => true
  | .lt, .Lt => true
  | .le, .LtE => true
  | .gt, .Gt => true
  | .ge, .GtE => true
  | .is, .Is => true
  | .isnot, .IsNot => true
  | .in_, .In => true
  | .notin, .NotIn => true
  | _, _ => false
theorem copB_ok {o : Cop} {p : CmpOp} (h : copB o p = true) : p = copOf o := by
  cases o <;> cases p <;> first | rfl | cases h
def okK : Val → Const → Bool
  | .int i, .int j => decide (i = j)
  | .bl i, .bool j => decide (i = j)
  | .non, .none => true
  | .str s, .str x => decide (x = mkS s) && okT s
  | _, _ => false
def b1N : B1 → Option Str
  | .len => some "len"
  | .list => some "list"
  | .tuple => some "tuple"
  | .sum => some "sum"
  | .all => some "all"
  | .any => some "any"
  | .int => some "int"
  | .sorted => some "sorted"
  | .min => some "min"
  | .max => some "max"
  | _ => none
def b2N : B2 → Str
  | .min => "min"
  | .max => "max"
def tyN : Ty → Str
  | .int => "int"
  | .bool => "bool"
  | .str => "str"
  | .tuple => "tuple"
  | .list => "list"
def isNon : ME → Bool
  | .k .non => true
  | _ => false
def noSet : Expr → Bool
  | .Set _ _ _ => false
  | _ => true
def isTupE : Expr → Bool
  | .Tuple _ _ _ => true
  | _ => false
def noCall : Expr → Bool
  | .Call _ _ _ _ => false
  | _ => true
theorem noSet_is {e : Expr} (h : noSet e = true) (env : Env) : ∀ x, foldedSetIterable e env x = pure x := by
  intro x
  cases e <;> first | rfl | cases h
/-- a source against its text; fa, fb: the checks of its parts -/
def okI (P : Sta) (C : Ctx) (k : Ik) (fa fb : Expr → Bool) (nb : Bool) (tgE iter : Expr) : Bool := noSet iter && (match k with
  | .val => nb && fa iter
  | .r1 => (match iter with
    | .Call (.Name x _) [e] [] _ => decide (x = "range") && glB C.sc "range" && P.free.contains "range" && noStar e && nb && fa e
    | _ => false)
  | .r2 => (match iter with
    | .Call (.Name x _) [e, e'] [] _ => decide (x = "range") && glB C.sc "range" && P.free.contains "range" && noStar e && noStar e' && fa e && fb e'
    | _ => false)
  | .r3 => (match iter with
    | .Call (.Name x _) [e, e', .UnaryOp .USub (.Constant (.int i) _ _) _] [] _ => decide (i = 1) && decide (x = "range") && glB C.sc "range" && P.free.contains "range" && noStar e && noStar e' && fa e && fb e'
    | _ => false)
  | .enu => (match iter with
    | .Call (.Name x _) [e] [] _ => isTupE tgE && decide (x = "enumerate") && glB C.sc "enumerate" && P.free.contains "enumerate" && noStar e && nb && fa e
    | _ => false)
  | .zip => (match iter with
    | .Call (.Name x _) [e, e'] [] _ => isTupE tgE && decide (x = "zip") && glB C.sc "zip" && P.free.contains "zip" && noStar e && noStar e' && fa e && fb e'
    | _ => false)
  | .rev => (match iter with
    | .Call (.Name x _) [e] [] _ => decide (x = "reversed") && glB C.sc "reversed" && P.free.contains "reversed" && noStar e && nb && fa e
    | _ => false))
mutual
def okTg (C : Ctx) : Tg → Expr → Bool
  | .n i, .Name x _ => decide (C.N[i]? = some x) && C.st x
  | .t ts, .Tuple es _ _ => es.all noStar && decide (es.length = ts.length) && okTgs C ts es
  | _, _ => false
def okTgs (C : Ctx) : List Tg → List Expr → Bool
  | [], [] => true
  | t :: ts, e :: es => okTg C t e && okTgs C ts es
  | _, _ => false
end
/-- the context of a comprehension's block -/
def Ctx.blk (C : Ctx) (scope : Scope) : Ctx := { C with sc := relS scope C.sc, st := locB scope, top := false }
def ownOf (N : List Str) (ow : List Nat) : List (Str × Nat) := ow.map fun i => ((N[i]?).getD "", i)
def methN : Mt → Option Str
  | .append => some "append"
  | .extend => some "extend"
  | .clear => some "clear"
  | .pop => some "pop"
  | .popAt => some "pop"
  | .insert => some "insert"
  | .reverse => some "reverse"
  | .join => some "join"
  | .index => some "index"
  | _ => none
mutual
def okE (P : Sta) : Ctx → ME → Expr → Bool
  | C, .k v, e => (match e with
    | .Constant c _ _ => okK v c
    | _ => false)
  | C, .v i, e => (match e with
    | .Name x _ => decide (C.N[i]? = some x) && visB C.sc x && plainN x
    | _ => false)
  | C, .g n v, e => (match e with
    | .Name x _ => decide (x = mkS n) && glB C.sc x && plainN x && P.con.any fun p => decide (p.1 = x) && eqVal v p.2
    | _ => false)
  | C, .bin t o a b, e => (match e with
    | .BinOp l op r _ => opB o op && okE P C a l && okE P C b r
    | _ => false)
  | C, .neg a, e => (match e with
    | .UnaryOp .USub l _ => okE P C a l
    | _ => false)
  | C, .not a, e => (match e with
    | .UnaryOp .Not l _ => okE P C a l
    | _ => false)
  | C, .cmp o a b, e => (match e with
    | .Compare l [op] [r] _ => (copB o op && (plainC o || noSetE r)) && C.calm && okE P C a l && okE P C b r
    | _ => false)
  | C, .chn o p a b c, e => (match e with
    | .Compare l [op, op'] [r, r'] _ => (copB o op && plainC o) && (copB p op' && plainC p) && C.calm && okE P C a l && okE P C b r && okE P C c r'
    | _ => false)
  | C, .chn3 .., e => false
  | C, .and a b, e => (match e with
    | .BoolOp .And (x :: y :: r) p => okE P C a x && okE P C b (.BoolOp .And (y :: r) p)
    | _ => false)
  | C, .or a b, e => (match e with
    | .BoolOp .Or (x :: y :: r) p => okE P C a x && okE P C b (.BoolOp .Or (y :: r) p)
    | _ => false)
  | C, .one a, e => (match e with
    | .BoolOp _ [x] _ => okE P C a x
    | _ => false)
  | C, .ite c a b, e => (match e with
    | .IfExp x y z _ => okE P C c x && okE P C a y && okE P C b z
    | _ => false)
  | C, .tup es, e => (match e with
    | .Tuple xs _ _ => okEs P C es xs
    | _ => false)
  | C, .lst t es, e => (match e with
    | .List xs _ => okEs P C es xs
    | _ => false)
  | C, .dic .., e => false
  | C, .ix a b, e => (match e with
    | .Subscript l r _ => noSlice r && okE P C a l && okE P C b r
    | _ => false)
  | C, .sl t a hl lo hh hi, e => (match e with
    | .Subscript l (.Slice lo' hi' none _) _ => okE P C a l && (match hl, lo' with
      | true, some x => okE P C lo x
      | false, none => isNon lo
      | _, _ => false) && (match hh, hi' with
      | true, some x => okE P C hi x
      | false, none => isNon hi
      | _, _ => false)
    | _ => false)
  | C, .bk t a, e => (match e with
    | .Subscript l (.Slice none none (some (.UnaryOp .USub (.Constant (.int i) _ _) _)) _) _ => decide (i = 1) && okE P C a l
    | _ => false)
  | C, .b1 f t a, e => (match e with
    | .Call (.Name x _) [l] [] _ => decide (b1N f = some x) && glB C.sc x && P.free.contains x && noStar l && C.calm && okE P C a l
    | _ => false)
  | C, .b2 f a b, e => (match e with
    | .Call (.Name x _) [l, r] [] _ => decide (x = b2N f) && glB C.sc x && P.free.contains x && noStar l && noStar r && C.calm && okE P C a l && okE P C b r
    | _ => false)
  | C, .isi a ty, e => (match e with
    | .Call (.Name x _) [l, .Name y _] [] _ => decide (x = "isinstance") && glB C.sc x && P.free.contains x && decide (y = tyN ty) && glB C.sc y && P.free.contains y && noStar l && okE P C a l
    | _ => false)
  | C, .call f t as, e => (match e with
    | .Call (.Name x _) (l :: ls) [] _ => C.calm && glB C.sc x && plainN x && (l :: ls).all noStar && okEs P C as (l :: ls) && P.fn.any fun p => decide (p = (f, x, (l :: ls).length))
    | _ => false)
  | C, .m f t o as, e => (match e with
    | .Call (.Attribute l nm ap) xs [] cp => decide (methN f = some nm) && noCall l && (ap.endLine == cp.line) && okE P C o l && okEs P C as xs && xs.all noStar && (match f with
      | .append => decide (xs.length = 1)
      | .extend => decide (xs.length = 1)
      | .clear => decide (xs.length = 0)
      | .pop => decide (xs.length = 0)
      | .popAt => decide (xs.length = 1)
      | .insert => decide (xs.length = 2)
      | .reverse => decide (xs.length = 0)
      | .join => decide (xs.length = 1)
      | .index => decide (xs.length = 1) && C.calm
      | _ => false)
    | _ => false)
  | C, .at .., e => false
  | C, .um .., e => false
  | C, .new .., e => false
  | C, .lc t ow tg k a b hc c e', e => (match e with
    | .ListComp elt [⟨tgE, iter, ifs, 0⟩] scope _ => C.calm && okI P C k (okE P C a) (okE P C b) (isNon b) tgE iter && blkC C.N C.sc scope (ownOf C.N ow) && (tgS tg).all (ow.contains ·) && okTg (C.blk scope) tg tgE &&
        (match hc, ifs with
        | true, [x] => okE P (C.blk scope) c x
        | false, [] => true
        | _, _ => false) && okE P (C.blk scope) e' elt
    | _ => false)
def okEs (P : Sta) : Ctx → List ME → List Expr → Bool
  | C, [], es => (match es with
    | [] => true
    | _ => false)
  | C, m :: ms, es => (match es with
    | x :: xs => noStar x && okE P C m x && okEs P C ms xs
    | _ => false)
end
/-- facts of the module -/
structure G0 (K : Frag) (mg : Str → Option Value) (ca : Nat → Addr) (P : Sta) : Prop where
  con : ∀ x v, (x, v) ∈ P.con → ∃ u w, mg x = some w ∧ RelV u w ∧ ∀ ι F, RV K ι F v u
  free : ∀ x ∈ P.free, mg x = none
  exc : ∀ c x, (c, x) ∈ P.exc → mg x = some (.ref (ca c)) ∧ PySem.W.excIn K (ca c) He.veBase "ValueError.__new__" = true ∧ PySem.W.keepIn K (.ref (ca c)) = true ∧ PySem.W.subIn K (.ref (ca c)) (.type "BaseException") = some true ∧ PySem.W.typeIn K (.ref (ca c)) = some (.type "type")
  exm : ∀ c x d y, (c, x) ∈ P.exc → (d, y) ∈ P.exc → PySem.W.exmOne K (.ref (ca c)) (.ref (ca d)) = some (catches c d)
/-- facts of a context -/
structure Gd (X : Cx) (W : WX) (ca : Nat → Addr) (Γ : Gam) (P : Sta) (C : Ctx) : Prop where
  g0 : G0 X.K X.mg ca P
  N : X.N = C.N
  nd : X.N.Nodup
  sc : X.env.scope = C.sc
  sto : ∀ x, C.st x = true → Loc X.env.scope x ∧ (X.fn x = true ∨ X.env.scope.names.lookup x = some .local)
  calm : C.calm = true → X.calm = true
  tk : Takes X W
  un : C.calm = true → X.A.units + 65 < cLine
  own : C.calm = true → PassesOwn (model X.prog X.w) X.A X.env X.xe
  fr : C.top = true → X.stack = X.env :: X.outer ∧ X.env.frame = some X.env.locals ∧ X.env.scope.kind = .function
  fns : C.calm = true → ∀ f x n, (f, x, n) ∈ P.fn → ∃ (k : Nat) (fa : Addr) (fd : FuncData) (ps : List Str), ps.length = n ∧ FnOk X.prog X.w X.K X.mg X.base (L2.CX X.prog X.w) k fa fd ps (spec X.K ca (Γ f) n) ∧ Room k X.A ∧ X.mg x = some (.ref fa) ∧ PySem.W.keepIn X.K (.ref fa) = true ∧ Binds X.K fd ps []
section
variable {ca : Nat → Addr} {Γ : Gam} {P : Sta}
theorem and2 {a b : Bool} (h : (a && b) = true) : a = true ∧ b = true := Bool.and_eq_true_iff.mp h
theorem visB_ok {X : Cx} {x : Str} (h : visB X.env.scope x = true) : Vis X.env.scope x := by
  unfold visB at h
  unfold Vis
  split at h
  · rename_i e; exact .inl e
  · rename_i e; exact .inr (.inl e)
  · rename_i e; exact .inr (.inr e)
  · cases h
theorem glB_ok {X : Cx} {x : Str} (h : glB X.env.scope x = true) : Gl X x := by
  unfold glB at h
  unfold Gl Env.kindOf
  split at h
  · rename_i e; exact e
  · cases h
theorem plainN_ok {x : Str} (h : plainN x = true) : (x == ("__debug__" : Str)) = false ∧ (x == ("__classdict__" : Str)) = false ∧ x ≠ "__name__" := by
  unfold plainN at h
  obtain ⟨h1, h2⟩ := and2 h
  obtain ⟨h3, h4⟩ := and2 h1
  refine ⟨by simpa using h3, by simpa using h4, ?_⟩
  simpa using h2
theorem Gd.free {X : Cx} {W : WX} {C : Ctx} (g : Gd X W ca Γ P C) {x : Str} (h : P.free.contains x = true) : X.mg x = none := g.g0.free x (by simpa using h)
theorem Gd.gl {X : Cx} {W : WX} {C : Ctx} (g : Gd X W ca Γ P C) {x : Str} (h : glB C.sc x = true) : Gl X x := glB_ok (by rw [g.sc]; exact h)
/-! ### targets -/
mutual
theorem okTg_ok {X : Cx} {C : Ctx} (hN : X.N = C.N) (nd : X.N.Nodup) (hc : X.calm = true) (sto : ∀ x, C.st x = true → Loc X.env.scope x ∧ (X.fn x = true ∨ X.env.scope.names.lookup x = some .local)) : ∀ (t : Tg) (e : Expr), okTg C t e = true → PG X e (gM X.K t)
  | .n i, e, h => by
    cases e <;> first
      | (simp only [okTg] at h; cases h; done)
      | skip
    rename_i x pos
    simp only [okTg] at h
    obtain ⟨h1, h2⟩ := and2 h
    obtain ⟨h3, h4⟩ := sto x h2
    exact pg_n nd (by rw [hN]; exact of_decide_eq_true h1) h3 h4
  | .t ts, e, h => by
    cases e <;> first
      | (simp only [okTg] at h; cases h; done)
      | skip
    rename_i es k pos
    simp only [okTg] at h
    obtain ⟨h1, h2⟩ := and2 h
    obtain ⟨h3, h4⟩ := and2 h1
    exact pg_t hc h3 (of_decide_eq_true h4) (okTgs_ok hN nd hc sto ts es h3 h2)
theorem okTgs_ok {X : Cx} {C : Ctx} (hN : X.N = C.N) (nd : X.N.Nodup) (hc : X.calm = true) (sto : ∀ x, C.st x = true → Loc X.env.scope x ∧ (X.fn x = true ∨ X.env.scope.names.lookup x = some .local)) : ∀ (t : List Tg) (e : List Expr), e.all noStar = true → okTgs C t e = true → PGs X e (gMs X.K t)
  | [], e, _, h => by
    cases e with
    | nil => exact pgs_n
    | cons x xs => simp only [okTgs] at h; cases h
  | t :: ts, e, hs, h => by
    cases e with
    | nil => simp only [okTgs] at h; cases h
    | cons x xs =>
      simp only [okTgs] at h
      obtain ⟨h1, h2⟩ := and2 h
      rw [List.all_cons] at hs
      obtain ⟨s1, s2⟩ := and2 hs
      exact pgs_c s1 (okTg_ok hN nd hc sto t x h1) (okTgs_ok hN nd hc sto ts xs s2 h2)
end
/-- the block's context -/
theorem Gd.blk {X : Cx} {W : WX} {C : Ctx} (g : Gd X W ca Γ P C) (hc : C.calm = true) (s : Shared) (H : Hp) (scope : Scope) (cl : List (Str × Addr)) (Ca : Addr) (fp : List Addr) :
    Gd (X.blk s H scope (compEnvC scope cl Ca X.env) fp) Wf ca Γ P (C.blk scope) where
  g0 := g.g0
  N := g.N
  nd := g.nd
  sc := by
    show relabel scope X.env = relS scope C.sc
    rw [← g.sc]; rfl
  sto := fun x h => by
    have h' : locB scope x = true := h
    unfold locB at h'
    have hr : (relabel scope X.env).names = (relS scope X.env.scope).names := rfl
    split at h'
    · rename_i e
      have e2 : (relS scope X.env.scope).names.lookup x = some .local := lookup_relS_keep (by decide) e
      exact ⟨.inl (by show (relabel scope X.env).names.lookup x = _; rw [hr]; exact e2), .inr (by show (relabel scope X.env).names.lookup x = _; rw [hr]; exact e2)⟩
    · rename_i e
      have e2 : (relS scope X.env.scope).names.lookup x = some .cell := lookup_relS_keep (by decide) e
      exact ⟨.inr (by show (relabel scope X.env).names.lookup x = _; rw [hr]; exact e2), .inl (by show (scope.names.lookup x == some .cell) = true; rw [e]; rfl)⟩
    · cases h'
  calm := fun _ => g.calm hc
  tk := takes0
  un := fun _ => g.un hc
  own := fun _ => PassesOwn.never
  fr := fun z => by cases z
  fns := fun _ => g.fns hc
end
end E

set_option linter.all false
set_option autoImplicit false
set_option Elab.async false
set_option maxHeartbeats 4000000
/-! Soundness: expressions as a whole. -/
namespace E
open PySem PySem.Spec L2
section
variable {ca : Nat → Addr} {Γ : Gam} {P : Sta}
theorem Snd.of {X : Cx} {W : WX} {m m' : Sl → Store → Res Val} {e : Expr} (h : m = m') (s : Snd X W ca m' e) : Snd X W ca m e := h ▸ s
theorem non_ev {b : ME} (z : isNon b = true) : ev Γ b = fun _ S => .ok .non S := by
  cases b <;> first
    | (simp only [isNon] at z; cases z; done)
    | skip
  rename_i v
  cases v <;> first
    | (simp only [isNon] at z; cases z; done)
    | skip
  funext σ S; simp only [ev]
theorem okI_ok {X : Cx} {W : WX} {C : Ctx} (g : Gd X W ca Γ P C) (hc : C.calm = true) {k : Ik} {a b : ME} (ha : ∀ e, okE P C a e = true → PE X e (T X W ca (ev Γ a))) (hb : ∀ e, okE P C b e = true → PE X e (T X W ca (ev Γ b))) {tgE iter : Expr}
    (h : okI P C k (okE P C a) (okE P C b) (isNon b) tgE iter = true) : PI X tgE iter (TIi X W ca (mSrc k (ev Γ a) (ev Γ b))) ∧ ∀ x, foldedSetIterable iter X.env x = pure x := by
  unfold okI at h
  obtain ⟨h0, h⟩ := and2 h
  refine ⟨?_, noSet_is h0 X.env⟩
  have non : isNon b = true → ev Γ b = mNon := fun z => non_ev z
  cases k with
  | val =>
    obtain ⟨h1, h2⟩ := and2 h
    rw [non h1]
    exact pi_v (ha iter h2)
  | r1 =>
    simp only at h
    split at h
    · obtain ⟨h, h6⟩ := and2 h
      obtain ⟨h, h5⟩ := and2 h
      obtain ⟨h, h4⟩ := and2 h
      obtain ⟨h, h3⟩ := and2 h
      obtain ⟨h1, h2⟩ := and2 h
      rw [of_decide_eq_true h1, non h5]
      exact pi_1 (g.gl h2) (g.free h3) h4 (ha _ h6)
    · cases h
  | r2 =>
    simp only at h
    split at h
    · obtain ⟨h, h7⟩ := and2 h
      obtain ⟨h, h6⟩ := and2 h
      obtain ⟨h, h5⟩ := and2 h
      obtain ⟨h, h4⟩ := and2 h
      obtain ⟨h, h3⟩ := and2 h
      obtain ⟨h1, h2⟩ := and2 h
      rw [of_decide_eq_true h1]
      exact pi_2 (g.gl h2) (g.free h3) h4 h5 (ha _ h6) (hb _ h7)
    · cases h
  | r3 =>
    simp only at h
    split at h
    · obtain ⟨h, h7⟩ := and2 h
      obtain ⟨h, h6⟩ := and2 h
      obtain ⟨h, h5⟩ := and2 h
      obtain ⟨h, h4⟩ := and2 h
      obtain ⟨h, h3⟩ := and2 h
      obtain ⟨h, h2⟩ := and2 h
      obtain ⟨h0, h1⟩ := and2 h
      rw [of_decide_eq_true h0, of_decide_eq_true h1]
      exact pi_3 (g.gl h2) (g.free h3) h4 h5 (ha _ h6) (hb _ h7)
    · cases h
  | enu =>
    simp only at h
    split at h
    · obtain ⟨h, h6⟩ := and2 h
      obtain ⟨h, h5⟩ := and2 h
      obtain ⟨h, h4⟩ := and2 h
      obtain ⟨h, h3⟩ := and2 h
      obtain ⟨h, h2⟩ := and2 h
      obtain ⟨h0, h1⟩ := and2 h
      cases tgE <;> first
        | (cases h0; done)
        | skip
      rw [of_decide_eq_true h1, non h5]
      exact pi_e (g.gl h2) (g.free h3) h4 (ha _ h6)
    · cases h
  | zip =>
    simp only at h
    split at h
    · obtain ⟨h, h7⟩ := and2 h
      obtain ⟨h, h6⟩ := and2 h
      obtain ⟨h, h5⟩ := and2 h
      obtain ⟨h, h4⟩ := and2 h
      obtain ⟨h, h3⟩ := and2 h
      obtain ⟨h, h2⟩ := and2 h
      obtain ⟨h0, h1⟩ := and2 h
      cases tgE <;> first
        | (cases h0; done)
        | skip
      rw [of_decide_eq_true h1]
      exact pi_z (g.gl h2) (g.free h3) h4 h5 (ha _ h6) (hb _ h7)
    · cases h
  | rev =>
    simp only at h
    split at h
    · obtain ⟨h, h6⟩ := and2 h
      obtain ⟨h, h5⟩ := and2 h
      obtain ⟨h, h4⟩ := and2 h
      obtain ⟨h, h3⟩ := and2 h
      obtain ⟨h1, h2⟩ := and2 h
      rw [of_decide_eq_true h1, non h5]
      exact pi_r (g.gl h2) (g.free h3) h4 (ha _ h6)
    · cases h
theorem boot_sum : bootBuiltins "sum" = some (.builtin "sum") := by decide +kernel
theorem boot_all : bootBuiltins "all" = some (.builtin "all") := by decide +kernel
theorem boot_sorted : bootBuiltins "sorted" = some (.builtin "sorted") := by decide +kernel
theorem boot_min : bootBuiltins "min" = some (.builtin "min") := by decide +kernel
theorem boot_max : bootBuiltins "max" = some (.builtin "max") := by decide +kernel
theorem boot_int : bootBuiltins "int" = some (.type "int") := by decide +kernel
theorem boot_any : bootBuiltins "any" = some (.builtin "any") := by decide +kernel
theorem b1_ok {X : Cx} {W : WX} {C : Ctx} (g : Gd X W ca Γ P C) (hc : C.calm = true) {f : B1} {t : Bool} {x : Str} {l : Expr} {m : Sl → Store → Res Val} {p pos : Pos} (hn : b1N f = some x) (hg : Gl X x) (hf : X.mg x = none) (hs : noStar l = true) (h : PE X l (T X W ca m)) :
    PE X (.Call (.Name x p) [l] [] pos) (T X W ca fun σ S => (m σ S).bnd fun x S1 => bi1 f t x S1) := by
  have cx := g.calm hc
  cases f <;> first
    | (cases hn; done)
    | skip
  · cases hn; exact pe_b (CallR.or call_len_seq call_len_str) hg hf PySem.boot_len hs h ok_len (by decide) (by decide)
  · cases hn; exact pe_bT call_list_of hg hf PyProof.Rows.boot_list hs h ok_list (by decide) (by decide)
  · cases hn; exact pe_bT call_tuple_of hg hf PyProof.Rows.boot_tuple hs h ok_tuple (by decide) (by decide)
  · cases hn; exact pe_bT call_int1 hg hf boot_int hs h ok_int (by decide) (by decide)
  · cases hn; exact pe_b (cr_sum cx) hg hf boot_sum hs h ok_sum (by decide) (by decide)
  · cases hn; exact pe_b (cr_all cx) hg hf boot_all hs h ok_all (by decide) (by decide)
  · cases hn; exact pe_b (cr_any cx) hg hf boot_any hs h ok_any (by decide) (by decide)
  · cases hn; exact pe_b (CallR.or cr_sortedI cr_sortedS) hg hf boot_sorted hs h ok_sorted (by decide) (by decide)
  · cases hn; exact pe_b (cr_min cx) hg hf boot_min hs h ok_min (by decide) (by decide)
  · cases hn; exact pe_b (cr_max cx) hg hf boot_max hs h ok_max (by decide) (by decide)
theorem boot_ty (ty : Ty) : bootBuiltins (tyN ty) = some (.type (tyName ty)) := by cases ty <;> decide +kernel
theorem evs_len : ∀ (as : List ME) (σ : Sl) (S : Store) (vs : List Val) (S' : Store), evs Γ as σ S = .ok vs S' → vs.length = as.length
  | [], σ, S, vs, S', h => by simp only [evs] at h; cases h; rfl
  | a :: as, σ, S, vs, S', h => by
    simp only [evs] at h
    obtain ⟨v, S1, e1, h⟩ := bnd_ok h
    obtain ⟨ws, S2, e2, h⟩ := bnd_ok h
    cases h
    rw [List.length_cons, evs_len as σ S1 ws _ e2, List.length_cons]
theorem okEs_len : ∀ {C : Ctx} {as : List ME} {es : List Expr}, okEs P C as es = true → as.length = es.length
  | C, [], es, h => by
    cases es with
    | nil => rfl
    | cons => simp only [okEs] at h; cases h
  | C, a :: as, es, h => by
    cases es with
    | nil => simp only [okEs] at h; cases h
    | cons x xs =>
      simp only [okEs] at h
      rw [List.length_cons, List.length_cons, okEs_len (and2 h).2]
/-- the parts of a comprehension -/
structure LcParts (X : Cx) (W : WX) (ca : Nat → Addr) (ow : List Nat) (tg : Tg) (mi : Sl → Store → Res (Src × Nat)) (mc : Sl → Store → Res Bool) (me : Sl → Store → Res Val) (tgE iter elt : Expr) (ifs : List Expr) (scope : Scope) (own : List (Str × Nat)) : Prop where
  hi : PI X tgE iter (TIi X W ca mi)
  hs : ∀ x, foldedSetIterable iter X.env x = pure x
  ok : BlkOk X.N X.env.scope scope own
  hw : own.map (·.2) = ow
  hg : ∀ (s : Shared) (H : Hp) (C : Addr) (cl : List (Str × Addr)) (fp : List Addr), PG (X.blk s H scope (compEnvC scope cl C X.env) fp) tgE (gM X.K tg)
  ht : ∀ (s : Shared) (H : Hp) (C : Addr) (cl : List (Str × Addr)) (fp : List Addr), PTs (X.blk s H scope (compEnvC scope cl C X.env) fp) ifs (tMT X.K Wf ca mc)
  he : ∀ (s : Shared) (H : Hp) (C : Addr) (cl : List (Str × Addr)) (fp : List Addr), PE (X.blk s H scope (compEnvC scope cl C X.env) fp) elt (tM X.K Wf ca me)
  ht' : ∀ i ∈ tgS tg, i ∈ ow
def mTest (hc : Bool) (m : Sl → Store → Res Val) : Sl → Store → Res Bool := fun σ S => if hc then (m σ S).bnd fun x S1 => ofO (truth S1 x) S1 else .ok true S
theorem ev_lc {t : Bool} {ow : List Nat} {tg : Tg} {k : Ik} {a b c e : ME} {hc : Bool} : ev Γ (.lc t ow tg k a b hc c e) = mLc t ow tg (mSrc k (ev Γ a) (ev Γ b)) (mTest hc (ev Γ c)) (ev Γ e) := by
  funext σ S
  simp only [ev, mLc, mSrc]
  cases ev Γ a σ S with
  | bad => rfl
  | exc x S1 => rfl
  | ok x S1 =>
    show Res.bnd (ev Γ b σ S1) _ = Res.bnd (Res.bnd (ev Γ b σ S1) _) _
    cases ev Γ b σ S1 with
    | bad => rfl
    | exc y S2 => rfl
    | ok y S2 =>
      show (match mkSrc S2 k x y with | none => _ | some (s, n) => _) = Res.bnd (ofO (mkSrc S2 k x y) S2) _
      cases mkSrc S2 k x y with
      | none => rfl
      | some p => rfl
theorem LcParts.pe {X : Cx} {W : WX} {C : Ctx} {t : Bool} {ow : List Nat} {tg : Tg} {k : Ik} {a b c e : ME} {hc : Bool} {tgE iter elt : Expr} {ifs : List Expr} {scope : Scope} {own : List (Str × Nat)} {pos : Pos} (h1 : C.calm = true) (g : Gd X W ca Γ P C)
    (l : LcParts X W ca ow tg (mSrc k (ev Γ a) (ev Γ b)) (mTest hc (ev Γ c)) (ev Γ e) tgE iter elt ifs scope own) : PE X (.ListComp elt [⟨tgE, iter, ifs, 0⟩] scope pos) (T X W ca (ev Γ (.lc t ow tg k a b hc c e))) := by
  rw [ev_lc]
  have h := pe_lc (pos := pos) (g.calm h1) g.nd l.hi l.ok l.hg l.ht l.he l.hs
  rw [l.hw] at h
  exact PE.weak h (lc_ok l.ht')
theorem PTs.weak {X : Cx} {ifs : List Expr} {t t' : TT} (h : PTs X ifs t) (w : ∀ σ H Q, t' σ H Q → t σ H Q) : PTs X ifs t' := ⟨fun pins s σ H Q I q => h.run pins s σ H Q I (w σ H Q q)⟩
theorem lc_parts {X : Cx} {W : WX} {C : Ctx} {ow : List Nat} {tg : Tg} {k : Ik} {a b c e' : ME} {hc : Bool} {tgE iter elt : Expr} {ifs : List Expr} {scope : Scope} (h1 : C.calm = true) (h2 : okI P C k (okE P C a) (okE P C b) (isNon b) tgE iter = true) (h3 : blkC C.N C.sc scope (ownOf C.N ow) = true)
      (h4 : (tgS tg).all (ow.contains ·) = true) (h5 : okTg (C.blk scope) tg tgE = true) (h6 : (match hc, ifs with
        | true, [x] => okE P (C.blk scope) c x
        | false, [] => true
        | _, _ => false) = true) (h7 : okE P (C.blk scope) e' elt = true) (g : Gd X W ca Γ P C) (ha : ∀ e, okE P C a e = true → PE X e (T X W ca (ev Γ a))) (hb : ∀ e, okE P C b e = true → PE X e (T X W ca (ev Γ b)))
      (hcc : ∀ {X : Cx} {W : WX} {C : Ctx} (g : Gd X W ca Γ P C) (e : Expr), okE P C c e = true → Snd X W ca (ev Γ c) e) (hee : ∀ {X : Cx} {W : WX} {C : Ctx} (g : Gd X W ca Γ P C) (e : Expr), okE P C e' e = true → Snd X W ca (ev Γ e') e) :
      LcParts X W ca ow tg (mSrc k (ev Γ a) (ev Γ b)) (mTest hc (ev Γ c)) (ev Γ e') tgE iter elt ifs scope (ownOf C.N ow) where
  hi := (okI_ok g h1 ha hb h2).1
  hs := (okI_ok g h1 ha hb h2).2
  ok := by rw [g.N, g.sc]; exact blkOk_by h3
  hw := by unfold ownOf; rw [List.map_map]; exact List.map_id' ow
  hg := fun s H Ca cl fp => by
    have g' := g.blk h1 s H scope cl Ca fp
    exact okTg_ok g'.N g'.nd (g'.calm h1) g'.sto tg tgE h5
  ht := fun s H Ca cl fp => by
    have g' := g.blk h1 s H scope cl Ca fp
    cases hc with
    | true =>
      cases ifs with
      | nil => cases h6
      | cons x xs =>
        cases xs with
        | cons => cases h6
        | nil => exact pts_one (hcc g' x h6).pt
    | false =>
      cases ifs with
      | cons => cases h6
      | nil => exact PTs.weak pts_nil fun σ H Q ⟨ι, F, σ', S, rs, rl, q⟩ => q ι F H Ex.refl rl
  he := fun s H Ca cl fp => (hee (g.blk h1 s H scope cl Ca fp) elt h7).pe
  ht' := fun i hi => by
    rw [List.all_eq_true] at h4
    simpa using h4 i hi
mutual
theorem okE_ok : ∀ (m : ME) {X : Cx} {W : WX} {C : Ctx} (g : Gd X W ca Γ P C) (e : Expr), okE P C m e = true → Snd X W ca (ev Γ m) e
  | .k v, X, W, C, g, e, h => by
    simp only [okE] at h
    split at h
    · refine Snd.plain ?_ rfl
      unfold okK at h
      split at h
      · rw [← of_decide_eq_true h]; exact pe_kint
      · rw [← of_decide_eq_true h]; exact pe_kbl
      · exact pe_knon
      · obtain ⟨h1, h2⟩ := and2 h
        exact pe_kstr (of_decide_eq_true h1) h2
      · cases h
    · cases h
  | .v i, X, W, C, g, e, h => by
    simp only [okE] at h
    split at h
    · obtain ⟨h, h3⟩ := and2 h
      obtain ⟨h1, h2⟩ := and2 h
      obtain ⟨p1, p2, p3⟩ := plainN_ok h3
      exact Snd.plain (pe_vr (by rw [g.N]; exact of_decide_eq_true h1) (visB_ok (by rw [g.sc]; exact h2)) p1 p2) rfl
    · cases h
  | .g n v, X, W, C, g, e, h => by
    simp only [okE] at h
    split at h
    · obtain ⟨h, h4⟩ := and2 h
      obtain ⟨h, h3⟩ := and2 h
      obtain ⟨h1, h2⟩ := and2 h
      obtain ⟨p1, p2, p3⟩ := plainN_ok h3
      rw [List.any_eq_true] at h4
      obtain ⟨⟨y, w⟩, hm, h5⟩ := h4
      obtain ⟨h6, h7⟩ := and2 h5
      have e1 : v = w := eqVal_ok v w h7
      subst e1
      have e2 : y = _ := of_decide_eq_true h6
      subst e2
      obtain ⟨u, w, q1, q2, q3⟩ := g.g0.con _ _ hm
      exact Snd.plain (pe_gl (g.gl h2) q1 q2 q3 p1) rfl
    · cases h
  | .bin t o a b, X, W, C, g, e, h => by
    simp only [okE] at h
    split at h
    · obtain ⟨h, h3⟩ := and2 h
      obtain ⟨h1, h2⟩ := and2 h
      rw [opB_ok h1]
      exact Snd.plain (pe_bin o (okE_ok a g _ h2).pe (okE_ok b g _ h3).pe) rfl
    · cases h
  | .neg a, X, W, C, g, e, h => by
    simp only [okE] at h
    split at h
    · exact Snd.plain (pe_neg (okE_ok a g _ h).pe) rfl
    · cases h
  | .not a, X, W, C, g, e, h => by
    simp only [okE] at h
    split at h
    · exact snd_not (okE_ok a g _ h)
    · cases h
  | .cmp o a b, X, W, C, g, e, h => by
    simp only [okE] at h
    split at h
    · obtain ⟨h, h4⟩ := and2 h
      obtain ⟨h, h3⟩ := and2 h
      obtain ⟨h1, h2⟩ := and2 h
      obtain ⟨h1, c2⟩ := and2 h1
      have c1 := copB_ok h1
      rw [c1]
      exact snd_cmp (g.un h2) (Bool.or_eq_true_iff.mp c2) (okE_ok a g _ h3).pe (okE_ok b g _ h4).pe
    · cases h
  | .chn o p a b c, X, W, C, g, e, h => by
    simp only [okE] at h
    split at h
    · obtain ⟨h, h6⟩ := and2 h
      obtain ⟨h, h5⟩ := and2 h
      obtain ⟨h, h4⟩ := and2 h
      obtain ⟨h, h3⟩ := and2 h
      obtain ⟨h1, h2⟩ := and2 h
      obtain ⟨h1, c2⟩ := and2 h1
      obtain ⟨h2, c4⟩ := and2 h2
      have c1 := copB_ok h1
      have c3 := copB_ok h2
      rw [c1, c3]
      exact snd_chn (g.un h3) c2 c4 (okE_ok a g _ h4).pe (okE_ok b g _ h5).pe (okE_ok c g _ h6).pe
    · cases h
  | .chn3 .., X, W, C, g, e, h => by simp only [okE] at h; cases h
  | .and a b, X, W, C, g, e, h => by
    simp only [okE] at h
    split at h
    · obtain ⟨h1, h2⟩ := and2 h
      exact snd_and (okE_ok a g _ h1) (okE_ok b g _ h2)
    · cases h
  | .or a b, X, W, C, g, e, h => by
    simp only [okE] at h
    split at h
    · obtain ⟨h1, h2⟩ := and2 h
      exact snd_or (okE_ok a g _ h1) (okE_ok b g _ h2)
    · cases h
  | .one a, X, W, C, g, e, h => by
    simp only [okE] at h
    split at h
    · exact snd_one (okE_ok a g _ h)
    · cases h
  | .ite c a b, X, W, C, g, e, h => by
    simp only [okE] at h
    split at h
    · obtain ⟨h, h3⟩ := and2 h
      obtain ⟨h1, h2⟩ := and2 h
      exact snd_ite (okE_ok c g _ h1) (okE_ok a g _ h2) (okE_ok b g _ h3)
    · cases h
  | .tup es, X, W, C, g, e, h => by
    simp only [okE] at h
    split at h
    · exact Snd.plain (pe_tp (okEs_ok es g _ h)) rfl
    · cases h
  | .lst t es, X, W, C, g, e, h => by
    simp only [okE] at h
    split at h
    · exact Snd.plain (pe_ls (okEs_ok es g _ h)) rfl
    · cases h
  | .dic .., X, W, C, g, e, h => by simp only [okE] at h; cases h
  | .ix a b, X, W, C, g, e, h => by
    simp only [okE] at h
    split at h
    · obtain ⟨h, h3⟩ := and2 h
      obtain ⟨h1, h2⟩ := and2 h
      exact Snd.plain (pe_sub h1 (okE_ok a g _ h2).pe (okE_ok b g _ h3).pe) rfl
    · cases h
  | .sl t a hl lo hh hi, X, W, C, g, e, h => by
    simp only [okE] at h
    split at h
    · rename_i l lo' hi' p2 p3
      obtain ⟨h, h3⟩ := and2 h
      obtain ⟨h1, h2⟩ := and2 h
      have hlo : OPE X W ca lo' (ev Γ lo) ∧ hl = lo'.isSome := by
        cases hl <;> cases lo' <;> first
          | (cases h2; done)
          | skip
        · exact ⟨non_ev h2, rfl⟩
        · exact ⟨(okE_ok lo g _ h2).pe, rfl⟩
      have hhi : OPE X W ca hi' (ev Γ hi) ∧ hh = hi'.isSome := by
        cases hh <;> cases hi' <;> first
          | (cases h3; done)
          | skip
        · exact ⟨non_ev h3, rfl⟩
        · exact ⟨(okE_ok hi g _ h3).pe, rfl⟩
      rw [hlo.2, hhi.2]
      exact Snd.plain (pe_sl (okE_ok a g _ h1).pe hlo.1 hhi.1) rfl
    · cases h
  | .bk t a, X, W, C, g, e, h => by
    simp only [okE] at h
    split at h
    · obtain ⟨h1, h2⟩ := and2 h
      rw [of_decide_eq_true h1]
      exact Snd.plain (pe_bk (okE_ok a g _ h2).pe) rfl
    · cases h
  | .b1 f t a, X, W, C, g, e, h => by
    simp only [okE] at h
    split at h
    · obtain ⟨h, h6⟩ := and2 h
      obtain ⟨h, h5⟩ := and2 h
      obtain ⟨h, h4⟩ := and2 h
      obtain ⟨h, h3⟩ := and2 h
      obtain ⟨h1, h2⟩ := and2 h
      exact Snd.plain (b1_ok g h5 (of_decide_eq_true h1) (g.gl h2) (g.free h3) h4 (okE_ok a g _ h6).pe) rfl
    · cases h
  | .b2 f a b, X, W, C, g, e, h => by
    simp only [okE] at h
    split at h
    · obtain ⟨h, h8⟩ := and2 h
      obtain ⟨h, h7⟩ := and2 h
      obtain ⟨h, h6⟩ := and2 h
      obtain ⟨h, h5⟩ := and2 h
      obtain ⟨h, h4⟩ := and2 h
      obtain ⟨h, h3⟩ := and2 h
      obtain ⟨h1, h2⟩ := and2 h
      have hx := of_decide_eq_true h1
      have cx := g.calm h6
      subst hx
      cases f with
      | min => exact Snd.plain (pe_b2 (call_min2 cx) (g.gl h2) (g.free h3) boot_min h4 h5 (okE_ok a g _ h7).pe (okE_ok b g _ h8).pe ok_min2 (by decide) (by decide)) rfl
      | max => exact Snd.plain (pe_b2 (call_max2 cx) (g.gl h2) (g.free h3) boot_max h4 h5 (okE_ok a g _ h7).pe (okE_ok b g _ h8).pe ok_max2 (by decide) (by decide)) rfl
    · cases h
  | .isi a ty, X, W, C, g, e, h => by
    simp only [okE] at h
    split at h
    · obtain ⟨h, h8⟩ := and2 h
      obtain ⟨h, h7⟩ := and2 h
      obtain ⟨h, h6⟩ := and2 h
      obtain ⟨h, h5⟩ := and2 h
      obtain ⟨h, h4⟩ := and2 h
      obtain ⟨h, h3⟩ := and2 h
      obtain ⟨h1, h2⟩ := and2 h
      have e1 := of_decide_eq_true h1
      have e2 := of_decide_eq_true h4
      subst e1 e2
      exact Snd.plain (pe_isi (g.gl h2) (g.free h3) (g.gl h5) (g.free h6) (boot_ty ty) h7 (okE_ok a g _ h8).pe (by cases ty <;> decide) (by cases ty <;> decide)) rfl
    · cases h
  | .call f t as, X, W, C, g, e, h => by
    simp only [okE] at h
    split at h
    · obtain ⟨h, h6⟩ := and2 h
      obtain ⟨h, h5⟩ := and2 h
      obtain ⟨h, h4⟩ := and2 h
      obtain ⟨h, h3⟩ := and2 h
      obtain ⟨h1, h2⟩ := and2 h
      obtain ⟨p1, p2, p3⟩ := plainN_ok h3
      rw [List.any_eq_true] at h6
      obtain ⟨q, hm, h7⟩ := h6
      rw [of_decide_eq_true h7] at hm
      obtain ⟨k, fa, fd, ps, e1, F1, r1, m1, k1, b1⟩ := g.fns h1 _ _ _ hm
      refine Snd.plain (pe_cl (g := Γ f) (ms := evs Γ as) g.tk (by rw [e1]; exact F1) r1 (g.gl h2) m1 k1 b1 e1.symm h4 (okEs_ok as g _ h5) (fun σ S vs S' z => ?_) p1) rfl
      rw [evs_len as σ S vs S' z, okEs_len h5, e1]
    · cases h
  | .m f t o as, X, W, C, g, e, h => by
    simp only [okE] at h
    split at h
    · rename_i l nm ap xs cp
      obtain ⟨h, h7⟩ := and2 h
      obtain ⟨h, h6⟩ := and2 h
      obtain ⟨h, h5⟩ := and2 h
      obtain ⟨h, h4⟩ := and2 h
      obtain ⟨h, h3⟩ := and2 h
      obtain ⟨h1, h2⟩ := and2 h
      have ho := (okE_ok o g _ h4).pe
      have ha := okEs_ok as g _ h5
      have hl := okEs_len h5
      refine Snd.plain ?_ rfl
      have e0 : ev Γ (.m f t o as) = mM f t (ev Γ o) (evs Γ as) := by funext σ S; simp only [ev]; rfl
      rw [e0]
      have hnm := of_decide_eq_true h1
      have hcall : ∀ l : Expr, noCall l = true → (match l with | .Call _ _ _ _ => false | _ => true) = true := fun l z => by cases l <;> first | rfl | cases z
      cases f with
      | append =>
        cases hnm
        have hx := of_decide_eq_true h7
        obtain ⟨x, rfl⟩ := List.length_eq_one_iff.mp hx
        exact pe_lm PySem.F.slot_list_append PySem.F.type_list_append mt_append rfl okm_append (hcall _ h2) h3 h6 (by show 1 < 30; decide) ho ha
      | extend =>
        cases hnm
        have hx := of_decide_eq_true h7
        obtain ⟨x, rfl⟩ := List.length_eq_one_iff.mp hx
        exact pe_lm PySem.F.slot_list_extend PySem.F.type_list_extend mt_extend rfl okm_extend (hcall _ h2) h3 h6 (by show 1 < 30; decide) ho ha
      | popAt =>
        cases hnm
        have hx := of_decide_eq_true h7
        obtain ⟨x, rfl⟩ := List.length_eq_one_iff.mp hx
        exact pe_lm PySem.F.slot_list_pop PySem.F.type_list_pop mt_popAt rfl okm_popAt (hcall _ h2) h3 h6 (by show 1 < 30; decide) ho ha
      | insert =>
        cases hnm
        have hx := of_decide_eq_true h7
        obtain ⟨x, y, rfl⟩ : ∃ x y, xs = [x, y] := by
          match xs, hx with
          | [x, y], _ => exact ⟨x, y, rfl⟩
        exact pe_lm PySem.F.slot_list_insert PySem.F.type_list_insert mt_insert rfl okm_insert (hcall _ h2) h3 h6 (by show 2 < 30; decide) ho ha
      | join =>
        cases hnm
        have hx := of_decide_eq_true h7
        obtain ⟨x, rfl⟩ := List.length_eq_one_iff.mp hx
        exact pe_nm PySem.F.plainAttrs_str PySem.F.slot_str_join PySem.F.type_str_join mt_join okn_join (hcall _ h2) h3 h6 (by show 1 < 30; decide) ho ha
      | index =>
        cases hnm
        obtain ⟨h7, h8⟩ := and2 h7
        have hx := of_decide_eq_true h7
        obtain ⟨x, rfl⟩ := List.length_eq_one_iff.mp hx
        exact pe_nm PySem.F.plainAttrs_list PySem.F.slot_list_index PySem.F.type_list_index (mt_indexD (g.un h8)) okn_index (hcall _ h2) h3 h6 (by show 1 < 30; decide) ho ha
      | pop =>
        cases hnm
        have hx := of_decide_eq_true h7
        have hx := List.length_eq_zero_iff.mp hx
        subst hx
        have : as = [] := List.length_eq_zero_iff.mp hl
        subst this
        have e1 : evs Γ [] = fun _ S => .ok [] S := by funext σ S; simp only [evs]
        rw [e1]
        exact pe_lm0 PySem.F.slot_list_pop PySem.F.type_list_pop mt_pop rfl okm_pop (hcall _ h2) h3 ho
      | reverse =>
        cases hnm
        have hx := of_decide_eq_true h7
        have hx := List.length_eq_zero_iff.mp hx
        subst hx
        have : as = [] := List.length_eq_zero_iff.mp hl
        subst this
        have e1 : evs Γ [] = fun _ S => .ok [] S := by funext σ S; simp only [evs]
        rw [e1]
        exact pe_lm0 PySem.F.slot_list_reverse PySem.F.type_list_reverse mt_reverse rfl okm_reverse (hcall _ h2) h3 ho
      | clear =>
        cases hnm
        have hx := of_decide_eq_true h7
        have hx := List.length_eq_zero_iff.mp hx
        subst hx
        have : as = [] := List.length_eq_zero_iff.mp hl
        subst this
        have e1 : evs Γ [] = fun _ S => .ok [] S := by funext σ S; simp only [evs]
        rw [e1]
        exact pe_lm0 PySem.F.slot_list_clear PySem.F.type_list_clear mt_clear rfl okm_clear (hcall _ h2) h3 ho
      | _ => cases hnm
    · cases h
  | .at .., X, W, C, g, e, h => by simp only [okE] at h; cases h
  | .um .., X, W, C, g, e, h => by simp only [okE] at h; cases h
  | .new .., X, W, C, g, e, h => by simp only [okE] at h; cases h
  | .lc t ow tg k a b hc c e', X, W, C, g, e, h => by
    simp only [okE] at h
    split at h
    · obtain ⟨h, h7⟩ := and2 h
      obtain ⟨h, h6⟩ := and2 h
      obtain ⟨h, h5⟩ := and2 h
      obtain ⟨h, h4⟩ := and2 h
      obtain ⟨h, h3⟩ := and2 h
      obtain ⟨h1, h2⟩ := and2 h
      exact Snd.plain (LcParts.pe h1 g (lc_parts h1 h2 h3 h4 h5 h6 h7 g (fun e he => (okE_ok a g e he).pe) (fun e he => (okE_ok b g e he).pe) (fun {X W C} g e he => okE_ok c g e he) (fun {X W C} g e he => okE_ok e' g e he))) rfl
    · cases h
theorem okEs_ok : ∀ (ms : List ME) {X : Cx} {W : WX} {C : Ctx} (g : Gd X W ca Γ P C) (es : List Expr), okEs P C ms es = true → PA X es (TAa X W ca (evs Γ ms))
  | [], X, W, C, g, es, h => by
    cases es with
    | nil =>
      have e1 : evs Γ [] = fun _ S => .ok [] S := by funext σ S; simp only [evs]
      rw [e1]; exact pa_n
    | cons x xs => simp only [okEs] at h; cases h
  | m :: ms, X, W, C, g, es, h => by
    cases es with
    | nil => simp only [okEs] at h; cases h
    | cons x xs =>
      simp only [okEs] at h
      obtain ⟨h, h3⟩ := and2 h
      obtain ⟨h1, h2⟩ := and2 h
      have e1 : evs Γ (m :: ms) = mCons (ev Γ m) (evs Γ ms) := by funext σ S; simp only [evs]; rfl
      rw [e1]
      exact pa_c h1 (okE_ok m g _ h2).pe (okEs_ok ms g _ h3)
end
end
end E

set_option linter.all false
set_option autoImplicit false
set_option Elab.async false
set_option maxHeartbeats 4000000
/-! Soundness: statements as a whole. -/
namespace E
open PySem PySem.Spec L2
def noTupE : Expr → Bool
  | .Tuple _ _ _ => false
  | _ => true
/-- name = comprehension: swapped (the name a local) or not -/
def swOk (sc : Scope) (x : Str) (px : Pos) (v : Expr) : Bool := match v with
  | .ListComp _ _ scope vp => if isLocB sc x then (px.line == vp.line) && !(scope.names.any fun (n, k) => n == x && (k == .local || k == .cell)) else true
  | .SetComp _ _ _ _ => false
  | .DictComp _ _ _ _ _ => false
  | _ => true
def hasX (P : Sta) (c : Nat) (x : Str) : Bool := P.exc.any fun p => decide (p = (c, x))
def okH (P : Sta) (C : Ctx) : List Nat → List ME → List ExceptHandler → Bool
  | c :: cs, m :: ms, h :: hs => (match h with
    | .ExceptHandler (some (.Name x _)) none [.Return (some e) _] _ => hasX P c x && glB C.sc x && plainN x && okE P { C with calm := false, top := false } m e
    | .ExceptHandler (some (.Name x _)) none [.Return none _] _ => hasX P c x && glB C.sc x && plainN x && isNon m
    | _ => false) && okH P C cs ms hs
  | [], [], [] => true
  | _, _, _ => false
mutual
def okS (P : Sta) : Ctx → MS → Stmt → Bool
  | C, .pass, s => (match s with
    | .Pass _ => true
    | _ => false)
  | C, .ex e, s => (match s with
    | .Expr x _ => noComp x && okE P C e x
    | _ => false)
  | C, .set i e, s => (match s with
    | .Assign [.Name x px] v _ => decide (C.N[i]? = some x) && C.st x && C.calm && C.top && swOk C.sc x px v && okE P C e v
    | _ => false)
  | C, .tgt ts e, s => (match s with
    | .Assign [.Tuple es k p] v _ => C.calm && noTupE v && noComp v && okTg C (.t ts) (.Tuple es k p) && okE P C e v
    | _ => false)
  | C, .par .., s => false
  | C, .sub o i e, s => (match s with
    | .Assign [.Subscript o' i' _] v _ => noSlice i' && noComp v && okE P C o o' && okE P C i i' && okE P C e v
    | _ => false)
  | C, .att .., s => false
  | C, .aug i o e, s => (match s with
    | .AugAssign (.Name x _) .Add v _ => decide (o = .add) && decide (C.N[i]? = some x) && C.st x && okE P C e v
    | _ => false)
  | C, .augs .., s => false
  | C, .ife c a b, s => (match s with
    | .If c' a' b' _ => okE P C c c' && okSs P C a a' && okSs P C b b'
    | _ => false)
  | C, .for tg k a b body, s => (match s with
    | .For tgE iter body' [] _ => C.calm && okI P C k (okE P C a) (okE P C b) (isNon b) tgE iter && okTg C tg tgE && okSs P C body body'
    | _ => false)
  | C, .whl c body, s => (match s with
    | .While c' body' [] _ => C.calm && okE P C c c' && okSs P C body body'
    | _ => false)
  | C, .ret e, s => (match s with
    | .Return (some x) _ => okE P C e x
    | _ => false)
  | C, .retn, s => (match s with
    | .Return none _ => true
    | _ => false)
  | C, .rai c, s => (match s with
    | .Raise (some (.Call (.Name x _) [.Constant (.str _) _ _] [] _)) none _ => C.calm && hasX P c x && glB C.sc x && plainN x
    | _ => false)
  | C, .raiR .., s => false
  | C, .try body ks cs es, s => (match s with
    | .Try body' (h :: hs) [] [] _ => C.calm && C.top && okSs P C body body' && okH P C cs es (h :: hs) && ks.all fun c => P.exc.any fun p => p.1 == c
    | _ => false)
def okSs (P : Sta) : Ctx → List MS → List Stmt → Bool
  | C, [], s => (match s with
    | [] => true
    | _ => false)
  | C, m :: ms, s => (match s with
    | x :: xs => okS P C m x && okSs P C ms xs
    | _ => false)
end
section
variable {ca : Nat → Addr} {Γ : Gam} {P : Sta}
theorem hasX_ok {c : Nat} {x : Str} (h : hasX P c x = true) : (c, x) ∈ P.exc := by
  unfold hasX at h
  rw [List.any_eq_true] at h
  obtain ⟨p, hm, h⟩ := h
  rw [of_decide_eq_true h] at hm; exact hm
theorem Gd.tr {X : Cx} {W W' : WX} {C : Ctx} (g : Gd X W ca Γ P C) (pn : List (Addr × Obj)) (xe : Value → Shared → Prop) (tk : Takes (X.tr pn xe) W') (ho : PassesOwn (model X.prog X.w) X.A X.env xe) : Gd (X.tr pn xe) W' ca Γ P C :=
  ⟨g.g0, g.N, g.nd, g.sc, g.sto, g.calm, tk, g.un, fun _ => ho, g.fr, g.fns⟩
theorem Gd.suite {X : Cx} {W : WX} {C : Ctx} (g : Gd X W ca Γ P C) (a : Addr) (pn : List (Addr × Obj)) : Gd (X.suite a pn) Wf ca Γ P { C with calm := false, top := false } :=
  ⟨g.g0, g.N, g.nd, g.sc, g.sto, (fun z => nomatch z), takes0, (fun z => nomatch z), (fun z => nomatch z), (fun z => nomatch z), (fun z => nomatch z)⟩
/-- what a clause's suite does -/
def mSuite (m : Sl → Store → Res Val) : Sl → Store → Fl := fun σ S => (match m σ S with
      | .ok v S2 => .rt v S2
      | _ => .bad)
def hdl (K : Frag) (ca : Nat → Addr) (Γ : Gam) : List Nat → List ME → List (Value × (Addr → Value → Option Addr → TS))
  | c :: cs, m :: ms => (.ref (ca c), fun _ _ _ => tMS K Wf ca (mSuite (ev Γ m))) :: hdl K ca Γ cs ms
  | _, _ => []
theorem suite_ok {X : Cx} {e : Expr} {p : Pos} {m : Sl → Store → Res Val} (h : PE X e (T X Wf ca m)) : PSs X [.Return (some e) p] (tMS X.K Wf ca (mSuite m)) :=
  PSs.weak (pss_one (ps_rt h)) fun D σ H ⟨ι, F, σ', S, rs, rl, q⟩ => ⟨ι, F, σ', S, rs, rl, by
    unfold mSuite at q
    cases e : m σ' S with
    | bad => rw [e] at q; exact q.elim
    | exc x S1 => rw [e] at q; exact q.elim
    | ok v S1 =>
      rw [e] at q
      show FinS X.K Wf ca ι F H ((m σ' S).fl σ' fun v S1 => .rt v S1) D
      rw [e]; exact q⟩
theorem suite_n {X : Cx} {p : Pos} {m : Sl → Store → Res Val} (hm : m = fun _ S => .ok .non S) : PSs X [.Return none p] (tMS X.K Wf ca (mSuite m)) := by
  subst hm
  exact pss_one ps_rn
theorem okH_ok {X : Cx} {W : WX} {C : Ctx} (g : Gd X W ca Γ P C) : ∀ (cs : List Nat) (ms : List ME) (hs : List ExceptHandler), okH P C cs ms hs = true → HdsOk X hs (hdl X.K ca Γ cs ms)
  | [], [], [], _ => .nil
  | [], [], _ :: _, h => by simp only [okH] at h; cases h
  | [], _ :: _, _, h => by simp only [okH] at h; cases h
  | _ :: _, [], _, h => by simp only [okH] at h; cases h
  | _ :: _, _ :: _, [], h => by simp only [okH] at h; cases h
  | c :: cs, m :: ms, hd :: hs, h => by
    simp only [okH] at h
    obtain ⟨h, hr⟩ := and2 h
    have ih := okH_ok g cs ms hs hr
    split at h
    · rename_i x np e p pos'
      obtain ⟨h, h4⟩ := and2 h
      obtain ⟨h, h3⟩ := and2 h
      obtain ⟨h1, h2⟩ := and2 h
      have m1 := (g.g0.exc c _ (hasX_ok h1)).1
      exact .cons ⟨g.gl h2, (plainN_ok h3).1, .inl m1⟩ (fun a oe cls d pn _ _ => suite_ok (okE_ok m (g.suite a ((a, oe) :: pn)) _ h4).pe) ih
    · rename_i x np p pos'
      obtain ⟨h, h4⟩ := and2 h
      obtain ⟨h, h3⟩ := and2 h
      obtain ⟨h1, h2⟩ := and2 h
      have m1 := (g.g0.exc c _ (hasX_ok h1)).1
      exact .cons ⟨g.gl h2, (plainN_ok h3).1, .inl m1⟩ (fun a oe cls d pn _ _ => suite_n (non_ev h4)) ih
    · cases h
theorem okH_in {C : Ctx} : ∀ (cs : List Nat) (ms : List ME) (hs : List ExceptHandler), okH P C cs ms hs = true → cs.length = ms.length ∧ ∀ c ∈ cs, ∃ x, (c, x) ∈ P.exc
  | [], [], [], _ => ⟨rfl, fun _ z => nomatch z⟩
  | [], [], _ :: _, h => by simp only [okH] at h; cases h
  | [], _ :: _, _, h => by simp only [okH] at h; cases h
  | _ :: _, [], _, h => by simp only [okH] at h; cases h
  | _ :: _, _ :: _, [], h => by simp only [okH] at h; cases h
  | c :: cs, m :: ms, hd :: hs, h => by
    simp only [okH] at h
    obtain ⟨h, hr⟩ := and2 h
    obtain ⟨i1, i2⟩ := okH_in cs ms hs hr
    refine ⟨by rw [List.length_cons, List.length_cons, i1], fun d z => ?_⟩
    rcases List.mem_cons.mp z with z | z
    · subst z
      split at h
      · obtain ⟨h, _⟩ := and2 h
        obtain ⟨h, _⟩ := and2 h
        exact ⟨_, hasX_ok (and2 h).1⟩
      · obtain ⟨h, _⟩ := and2 h
        obtain ⟨h, _⟩ := and2 h
        exact ⟨_, hasX_ok (and2 h).1⟩
      · cases h
    · exact i2 d z
theorem hdl_wm {X : Cx} {W : WX} {C : Ctx} (g : Gd X W ca Γ P C) {e : Exn} {x : Str} (he : (e.c, x) ∈ P.exc) {D : Ends} {σ : L2.St} {ι : List Addr} {F H : Hp} {σ' : Sl} {S : Store} (rs : RS X.K ι F σ' σ) (rl : RlH X.K ι F S H) :
    ∀ (cs : List Nat) (ms : List ME), cs.length = ms.length → (∀ c ∈ cs, ∃ x, (c, x) ∈ P.exc) → FinS X.K W ca ι F H (evH Γ e.c cs ms e σ' S) D → wMany X.K W D (hdl X.K ca Γ cs ms) (.ref (ca e.c)) none σ H
  | [], [], _, _, q => by
    simp only [evH] at q
    exact q ι F H σ Ex.refl rs rl
  | [], _ :: _, h, _, _ => by cases h
  | _ :: _, [], h, _, _ => by cases h
  | c :: cs, m :: ms, hl, hc, q => by
    obtain ⟨y, hy⟩ := hc c List.mem_cons_self
    refine ⟨catches e.c c, g.g0.exm _ _ _ _ he hy, fun hb a ha => ?_, fun hb => ?_⟩
    · simp only [evH, hb, if_true] at q
      refine ⟨ι, F, σ', S, rs, rl, ?_⟩
      unfold mSuite
      cases e1 : ev Γ m σ' S with
      | bad => rw [e1] at q; exact q
      | exc x S1 => rw [e1] at q; exact q
      | ok v S1 => rw [e1] at q; exact q
    · simp only [evH, hb] at q
      exact hdl_wm g he rs rl cs ms (by simpa using hl) (fun c z => hc c (List.mem_cons_of_mem _ z)) q
theorem isLocB_ok {sc : Scope} {x : Str} (h : isLocB sc x = true) : sc.names.lookup x = some .local := by
  unfold isLocB at h
  split at h
  · assumption
  · cases h
theorem sw_not {X : Cx} {elt : Expr} {gs : List Comprehension} {scope : Scope} {vp px : Pos} {x : Str} {l : Nat} (h : isLocB X.env.scope x = false) : swapsWith (.ListComp elt gs scope vp) (some (.Name x px)) l X.env = pure false := by
  have e : (X.env.kindOf x == some .local) = false := by
    unfold isLocB at h
    unfold Env.kindOf
    split at h
    · cases h
    · rename_i hn
      cases hq : X.env.scope.names.lookup x with
      | none => rfl
      | some k =>
        cases k <;> first
          | rfl
          | exact absurd hq hn
  show (pure (X.env.blockKind == .function && X.env.kindOf x == some .local && px.line == vp.line && !(scope.names.any fun (n, k) => n == x && (k == .local || k == .cell))) : Sem Bool) = pure false
  rw [e, Bool.and_false, Bool.false_and, Bool.false_and]
theorem asgN_ok {X : Cx} {W : WX} {m : Sl → Store → Res Val} {i : Nat} (D : Ends) (σ : L2.St) (H : Hp) (h : TSs X W ca (mAsg m (.n i)) D σ H) : T X W ca m σ H (fun x H1 => gName i x σ H1 D.nx) := by
  obtain ⟨ι, F, σ', S, rs, rl, q⟩ := h
  refine ⟨ι, F, σ', S, rs, rl, FinS.bind rs q fun v S1 ι1 F1 H1 u _ x1 rs1 rl1 rv1 q1 => ?_⟩
  unfold asg at q1
  by_cases hl : i < σ'.length
  · simp only [if_pos hl] at q1
    exact q1 ι1 F1 H1 _ Ex.refl (rs1.set rv1 i) rl1
  · simp only [if_neg hl] at q1; exact q1.elim
theorem sole_no {t e : Expr} (h : noComp e = true) (l : Nat) (env : Env) : swapsWithSole [t] e l env = pure false := swap_no h (some t) l env
theorem set_ok {X : Cx} {W : WX} {C : Ctx} (g : Gd X W ca Γ P C) {i : Nat} {e : ME} {x : Str} {px pos : Pos} {v : Expr} (h1 : C.N[i]? = some x) (h2 : C.st x = true) (h3 : C.calm = true) (h4 : C.top = true) (h5 : swOk C.sc x px v = true) (h6 : okE P C e v = true) :
    PS X (.Assign [.Name x px] v pos) (TSs X W ca (mAsg (ev Γ e) (.n i))) := by
  obtain ⟨s1, s2⟩ := g.sto x h2
  have hN : X.N[i]? = some x := by rw [g.N]; exact h1
  have pg := pg_n (pos := px) g.nd hN s1 s2
  have hpe := (okE_ok e g _ h6).pe
  have hsw : swappedStores [.Name x px] v X.env = pure none := by cases v <;> rfl
  by_cases hc : noComp v = true
  · exact ps_as rfl (sole_no hc _ _) hsw hpe pg
  · cases v <;> first
      | exact absurd rfl hc
      | (cases h5; done)
      | skip
    rename_i elt gs scope vp
    by_cases hl : isLocB C.sc x = true
    · have h5' : (if isLocB C.sc x = true then (px.line == vp.line) && !(scope.names.any fun (n, k) => n == x && (k == .local || k == .cell)) else true) = true := h5
      rw [if_pos hl] at h5'
      obtain ⟨w1, w2⟩ := and2 h5'
      have hloc : X.env.scope.names.lookup x = some .local := by rw [g.sc]; exact isLocB_ok hl
      cases e <;> first
        | (simp only [okE] at h6; cases h6; done)
        | skip
      rename_i t ow tg k a b hcc c e'
      simp only [okE] at h6
      split at h6
      · rename_i elt2 tgE iter ifs scope2 pos2 heq
        cases heq
        obtain ⟨h6, k7⟩ := and2 h6
        obtain ⟨h6, k6⟩ := and2 h6
        obtain ⟨h6, k5⟩ := and2 h6
        obtain ⟨h6, k4⟩ := and2 h6
        obtain ⟨h6, k3⟩ := and2 h6
        obtain ⟨k1, k2⟩ := and2 h6
        have l := lc_parts k1 k2 k3 k4 k5 k6 k7 g (fun e he => (okE_ok a g e he).pe) (fun e he => (okE_ok b g e he).pe) (fun {X W C} g e he => okE_ok c g e he) (fun {X W C} g e he => okE_ok e' g e he)
        have hp := ps_setLc (py := px) (spos := pos) (pos := vp) (g.calm k1) g.nd hN hloc (sw_true (g.fr h4).2.2 hloc w1 (by simpa using w2)) l.hi l.ok l.hg l.ht l.he l.hs
        rw [l.hw] at hp
        refine PS.weak hp fun D σ H hq => ?_
        exact lc_ok l.ht' σ H _ (by rw [← ev_lc]; exact asgN_ok D σ H hq)
      · cases h6
    · have hlf : isLocB X.env.scope x = false := by rw [g.sc]; simpa using hl
      exact ps_as rfl (sw_not (l := pos.line) hlf) hsw hpe pg
mutual
theorem okS_ok : ∀ (m : MS) {X : Cx} {W : WX} {C : Ctx} (g : Gd X W ca Γ P C) (s : Stmt), okS P C m s = true → PS X s (TSs X W ca (ex Γ m))
  | .pass, X, W, C, g, s, h => by
    simp only [okS] at h
    split at h
    · exact ps_ps
    · cases h
  | .ex e, X, W, C, g, s, h => by
    simp only [okS] at h
    split at h
    · obtain ⟨h1, h2⟩ := and2 h
      exact ps_ex h1 (okE_ok e g _ h2).pe
    · cases h
  | .set i e, X, W, C, g, s, h => by
    simp only [okS] at h
    split at h
    · rename_i x px v pos
      obtain ⟨h, h6⟩ := and2 h
      obtain ⟨h, h5⟩ := and2 h
      obtain ⟨h, h4⟩ := and2 h
      obtain ⟨h, h3⟩ := and2 h
      obtain ⟨h1, h2⟩ := and2 h
      have e0 : ex Γ (.set i e) = mAsg (ev Γ e) (.n i) := by funext σ S; simp only [ex]; rfl
      rw [e0]
      exact set_ok g (of_decide_eq_true h1) h2 h3 h4 h5 h6
    · cases h
  | .tgt ts e, X, W, C, g, s, h => by
    simp only [okS] at h
    split at h
    · rename_i es k p v pos
      obtain ⟨h, h5⟩ := and2 h
      obtain ⟨h, h4⟩ := and2 h
      obtain ⟨h, h3⟩ := and2 h
      obtain ⟨h1, h2⟩ := and2 h
      have e0 : ex Γ (.tgt ts e) = mAsg (ev Γ e) (.t ts) := by funext σ S; simp only [ex]; rfl
      rw [e0]
      refine ps_as rfl (sole_no h3 _ _) ?_ (okE_ok e g _ h5).pe (okTg_ok g.N g.nd (g.calm h1) g.sto (.t ts) _ h4)
      clear h5
      cases v <;> first | rfl | cases h2
    · cases h
  | .par .., X, W, C, g, s, h => by simp only [okS] at h; cases h
  | .sub o i e, X, W, C, g, s, h => by
    simp only [okS] at h
    split at h
    · obtain ⟨h, h5⟩ := and2 h
      obtain ⟨h, h4⟩ := and2 h
      obtain ⟨h, h3⟩ := and2 h
      obtain ⟨h1, h2⟩ := and2 h
      have e0 : ex Γ (.sub o i e) = mSub (ev Γ o) (ev Γ i) (ev Γ e) := by funext σ S; simp only [ex]; rfl
      rw [e0]
      exact ps_sb h1 h2 rfl (okE_ok o g _ h3).pe (okE_ok i g _ h4).pe (okE_ok e g _ h5).pe
    · cases h
  | .att .., X, W, C, g, s, h => by simp only [okS] at h; cases h
  | .aug i o e, X, W, C, g, s, h => by
    simp only [okS] at h
    split at h
    · obtain ⟨h, h4⟩ := and2 h
      obtain ⟨h, h3⟩ := and2 h
      obtain ⟨h1, h2⟩ := and2 h
      have ho := of_decide_eq_true h1
      subst ho
      obtain ⟨s1, s2⟩ := g.sto _ h3
      have e0 : ex Γ (.aug i .add e) = mAug i (ev Γ e) := by funext σ S; simp only [ex]; rfl
      rw [e0]
      exact ps_ag g.nd (by rw [g.N]; exact of_decide_eq_true h2) s1 s2 (okE_ok e g _ h4).pe
    · cases h
  | .augs .., X, W, C, g, s, h => by simp only [okS] at h; cases h
  | .ife c a b, X, W, C, g, s, h => by
    simp only [okS] at h
    split at h
    · obtain ⟨h, h3⟩ := and2 h
      obtain ⟨h1, h2⟩ := and2 h
      have e0 : ex Γ (.ife c a b) = mIf (tr (ev Γ c)) (exs Γ a) (exs Γ b) := by funext σ S; simp only [ex]; rfl
      rw [e0]
      exact ps_ife (okE_ok c g _ h1).pt (okSs_ok a g _ h2) (okSs_ok b g _ h3)
    · cases h
  | .for tg k a b body, X, W, C, g, s, h => by
    simp only [okS] at h
    split at h
    · obtain ⟨h, h4⟩ := and2 h
      obtain ⟨h, h3⟩ := and2 h
      obtain ⟨h1, h2⟩ := and2 h
      obtain ⟨p1, p2⟩ := okI_ok g h1 (fun e he => (okE_ok a g e he).pe) (fun e he => (okE_ok b g e he).pe) h2
      have e0 : ex Γ (.for tg k a b body) = mFor (mSrc k (ev Γ a) (ev Γ b)) tg (exs Γ body) := by
        funext σ S
        simp only [ex, mFor, mSrc]
        cases ev Γ a σ S with
        | bad => rfl
        | exc x S1 => rfl
        | ok x S1 =>
          show Res.fl (ev Γ b σ S1) σ _ = Res.fl (Res.bnd (ev Γ b σ S1) _) σ _
          cases ev Γ b σ S1 with
          | bad => rfl
          | exc y S2 => rfl
          | ok y S2 =>
            show (match mkSrc S2 k x y with | none => _ | some (s, n) => _) = Res.fl (ofO (mkSrc S2 k x y) S2) σ _
            cases mkSrc S2 k x y with
            | none => rfl
            | some p => rfl
      rw [e0]
      exact ps_fr (g.own h1) (g.calm h1) p1 (okTg_ok g.N g.nd (g.calm h1) g.sto tg _ h3) (okSs_ok body g _ h4) p2
    · cases h
  | .whl c body, X, W, C, g, s, h => by
    simp only [okS] at h
    split at h
    · obtain ⟨h, h3⟩ := and2 h
      obtain ⟨h1, h2⟩ := and2 h
      have e0 : ex Γ (.whl c body) = wl (tr (ev Γ c)) (exs Γ body) 100000 := by funext σ S; simp only [ex]; rfl
      rw [e0]
      exact ps_wl (g.own h1) (okE_ok c g _ h2).pt (okSs_ok body g _ h3)
    · cases h
  | .ret e, X, W, C, g, s, h => by
    simp only [okS] at h
    split at h
    · exact ps_rt (okE_ok e g _ h).pe
    · cases h
  | .retn, X, W, C, g, s, h => by
    simp only [okS] at h
    split at h
    · exact ps_rn
    · cases h
  | .rai c, X, W, C, g, s, h => by
    simp only [okS] at h
    split at h
    · obtain ⟨h, h4⟩ := and2 h
      obtain ⟨h, h3⟩ := and2 h
      obtain ⟨h1, h2⟩ := and2 h
      obtain ⟨q1, q2, q3, q4, q5⟩ := g.g0.exc c _ (hasX_ok h2)
      exact ps_ra (g.calm h1) g.tk rfl q2 q1 q3 (raises_own q4 q5) (g.gl h3) (plainN_ok h4).1
    · cases h
  | .raiR .., X, W, C, g, s, h => by simp only [okS] at h; cases h
  | .try body ks cs es, X, W, C, g, s, h => by
    simp only [okS] at h
    split at h
    · obtain ⟨h, h5⟩ := and2 h
      obtain ⟨h, h4⟩ := and2 h
      obtain ⟨h, h3⟩ := and2 h
      obtain ⟨h1, h2⟩ := and2 h
      obtain ⟨f1, f2, f3⟩ := g.fr h2
      obtain ⟨l1, l2⟩ := okH_in cs es _ h4
      have e0 : ex Γ (.try body ks cs es) = fun σ S => (match exs Γ body σ S with
        | .exc e σ1 S1 => if ks.contains e.c then evH Γ e.c cs es e σ1 S1 else .bad
        | r => r) := by
        funext σ S
        first
          | (simp only [ex]; done)
          | (simp only [ex]; cases exs Γ body σ S <;> rfl)
      rw [e0]
      refine ps_tr (kn := fun c => ks.contains c) (mH := fun e => evH Γ e.c cs es e) (mh := fun σ S => .bad) f1 f2 g.tk (fun W' pn xe tk ho => okSs_ok body (g.tr pn xe tk ho) _ h3) (okH_ok g cs es _ h4) fun e D σ ι F H σ' S hk rs rl q => ?_
      have hk' : e.c ∈ ks := by simpa using hk
      rw [List.all_eq_true] at h5
      have := h5 _ hk'
      rw [List.any_eq_true] at this
      obtain ⟨⟨c, x⟩, hm, hc⟩ := this
      have hc : c = e.c := by simpa using hc
      subst hc
      exact hdl_wm g hm rs rl cs es l1 l2 q
    · cases h
theorem okSs_ok : ∀ (m : List MS) {X : Cx} {W : WX} {C : Ctx} (g : Gd X W ca Γ P C) (s : List Stmt), okSs P C m s = true → PSs X s (TSs X W ca (exs Γ m))
  | [], X, W, C, g, s, h => by
    cases s with
    | nil =>
      have e0 : exs Γ [] = fun σ S => .nx σ S := by funext σ S; simp only [exs]
      rw [e0]; exact pss_n
    | cons x xs => simp only [okSs] at h; cases h
  | m :: ms, X, W, C, g, s, h => by
    cases s with
    | nil => simp only [okSs] at h; cases h
    | cons x xs =>
      simp only [okSs] at h
      obtain ⟨h1, h2⟩ := and2 h
      have e0 : exs Γ (m :: ms) = fun σ S => (ex Γ m σ S).bnd fun σ1 S1 => exs Γ ms σ1 S1 := by funext σ S; simp only [exs]
      rw [e0]
      exact pss_c (okS_ok m g x h1) (okSs_ok ms g xs h2)
end
end
end E

set_option linter.all false
set_option autoImplicit false
set_option Elab.async false
set_option maxHeartbeats 4000000
/-! Soundness: defs. -/
namespace E
open PySem PySem.Spec L2
section
variable {K : Frag} {ca : Nat → Addr}
/-! ### a value as it is handed to a pure def -/
section
variable {ι : List Addr} {F H : Hp} {S : Store}
mutual
theorem snapG_rv (rl : RlH K ι F S H) {rd : Nat → Option Val} (hr : ∀ (n : Nat) (a : Addr) (b : Val), ι[n]? = some a → rd n = some b → RV K [] (addF F H ι) b (.ref a)) : ∀ {v : Val} {u : V}, RV K ι F v u → ∀ d, snapG rd v = some d → RV K [] (addF F H ι) d u
  | _, _, .non, d, e => by simp only [snapG] at e; cases e; exact .non
  | _, _, .bl b, d, e => by simp only [snapG] at e; cases e; exact .bl b
  | _, _, .int b, d, e => by simp only [snapG] at e; cases e; exact .int b
  | _, _, .str b h, d, e => by simp only [snapG] at e; cases e; exact .str b h
  | _, _, .tup h r, d, e => by
    simp only [snapG, Option.map_eq_some_iff] at e
    obtain ⟨ws, e1, rfl⟩ := e
    exact .tup ((addF_sub rl).sqT h) (snapGs_rv rl hr r ws e1)
  | _, _, .lst h r, d, e => by
    simp only [snapG, Option.map_eq_some_iff] at e
    obtain ⟨ws, e1, rfl⟩ := e
    exact .lst (addF_sub rl _ _ h) (snapGs_rv rl hr r ws e1)
  | _, _, .ro h r, d, e => by
    simp only [snapG] at e
    split at e
    · rename_i hp
      cases e
      exact .ro ((addF_sub rl).sqL h) ((RVs.any [] r hp).mono List.prefix_rfl (addF_sub rl))
    · cases e
  | _, _, .ref hn, d, e => by
    simp only [snapG] at e
    exact hr _ _ _ hn e
theorem snapGs_rv (rl : RlH K ι F S H) {rd : Nat → Option Val} (hr : ∀ (n : Nat) (a : Addr) (b : Val), ι[n]? = some a → rd n = some b → RV K [] (addF F H ι) b (.ref a)) : ∀ {v : List Val} {u : List V}, RVs K ι F v u → ∀ d, snapGs rd v = some d → RVs K [] (addF F H ι) d u
  | _, _, .nil, d, e => by simp only [snapGs] at e; cases e; exact .nil
  | _, _, .cons a b, d, e => by
    simp only [snapGs, Option.bind_eq_some_iff, Option.map_eq_some_iff] at e
    obtain ⟨w, e1, ws, e2, rfl⟩ := e
    exact .cons (snapG_rv rl hr a w e1) (snapGs_rv rl hr b ws e2)
theorem addF_sub (rl : RlH K ι F S H) : SubH F (addF F H ι) := fun a o e => by
  unfold addF
  split
  · exact rl.sub a o e
  · exact e
end
theorem snap_rdv (rl : RlH K ι F S H) : ∀ (k n : Nat) (a : Addr) (b : Val), ι[n]? = some a → snap k S (.ref n) = some b → RV K [] (addF F H ι) b (.ref a)
  | 0, n, a, b, hn, e => by simp only [snap, snapG] at e; cases e
  | k + 1, n, a, b, hn, e => by
    simp only [snap, snapG, Option.bind_eq_some_iff] at e
    obtain ⟨c, e1, e2⟩ := e
    obtain ⟨_, c', o, h2, h3, h4⟩ := rl.trk n a hn
    rw [h2] at e1; cases e1
    cases h4 with
    | @lst vs us r =>
      have e3 : snapG (fun m => snap k S (.ref m)) (.lst true vs) = some b := by
        cases k with
        | zero => simp only [snap] at e2 ⊢; simpa only [snapG] using e2
        | succ k => simp only [snap] at e2 ⊢; simpa only [snapG] using e2
      simp only [snapG, Option.map_eq_some_iff] at e3
      obtain ⟨ws, e4, rfl⟩ := e3
      refine .lst ?_ (snapGs_rv rl (fun n a b h1 h2 => snap_rdv rl k n a b h1 h2) r ws e4)
      unfold addF
      rw [if_pos (List.mem_iff_getElem?.mpr ⟨n, hn⟩)]; exact h3
theorem snaps_rv (rl : RlH K ι F S H) : ∀ {vs ds : List Val} {us : List V}, RVs K ι F vs us → snaps 64 S vs = some ds → RVs K [] (addF F H ι) ds us
  | _, ds, _, .nil, e => by simp only [snaps] at e; cases e; exact .nil
  | _, ds, _, .cons a b, e => by
    simp only [snaps, Option.bind_eq_some_iff, Option.map_eq_some_iff] at e
    obtain ⟨w, e1, ws, e2, rfl⟩ := e
    refine .cons (snapG_rv rl (rd := fun m => snap 64 S (.ref m)) (fun n a b h1 h2 => snap_rdv rl 64 n a b h1 h2) a w ?_) (snaps_rv rl b e2)
    simp only [snap] at e1 ⊢; simpa only [snapG] using e1
mutual
theorem snapG_pur {rd : Nat → Option Val} : ∀ v : Val, pur v = true → snapG rd v = some v
  | .non, _ => by simp only [snapG]
  | .bl _, _ => by simp only [snapG]
  | .int _, _ => by simp only [snapG]
  | .str _, _ => by simp only [snapG]
  | .tup vs, h => by simp only [snapG, snapGs_pur vs (by simpa only [pur] using h)]; rfl
  | .lst o vs, h => by
    simp only [pur] at h
    obtain ⟨h1, h2⟩ := and2 h
    cases o with
    | true => cases h1
    | false => simp only [snapG, snapGs_pur vs h2]; rfl
  | .dic o ks vs, h => by
    simp only [pur] at h
    obtain ⟨h1, h2⟩ := and2 h
    cases o with
    | true => cases h1
    | false => simp only [snapG, snapGs_pur vs h2]; rfl
  | .ins _ _ _, h => by simp only [pur] at h; cases h
  | .ref _, h => by simp only [pur] at h; cases h
  | .ro vs, h => by simp only [pur] at h; simp only [snapG, h, if_true]
theorem snapGs_pur {rd : Nat → Option Val} : ∀ v : List Val, purs v = true → snapGs rd v = some v
  | [], _ => by simp only [snapGs]
  | v :: vs, h => by
    rw [purs] at h
    obtain ⟨h1, h2⟩ := and2 h
    simp only [snapGs, snapG_pur v h1, snapGs_pur vs h2]; rfl
end
theorem snap_pur {k : Nat} {S : Store} {v : Val} (h : pur v = true) : snap k S v = some v := by
  cases k with
  | zero => simp only [snap]; exact snapG_pur v h
  | succ k => simp only [snap]; exact snapG_pur v h
theorem snaps_pur {k : Nat} {S : Store} : ∀ {vs : List Val}, purs vs = true → snaps k S vs = some vs
  | [], _ => by simp only [snaps]
  | v :: vs, h => by
    rw [purs] at h
    obtain ⟨h1, h2⟩ := and2 h
    simp only [snaps, snap_pur h1, snaps_pur h2]; rfl
end
/-! ### slots at the entry -/
theorem RVs.slots {ι : List Addr} {F : Hp} {vs : List Val} {us : List V} (n m : Nat) (h : RVs K ι F vs us) (e : n = m) : RS K ι F (vs.map some ++ List.replicate n none) (us.map some ++ List.replicate m none) := by
  subst e
  refine ⟨by rw [List.length_append, List.length_append, List.length_map, List.length_map, h.length, List.length_replicate, List.length_replicate], fun i v e => ?_⟩
  by_cases hi : i < (vs.map some).length
  · rw [List.getElem?_append_left hi] at e
    rw [List.getElem?_map, Option.map_eq_some_iff] at e
    obtain ⟨w, e1, e2⟩ := e
    cases e2
    obtain ⟨u, h1, h2⟩ := h.get e1
    refine ⟨u, ?_, h2⟩
    rw [List.getElem?_append_left (by rw [List.length_map] at hi ⊢; rw [← h.length]; exact hi), List.getElem?_map, h1]; rfl
  · rw [List.getElem?_append_right (by omega)] at e
    rw [List.getElem?_replicate] at e
    split at e <;> cases e
/-! ### back from a pure def -/
def delF (F : Hp) (ι : List Addr) : Hp := fun a => if a ∈ ι then none else F a
mutual
theorem RO.up {ι ι' : List Addr} {F H : Hp} (hp : ι <+: ι') : ∀ {L : List Addr} {v : Val} {u : V}, RO K ι F H L v u → RO K ι' F H L v u
  | _, _, _, .old r => .old (r.mono hp (SubH.refl F))
  | _, _, _, .tup h r => .tup h (ROs.up hp r)
  | _, _, _, .lst h r => .lst h (ROs.up hp r)
theorem ROs.up {ι ι' : List Addr} {F H : Hp} (hp : ι <+: ι') : ∀ {L : List Addr} {v : List Val} {u : List V}, ROs K ι F H L v u → ROs K ι' F H L v u
  | _, _, _, .nil => .nil
  | _, _, _, .cons a b => .cons (RO.up hp a) (ROs.up hp b)
end
mutual
theorem RV.clean {ι ι' : List Addr} {F : Hp} (hT : ∀ a ∈ ι', ∀ us, ¬ Rd F a (.tup us)) : ∀ {v : Val} {u : V}, RV K ι F v u → E.clean v = true → RV K ι' (delF F ι') v u
  | _, _, .non, _ => .non
  | _, _, .bl b, _ => .bl b
  | _, _, .int i, _ => .int i
  | _, _, .str s h, _ => .str s h
  | _, _, .tup (a := a) h r, p => .tup (by
      rcases h with h | h
      · refine .inl ?_
        have na : a ∉ ι' := fun z => hT a z _ h
        rcases h with h | ⟨o, h⟩
        · exact .inl (by unfold delF; rw [if_neg na]; exact h)
        · exact .inr ⟨o, by unfold delF; rw [if_neg na]; exact h⟩
      · exact .inr h) (RVs.clean hT r (by simpa only [E.clean] using p))
  | _, _, .lst h r, p => by simp [E.clean] at p
  | _, _, .ro h r, p => by simp [E.clean] at p
  | _, _, .ref e, p => by simp [E.clean] at p
theorem RVs.clean {ι ι' : List Addr} {F : Hp} (hT : ∀ a ∈ ι', ∀ us, ¬ Rd F a (.tup us)) : ∀ {v : List Val} {u : List V}, RVs K ι F v u → E.cleans v = true → RVs K ι' (delF F ι') v u
  | _, _, .nil, _ => .nil
  | _, _, .cons a b, p => by
    rw [E.cleans] at p
    exact .cons (RV.clean hT a (and2 p).1) (RVs.clean hT b (and2 p).2)
end
mutual
theorem RO.clean {ι ι' : List Addr} {F H : Hp} (hT : ∀ a ∈ ι', ∀ us, ¬ Rd F a (.tup us)) : ∀ {L : List Addr} {v : Val} {u : V}, RO K ι F H L v u → E.clean v = true → RO K ι' (delF F ι') H L v u
  | _, _, _, .old r, p => .old (RV.clean hT r p)
  | _, _, _, .tup (a := a) h r, p => .tup (by
      rcases h with h | h
      · refine .inl ?_
        have na : a ∉ ι' := fun z => hT a z _ h
        rcases h with h | ⟨o, h⟩
        · exact .inl (by unfold delF; rw [if_neg na]; exact h)
        · exact .inr ⟨o, by unfold delF; rw [if_neg na]; exact h⟩
      · exact .inr h) (ROs.clean hT r (by simpa only [E.clean] using p))
  | _, _, _, .lst h r, p => .lst h (ROs.clean hT r (by simpa [E.clean] using p))
theorem ROs.clean {ι ι' : List Addr} {F H : Hp} (hT : ∀ a ∈ ι', ∀ us, ¬ Rd F a (.tup us)) : ∀ {L : List Addr} {v : List Val} {u : List V}, ROs K ι F H L v u → E.cleans v = true → ROs K ι' (delF F ι') H L v u
  | _, _, _, .nil, _ => .nil
  | _, _, _, .cons a b, p => by
    rw [E.cleans] at p
    exact .cons (RO.clean hT a (and2 p).1) (ROs.clean hT b (and2 p).2)
end
section
variable {ι ι1 : List Addr} {F Fc H F1 H1 : Hp} {S S1 : Store}
theorem back_ex (rl : RlH K ι F S H) (hF : SubH F Fc) (hc : ∀ a o, Fc a = some o → F a = some o ∨ a ∈ ι) (x : Ex [] Fc H ι1 F1 H1) : Ex ι F H ι (delF F1 ι) H1 where
  pre := List.prefix_rfl
  sub := fun a o e => by
    have na : a ∉ ι := fun z => by
      obtain ⟨n, hn⟩ := List.mem_iff_getElem?.mp z
      have := (rl.trk n a hn).1
      rw [this] at e; cases e
    unfold delF
    rw [if_neg na]
    exact x.sub a o (hF a o e)
  frame := fun a o h _ => x.frame a o h (by simp)
  new := fun a h => .inl h
  newF := fun a o e => by
    unfold delF at e
    split at e
    · cases e
    · rename_i na
      rcases x.newF a o e with z | z
      · rcases hc a o z with w | w
        · exact .inl w
        · exact absurd w na
      · exact .inr z
theorem back_rl (rl : RlH K ι F S H) (hF : SubH F Fc) (hc : ∀ a o, Fc a = some o → F a = some o ∨ a ∈ ι) (x : Ex [] Fc H ι1 F1 H1) (rl1 : RlH K ι1 F1 S1 H1) : RlH K ι (delF F1 ι) S H1 where
  sub := fun a o e => by
    unfold delF at e
    split at e
    · cases e
    · exact rl1.sub a o e
  nd := rl.nd
  len := rl.len
  trk := fun n a e => by
    obtain ⟨h1, c, o, h2, h3, h4⟩ := rl.trk n a e
    refine ⟨?_, c, o, h2, x.frame a o h3 (by simp), h4.mono List.prefix_rfl (back_ex rl hF hc x).sub⟩
    unfold delF
    rw [if_pos (List.mem_iff_getElem?.mpr ⟨n, e⟩)]
end
theorem RC.noTup {ι : List Addr} {F : Hp} {c : Val} {o : HO} (h : RC K ι F c o) : (∀ us, o ≠ .tup us) ∧ ∀ ob us, o ≠ .frz ob us := by
  cases h with
  | lst r =>
    refine ⟨fun us z => ?_, fun ob us z => ?_⟩
    · cases z
    · cases z
/-- the first n0 of the store -/
theorem low_rl {ι ι1 : List Addr} {F1 H1 : Hp} {S1 : Store} (rl1 : RlH K ι1 F1 S1 H1) (hp : ι <+: ι1) (hb : belows ι.length (S1.take ι.length) = true) (hn : ι.length ≤ S1.length) : RlH K ι F1 (S1.take ι.length) H1 where
  sub := rl1.sub
  nd := hp.sublist.nodup rl1.nd
  len := by rw [List.length_take]; omega
  trk := fun n a e => by
    obtain ⟨h1, c, o, h2, h3, h4⟩ := rl1.trk n a (pre_get hp e)
    have hl : n < ι.length := (List.getElem?_eq_some_iff.mp e).1
    have hS : (S1.take ι.length)[n]? = some c := by rw [List.getElem?_take_of_lt hl]; exact h2
    refine ⟨h1, c, o, hS, h3, ?_⟩
    have hbc : below ι.length c = true := by
      have key : ∀ (l : List Val), belows ι.length l = true → ∀ c ∈ l, below ι.length c = true := by
        intro l
        induction l with
        | nil => intro _ c z; cases z
        | cons v vs ih =>
          intro h c z
          rw [belows] at h
          rcases List.mem_cons.mp z with z | z
          · subst z; exact (and2 h).1
          · exact ih (and2 h).2 c z
      exact key _ hb c (List.mem_iff_getElem?.mpr ⟨n, hS⟩)
    have ht : ι1.take ι.length = ι := by
      obtain ⟨t, rfl⟩ := hp
      rw [List.take_left']; rfl
    cases h4 with
    | lst r =>
      have := RVs.low ι.length r (by simpa only [below] using hbc)
      rw [ht] at this
      exact .lst this
/-! ### THE RULE for a def -/
/-- a def's own context -/
def defCtx (N : List Str) (sc : Scope) : Ctx := { N := N, sc := sc, st := locB sc }
/-- what is known of the defs that are called, at level k -/
def Callees (Pg : Program) (w : World) (K : Frag) (mg : Str → Option Value) (base : Heap) (ca : Nat → Addr) (Γ : Gam) (P : Sta) (k : Nat) : Prop :=
  ∀ f x n, (f, x, n) ∈ P.fn → ∃ (fa : Addr) (fd : FuncData) (ps : List Str), ps.length = n ∧ FnOk Pg w K mg base (L2.CX Pg w) k fa fd ps (spec K ca (Γ f) n) ∧ mg x = some (.ref fa) ∧ PySem.W.keepIn K (.ref fa) = true ∧ Binds K fd ps []
theorem room65 {k : Nat} {A : Around} (r : Room k A) : A.units + 65 < cLine := by have := r.un; omega
theorem fn_ok {Pg : Program} {w : World} {mg : Str → Option Value} {base : Heap} {Γ : Gam} {P : Sta} {k : Nat} {x qual : Str} {params : Arguments} {body : List Stmt} {scope : Scope} {f : Addr} {fd : FuncData} {N ps : List Str} {fn : Fn}
    (Fd : FunD K x qual params body scope [] [] f fd) (Sc : FnScope N ps scope) (g0 : G0 K mg ca P) (hc : Callees Pg w K mg base ca Γ P k) (hok : okSs P (defCtx N scope) fn.body body = true) (hnp : fn.np = ps.length) (hns : fn.ns = N.length) :
    FnOk Pg w K mg base (L2.CX Pg w) (k + 1) f fd ps (spec K ca (runFn Γ fn) ps.length) := by
  refine Fd.ok Sc (fun vs H Q E h => h.1) (fun cdv A outer s H us Q E hr h => ?_)
  obtain ⟨hl, vs, ι, F, S, rvs, rl, fin⟩ := h
  have g : Gd (cxOf (L2.CX Pg w) Pg w K mg base N qual scope f cdv A outer s H E) (fun cls d _ H => E cls d H) ca Γ P (defCtx N scope) := by
    refine ⟨g0, rfl, Sc.nd, rfl, fun x h => ?_, fun _ => rfl, takes_of rfl rfl rfl rfl, fun _ => room65 hr, fun _ => passes_of rfl, fun _ => ⟨rfl, rfl, Sc.kind⟩, fun _ f x n hm => ?_⟩
    · have h' : locB scope x = true := h
      unfold locB at h'
      refine ⟨?_, .inl rfl⟩
      split at h'
      · rename_i e; exact .inl e
      · rename_i e; exact .inr e
      · cases h'
    · obtain ⟨fa, fd, ps, e1, e2, e3, e4, e5⟩ := hc f x n hm
      exact ⟨k, fa, fd, ps, e1, e2, hr, e3, e4, e5⟩
  refine ⟨_, okSs_ok fn.body g body hok, ?_⟩
  show tMS K (fun cls d _ H => E cls d H) ca (exs Γ fn.body) _ (L2.start N us) H
  unfold runFn at fin
  have hcnd : vs.length = fn.np ∧ vs.length ≤ fn.ns := by
    by_cases h : vs.length = fn.np ∧ vs.length ≤ fn.ns
    · exact h
    · rw [if_neg h] at fin; exact fin.elim
  rw [if_pos hcnd] at fin
  have hst : ∀ {ι : List Addr} {F : Hp} {ds : List Val}, RVs K ι F ds us → RS K ι F (startS fn.ns ds) (L2.start N us) := fun {ι F ds} r => by
    unfold startS L2.start
    exact RVs.slots _ _ r (by rw [r.length, hns])
  cases hm : fn.mode with
  | kp =>
    rw [hm] at fin
    refine ⟨ι, F, startS fn.ns vs, S, hst rvs, rl, ?_⟩
    cases e : exs Γ fn.body (startS fn.ns vs) S with
    | bad => simp only [e] at fin; exact fin.elim
    | nx σ1 S1 =>
      simp only [e] at fin
      exact fun ι1 F1 H1 σ2 x1 rs1 rl1 => fin ι1 F1 H1 .non [] x1 rl1 (.old .non) List.Pairwise.nil (fun _ z => nomatch z)
    | rt v S1 =>
      simp only [e] at fin
      exact fun ι1 F1 H1 u x1 rl1 rv1 => fin ι1 F1 H1 u [] x1 rl1 (.old rv1) List.Pairwise.nil (fun _ z => nomatch z)
    | exc ee σ1 S1 =>
      simp only [e] at fin
      exact fun ι1 F1 H1 σ2 x1 rs1 rl1 => fin ι1 F1 H1 x1 rl1
  | u =>
    rw [hm] at fin
    refine ⟨ι, F, startS fn.ns vs, S, hst rvs, rl, ?_⟩
    simp only [endU] at fin
    have hlen : S.length = ι.length := rl.len.symm
    have ex : ∀ {ι1 : List Addr} {F1 H1 : Hp}, Ex ι F H ι1 F1 H1 → Ex ι F H ι F1 H1 := fun x => ⟨List.prefix_rfl, x.sub, x.frame, fun a h => .inl h, x.newF⟩
    cases e : exs Γ fn.body (startS fn.ns vs) S with
    | bad => rw [e] at fin; exact fin.elim
    | nx σ1 S1 =>
      simp only [e] at fin
      by_cases hb : (belows S.length (S1.take S.length) && decide (S.length ≤ S1.length)) = true
      · rw [if_pos hb] at fin
        obtain ⟨b1, b2⟩ := and2 hb
        rw [hlen] at b1 b2 fin
        exact fun ι1 F1 H1 σ2 x1 rs1 rl1 => fin ι F1 H1 .non [] (ex x1) (low_rl rl1 x1.pre b1 (of_decide_eq_true b2)) (.old .non) List.Pairwise.nil (fun _ z => nomatch z)
      · rw [if_neg hb] at fin; exact fin.elim
    | exc ee σ1 S1 =>
      simp only [e] at fin
      by_cases hb : (belows S.length (S1.take S.length) && decide (S.length ≤ S1.length)) = true
      · rw [if_pos hb] at fin
        obtain ⟨b1, b2⟩ := and2 hb
        rw [hlen] at b1 b2 fin
        exact fun ι1 F1 H1 σ2 x1 rs1 rl1 => fin ι F1 H1 (ex x1) (low_rl rl1 x1.pre b1 (of_decide_eq_true b2))
      · rw [if_neg hb] at fin; exact fin.elim
    | rt v S1 =>
      simp only [e] at fin
      cases eo : own S.length 64 v S1 with
      | none => rw [eo] at fin; exact fin.elim
      | some p =>
        obtain ⟨w, S2⟩ := p
        rw [eo] at fin
        by_cases hb : (belows S.length (S1.take S.length) && decide (S.length ≤ S1.length)) = true
        · simp only [hb, if_true] at fin
          obtain ⟨b1, b2⟩ := and2 hb
          rw [hlen] at b1 b2 fin eo
          intro ι1 F1 H1 u x1 rl1 rv1
          obtain ⟨L, ro, nd, hL⟩ := own_ok rl1 rv1 eo
          have ht : ι1.take ι.length = ι := by
            obtain ⟨t, e⟩ := x1.pre
            rw [← e, List.take_left']; rfl
          rw [ht] at ro
          refine fin ι F1 H1 u L (ex x1) (low_rl rl1 x1.pre b1 (of_decide_eq_true b2)) ro nd fun a ha => ?_
          obtain ⟨m, m1, m2⟩ := hL a ha
          have na : a ∉ ι := fun z => by
            obtain ⟨j, hj⟩ := List.mem_iff_getElem?.mp z
            have := nd_ix rl1.nd (pre_get x1.pre hj) m2
            have hjl := (List.getElem?_eq_some_iff.mp hj).1
            omega
          refine ⟨na, (rl1.trk m a m2).1, ?_⟩
          rcases x1.new a (List.mem_iff_getElem?.mpr ⟨m, m2⟩) with z | z
          · exact absurd z na
          · exact z
        · simp only [hb] at fin; exact fin.elim
  | p =>
    rw [hm] at fin
    simp only at fin
    cases es : snaps 64 S vs with
    | none => rw [es] at fin; exact fin.elim
    | some ds =>
      rw [es] at fin
      simp only at fin
      -- the frozen part that the def sees
      have hFc : ∃ Fc, SubH F Fc ∧ SubH Fc H ∧ (∀ a o, Fc a = some o → F a = some o ∨ a ∈ ι) ∧ RVs K [] Fc ds us ∧ (purs vs = true → Fc = F) := by
        by_cases hp : purs vs = true
        · rw [snaps_pur hp] at es
          cases es
          exact ⟨F, SubH.refl F, rl.sub, fun a o h => .inl h, RVs.any [] rvs hp, fun _ => rfl⟩
        · refine ⟨addF F H ι, addF_sub rl, fun a o e => ?_, fun a o e => ?_, snaps_rv rl rvs es, fun z => absurd z hp⟩
          · unfold addF at e
            split at e
            · exact e
            · exact rl.sub a o e
          · unfold addF at e
            split at e
            · rename_i m; exact .inr m
            · exact .inl e
      obtain ⟨Fc, f1, f2, f3, f4, f5⟩ := hFc
      have rlc : RlH K [] Fc [] H := ⟨f2, List.Pairwise.nil, rfl, fun n a e => by simp at e⟩
      refine ⟨[], Fc, startS fn.ns ds, [], hst f4, rlc, ?_⟩
      simp only [endP] at fin
      cases e : exs Γ fn.body (startS fn.ns ds) [] with
      | bad => rw [e] at fin; exact fin.elim
      | nx σ1 S1 =>
        rw [e] at fin
        exact fun ι1 F1 H1 σ2 x1 rs1 rl1 => fin ι (delF F1 ι) H1 .non [] (back_ex rl f1 f3 x1) (back_rl rl f1 f3 x1 rl1) (.old .non) List.Pairwise.nil (fun _ z => nomatch z)
      | exc ee σ1 S1 =>
        rw [e] at fin
        exact fun ι1 F1 H1 σ2 x1 rs1 rl1 => fin ι (delF F1 ι) H1 (back_ex rl f1 f3 x1) (back_rl rl f1 f3 x1 rl1)
      | rt v S1 =>
        simp only [e] at fin
        cases eo : own 0 64 v S1 with
        | none => rw [eo] at fin; exact fin.elim
        | some p =>
          obtain ⟨w, S2⟩ := p
          rw [eo] at fin
          by_cases hb : (purs vs || _root_.E.clean w) = true
          · simp only [hb, if_true] at fin
            intro ι1 F1 H1 u x1 rl1 rv1
            obtain ⟨L, ro, nd, hL⟩ := own_ok rl1 rv1 eo
            rw [List.take_zero] at ro
            have trkH : ∀ a ∈ ι, ∃ o, H a = some o ∧ H1 a = some o ∧ (∀ us, o ≠ .tup us) ∧ ∀ ob us, o ≠ .frz ob us := fun a z => by
              obtain ⟨n, hn⟩ := List.mem_iff_getElem?.mp z
              obtain ⟨_, c, o, _, h3, h4⟩ := rl.trk n a hn
              exact ⟨o, h3, x1.frame a o h3 (by simp), h4.noTup⟩
            have roD : RO K ι (delF F1 ι) H1 L w u := by
              by_cases hp : purs vs = true
              · have e1 : delF F1 ι = F1 := by
                  funext a
                  unfold delF
                  split
                  · rename_i z
                    cases q : F1 a with
                    | none => rfl
                    | some o =>
                      exfalso
                      obtain ⟨o', h1, _⟩ := trkH a z
                      rcases x1.newF a o q with y | y
                      · rw [f5 hp] at y
                        obtain ⟨n, hn⟩ := List.mem_iff_getElem?.mp z
                        rw [(rl.trk n a hn).1] at y; cases y
                      · rw [h1] at y; cases y
                  · rfl
                rw [e1]
                exact RO.up (List.nil_prefix) ro
              · have hcl : _root_.E.clean w = true := by simpa [hp] using hb
                refine RO.clean (fun a z us hr => ?_) ro hcl
                obtain ⟨o, _, h2, h3, h4⟩ := trkH a z
                rcases hr with hr | ⟨ob, hr⟩
                · rw [rl1.sub _ _ hr] at h2; cases h2; exact h3 us rfl
                · rw [rl1.sub _ _ hr] at h2; cases h2; exact h4 ob _ rfl
            refine fin ι (delF F1 ι) H1 u L (back_ex rl f1 f3 x1) (back_rl rl f1 f3 x1 rl1) roD nd fun a ha => ?_
            obtain ⟨m, _, m2⟩ := hL a ha
            have hH : H a = none := by
              rcases x1.new a (List.mem_iff_getElem?.mpr ⟨m, m2⟩) with z | z
              · cases z
              · exact z
            have na : a ∉ ι := fun z => by
              obtain ⟨o, h1, _⟩ := trkH a z
              rw [hH] at h1; cases h1
            refine ⟨na, ?_, hH⟩
            unfold delF
            rw [if_neg na]
            exact (rl1.trk m a m2).1
          · simp only [hb] at fin; exact fin.elim
end
end E

set_option linter.all false
set_option autoImplicit false
set_option Elab.async false
set_option maxHeartbeats 4000000
/-! Soundness: a whole text. -/
namespace E
open PySem PySem.Spec L2
/-- one def: its number, name, slots, how many are parameters, the text -/
structure Ent where
  f : Nat
  x : Str
  nm : Str
  N : List Str
  np : Nat
  st : Stmt
def Ent.ps (e : Ent) : List Str := e.N.take e.np
def Ent.d (e : Ent) : He.DefD := ⟨(e.x, none), e.nm, e.nm, defArgs e.st, defBody e.st, defScope e.st, [], []⟩
def scB (N ps : List Str) (sc : Scope) : Bool :=
  (match sc.kind with | .function => true | _ => false) && (!sc.isCoroutine && (!sc.isGenerator && (decide N.Nodup && (decide (N.take ps.length = ps) && (ps.all (locB sc) && sc.names.all fun y => match y.2 with | .free => false | _ => true)))))
theorem scB_ok {N ps : List Str} {sc : Scope} (h : scB N ps sc = true) : FnScope N ps sc := by
  unfold scB at h
  obtain ⟨h1, h⟩ := and2 h
  obtain ⟨h2, h⟩ := and2 h
  obtain ⟨h3, h⟩ := and2 h
  obtain ⟨h4, h⟩ := and2 h
  obtain ⟨h5, h⟩ := and2 h
  obtain ⟨h6, h7⟩ := and2 h
  refine ⟨?_, by simpa using h2, by simpa using h3, of_decide_eq_true h4, of_decide_eq_true h5, fun x hx => ?_, fun y hy => ?_⟩
  · split at h1
    · assumption
    · cases h1
  · have := List.all_eq_true.mp h6 x hx
    unfold locB at this
    split at this
    · rename_i e; exact .inl e
    · rename_i e; exact .inr e
    · cases this
  · have := List.all_eq_true.mp h7 y hy
    intro z
    rw [z] at this
    cases this
def chk1 (P : Sta) (prog : Nat → Option Fn) (e : Ent) : Bool :=
  scB e.N e.ps (defScope e.st) && (decide (e.np ≤ e.N.length) && (match prog e.f with
    | some fn => decide (fn.np = e.np) && (decide (fn.ns = e.N.length) && okSs P (defCtx e.N (defScope e.st)) fn.body (defBody e.st))
    | none => false))
/-- how the parameters are bound -/
def BindP (e : Ent) : Prop := ∀ (kV doc pm : Value) (an : Option Addr) (cdv ct : Value) (us : List Value), us.length = e.ps.length → bindArgs (PySem.W.fnOf e.nm e.nm (defArgs e.st) (defBody e.st) (defScope e.st) .none kV doc pm an cdv ct) ⟨us, []⟩ = pure (e.ps.zip us)
section
variable {Pg : Program} {w : World} {K : Frag} {mg : Str → Option Value} {base : Heap} {ca : Nat → Addr} {P : Sta} {prog : Nat → Option Fn} {tbl : List Ent}
theorem spec_bad {k : Nat} {f : Addr} {fd : FuncData} {ps : List Str} {n : Nat} {g : List Val → Store → Res Val} (e : ps.length = n) (h : ∀ vs S, g vs S = .bad) : FnOk Pg w K mg base (L2.CX Pg w) k f fd ps (spec K ca g n) :=
  ⟨fun vs H Q E ⟨h1, _⟩ => h1.trans e.symm, fun A outer s H args us vs Q E hr h1 h2 h3 ⟨_, vs', ι, F, S, _, _, z⟩ => by rw [h] at z; exact z.elim⟩
end
/-! ### constants of the module -/
mutual
def valB (K : Frag) : Value → Val → Bool
  | w, .int i => (match w with | .int j _ => decide (j = i) | _ => false)
  | w, .str s => (match w with | .str y _ => okT s && decide (y = mkS s) | _ => false)
  | w, .tup vs => (match w with
    | .ref a => (match K.lookup a with
      | some ⟨.type c, _, .seq its _, _⟩ => decide (c = "tuple") && (decide (its.size ≤ sizeLine) && valBs K its.toList vs)
      | _ => false)
    | _ => false)
  | _, _ => false
def valBs (K : Frag) : List Value → List Val → Bool
  | ws, [] => ws.isEmpty
  | ws, v :: vs => (match ws with
    | w :: ws => valB K w v && valBs K ws vs
    | [] => false)
end
mutual
theorem valB_ok {K : Frag} : ∀ (v : Val) (w : Value), valB K w v = true → ∃ u, RelV u w ∧ ∀ ι F, RV K ι F v u
  | .int i, w, h => by
    simp only [valB] at h
    split at h
    · have := of_decide_eq_true h
      subst this
      exact ⟨.int _, ⟨_, rfl⟩, fun _ _ => .int _⟩
    · cases h
  | .str s, w, h => by
    simp only [valB] at h
    split at h
    · obtain ⟨h1, h2⟩ := and2 h
      have := of_decide_eq_true h2
      subst this
      exact ⟨.str _, ⟨_, rfl⟩, fun _ _ => .str _ h1⟩
    · cases h
  | .tup vs, w, h => by
    simp only [valB] at h
    split at h
    · rename_i a
      split at h
      · rename_i c od its n sl e
        obtain ⟨h1, h2⟩ := and2 h
        obtain ⟨h2, h3⟩ := and2 h2
        have := of_decide_eq_true h1
        subst this
        obtain ⟨us, r1, r2⟩ := valBs_ok vs its.toList h3
        exact ⟨.ref a, rfl, fun ι F => .tup (.inr ⟨_, its, n, e, rfl, rfl, of_decide_eq_true h2, r1⟩) (r2 ι F)⟩
      · cases h
    · cases h
  | .non, w, h => by simp [valB] at h
  | .bl _, w, h => by simp [valB] at h
  | .lst _ _, w, h => by simp [valB] at h
  | .dic _ _ _, w, h => by simp [valB] at h
  | .ins _ _ _, w, h => by simp [valB] at h
  | .ref _, w, h => by simp [valB] at h
  | .ro _, w, h => by simp [valB] at h
theorem valBs_ok {K : Frag} : ∀ (vs : List Val) (ws : List Value), valBs K ws vs = true → ∃ us, Vals us ws ∧ ∀ ι F, RVs K ι F vs us
  | [], ws, h => by
    simp only [valBs] at h
    cases ws with
    | nil => exact ⟨[], .nil, fun _ _ => .nil⟩
    | cons _ _ => cases h
  | v :: vs, ws, h => by
    simp only [valBs] at h
    cases ws with
    | nil => cases h
    | cons w ws =>
      obtain ⟨h1, h2⟩ := and2 h
      obtain ⟨u, a1, a2⟩ := valB_ok v w h1
      obtain ⟨us, b1, b2⟩ := valBs_ok vs ws h2
      exact ⟨u :: us, .cons a1 b1, fun ι F => .cons (a2 ι F) (b2 ι F)⟩
end
/-! ### the text -/
structure Txt where
  tbl : List Ent
  con : List (Str × Val) := []
  free : List Str := []
  exc : List (Nat × Str) := []
def Txt.sta (T : Txt) : Sta := { fn := T.tbl.map fun e => (e.f, e.x, e.np), con := T.con, free := T.free, exc := T.exc }
def Txt.fa (T : Txt) : List He.Fa := (T.tbl.map fun e => .glo e.x) ++ ((T.free.map .free) ++ ((T.exc.map fun p => .glo p.2) ++ ((T.exc.map fun p => .exc p.2) ++ (T.exc.flatMap fun p => T.exc.map fun q => .exm p.2 q.2 (catches p.1 q.1)))))
def Txt.fn (T : Txt) : List He.DefD := T.tbl.map Ent.d
def conB (K : Frag) (p : Str × Val) : Bool := match PySem.W.nsIn K mainGlobals p.1 with
  | some (some w) => valB K w p.2
  | _ => false
def Txt.ex (T : Txt) (K : Frag) : Bool := T.con.all (conB K)
def Txt.obs (T : Txt) (K : Frag) : He.AlD := ((He.obsD T.fa T.fn K).1 && T.ex K, (He.obsD T.fa T.fn K).2)
structure Txt.Says (T : Txt) (K : Frag) : Prop where
  d : He.SaysD T.fa T.fn K
  x : T.ex K = true
theorem Txt.says {T : Txt} {K : Frag} (h : T.obs K = He.valD T.fn) : T.Says K := by
  have h1 : ((He.obsD T.fa T.fn K).1 && T.ex K) = true := congrArg (fun z : He.AlD => z.1) h
  have h2 : (T.obs K).2 = (He.valD T.fn).2 := by rw [h]
  obtain ⟨a, b⟩ := and2 h1
  exact ⟨Prod.ext a h2, b⟩
def Txt.obsG (T : Txt) (n : Nat) (g : Addr → Option Obj) : He.AlD := T.obs (He.frG g (He.asD g n))
def Txt.hook (T : Txt) (n : Nat) : PySem.W.Hook where
  α := He.AlD
  obs := fun s => T.obsG n s.heap.get?
  val := fun _ => He.valD T.fn
  says := fun _ h => ∃ K : PySem.W.Frag, K.In h ∧ T.Says K
  of := fun _ _ e => ⟨_, He.frG_in, Txt.says e⟩
  keeps := fun _ _ _ ⟨K, hK, c⟩ k => ⟨K, PySem.W.Frag.In.keeps hK k, c⟩
theorem Txt.obs_eq {T : Txt} {n : Nat} {g : Addr → Option Obj} {s : Shared} (h : ∀ a, g a = s.heap.get? a) : T.obsG n g = (T.hook n).obs s := by
  have e : g = s.heap.get? := funext h
  rw [e] <;> rfl
/-- where the class of number c lies -/
def Txt.ca (T : Txt) (K : Frag) (c : Nat) : Addr := match T.exc.lookup c with
  | some x => He.ga K x
  | none => 0
/-- the checks of a text -/
def Txt.chk (T : Txt) (prog : Nat → Option Fn) : Bool := (T.exc.all fun p => decide (T.exc.lookup p.1 = some p.2)) && T.tbl.all (chk1 T.sta prog)
section
variable {T : Txt} {Pg : Program} {w : World} {K : Frag} {mg : Str → Option Value} {h base : Heap} {prog : Nat → Option Fn}
theorem Txt.fct (S : T.Says K) {f : He.Fa} (hf : f ∈ T.fa) : f.ok K = true := by
  have c1 := (He.ba (show ((T.fa.all fun f => f.ok K) && T.fn.all fun d => d.ok K) = true from congrArg (fun z : He.AlD => z.1) S.d)).1
  exact List.all_eq_true.mp c1 f hf
theorem Txt.g0 (X : K.In h) (G : h.Ns mainGlobals mg) (S : T.Says K) (hc : T.chk prog = true) : G0 K mg (T.ca K) T.sta := by
  have hl : ∀ c x, (c, x) ∈ T.exc → T.ca K c = He.ga K x := fun c x hm => by
    have := of_decide_eq_true (List.all_eq_true.mp (and2 hc).1 _ hm)
    unfold Txt.ca
    rw [this]
  refine ⟨fun x v hm => ?_, fun x hm => ?_, fun c x hm => ?_, fun c x d y hm hn => ?_⟩
  · have z := List.all_eq_true.mp S.x _ hm
    unfold conB at z
    split at z
    · rename_i w e
      obtain ⟨u, r1, r2⟩ := valB_ok v w z
      exact ⟨u, w, PySem.W.mg_of X G e, r1, r2⟩
    · cases z
  · exact He.free_ok X G (Txt.fct S (by
      unfold Txt.fa
      exact List.mem_append_right _ (List.mem_append_left _ (List.mem_map.mpr ⟨x, hm, rfl⟩))))
  · rw [hl c x hm]
    refine ⟨He.glo_ok X G (Txt.fct S (by
      unfold Txt.fa
      exact List.mem_append_right _ (List.mem_append_right _ (List.mem_append_left _ (List.mem_map.mpr ⟨_, hm, rfl⟩))))), He.exc_ok (Txt.fct S (by
      unfold Txt.fa
      exact List.mem_append_right _ (List.mem_append_right _ (List.mem_append_right _ (List.mem_append_left _ (List.mem_map.mpr ⟨_, hm, rfl⟩))))))⟩
  · rw [hl c x hm, hl d y hn]
    exact He.exm_ok (Txt.fct S (by
      unfold Txt.fa
      exact List.mem_append_right _ (List.mem_append_right _ (List.mem_append_right _ (List.mem_append_right _ (List.mem_flatMap.mpr ⟨_, hm, List.mem_map.mpr ⟨_, hn, rfl⟩⟩)))))) 
theorem Txt.def_ (S : T.Says K) {e : Ent} (he : e ∈ T.tbl) : ∃ fd, FunD K e.nm e.nm (defArgs e.st) (defBody e.st) (defScope e.st) [] [] (He.ga K e.x) fd := by
  obtain ⟨i, hi⟩ := List.mem_iff_getElem?.mp he
  have := S.d.def_ i (d := e.d) (by unfold Txt.fn; rw [List.getElem?_map, hi]; rfl)
  exact this
theorem Txt.glo (X : K.In h) (G : h.Ns mainGlobals mg) (S : T.Says K) {e : Ent} (he : e ∈ T.tbl) : mg e.x = some (.ref (He.ga K e.x)) :=
  He.glo_ok X G (Txt.fct S (by
      unfold Txt.fa
      exact List.mem_append_left _ (List.mem_map.mpr ⟨_, he, rfl⟩)))
theorem chk1_ok {P : Sta} {e : Ent} (hc : chk1 P prog e = true) : FnScope e.N e.ps (defScope e.st) ∧ e.ps.length = e.np ∧ ∃ fn, prog e.f = some fn ∧ fn.np = e.ps.length ∧ fn.ns = e.N.length ∧ okSs P (defCtx e.N (defScope e.st)) fn.body (defBody e.st) = true := by
  unfold chk1 at hc
  obtain ⟨h1, h2⟩ := and2 hc
  obtain ⟨h2, h3⟩ := and2 h2
  have hl : e.ps.length = e.np := by
    unfold Ent.ps
    rw [List.length_take]
    have := of_decide_eq_true h2
    omega
  refine ⟨scB_ok h1, hl, ?_⟩
  split at h3
  · rename_i fn ef
    obtain ⟨h4, h5⟩ := and2 h3
    obtain ⟨h5, h6⟩ := and2 h5
    exact ⟨fn, ef, by rw [hl]; exact of_decide_eq_true h4, of_decide_eq_true h5, h6⟩
  · cases h3
theorem callees_all (X : K.In h) (G : h.Ns mainGlobals mg) (S : T.Says K) (hc : T.chk prog = true) (hb : ∀ e ∈ T.tbl, BindP e) : ∀ m, Callees Pg w K mg base (T.ca K) (call prog m) T.sta m := by
  intro m
  induction m with
  | zero =>
    intro f x n hm
    obtain ⟨e, he, q⟩ := List.mem_map.mp hm
    cases q
    obtain ⟨fd, F⟩ := Txt.def_ S he
    obtain ⟨_, hl, _⟩ := chk1_ok (List.all_eq_true.mp (and2 hc).2 _ he)
    exact ⟨_, fd, e.ps, hl, spec_bad hl (fun _ _ => rfl), Txt.glo X G S he, F.kp, F.bindsN (hb e he)⟩
  | succ m ih =>
    intro f x n hm
    obtain ⟨e, he, q⟩ := List.mem_map.mp hm
    cases q
    obtain ⟨fd, F⟩ := Txt.def_ S he
    obtain ⟨sc, hl, fn, e1, e2, e3, e4⟩ := chk1_ok (List.all_eq_true.mp (and2 hc).2 _ he)
    refine ⟨_, fd, e.ps, hl, ?_, Txt.glo X G S he, F.kp, F.bindsN (hb e he)⟩
    have := fn_ok (base := base) (w := w) F sc (Txt.g0 X G S hc) ih e4 e2 e3
    rw [hl] at this
    have q : call prog (m + 1) e.f = runFn (call prog m) fn := by
      funext vs S
      show (match prog e.f with | some fn => runFn (call prog m) fn vs S | none => .bad) = _
      rw [e1]
    rw [q]
    exact this
theorem ro_ints {K : Frag} {ι : List Addr} {F : Hp} : ∀ ns : List Int, RVs K ι F (ns.map .int) (ns.map V.int)
  | [] => .nil
  | n :: ns => .cons (.int n) (ro_ints ns)
/-- the law from the evaluator's equation -/
theorem law_at {l : PySem.W.OpenLaw} {m n : Nat} {e : Ent} {x : Str} {fa : Addr} (X : K.In h) (G : h.Ns mainGlobals mg) (S : T.Says K) (hc : T.chk prog = true) (hb : ∀ e ∈ T.tbl, BindP e) (he : e ∈ T.tbl) (hx : e.ps = [x]) (hfa : mg e.x = some (.ref fa))
    (hE : ∀ ns : List Int, ns.length ≤ n → ∃ S', call prog m e.f [.ro (ns.map .int)] [] = .ok (.bl true) S') : LamX.LawAtS l w K (L2.CX l.prog w) m n x mg fa h := by
  obtain ⟨fd, F⟩ := Txt.def_ S he
  have q := Txt.glo X G S he
  rw [hfa] at q
  cases q
  have b := FunD.bindsA (ps := [x]) F (by rw [← hx]; exact hb e he)
  refine ⟨fd, [], spec K (T.ca K) (call prog m e.f) 1, (fun _ z => nomatch z), (fun _ z => nomatch z), (fun _ z => nomatch z), fun s v => b s [v] rfl, fun H a ns hl _ _ hS => ?_, fun base Xb Gb _ => ?_⟩
  · obtain ⟨S', hS'⟩ := hE ns hl
    refine ⟨rfl, [.ro (ns.map .int)], [], H, [], .cons (.ro hS (ro_ints ns)) .nil, ⟨SubH.refl H, List.Pairwise.nil, rfl, fun _ _ z => by simp at z⟩, ?_⟩
    rw [hS']
    intro ι' F' H' u L _ _ ro _ _
    cases ro with
    | old r => cases r; rfl
  · obtain ⟨fa', fd', ps, h1, h2, h3, h4, h5⟩ := callees_all (Pg := l.prog) (w := w) (base := base) X G S hc hb m e.f e.x e.np (List.mem_map.mpr ⟨e, he, rfl⟩)
    obtain ⟨_, hl, _⟩ := chk1_ok (List.all_eq_true.mp (and2 hc).2 _ he)
    obtain ⟨sc, hl, fn, e1, e2, e3, e4⟩ := chk1_ok (List.all_eq_true.mp (and2 hc).2 _ he)
    cases m with
    | zero => exact spec_bad rfl (fun _ _ => rfl)
    | succ m =>
      have := fn_ok (base := base) (w := w) F sc (Txt.g0 X G S hc) (callees_all (Pg := l.prog) (w := w) (base := base) X G S hc hb m) e4 e2 e3
      rw [hx] at this
      have q : call prog (m + 1) e.f = runFn (call prog m) fn := by
        funext vs S
        show (match prog e.f with | some fn => runFn (call prog m) fn vs S | none => .bad) = _
        rw [e1]
      rw [q]
      exact this
end
end E

set_option linter.all false
set_option autoImplicit false
/-! Steps of the evaluator: rules for simp, one step each, nothing below a binder. -/
namespace E
theorem nr {α : Sort _} {a b : α} (h : a = b) : a = b := h
section
variable {Γ : Gam} {σ : Sl} {S : Store}
/-! ### expressions -/
def kOp2 (t : Bool) (o : Op2) (x y : Val) (S : Store) : Res Val := op2 t o x y S
def kBin (Γ : Gam) (t : Bool) (o : Op2) (b : ME) (σ : Sl) (x : Val) (S : Store) : Res Val := (ev Γ b σ S).bnd (kOp2 t o x)
def kNeg (x : Val) (S : Store) : Res Val := match x with
    | .int i => .ok (.int (-i)) S
    | _ => .bad
def kNot (x : Val) (S : Store) : Res Val := match x with
    | .bl b => .ok (.bl (!b)) S
    | _ => .bad
def oB (o : Option Bool) (S : Store) : Res Val := match o with
    | some c => .ok (.bl c) S
    | none => .bad
def kCmp2 (o : Cop) (x y : Val) (S : Store) : Res Val := oB (cop o x y S) S
def kCmp (Γ : Gam) (o : Cop) (b : ME) (σ : Sl) (x : Val) (S : Store) : Res Val := (ev Γ b σ S).bnd (kCmp2 o x)
def kChn3 (p : Cop) (y z : Val) (S : Store) : Res Val := oB (cop p y z S) S
def kChnB (Γ : Gam) (p : Cop) (c : ME) (σ : Sl) (y : Val) (S : Store) (o : Option Bool) : Res Val := match o with
    | some true => (ev Γ c σ S).bnd (kChn3 p y)
    | some false => .ok (.bl false) S
    | none => .bad
def kChn2 (Γ : Gam) (o p : Cop) (c : ME) (σ : Sl) (x y : Val) (S : Store) : Res Val := kChnB Γ p c σ y S (cop o x y S)
def kChn (Γ : Gam) (o p : Cop) (b c : ME) (σ : Sl) (x : Val) (S : Store) : Res Val := (ev Γ b σ S).bnd (kChn2 Γ o p c σ x)
def kAnd (Γ : Gam) (b : ME) (σ : Sl) (x : Val) (S : Store) : Res Val := match x with
    | .bl true => ev Γ b σ S
    | .bl false => .ok (.bl false) S
    | _ => .bad
def kOr (Γ : Gam) (b : ME) (σ : Sl) (x : Val) (S : Store) : Res Val := match x with
    | .bl true => .ok (.bl true) S
    | .bl false => ev Γ b σ S
    | _ => .bad
def kIteB (Γ : Gam) (a b : ME) (σ : Sl) (S : Store) (t : Option Bool) : Res Val := match t with
    | some true => ev Γ a σ S
    | some false => ev Γ b σ S
    | none => .bad
def kIte (Γ : Gam) (a b : ME) (σ : Sl) (x : Val) (S : Store) : Res Val := kIteB Γ a b σ S (truth S x)
def kTup (vs : List Val) (S : Store) : Res Val := if vs.length ≤ SZ then .ok (.tup vs) S else .bad
def kLst (t : Bool) (vs : List Val) (S : Store) : Res Val := newL t vs S
def kIx2 (x y : Val) (S : Store) : Res Val := ofO (ixV S x y) S
def kIx (Γ : Gam) (b : ME) (σ : Sl) (x : Val) (S : Store) : Res Val := (ev Γ b σ S).bnd (kIx2 x)
def kSlC (t : Bool) (x : Val) (l : Option Int) (S : Store) (h : Option (Option Int)) : Res Val := match h with
        | some h => slV t x l h S
        | none => .bad
def kSl3 (t hh : Bool) (x : Val) (l : Option Int) (h : Val) (S : Store) : Res Val := kSlC t x l S (optI hh h)
def kSlB (Γ : Gam) (t hh : Bool) (hi : ME) (σ : Sl) (x : Val) (S : Store) (l : Option (Option Int)) : Res Val := match l with
      | some l => (ev Γ hi σ S).bnd (kSl3 t hh x l)
      | none => .bad
def kSl2 (Γ : Gam) (t hl hh : Bool) (hi : ME) (σ : Sl) (x l : Val) (S : Store) : Res Val := kSlB Γ t hh hi σ x S (optI hl l)
def kSl (Γ : Gam) (t hl : Bool) (lo : ME) (hh : Bool) (hi : ME) (σ : Sl) (x : Val) (S : Store) : Res Val := (ev Γ lo σ S).bnd (kSl2 Γ t hl hh hi σ x)
def kBk (t : Bool) (x : Val) (S : Store) : Res Val := match lstOf S x with
    | some vs => newL t vs.reverse S
    | none => .bad
def kB1 (f : B1) (t : Bool) (x : Val) (S : Store) : Res Val := bi1 f t x S
def kB2b (f : B2) (x y : Val) (S : Store) : Res Val := bi2 f x y S
def kB2 (Γ : Gam) (f : B2) (b : ME) (σ : Sl) (x : Val) (S : Store) : Res Val := (ev Γ b σ S).bnd (kB2b f x)
def kIsi (ty : Ty) (x : Val) (S : Store) : Res Val := oB (isTy S x ty) S
def kRet (t : Bool) (v : Val) (S : Store) : Res Val := if t then .ok (thaw v S).1 (thaw v S).2 else .ok (frz v) S
def kCall (Γ : Gam) (f : Nat) (t : Bool) (vs : List Val) (S : Store) : Res Val := (Γ f vs S).bnd (kRet t)
def kM2 (f : Mt) (t : Bool) (x : Val) (vs : List Val) (S : Store) : Res Val := mth f t x vs S
def kMB (Γ : Gam) (f : Mt) (t : Bool) (as : List ME) (σ : Sl) (x : Val) (S : Store) (b : Bool) : Res Val := if b then (evs Γ as σ S).bnd (kM2 f t x) else .bad
def kM (Γ : Gam) (f : Mt) (t : Bool) (as : List ME) (σ : Sl) (x : Val) (S : Store) : Res Val := kMB Γ f t as σ x S (recv f x S)
def kTr (x : Val) (S : Store) : Res Bool := ofO (truth S x) S
def kCc (Γ : Gam) (hc : Bool) (c : ME) (σ : Sl) (S : Store) : Res Bool := if hc then (ev Γ c σ S).bnd kTr else .ok true S
def kLcE (t : Bool) (r : Res (List Val)) : Res Val := match r with
      | .ok acc S3 => newL t acc S3
      | _ => .bad
def kLcB (Γ : Gam) (t : Bool) (ow : List Nat) (tg : Tg) (hc : Bool) (c e : ME) (σ : Sl) (S : Store) (o : Option (Src × Nat)) : Res Val := match o with
    | none => .bad
    | some (s, n) => kLcE t (lcl (ev Γ e) (kCc Γ hc c) tg s (wipe σ ow) n 0 [] S)
def kLc2 (Γ : Gam) (t : Bool) (ow : List Nat) (tg : Tg) (k : Ik) (hc : Bool) (c e : ME) (σ : Sl) (x y : Val) (S : Store) : Res Val := kLcB Γ t ow tg hc c e σ S (mkSrc S k x y)
def kLc (Γ : Gam) (t : Bool) (ow : List Nat) (tg : Tg) (k : Ik) (b : ME) (hc : Bool) (c e : ME) (σ : Sl) (x : Val) (S : Store) : Res Val := (ev Γ b σ S).bnd (kLc2 Γ t ow tg k hc c e σ x)
def kEs2 (v : Val) (vs : List Val) (S : Store) : Res (List Val) := .ok (v :: vs) S
def kEs (Γ : Gam) (es : List ME) (σ : Sl) (v : Val) (S : Store) : Res (List Val) := (evs Γ es σ S).bnd (kEs2 v)
def getV (o : Option (Option Val)) (S : Store) : Res Val := match o with
    | some (some v) => .ok v S
    | _ => .bad
/-! binds -/
@[simp] theorem bndOk {α β : Type} (a : α) (S : Store) (k : α → Store → Res β) : (Res.ok a S).bnd k = k a S := nr rfl
@[simp] theorem bnd_exc {α β : Type} (e : Exn) (S : Store) (k : α → Store → Res β) : (Res.exc e S : Res α).bnd k = .exc e S := nr rfl
@[simp] theorem bnd_bad {α β : Type} (k : α → Store → Res β) : (Res.bad : Res α).bnd k = .bad := nr rfl
@[simp] theorem flb_nx (σ : Sl) (S : Store) (k : Sl → Store → Fl) : (Fl.nx σ S).bnd k = k σ S := nr rfl
@[simp] theorem flb_rt (v : Val) (S : Store) (k : Sl → Store → Fl) : (Fl.rt v S).bnd k = .rt v S := nr rfl
@[simp] theorem flb_exc (e : Exn) (σ : Sl) (S : Store) (k : Sl → Store → Fl) : (Fl.exc e σ S).bnd k = .exc e σ S := nr rfl
@[simp] theorem flb_bad (k : Sl → Store → Fl) : Fl.bad.bnd k = .bad := nr rfl
@[simp] theorem fl_ok {α : Type} (a : α) (S : Store) (σ : Sl) (k : α → Store → Fl) : (Res.ok a S).fl σ k = k a S := nr rfl
@[simp] theorem fl_exc {α : Type} (e : Exn) (S : Store) (σ : Sl) (k : α → Store → Fl) : (Res.exc e S : Res α).fl σ k = .exc e σ S := nr rfl
@[simp] theorem fl_bad {α : Type} (σ : Sl) (k : α → Store → Fl) : (Res.bad : Res α).fl σ k = .bad := nr rfl
@[simp] theorem ofO_some {α : Type} (a : α) (S : Store) : ofO (some a) S = .ok a S := nr rfl
@[simp] theorem ofO_none {α : Type} (S : Store) : (ofO none S : Res α) = .bad := nr rfl
@[simp] theorem oB_some (a : Bool) (S : Store) : oB (some a) S = .ok (.bl a) S := nr rfl
@[simp] theorem oB_none (S : Store) : oB none S = .bad := nr rfl
@[simp] theorem getV_some (v : Val) (S : Store) : getV (some (some v)) S = .ok v S := nr rfl
/-! steps -/
@[simp] theorem ev_k (v : Val) : ev Γ (.k v) σ S = .ok v S := nr rfl
@[simp] theorem ev_g (x : Tx) (v : Val) : ev Γ (.g x v) σ S = .ok v S := nr rfl
@[simp] theorem ev_v (i : Nat) : ev Γ (.v i) σ S = getV σ[i]? S := nr rfl
@[simp] theorem ev_bin (t : Bool) (o : Op2) (a b : ME) : ev Γ (.bin t o a b) σ S = (ev Γ a σ S).bnd (kBin Γ t o b σ) := nr rfl
@[simp] theorem kBin_ap (t : Bool) (o : Op2) (b : ME) (x : Val) : kBin Γ t o b σ x S = (ev Γ b σ S).bnd (kOp2 t o x) := nr rfl
@[simp] theorem kOp2_ap (t : Bool) (o : Op2) (x y : Val) : kOp2 t o x y S = op2 t o x y S := nr rfl
@[simp] theorem ev_neg (a : ME) : ev Γ (.neg a) σ S = (ev Γ a σ S).bnd kNeg := nr rfl
@[simp] theorem kNeg_ap (i : Int) : kNeg (.int i) S = .ok (.int (-i)) S := nr rfl
@[simp] theorem ev_not (a : ME) : ev Γ (.not a) σ S = (ev Γ a σ S).bnd kNot := nr rfl
@[simp] theorem kNot_ap (i : Bool) : kNot (.bl i) S = .ok (.bl (!i)) S := nr rfl
@[simp] theorem ev_one (a : ME) : ev Γ (.one a) σ S = ev Γ a σ S := nr rfl
@[simp] theorem ev_cmp (o : Cop) (a b : ME) : ev Γ (.cmp o a b) σ S = (ev Γ a σ S).bnd (kCmp Γ o b σ) := nr rfl
@[simp] theorem kCmp_ap (o : Cop) (b : ME) (x : Val) : kCmp Γ o b σ x S = (ev Γ b σ S).bnd (kCmp2 o x) := nr rfl
@[simp] theorem kCmp2_ap (o : Cop) (x y : Val) : kCmp2 o x y S = oB (cop o x y S) S := nr rfl
@[simp] theorem ev_chn (o p : Cop) (a b c : ME) : ev Γ (.chn o p a b c) σ S = (ev Γ a σ S).bnd (kChn Γ o p b c σ) := nr rfl
@[simp] theorem kChn_ap (o p : Cop) (b c : ME) (x : Val) : kChn Γ o p b c σ x S = (ev Γ b σ S).bnd (kChn2 Γ o p c σ x) := nr rfl
@[simp] theorem kChn2_ap (o p : Cop) (c : ME) (x y : Val) : kChn2 Γ o p c σ x y S = kChnB Γ p c σ y S (cop o x y S) := nr rfl
@[simp] theorem kChnB_t (p : Cop) (c : ME) (y : Val) : kChnB Γ p c σ y S (some true) = (ev Γ c σ S).bnd (kChn3 p y) := nr rfl
@[simp] theorem kChnB_f (p : Cop) (c : ME) (y : Val) : kChnB Γ p c σ y S (some false) = .ok (.bl false) S := nr rfl
@[simp] theorem kChn3_ap (p : Cop) (y z : Val) : kChn3 p y z S = oB (cop p y z S) S := nr rfl
@[simp] theorem ev_and (a b : ME) : ev Γ (.and a b) σ S = (ev Γ a σ S).bnd (kAnd Γ b σ) := nr rfl
@[simp] theorem kAnd_t (b : ME) : kAnd Γ b σ (.bl true) S = ev Γ b σ S := nr rfl
@[simp] theorem kAnd_f (b : ME) : kAnd Γ b σ (.bl false) S = .ok (.bl false) S := nr rfl
@[simp] theorem ev_or (a b : ME) : ev Γ (.or a b) σ S = (ev Γ a σ S).bnd (kOr Γ b σ) := nr rfl
@[simp] theorem kOr_t (b : ME) : kOr Γ b σ (.bl true) S = .ok (.bl true) S := nr rfl
@[simp] theorem kOr_f (b : ME) : kOr Γ b σ (.bl false) S = ev Γ b σ S := nr rfl
@[simp] theorem ev_ite (c a b : ME) : ev Γ (.ite c a b) σ S = (ev Γ c σ S).bnd (kIte Γ a b σ) := nr rfl
@[simp] theorem kIte_ap (a b : ME) (x : Val) : kIte Γ a b σ x S = kIteB Γ a b σ S (truth S x) := nr rfl
@[simp] theorem kIteB_t (a b : ME) : kIteB Γ a b σ S (some true) = ev Γ a σ S := nr rfl
@[simp] theorem kIteB_f (a b : ME) : kIteB Γ a b σ S (some false) = ev Γ b σ S := nr rfl
@[simp] theorem ev_tup (es : List ME) : ev Γ (.tup es) σ S = (evs Γ es σ S).bnd kTup := nr rfl
@[simp] theorem kTup_ap (vs : List Val) : kTup vs S = if vs.length ≤ 16777216 then .ok (.tup vs) S else .bad := nr rfl
@[simp] theorem ev_lst (t : Bool) (es : List ME) : ev Γ (.lst t es) σ S = (evs Γ es σ S).bnd (kLst t) := nr rfl
@[simp] theorem kLst_ap (t : Bool) (vs : List Val) : kLst t vs S = newL t vs S := nr rfl
@[simp] theorem ev_ix (a b : ME) : ev Γ (.ix a b) σ S = (ev Γ a σ S).bnd (kIx Γ b σ) := nr rfl
@[simp] theorem kIx_ap (b : ME) (x : Val) : kIx Γ b σ x S = (ev Γ b σ S).bnd (kIx2 x) := nr rfl
@[simp] theorem kIx2_ap (x y : Val) : kIx2 x y S = ofO (ixV S x y) S := nr rfl
@[simp] theorem ev_sl (t : Bool) (a : ME) (hl : Bool) (lo : ME) (hh : Bool) (hi : ME) : ev Γ (.sl t a hl lo hh hi) σ S = (ev Γ a σ S).bnd (kSl Γ t hl lo hh hi σ) := nr rfl
@[simp] theorem kSl_ap (t hl : Bool) (lo : ME) (hh : Bool) (hi : ME) (x : Val) : kSl Γ t hl lo hh hi σ x S = (ev Γ lo σ S).bnd (kSl2 Γ t hl hh hi σ x) := nr rfl
@[simp] theorem kSl2_ap (t hl hh : Bool) (hi : ME) (x l : Val) : kSl2 Γ t hl hh hi σ x l S = kSlB Γ t hh hi σ x S (optI hl l) := nr rfl
@[simp] theorem kSlB_some (t hh : Bool) (hi : ME) (x : Val) (l : Option Int) : kSlB Γ t hh hi σ x S (some l) = (ev Γ hi σ S).bnd (kSl3 t hh x l) := nr rfl
@[simp] theorem kSl3_ap (t hh : Bool) (x : Val) (l : Option Int) (h : Val) : kSl3 t hh x l h S = kSlC t x l S (optI hh h) := nr rfl
@[simp] theorem kSlC_some (t : Bool) (x : Val) (l h : Option Int) : kSlC t x l S (some h) = slV t x l h S := nr rfl
@[simp] theorem optI_f (v : Val) : optI false v = some none := nr rfl
@[simp] theorem optI_t (i : Int) : optI true (.int i) = some (some i) := nr rfl
@[simp] theorem ev_bk (t : Bool) (a : ME) : ev Γ (.bk t a) σ S = (ev Γ a σ S).bnd (kBk t) := nr rfl
@[simp] theorem ev_b1 (f : B1) (t : Bool) (a : ME) : ev Γ (.b1 f t a) σ S = (ev Γ a σ S).bnd (kB1 f t) := nr rfl
@[simp] theorem kB1_ap (f : B1) (t : Bool) (x : Val) : kB1 f t x S = bi1 f t x S := nr rfl
@[simp] theorem ev_b2 (f : B2) (a b : ME) : ev Γ (.b2 f a b) σ S = (ev Γ a σ S).bnd (kB2 Γ f b σ) := nr rfl
@[simp] theorem kB2_ap (f : B2) (b : ME) (x : Val) : kB2 Γ f b σ x S = (ev Γ b σ S).bnd (kB2b f x) := nr rfl
@[simp] theorem kB2b_ap (f : B2) (x y : Val) : kB2b f x y S = bi2 f x y S := nr rfl
@[simp] theorem ev_isi (a : ME) (ty : Ty) : ev Γ (.isi a ty) σ S = (ev Γ a σ S).bnd (kIsi ty) := nr rfl
@[simp] theorem kIsi_ap (ty : Ty) (x : Val) : kIsi ty x S = oB (isTy S x ty) S := nr rfl
@[simp] theorem ev_call (f : Nat) (t : Bool) (as : List ME) : ev Γ (.call f t as) σ S = (evs Γ as σ S).bnd (kCall Γ f t) := nr rfl
@[simp] theorem kCall_ap (f : Nat) (t : Bool) (vs : List Val) : kCall Γ f t vs S = (Γ f vs S).bnd (kRet t) := nr rfl
@[simp] theorem kRet_t (v : Val) : kRet true v S = .ok (thaw v S).1 (thaw v S).2 := nr rfl
@[simp] theorem kRet_f (v : Val) : kRet false v S = .ok (frz v) S := nr rfl
@[simp] theorem ev_m (f : Mt) (t : Bool) (o : ME) (as : List ME) : ev Γ (.m f t o as) σ S = (ev Γ o σ S).bnd (kM Γ f t as σ) := nr rfl
@[simp] theorem kM_ap (f : Mt) (t : Bool) (as : List ME) (x : Val) : kM Γ f t as σ x S = kMB Γ f t as σ x S (recv f x S) := nr rfl
@[simp] theorem kMB_t (f : Mt) (t : Bool) (as : List ME) (x : Val) : kMB Γ f t as σ x S true = (evs Γ as σ S).bnd (kM2 f t x) := nr rfl
@[simp] theorem kM2_ap (f : Mt) (t : Bool) (x : Val) (vs : List Val) : kM2 f t x vs S = mth f t x vs S := nr rfl
@[simp] theorem evLc (t : Bool) (ow : List Nat) (tg : Tg) (k : Ik) (a b : ME) (hc : Bool) (c e : ME) : ev Γ (.lc t ow tg k a b hc c e) σ S = (ev Γ a σ S).bnd (kLc Γ t ow tg k b hc c e σ) := nr rfl
@[simp] theorem kLc_ap (t : Bool) (ow : List Nat) (tg : Tg) (k : Ik) (b : ME) (hc : Bool) (c e : ME) (x : Val) : kLc Γ t ow tg k b hc c e σ x S = (ev Γ b σ S).bnd (kLc2 Γ t ow tg k hc c e σ x) := nr rfl
@[simp] theorem kLc2_ap (t : Bool) (ow : List Nat) (tg : Tg) (k : Ik) (hc : Bool) (c e : ME) (x y : Val) : kLc2 Γ t ow tg k hc c e σ x y S = kLcB Γ t ow tg hc c e σ S (mkSrc S k x y) := nr rfl
@[simp] theorem kLcB_some (t : Bool) (ow : List Nat) (tg : Tg) (hc : Bool) (c e : ME) (s : Src) (n : Nat) : kLcB Γ t ow tg hc c e σ S (some (s, n)) = kLcE t (lcl (ev Γ e) (kCc Γ hc c) tg s (wipe σ ow) n 0 [] S) := nr rfl
@[simp] theorem kLcE_ok (t : Bool) (acc : List Val) : kLcE t (.ok acc S) = newL t acc S := nr rfl
@[simp] theorem evs_nil : evs Γ [] σ S = .ok [] S := nr rfl
@[simp] theorem evs_cons (e : ME) (es : List ME) : evs Γ (e :: es) σ S = (ev Γ e σ S).bnd (kEs Γ es σ) := nr rfl
@[simp] theorem kEs_ap (es : List ME) (v : Val) : kEs Γ es σ v S = (evs Γ es σ S).bnd (kEs2 v) := nr rfl
@[simp] theorem kEs2_ap (v : Val) (vs : List Val) : kEs2 v vs S = .ok (v :: vs) S := nr rfl
@[simp] theorem kCc_t (c : ME) : kCc Γ true c σ S = (ev Γ c σ S).bnd kTr := nr rfl
@[simp] theorem kCc_f (c : ME) : kCc Γ false c σ S = .ok true S := nr rfl
@[simp] theorem kTr_ap (x : Val) : kTr x S = ofO (truth S x) S := nr rfl
@[simp] theorem evT_ap (c : ME) : evT Γ c σ S = (ev Γ c σ S).bnd kTr := nr rfl
/-! ### statements -/
def kNx (σ : Sl) (_ : Val) (S : Store) : Fl := .nx σ S
def oN (S : Store) (o : Option Sl) : Fl := match o with
    | some σ1 => .nx σ1 S
    | none => .bad
def kSet (i : Nat) (σ : Sl) (v : Val) (S : Store) : Fl := oN S (asg S (.n i) v σ)
def kTgt (ts : List Tg) (σ : Sl) (v : Val) (S : Store) : Fl := oN S (asg S (.t ts) v σ)
def oS (σ : Sl) (o : Option Store) : Fl := match o with
    | some S4 => .nx σ S4
    | none => .bad
def kSub3 (σ : Sl) (v x j : Val) (S : Store) : Fl := oS σ (setV x j v S)
def kSub2 (Γ : Gam) (i : ME) (σ : Sl) (v x : Val) (S : Store) : Fl := (ev Γ i σ S).fl σ (kSub3 σ v x)
def kSub (Γ : Gam) (o i : ME) (σ : Sl) (v : Val) (S : Store) : Fl := (ev Γ o σ S).fl σ (kSub2 Γ i σ v)
def kAug2 (i : Nat) (o : Op2) (σ : Sl) (x y : Val) (S : Store) : Fl := match x, y, o with
      | .int p, .int q, .add => .nx (σ.set i (some (.int (p + q)))) S
      | _, _, _ => .bad
def kAug (Γ : Gam) (i : Nat) (o : Op2) (e : ME) (σ : Sl) (S : Store) (x : Option (Option Val)) : Fl := match x with
    | some (some x) => (ev Γ e σ S).fl σ (kAug2 i o σ x)
    | _ => .bad
def kIf (Γ : Gam) (a b : List MS) (σ : Sl) (t : Bool) (S : Store) : Fl := if t then exs Γ a σ S else exs Γ b σ S
def kForB (Γ : Gam) (tg : Tg) (body : List MS) (σ : Sl) (S : Store) (o : Option (Src × Nat)) : Fl := match o with
    | none => .bad
    | some (s, n) => lp (exs Γ body) tg s n 0 σ S
def kFor2 (Γ : Gam) (tg : Tg) (k : Ik) (body : List MS) (σ : Sl) (x y : Val) (S : Store) : Fl := kForB Γ tg body σ S (mkSrc S k x y)
def kFor (Γ : Gam) (tg : Tg) (k : Ik) (b : ME) (body : List MS) (σ : Sl) (x : Val) (S : Store) : Fl := (ev Γ b σ S).fl σ (kFor2 Γ tg k body σ x)
def kRt (v : Val) (S : Store) : Fl := .rt v S
def kTry (Γ : Gam) (ks cs : List Nat) (es : List ME) (r : Fl) : Fl := match r with
    | .exc e σ1 S1 => if ks.contains e.c then evH Γ e.c cs es e σ1 S1 else .bad
    | r => r
def kSeq (Γ : Gam) (ss : List MS) (σ : Sl) (S : Store) : Fl := exs Γ ss σ S
@[simp] theorem exs_nil : exs Γ [] σ S = .nx σ S := nr rfl
@[simp] theorem exs_cons (s : MS) (ss : List MS) : exs Γ (s :: ss) σ S = (ex Γ s σ S).bnd (kSeq Γ ss) := nr rfl
@[simp] theorem kSeq_ap (ss : List MS) : kSeq Γ ss σ S = exs Γ ss σ S := nr rfl
@[simp] theorem ex_pass : ex Γ .pass σ S = .nx σ S := nr rfl
@[simp] theorem ex_ex (e : ME) : ex Γ (.ex e) σ S = (ev Γ e σ S).fl σ (kNx σ) := nr rfl
@[simp] theorem kNx_ap (v : Val) : kNx σ v S = .nx σ S := nr rfl
@[simp] theorem ex_set (i : Nat) (e : ME) : ex Γ (.set i e) σ S = (ev Γ e σ S).fl σ (kSet i σ) := nr rfl
@[simp] theorem kSet_ap (i : Nat) (v : Val) : kSet i σ v S = oN S (asg S (.n i) v σ) := nr rfl
@[simp] theorem oN_some (σ1 : Sl) : oN S (some σ1) = .nx σ1 S := nr rfl
@[simp] theorem ex_tgt (ts : List Tg) (e : ME) : ex Γ (.tgt ts e) σ S = (ev Γ e σ S).fl σ (kTgt ts σ) := nr rfl
@[simp] theorem kTgt_ap (ts : List Tg) (v : Val) : kTgt ts σ v S = oN S (asg S (.t ts) v σ) := nr rfl
@[simp] theorem ex_sub (o i e : ME) : ex Γ (.sub o i e) σ S = (ev Γ e σ S).fl σ (kSub Γ o i σ) := nr rfl
@[simp] theorem kSub_ap (o i : ME) (v : Val) : kSub Γ o i σ v S = (ev Γ o σ S).fl σ (kSub2 Γ i σ v) := nr rfl
@[simp] theorem kSub2_ap (i : ME) (v x : Val) : kSub2 Γ i σ v x S = (ev Γ i σ S).fl σ (kSub3 σ v x) := nr rfl
@[simp] theorem kSub3_ap (v x j : Val) : kSub3 σ v x j S = oS σ (setV x j v S) := nr rfl
@[simp] theorem oS_some (S1 : Store) : oS σ (some S1) = .nx σ S1 := nr rfl
@[simp] theorem ex_aug (i : Nat) (o : Op2) (e : ME) : ex Γ (.aug i o e) σ S = kAug Γ i o e σ S σ[i]? := nr rfl
@[simp] theorem kAug_some (i : Nat) (o : Op2) (e : ME) (x : Val) : kAug Γ i o e σ S (some (some x)) = (ev Γ e σ S).fl σ (kAug2 i o σ x) := nr rfl
@[simp] theorem kAug2_ap (i : Nat) (p q : Int) : kAug2 i .add σ (.int p) (.int q) S = .nx (σ.set i (some (.int (p + q)))) S := nr rfl
@[simp] theorem ex_ife (c : ME) (a b : List MS) : ex Γ (.ife c a b) σ S = (evT Γ c σ S).fl σ (kIf Γ a b σ) := nr rfl
@[simp] theorem kIf_t (a b : List MS) : kIf Γ a b σ true S = exs Γ a σ S := nr rfl
@[simp] theorem kIf_f (a b : List MS) : kIf Γ a b σ false S = exs Γ b σ S := nr rfl
@[simp] theorem ex_for (tg : Tg) (k : Ik) (a b : ME) (body : List MS) : ex Γ (.for tg k a b body) σ S = (ev Γ a σ S).fl σ (kFor Γ tg k b body σ) := nr rfl
@[simp] theorem kFor_ap (tg : Tg) (k : Ik) (b : ME) (body : List MS) (x : Val) : kFor Γ tg k b body σ x S = (ev Γ b σ S).fl σ (kFor2 Γ tg k body σ x) := nr rfl
@[simp] theorem kFor2_ap (tg : Tg) (k : Ik) (body : List MS) (x y : Val) : kFor2 Γ tg k body σ x y S = kForB Γ tg body σ S (mkSrc S k x y) := nr rfl
@[simp] theorem kForB_some (tg : Tg) (body : List MS) (s : Src) (n : Nat) : kForB Γ tg body σ S (some (s, n)) = lp (exs Γ body) tg s n 0 σ S := nr rfl
@[simp] theorem ex_whl (c : ME) (body : List MS) : ex Γ (.whl c body) σ S = wl (evT Γ c) (exs Γ body) 100000 σ S := nr rfl
@[simp] theorem ex_ret (e : ME) : ex Γ (.ret e) σ S = (ev Γ e σ S).fl σ kRt := nr rfl
@[simp] theorem kRt_ap (v : Val) : kRt v S = .rt v S := nr rfl
@[simp] theorem ex_retn : ex Γ .retn σ S = .rt .non S := nr rfl
@[simp] theorem ex_rai (c : Nat) : ex Γ (.rai c) σ S = .exc ⟨c, none⟩ σ S := nr rfl
@[simp] theorem ex_try (body : List MS) (ks cs : List Nat) (es : List ME) : ex Γ (.try body ks cs es) σ S = kTry Γ ks cs es (exs Γ body σ S) := nr rfl
@[simp] theorem kTry_nx (ks cs : List Nat) (es : List ME) : kTry Γ ks cs es (.nx σ S) = .nx σ S := nr rfl
@[simp] theorem kTry_rt (ks cs : List Nat) (es : List ME) (v : Val) : kTry Γ ks cs es (.rt v S) = .rt v S := nr rfl
@[simp] theorem kTry_exc (ks cs : List Nat) (es : List ME) (e : Exn) : kTry Γ ks cs es (.exc e σ S) = if ks.contains e.c then evH Γ e.c cs es e σ S else .bad := nr rfl
def oRt (r : Res Val) : Fl := match r with
      | .ok v S2 => .rt v S2
      | _ => .bad
@[simp] theorem oRt_ok (v : Val) : oRt (.ok v S) = .rt v S := nr rfl
@[simp] theorem evH_cons (c d : Nat) (ds : List Nat) (h : ME) (hs : List ME) (e : Exn) : evH Γ c (d :: ds) (h :: hs) e σ S = if catches c d then oRt (ev Γ h σ S) else evH Γ c ds hs e σ S := nr rfl
@[simp] theorem evH_nil (c : Nat) (e : Exn) : evH Γ c [] [] e σ S = .exc e σ S := nr rfl
end
/-! ### loops -/
def kLp (body : Sl → Store → Fl) (tg : Tg) (s : Src) (k i : Nat) (σ : Sl) (S : Store) : Fl := lp body tg s k i σ S
theorem lp_some {body : Sl → Store → Fl} {tg : Tg} {s : Src} {k i : Nat} {σ σ1 : Sl} {S : Store} {x : Val} (h : srcAt S s i = some (some x)) (h1 : asg S tg x σ = some σ1) : lp body tg s (k + 1) i σ S = (body σ1 S).bnd (kLp body tg s k (i + 1)) := by
  simp only [lp, h, h1]; rfl
theorem lp_none {body : Sl → Store → Fl} {tg : Tg} {s : Src} {k i : Nat} {σ : Sl} {S : Store} (h : srcAt S s i = some none) : lp body tg s (k + 1) i σ S = .nx σ S := by
  simp only [lp, h]
/-! ### values -/
section
variable {S : Store}
@[simp] theorem look_ref (n : Nat) : look S (.ref n) = S[n]? := nr rfl
@[simp] theorem look_lst (o : Bool) (vs : List Val) : look S (.lst o vs) = some (.lst o vs) := nr rfl
@[simp] theorem look_tup (vs : List Val) : look S (.tup vs) = some (.tup vs) := nr rfl
@[simp] theorem look_str (s : Tx) : look S (.str s) = some (.str s) := nr rfl
@[simp] theorem look_int (s : Int) : look S (.int s) = some (.int s) := nr rfl
@[simp] theorem look_bl (s : Bool) : look S (.bl s) = some (.bl s) := nr rfl
@[simp] theorem look_non : look S .non = some .non := nr rfl
@[simp] theorem look_ro (vs : List Val) : look S (.ro vs) = some (.ro vs) := nr rfl
@[simp] theorem truth_bl (b : Bool) : truth S (.bl b) = some b := nr rfl
@[simp] theorem truth_int (b : Int) : truth S (.int b) = some (b != 0) := nr rfl
@[simp] theorem truth_lst (o : Bool) (vs : List Val) : truth S (.lst o vs) = some (!vs.isEmpty) := nr rfl
@[simp] theorem truth_str (s : Tx) : truth S (.str s) = some (!s.isEmpty) := nr rfl
@[simp] theorem op2_add (t : Bool) (i j : Int) : op2 t .add (.int i) (.int j) S = .ok (.int (i + j)) S := nr rfl
@[simp] theorem op2_sub (t : Bool) (i j : Int) : op2 t .sub (.int i) (.int j) S = .ok (.int (i - j)) S := nr rfl
@[simp] theorem op2_mul (t : Bool) (i j : Int) : op2 t .mul (.int i) (.int j) S = if (-18446744073709551616 < i ∧ i < 18446744073709551616) ∨ (-18446744073709551616 < j ∧ j < 18446744073709551616) then .ok (.int (i * j)) S else .bad := nr rfl
@[simp] theorem op2_fdiv (t : Bool) (i j : Int) : op2 t .fdiv (.int i) (.int j) S = if 0 < j ∧ j < 1073741824 then .ok (.int (i / j)) S else .bad := nr rfl
@[simp] theorem op2_mod (t : Bool) (i j : Int) : op2 t .mod (.int i) (.int j) S = if 0 < j then .ok (.int (i % j)) S else .bad := nr rfl
@[simp] theorem op2_pow (t : Bool) (i j : Int) : op2 t .pow (.int i) (.int j) S = if 0 ≤ j ∧ j ≤ 1000000 ∧ i.natAbs < 18446744073709551616 then .ok (.int (i ^ j.toNat)) S else .bad := nr rfl
@[simp] theorem cop_lt (i j : Int) : cop .lt (.int i) (.int j) S = some (decide (i < j)) := nr rfl
@[simp] theorem cop_le (i j : Int) : cop .le (.int i) (.int j) S = some (decide (i ≤ j)) := nr rfl
@[simp] theorem cop_gt (i j : Int) : cop .gt (.int i) (.int j) S = some (decide (j < i)) := nr rfl
@[simp] theorem cop_ge (i j : Int) : cop .ge (.int i) (.int j) S = some (decide (j ≤ i)) := nr rfl
@[simp] theorem cop_eq (x y : Val) : cop .eq x y S = eqS S x y := nr rfl
@[simp] theorem cop_ne (x y : Val) : cop .ne x y S = (eqS S x y).map (!·) := nr rfl
@[simp] theorem cop_in (x y : Val) : cop .in_ x y S = inS S x y := nr rfl
@[simp] theorem cop_notin (x y : Val) : cop .notin x y S = ninS S x y := nr rfl
@[simp] theorem cop_is (x : Val) : cop .is x .non S = some (match x with | .non => true | _ => false) := nr rfl
@[simp] theorem cop_isnot (x : Val) : cop .isnot x .non S = some (match x with | .non => false | _ => true) := nr rfl
@[simp] theorem eqS_int (i j : Int) : eqS S (.int i) (.int j) = some (decide (i = j)) := nr rfl
@[simp] theorem eqS_bl (i j : Bool) : eqS S (.bl i) (.bl j) = some (decide (i = j)) := by cases i <;> cases j <;> rfl
@[simp] theorem eqS_str (i j : Tx) : eqS S (.str i) (.str j) = some (decide (i = j)) := by simp only [eqS]; congr 1; by_cases h : i = j <;> simp [h]
@[simp] theorem eqS_non : eqS S .non .non = some true := nr rfl
@[simp] theorem isTy_int (i : Int) (t : Ty) : isTy S (.int i) t = some (decide (t = .int)) := nr rfl
@[simp] theorem isTy_bl (i : Bool) (t : Ty) : isTy S (.bl i) t = some (decide (t = .bool ∨ t = .int)) := nr rfl
@[simp] theorem isTy_str (i : Tx) (t : Ty) : isTy S (.str i) t = some (decide (t = .str)) := nr rfl
@[simp] theorem isTy_tup (i : List Val) (t : Ty) : isTy S (.tup i) t = some (decide (t = .tuple)) := nr rfl
@[simp] theorem isTy_lst (o : Bool) (i : List Val) (t : Ty) : isTy S (.lst o i) t = some (decide (t = .list)) := nr rfl
@[simp] theorem isTy_non (t : Ty) : isTy S .non t = some false := nr rfl
@[simp] theorem newL_f (vs : List Val) : newL false vs S = if vs.length ≤ 16777216 then .ok (.lst false vs) S else .bad := nr rfl
@[simp] theorem newL_t (vs : List Val) : newL true vs S = if vs.length ≤ 16777216 then .ok (.ref S.length) (S ++ [.lst true vs]) else .bad := nr rfl
def ixC (o : Option Val) (j : Val) : Option Val := match o, j with
  | some (.lst _ vs), .int j => atI vs j
  | some (.tup vs), .int j => atI vs j
  | some (.str s), .int j => (atI s j).map fun c => .str [c]
  | some (.dic _ ks vs), k => (match keyOf k with
    | some q => if kindK ks q then getK ks vs q else none
    | none => none)
  | _, _ => none
@[simp] theorem ixV_ap (x i : Val) : ixV S x i = ixC (look S x) i := by
  unfold ixV ixC
  rfl
@[simp] theorem ixC_lst (o : Bool) (vs : List Val) (j : Int) : ixC (some (.lst o vs)) (.int j) = atI vs j := nr rfl
@[simp] theorem ixC_tup (vs : List Val) (j : Int) : ixC (some (.tup vs)) (.int j) = atI vs j := nr rfl
@[simp] theorem ixC_str (s : Tx) (j : Int) : ixC (some (.str s)) (.int j) = (atI s j).map fun c => .str [c] := nr rfl
theorem atI_ap {α : Type} {vs : List α} {j : Int} {x : α} (k : Nat) (h1 : j = k) (h2 : vs[k]? = some x) : atI vs j = some x := by
  subst h1
  have : k < vs.length := (List.getElem?_eq_some_iff.mp h2).1
  unfold atI ixN
  rw [if_pos (by omega), if_pos (by omega)]
  exact h2
@[simp] theorem atI_0 {α : Type} (x : α) (vs : List α) : atI (x :: vs) 0 = some x := atI_ap 0 rfl rfl
@[simp] theorem atI_1 {α : Type} (a x : α) (vs : List α) : atI (a :: x :: vs) 1 = some x := atI_ap 1 rfl rfl
@[simp] theorem atI_2 {α : Type} (a b x : α) (vs : List α) : atI (a :: b :: x :: vs) 2 = some x := atI_ap 2 rfl rfl
@[simp] theorem atI_3 {α : Type} (a b c x : α) (vs : List α) : atI (a :: b :: c :: x :: vs) 3 = some x := atI_ap 3 rfl rfl
@[simp] theorem atI_4 {α : Type} (a b c d x : α) (vs : List α) : atI (a :: b :: c :: d :: x :: vs) 4 = some x := atI_ap 4 rfl rfl
@[simp] theorem asg_n (i : Nat) (v : Val) (σ : Sl) : asg S (.n i) v σ = if i < σ.length then some (σ.set i (some v)) else none := by simp only [asg]
def asgC (S : Store) (ts : List Tg) (σ : Sl) (o : Option (List Val)) : Option Sl := match o with
    | some vs => asgs S ts vs σ
    | none => none
@[simp] theorem asg_t (ts : List Tg) (v : Val) (σ : Sl) : asg S (.t ts) v σ = asgC S ts σ (seqOf S v) := by simp only [asg]; rfl
@[simp] theorem asgC_some (ts : List Tg) (σ : Sl) (vs : List Val) : asgC S ts σ (some vs) = asgs S ts vs σ := nr rfl
def kAsgs (S : Store) (ts : List Tg) (vs : List Val) (σ : Sl) : Option Sl := asgs S ts vs σ
@[simp] theorem kAsgs_ap (ts : List Tg) (vs : List Val) (σ : Sl) : kAsgs S ts vs σ = asgs S ts vs σ := nr rfl
@[simp] theorem asgs_nil (σ : Sl) : asgs S [] [] σ = some σ := by simp only [asgs]
@[simp] theorem asgs_cons (t : Tg) (ts : List Tg) (v : Val) (vs : List Val) (σ : Sl) : asgs S (t :: ts) (v :: vs) σ = (asg S t v σ).bind (kAsgs S ts vs) := by simp only [asgs]; rfl
@[simp] theorem seqOf_tup (vs : List Val) : seqOf S (.tup vs) = some vs := nr rfl
@[simp] theorem seqOf_lst (o : Bool) (vs : List Val) : seqOf S (.lst o vs) = some vs := nr rfl
@[simp] theorem lstOf_lst (o : Bool) (vs : List Val) : lstOf S (.lst o vs) = some vs := nr rfl
def lenC (o : Option Val) (S : Store) : Res Val := match o with
    | some (.str s) => .ok (.int s.length) S
    | some (.lst _ vs) => .ok (.int vs.length) S
    | some (.tup vs) => .ok (.int vs.length) S
    | some (.dic _ ks _) => .ok (.int ks.length) S
    | _ => .bad
@[simp] theorem bi1_len (t : Bool) (x : Val) : bi1 .len t x S = lenC (look S x) S := nr rfl
@[simp] theorem lenC_str (s : Tx) : lenC (some (.str s)) S = .ok (.int s.length) S := nr rfl
@[simp] theorem lenC_lst (o : Bool) (vs : List Val) : lenC (some (.lst o vs)) S = .ok (.int vs.length) S := nr rfl
@[simp] theorem lenC_tup (vs : List Val) : lenC (some (.tup vs)) S = .ok (.int vs.length) S := nr rfl
def listC (t : Bool) (o : Option Val) (S : Store) : Res Val := match o with
    | some (.lst _ vs) => newL t vs S
    | some (.tup vs) => newL t vs S
    | _ => .bad
@[simp] theorem bi1_list (t : Bool) (x : Val) : bi1 .list t x S = listC t (look S x) S := nr rfl
@[simp] theorem listC_lst (t o : Bool) (vs : List Val) : listC t (some (.lst o vs)) S = newL t vs S := nr rfl
@[simp] theorem listC_tup (t : Bool) (vs : List Val) : listC t (some (.tup vs)) S = newL t vs S := nr rfl
def slC (t : Bool) (lo hi : Option Int) (S : Store) (o : Option Val) : Res Val := match o with
  | some (.lst _ vs) => newL t (cut vs lo hi) S
  | some (.ro vs) => newL t (cut vs lo hi) S
  | some (.tup vs) => .ok (.tup (cut vs lo hi)) S
  | some (.str s) => .ok (.str (cut s lo hi)) S
  | _ => .bad
@[simp] theorem slV_ap (t : Bool) (x : Val) (lo hi : Option Int) : slV t x lo hi S = slC t lo hi S (look S x) := nr rfl
@[simp] theorem slC_lst (t o : Bool) (lo hi : Option Int) (vs : List Val) : slC t lo hi S (some (.lst o vs)) = newL t (cut vs lo hi) S := nr rfl
@[simp] theorem slC_ro (t : Bool) (lo hi : Option Int) (vs : List Val) : slC t lo hi S (some (.ro vs)) = newL t (cut vs lo hi) S := nr rfl
@[simp] theorem slC_tup (t : Bool) (lo hi : Option Int) (vs : List Val) : slC t lo hi S (some (.tup vs)) = .ok (.tup (cut vs lo hi)) S := nr rfl
@[simp] theorem slC_str (t : Bool) (lo hi : Option Int) (s : Tx) : slC t lo hi S (some (.str s)) = .ok (.str (cut s lo hi)) S := nr rfl
/-! writing -/
def setC (n : Nat) (j : Int) (v : Val) (S : Store) (o : Option Val) : Option Store := match o with
    | some (.lst true vs) => (match ixN vs.length j with
      | some k => some (S.set n (.lst true (vs.set k v)))
      | none => none)
    | _ => none
@[simp] theorem setV_ap (n : Nat) (j : Int) (v : Val) : setV (.ref n) (.int j) v S = setC n j v S S[n]? := nr rfl
def setD (n : Nat) (vs : List Val) (v : Val) (S : Store) (o : Option Nat) : Option Store := match o with
      | some k => some (S.set n (.lst true (vs.set k v)))
      | none => none
@[simp] theorem setC_ap (n : Nat) (j : Int) (v : Val) (vs : List Val) : setC n j v S (some (.lst true vs)) = setD n vs v S (ixN vs.length j) := nr rfl
@[simp] theorem setD_ap (n : Nat) (vs : List Val) (v : Val) (k : Nat) : setD n vs v S (some k) = some (S.set n (.lst true (vs.set k v))) := nr rfl
end
/-! sources -/
section
variable {S : Store}
theorem lim_ok {i : Int} (h1 : -4611686018427387904 ≤ i) (h2 : i < 4611686018427387904) : lim62 i = true := by
  unfold lim62
  rw [decide_eq_true h1, decide_eq_true h2]; rfl
theorem mkSrc_r1 {j : Int} {y : Val} (h : lim62 j = true) : mkSrc S .r1 (.int j) y = some (.fix (rngUp 0 j.toNat), j.toNat + 1) := by
  show (if lim62 j then some (Src.fix (rngUp 0 j.toNat), j.toNat + 1) else none) = _
  rw [if_pos h]
theorem mkSrc_r2 {i j : Int} (h : lim62 i = true) (h2 : lim62 j = true) : mkSrc S .r2 (.int i) (.int j) = some (.fix (rngUp i (j - i).toNat), (j - i).toNat + 1) := by
  show (if lim62 i && lim62 j then some (Src.fix (rngUp i (j - i).toNat), (j - i).toNat + 1) else none) = _
  rw [h, h2]; rfl
theorem mkSrc_r3 {i j : Int} (h : lim62 i = true) (h2 : lim62 j = true) : mkSrc S .r3 (.int i) (.int j) = some (.fix (rngDn i (i - j).toNat), (i - j).toNat + 1) := by
  show (if lim62 i && lim62 j then some (Src.fix (rngDn i (i - j).toNat), (i - j).toNat + 1) else none) = _
  rw [h, h2]; rfl
@[simp] theorem mkSrc_lst (o : Bool) (vs : List Val) (y : Val) : mkSrc S .val (.lst o vs) y = some (.fix vs, vs.length + 1) := nr rfl
@[simp] theorem mkSrc_tup (vs : List Val) (y : Val) : mkSrc S .val (.tup vs) y = some (.fix vs, vs.length + 1) := nr rfl
@[simp] theorem mkSrc_str (s : Tx) (y : Val) : mkSrc S .val (.str s) y = some (.fix (s.map fun c => .str [c]), s.length + 1) := nr rfl
@[simp] theorem mkSrc_rev (o : Bool) (vs : List Val) (y : Val) : mkSrc S .rev (.lst o vs) y = some (.fix vs.reverse, vs.length + 1) := nr rfl
end
theorem call_succ {prog : Nat → Option Fn} {f : Nat} {fn : Fn} (h : prog f = some fn) (m : Nat) (vs : List Val) (S : Store) : call prog (m + 1) f vs S = runFn (call prog m) fn vs S := by
  show (match prog f with | some fn => runFn (call prog m) fn vs S | none => .bad) = _
  rw [h]
end E

set_option linter.all false
set_option autoImplicit false
/-! Lemmas of the evaluator. -/
namespace E
/-! ### the draw -/
def DR (ns : List Int) (a p s : Int) : Val := .lst true [.lst false (ns.map .int), .int a, .int p, .int s]
inductive Draw : Val → Prop
  | mk (ns : List Int) (a p s : Int) : ns.length ≤ 63 → 0 ≤ a → 0 ≤ p → 0 ≤ s → s < 2147483647 → Draw (DR ns a p s)
theorem belows_ints (n : Nat) : ∀ l : List Int, belows n (l.map .int) = true
  | [] => rfl
  | a :: l => by rw [List.map_cons, belows, belows_ints n l]; rfl
theorem purs_ints : ∀ l : List Int, purs (l.map .int) = true
  | [] => rfl
  | a :: l => by rw [List.map_cons, purs, purs_ints l]; rfl
theorem below_DR (n : Nat) (ns : List Int) (a p s : Int) : below n (DR ns a p s) = true := by
  simp [DR, below, belows, belows_ints]
theorem Draw.below {D : Val} (h : Draw D) (n : Nat) : below n D = true := by cases h; exact below_DR ..
theorem endU_int {n : Nat} {v : Int} {D : Val} {R : Store} (hD : Draw D) (hb : belows (R.length + 1) R = true) (hn : n = R.length + 1) : endU n (.rt (.int v) (D :: R)) = .ok (.int v) (D :: R) := by
  subst hn
  simp [endU, own, ownG, belows, hD.below, hb, List.take_of_length_le]
/-! ### values as they stand -/
theorem bAnd {a b : Bool} (h : (a && b) = true) : a = true ∧ b = true := Bool.and_eq_true_iff.mp h
mutual
theorem snG_pur {rd : Nat → Option Val} : ∀ v : Val, pur v = true → snapG rd v = some v
  | .non, _ => by simp only [snapG]
  | .bl _, _ => by simp only [snapG]
  | .int _, _ => by simp only [snapG]
  | .str _, _ => by simp only [snapG]
  | .tup vs, h => by simp only [snapG, snGs_pur vs (by simpa only [pur] using h)]; rfl
  | .lst o vs, h => by
    simp only [pur] at h
    obtain ⟨h1, h2⟩ := bAnd h
    cases o with
    | true => cases h1
    | false => simp only [snapG, snGs_pur vs h2]; rfl
  | .dic o ks vs, h => by
    simp only [pur] at h
    obtain ⟨h1, h2⟩ := bAnd h
    cases o with
    | true => cases h1
    | false => simp only [snapG, snGs_pur vs h2]; rfl
  | .ins _ _ _, h => by simp only [pur] at h; cases h
  | .ref _, h => by simp only [pur] at h; cases h
  | .ro vs, h => by simp only [pur] at h; simp only [snapG, h, if_true]
theorem snGs_pur {rd : Nat → Option Val} : ∀ v : List Val, purs v = true → snapGs rd v = some v
  | [], _ => by simp only [snapGs]
  | v :: vs, h => by
    rw [purs] at h
    obtain ⟨h1, h2⟩ := bAnd h
    simp only [snapGs, snG_pur v h1, snGs_pur vs h2]; rfl
end
theorem sn_pur {k : Nat} {S : Store} {v : Val} (h : pur v = true) : snap k S v = some v := by
  cases k with
  | zero => simp only [snap]; exact snG_pur v h
  | succ k => simp only [snap]; exact snG_pur v h
theorem sns_pur {k : Nat} {S : Store} : ∀ {vs : List Val}, purs vs = true → snaps k S vs = some vs
  | [], _ => by simp only [snaps]
  | v :: vs, h => by
    rw [purs] at h
    obtain ⟨h1, h2⟩ := bAnd h
    simp only [snaps, sn_pur h1, sns_pur h2]; rfl
/-! ### pure defs of pure values -/
theorem runP {Γ : Gam} {fn : Fn} {vs : List Val} {S : Store} (hm : fn.mode = .p) (hl : vs.length = fn.np) (hn : fn.np ≤ fn.ns) (hp : purs vs = true) : runFn Γ fn vs S = endP true S (exs Γ fn.body (startS fn.ns vs) []) := by
  unfold runFn
  rw [if_pos ⟨hl, by omega⟩, hm, sns_pur hp, hp]
@[simp] theorem endP_bl (pu : Bool) (S : Store) (b : Bool) (S1 : Store) : endP pu S (.rt (.bl b) S1) = .ok (.bl b) S := by simp [endP, own, ownG, clean]
@[simp] theorem endP_int (pu : Bool) (S : Store) (b : Int) (S1 : Store) : endP pu S (.rt (.int b) S1) = .ok (.int b) S := by simp [endP, own, ownG, clean]
@[simp] theorem endP_str (pu : Bool) (S : Store) (b : Tx) (S1 : Store) : endP pu S (.rt (.str b) S1) = .ok (.str b) S := by simp [endP, own, ownG, clean]
@[simp] theorem endP_non (pu : Bool) (S : Store) (S1 : Store) : endP pu S (.rt .non S1) = .ok .non S := by simp [endP, own, ownG, clean]
@[simp] theorem endP_nx (pu : Bool) (S : Store) (σ : Sl) (S1 : Store) : endP pu S (.nx σ S1) = .ok .non S := nr rfl
@[simp] theorem endP_exc (pu : Bool) (S : Store) (e : Exn) (σ : Sl) (S1 : Store) : endP pu S (.exc e σ S1) = .exc e S := nr rfl
@[simp] theorem frz_int (i : Int) : frz (.int i) = .int i := nr rfl
@[simp] theorem frz_bl (i : Bool) : frz (.bl i) = .bl i := nr rfl
@[simp] theorem frz_str (i : Tx) : frz (.str i) = .str i := nr rfl
@[simp] theorem frz_non : frz .non = .non := nr rfl
@[simp] theorem thaw_int (i : Int) (S : Store) : thaw (.int i) S = (.int i, S) := by simp only [thaw]
@[simp] theorem thaw_bl (i : Bool) (S : Store) : thaw (.bl i) S = (.bl i, S) := by simp only [thaw]
@[simp] theorem thaw_str (i : Tx) (S : Store) : thaw (.str i) S = (.str i, S) := by simp only [thaw]
@[simp] theorem thaw_non (S : Store) : thaw .non S = (.non, S) := by simp only [thaw]
/-! ### comprehensions -/
theorem lcl_fix {ec : Sl → Store → Res Val} {cc : Sl → Store → Res Bool} {tg : Tg} {σ : Sl} {S : Store} {f : Val → Val} {p : Val → Bool} {τ : Val → Sl} (vs : List Val) (h1 : ∀ v ∈ vs, asg S tg v σ = some (τ v)) (h2 : ∀ v ∈ vs, cc (τ v) S = .ok (p v) S) (h3 : ∀ v ∈ vs, p v = true → ec (τ v) S = .ok (f v) S) (hl : vs.length ≤ SZ) :
    lcl ec cc tg (.fix vs) σ (vs.length + 1) 0 [] S = .ok ((vs.filter p).map f) S := by
  have key : ∀ (k j : Nat) (acc : List Val), j + k = vs.length → acc.length ≤ j → lcl ec cc tg (.fix vs) σ (k + 1) j acc S = .ok (acc ++ ((vs.drop j).filter p).map f) S := by
    intro k
    induction k with
    | zero =>
      intro j acc hj ha
      have e : vs[j]? = none := List.getElem?_eq_none (by omega)
      simp only [lcl, srcAt, e]
      rw [List.drop_eq_nil_of_le (by omega)]
      simp
    | succ k ih =>
      intro j acc hj ha
      have hjl : j < vs.length := by omega
      have e : vs[j]? = some vs[j] := List.getElem?_eq_getElem hjl
      have hm : vs[j] ∈ vs := List.getElem_mem hjl
      rw [List.drop_eq_getElem_cons hjl]
      unfold lcl
      simp only [srcAt, e, h1 _ hm, h2 _ hm]
      show (if p vs[j] = true then _ else _) = _
      by_cases hp : p vs[j] = true
      · rw [if_pos hp, h3 _ hm hp]
        show (if acc.length < SZ then _ else _) = _
        rw [if_pos (by omega), ih (j + 1) _ (by omega) (by rw [List.length_append]; simp; omega), List.filter_cons_of_pos hp, List.map_cons, List.append_assoc]; rfl
      · rw [if_neg hp, ih (j + 1) _ (by omega) (by omega), List.filter_cons_of_neg hp]
  have := key vs.length 0 [] (by omega) (by simp)
  simpa using this
theorem SZ_le {n : Nat} (h : n ≤ 1000000) : n ≤ SZ := Nat.le_trans h (by decide)
theorem szl {n : Nat} (h : n ≤ 1000000) : n ≤ 16777216 := Nat.le_trans h (by decide)
theorem filter_true {α : Type} (l : List α) : l.filter (fun _ => true) = l := by simp
/-! ### likeness -/
mutual
def likeV : Val → Val → Bool
  | f, .non => (match f with | .non => true | _ => false)
  | f, .bl b => (match f with | .bl a => decide (a = b) | _ => false)
  | f, .int b => (match f with | .int a => decide (a = b) | _ => false)
  | f, .str b => (match f with | .str a => decide (a = b) | _ => false)
  | f, .tup ws => (match f with | .tup vs => likeVs vs ws | _ => false)
  | f, .lst _ ws => (match f with | .lst _ vs => likeVs vs ws | _ => false)
  | _, _ => false
def likeVs : List Val → List Val → Bool
  | vs, [] => vs.isEmpty
  | vs, w :: ws => (match vs with | v :: vs => likeV v w && likeVs vs ws | [] => false)
end
theorem boolsOf_map {α : Type} (f : α → Bool) : ∀ l : List α, boolsOf (l.map fun x => .bl (f x)) = some (l.map f)
  | [] => rfl
  | a :: l => by simp only [List.map_cons, boolsOf, boolsOf_map f l]; rfl
theorem likeVs_ix : ∀ (ws vs : List Val), vs.length = ws.length → likeVs vs ws = (List.range ws.length).all fun i => match vs[i]?, ws[i]? with | some v, some w => likeV v w | _, _ => false
  | [], vs, h => by
    cases vs with
    | nil => simp [likeVs]
    | cons _ _ => simp at h
  | w :: ws, vs, h => by
    cases vs with
    | nil => simp at h
    | cons v vs =>
      have := likeVs_ix ws vs (by simpa using h)
      simp only [likeVs, this, List.length_cons, List.range_succ_eq_map, List.all_cons, List.all_map]
      simp [Function.comp_def]
theorem likeVs_len : ∀ (ws vs : List Val), likeVs vs ws = true → vs.length = ws.length
  | [], vs, h => by
    cases vs with
    | nil => rfl
    | cons _ _ => simp [likeVs] at h
  | w :: ws, vs, h => by
    cases vs with
    | nil => simp [likeVs] at h
    | cons v vs =>
      simp only [likeVs] at h
      simp [likeVs_len ws vs (bAnd h).2]
mutual
/-- data: frozen, depth at most k, short -/
def dat : Nat → Val → Bool
  | k, .tup vs => (match k with | 0 => false | k + 1 => decide (vs.length ≤ 1000000) && dats k vs)
  | k, .lst o vs => (match k with | 0 => false | k + 1 => !o && (decide (vs.length ≤ 1000000) && dats k vs))
  | _, .dic _ _ _ => false
  | _, .ins _ _ _ => false
  | _, .ref _ => false
  | _, .ro _ => false
  | _, .non => true
  | _, .bl _ => true
  | _, .int _ => true
  | _, .str _ => true
def dats : Nat → List Val → Bool
  | _, [] => true
  | k, v :: vs => dat k v && dats k vs
end
mutual
theorem likeV_refl : ∀ (k : Nat) (v : Val), dat k v = true → likeV v v = true
  | _, .non, _ => by simp [likeV]
  | _, .bl _, _ => by simp [likeV]
  | _, .int _, _ => by simp [likeV]
  | _, .str _, _ => by simp [likeV]
  | 0, .tup vs, h => by simp [dat] at h
  | k + 1, .tup vs, h => by simp only [dat] at h; simp only [likeV]; exact likeVs_refl k vs (bAnd h).2
  | 0, .lst _ vs, h => by simp [dat] at h
  | k + 1, .lst _ vs, h => by simp only [dat] at h; simp only [likeV]; exact likeVs_refl k vs (bAnd (bAnd h).2).2
  | _, .dic _ _ _, h => by simp [dat] at h
  | _, .ins _ _ _, h => by simp [dat] at h
  | _, .ref _, h => by simp [dat] at h
  | _, .ro _, h => by simp [dat] at h
theorem likeVs_refl : ∀ (k : Nat) (vs : List Val), dats k vs = true → likeVs vs vs = true
  | _, [], _ => by simp [likeVs]
  | k, v :: vs, h => by
    simp only [dats] at h
    simp only [likeVs, likeV_refl k v (bAnd h).1, likeVs_refl k vs (bAnd h).2]; rfl
end
mutual
theorem dat_pur : ∀ (k : Nat) (v : Val), dat k v = true → pur v = true
  | _, .non, _ => by simp [pur]
  | _, .bl _, _ => by simp [pur]
  | _, .int _, _ => by simp [pur]
  | _, .str _, _ => by simp [pur]
  | 0, .tup vs, h => by simp [dat] at h
  | k + 1, .tup vs, h => by simp only [dat] at h; simp only [pur]; exact dats_purs k vs (bAnd h).2
  | 0, .lst _ vs, h => by simp [dat] at h
  | k + 1, .lst _ vs, h => by simp only [dat] at h; simp only [pur, (bAnd h).1, dats_purs k vs (bAnd (bAnd h).2).2]; rfl
  | _, .dic _ _ _, h => by simp [dat] at h
  | _, .ins _ _ _, h => by simp [dat] at h
  | _, .ref _, h => by simp [dat] at h
  | _, .ro _, h => by simp [dat] at h
theorem dats_purs : ∀ (k : Nat) (vs : List Val), dats k vs = true → purs vs = true
  | _, [], _ => by simp [purs]
  | k, v :: vs, h => by
    simp only [dats] at h
    simp only [purs, dat_pur k v (bAnd h).1, dats_purs k vs (bAnd h).2]; rfl
end
mutual
theorem dat_dle : ∀ (k : Nat) (v : Val), dat k v = true → dle k v = true
  | _, .non, _ => by simp [dle]
  | _, .bl _, _ => by simp [dle]
  | _, .int _, _ => by simp [dle]
  | _, .str _, _ => by simp [dle]
  | 0, .tup vs, h => by simp [dat] at h
  | k + 1, .tup vs, h => by simp only [dat] at h; simp only [dle]; exact dats_dles k vs (bAnd h).2
  | 0, .lst _ vs, h => by simp [dat] at h
  | k + 1, .lst _ vs, h => by simp only [dat] at h; simp only [dle]; exact dats_dles k vs (bAnd (bAnd h).2).2
  | _, .dic _ _ _, h => by simp [dat] at h
  | _, .ins _ _ _, h => by simp [dat] at h
  | _, .ref _, h => by simp [dat] at h
  | _, .ro _, h => by simp [dat] at h
theorem dats_dles : ∀ (k : Nat) (vs : List Val), dats k vs = true → dles k vs = true
  | _, [], _ => by simp [dles]
  | k, v :: vs, h => by
    simp only [dats] at h
    simp only [dles, dat_dle k v (bAnd h).1, dats_dles k vs (bAnd h).2]; rfl
end
theorem dats_get {k : Nat} {vs : List Val} (h : dats k vs = true) {i : Nat} {v : Val} (e : vs[i]? = some v) : dat k v = true := by
  induction vs generalizing i with
  | nil => simp at e
  | cons a vs ih =>
    rw [dats] at h
    cases i with
    | zero => simp at e; subst e; exact (bAnd h).1
    | succ i => exact ih (bAnd h).2 (by simpa using e)
theorem purs_get {vs : List Val} (h : purs vs = true) {i : Nat} {v : Val} (e : vs[i]? = some v) : pur v = true := by
  induction vs generalizing i with
  | nil => simp at e
  | cons a vs ih =>
    rw [purs] at h
    cases i with
    | zero => simp at e; subst e; exact (bAnd h).1
    | succ i => exact ih (bAnd h).2 (by simpa using e)
theorem dles_get {k : Nat} {vs : List Val} (h : dles k vs = true) {i : Nat} {v : Val} (e : vs[i]? = some v) : dle k v = true := by
  induction vs generalizing i with
  | nil => simp at e
  | cons a vs ih =>
    rw [dles] at h
    cases i with
    | zero => simp at e; subst e; exact (bAnd h).1
    | succ i => exact ih (bAnd h).2 (by simpa using e)
def allC (o : Option (List Val)) (S : Store) : Res Val := match o with
    | some vs => (match boolsOf vs with
      | some bs => .ok (.bl (bs.all id)) S
      | none => .bad)
    | none => .bad
@[simp] theorem bi1_all (t : Bool) (x : Val) (S : Store) : bi1 .all t x S = allC (lstOf S x) S := nr rfl
theorem allC_ap {α : Type} (f : α → Bool) (l : List α) (S : Store) : allC (some (l.map fun x => .bl (f x))) S = .ok (.bl (l.all f)) S := by
  simp only [allC, boolsOf_map]
  congr 2
  simp [List.all_map]
/-! ### loops over what stands -/
def lpL (body : Sl → Store → Fl) (tg : Tg) : List Val → Sl → Store → Fl
  | [], σ, S => .nx σ S
  | v :: vs, σ, S => (match asg S tg v σ with
      | none => .bad
      | some σ1 => (body σ1 S).bnd (lpL body tg vs))
def kLpA (body : Sl → Store → Fl) (tg : Tg) (vs : List Val) (S : Store) (o : Option Sl) : Fl := match o with
      | none => .bad
      | some σ1 => (body σ1 S).bnd (lpL body tg vs)
@[simp] theorem lpL_nil (body : Sl → Store → Fl) (tg : Tg) (σ : Sl) (S : Store) : lpL body tg [] σ S = .nx σ S := nr rfl
@[simp] theorem lpL_cons (body : Sl → Store → Fl) (tg : Tg) (v : Val) (vs : List Val) (σ : Sl) (S : Store) : lpL body tg (v :: vs) σ S = kLpA body tg vs S (asg S tg v σ) := nr rfl
@[simp] theorem kLpA_some (body : Sl → Store → Fl) (tg : Tg) (vs : List Val) (S : Store) (σ : Sl) : kLpA body tg vs S (some σ) = (body σ S).bnd (lpL body tg vs) := nr rfl
theorem lp_lpL {body : Sl → Store → Fl} {tg : Tg} (vs : List Val) (n : Nat) (hn : n = vs.length + 1) (σ : Sl) (S : Store) : lp body tg (.fix vs) n 0 σ S = lpL body tg vs σ S := by
  subst hn
  have key : ∀ (k j : Nat) (σ : Sl) (S : Store), j + k = vs.length → lp body tg (.fix vs) (k + 1) j σ S = lpL body tg (vs.drop j) σ S := by
    intro k
    induction k with
    | zero =>
      intro j σ S hj
      have e : vs[j]? = none := List.getElem?_eq_none (by omega)
      rw [List.drop_eq_nil_of_le (by omega)]
      simp only [lp, srcAt, e]; rfl
    | succ k ih =>
      intro j σ S hj
      have hjl : j < vs.length := by omega
      have e : vs[j]? = some vs[j] := List.getElem?_eq_getElem hjl
      rw [List.drop_eq_getElem_cons hjl]
      unfold lp lpL
      simp only [srcAt, e]
      cases asg S tg vs[j] σ with
      | none => rfl
      | some σ1 =>
        show (body σ1 S).bnd _ = (body σ1 S).bnd _
        congr 1
        funext σ2 S2
        exact ih (j + 1) σ2 S2 (by omega)
  exact key vs.length 0 σ S (by omega)
/-- a loop that goes to its end -/
theorem lpL_inv {body : Sl → Store → Fl} {tg : Tg} (I : Sl → Store → Prop) : ∀ (vs : List Val), (∀ v ∈ vs, ∀ σ S, I σ S → ∃ σ1, asg S tg v σ = some σ1 ∧ ∃ σ2 S2, body σ1 S = .nx σ2 S2 ∧ I σ2 S2) → ∀ σ S, I σ S → ∃ σ' S', lpL body tg vs σ S = .nx σ' S' ∧ I σ' S'
  | [], _, σ, S, h => ⟨σ, S, rfl, h⟩
  | v :: vs, H, σ, S, h => by
    obtain ⟨σ1, e1, σ2, S2, e2, h2⟩ := H v (List.mem_cons_self ..) σ S h
    obtain ⟨σ3, S3, e3, h3⟩ := lpL_inv I vs (fun w hw => H w (List.mem_cons_of_mem _ hw)) σ2 S2 h2
    exact ⟨σ3, S3, by simp only [lpL_cons, e1, kLpA_some, e2, flb_nx, e3], h3⟩
@[simp] theorem kForB_fix {Γ : Gam} {tg : Tg} {body : List MS} {σ : Sl} {S : Store} (vs : List Val) : kForB Γ tg body σ S (some (.fix vs, vs.length + 1)) = lpL (exs Γ body) tg vs σ S := lp_lpL vs _ rfl σ S
theorem rngUp_len (a : Int) (n : Nat) : (rngUp a n).length = n := by simp [rngUp]
theorem kFor_r1 {Γ : Gam} {tg : Tg} {body : List MS} {σ : Sl} {S : Store} {j : Int} {y : Val} (h : lim62 j = true) : kForB Γ tg body σ S (mkSrc S .r1 (.int j) y) = lpL (exs Γ body) tg (rngUp 0 j.toNat) σ S := by
  rw [mkSrc_r1 h]
  exact lp_lpL _ _ (by rw [rngUp_len]) σ S
theorem kFor_r2 {Γ : Gam} {tg : Tg} {body : List MS} {σ : Sl} {S : Store} {i j : Int} (h : lim62 i = true) (h2 : lim62 j = true) : kForB Γ tg body σ S (mkSrc S .r2 (.int i) (.int j)) = lpL (exs Γ body) tg (rngUp i (j - i).toNat) σ S := by
  rw [mkSrc_r2 h h2]
  exact lp_lpL _ _ (by rw [rngUp_len]) σ S
theorem rngDn_len (a : Int) (n : Nat) : (rngDn a n).length = n := by simp [rngDn]
theorem kFor_r3 {Γ : Gam} {tg : Tg} {body : List MS} {σ : Sl} {S : Store} {i j : Int} (h : lim62 i = true) (h2 : lim62 j = true) : kForB Γ tg body σ S (mkSrc S .r3 (.int i) (.int j)) = lpL (exs Γ body) tg (rngDn i (i - j).toNat) σ S := by
  rw [mkSrc_r3 h h2]
  exact lp_lpL _ _ (by rw [rngDn_len]) σ S
/-! ### calls of pure defs -/
theorem callP {prog : Nat → Option Fn} {f : Nat} {fn : Fn} {vs : List Val} (h : prog f = some fn) (hm : fn.mode = .p) (hl : vs.length = fn.np) (hn : fn.np ≤ fn.ns) (hp : purs vs = true) (m : Nat) (S : Store) : call prog (m + 1) f vs S = endP true S (exs (call prog m) fn.body (startS fn.ns vs) []) := by
  rw [call_succ h, runP hm hl hn hp]
theorem cut_63 {α : Type} (l : List α) (h : l.length ≤ 63) : cut l none (some 63) = l := by
  unfold cut sIx
  simp only [List.drop_zero, Nat.sub_zero]
  rw [if_neg (by omega)]
  exact List.take_of_length_le (by show l.length ≤ min 63 l.length; omega)
/-! ### owned trees -/
mutual
theorem ownG_dat {rd : Nat → Store → Option (Val × Store)} : ∀ (k : Nat) (v : Val) (S : Store), dat k v = true → ownG rd v S = some (v, S)
  | _, .non, _, _ => by simp only [ownG]
  | _, .bl _, _, _ => by simp only [ownG]
  | _, .int _, _, _ => by simp only [ownG]
  | _, .str _, _, _ => by simp only [ownG]
  | 0, .tup vs, _, h => by simp [dat] at h
  | k + 1, .tup vs, S, h => by simp only [dat] at h; simp only [ownG, ownGs_dat k vs S (bAnd h).2]; rfl
  | 0, .lst _ vs, _, h => by simp [dat] at h
  | k + 1, .lst o vs, S, h => by
    simp only [dat] at h
    simp only [ownG, dats_purs k vs (bAnd (bAnd h).2).2, (bAnd h).1]; rfl
  | _, .dic _ _ _, _, h => by simp [dat] at h
  | _, .ins _ _ _, _, h => by simp [dat] at h
  | _, .ref _, _, h => by simp [dat] at h
  | _, .ro _, _, h => by simp [dat] at h
theorem ownGs_dat {rd : Nat → Store → Option (Val × Store)} : ∀ (k : Nat) (vs : List Val) (S : Store), dats k vs = true → ownGs rd vs S = some (vs, S)
  | _, [], _, _ => by simp only [ownGs]
  | k, v :: vs, S, h => by
    simp only [dats] at h
    simp only [ownGs, ownG_dat k v S (bAnd h).1, Option.bind_some, ownGs_dat k vs S (bAnd h).2]; rfl
end
theorem own_dat {n0 j k : Nat} {v : Val} (S : Store) (h : dat k v = true) : own n0 j v S = some (v, S) := by
  cases j with
  | zero => unfold own; exact ownG_dat k v S h
  | succ j => unfold own; exact ownG_dat k v S h
theorem own_lst {n0 j k n : Nat} {vs : List Val} {S : Store} (hn : n0 ≤ n) (e : S[n]? = some (.lst true vs)) (h : dats k vs = true) : own n0 (j + 1) (.ref n) S = some (.lst true vs, S.set n .non) := by
  unfold own ownG
  rw [if_neg (by omega), e]
  simp only [ownGs_dat k vs _ h]; rfl
theorem endP_dat {k : Nat} {v : Val} (S S1 : Store) (h : dat k v = true) : endP true S (.rt v S1) = .ok v S := by
  simp only [endP, own_dat S1 h]; rfl
theorem endP_lst {k n : Nat} {vs : List Val} (S : Store) {S1 : Store} (e : S1[n]? = some (.lst true vs)) (h : dats k vs = true) : endP true S (.rt (.ref n) S1) = .ok (.lst true vs) S := by
  simp only [endP, own_lst (Nat.zero_le n) e h]; rfl
mutual
theorem frz_dat : ∀ (k : Nat) (v : Val), dat k v = true → frz v = v
  | _, .non, _ => by simp only [frz]
  | _, .bl _, _ => by simp only [frz]
  | _, .int _, _ => by simp only [frz]
  | _, .str _, _ => by simp only [frz]
  | 0, .tup vs, h => by simp [dat] at h
  | k + 1, .tup vs, h => by simp only [dat] at h; simp only [frz, frzs_dats k vs (bAnd h).2]
  | 0, .lst _ vs, h => by simp [dat] at h
  | k + 1, .lst o vs, h => by
    simp only [dat] at h
    cases o with
    | true => simp at h
    | false => simp only [frz, frzs_dats k vs (bAnd (bAnd h).2).2]
  | _, .dic _ _ _, h => by simp [dat] at h
  | _, .ins _ _ _, h => by simp [dat] at h
  | _, .ref _, h => by simp [dat] at h
  | _, .ro _, h => by simp [dat] at h
theorem frzs_dats : ∀ (k : Nat) (vs : List Val), dats k vs = true → frzs vs = vs
  | _, [], _ => by simp only [frzs]
  | k, v :: vs, h => by
    simp only [dats] at h
    simp only [frzs, frz_dat k v (bAnd h).1, frzs_dats k vs (bAnd h).2]
end
theorem dats_ints (k : Nat) : ∀ l : List Int, dats k (l.map .int) = true
  | [] => by simp [dats]
  | a :: l => by rw [List.map_cons, dats, dats_ints k l]; simp [dat]
mutual
theorem dat_mono : ∀ (v : Val) (k k' : Nat), k ≤ k' → dat k v = true → dat k' v = true
  | .non, _, _, _, _ => by simp [dat]
  | .bl _, _, _, _, _ => by simp [dat]
  | .int _, _, _, _, _ => by simp [dat]
  | .str _, _, _, _, _ => by simp [dat]
  | .tup vs, 0, _, _, h => by simp [dat] at h
  | .tup vs, k + 1, 0, hk, h => by omega
  | .tup vs, k + 1, k' + 1, hk, h => by
    simp only [dat] at h ⊢
    rw [(bAnd h).1, dats_mono vs k k' (by omega) (bAnd h).2]; rfl
  | .lst _ vs, 0, _, _, h => by simp [dat] at h
  | .lst _ vs, k + 1, 0, hk, h => by omega
  | .lst _ vs, k + 1, k' + 1, hk, h => by
    simp only [dat] at h ⊢
    rw [(bAnd h).1, (bAnd (bAnd h).2).1, dats_mono vs k k' (by omega) (bAnd (bAnd h).2).2]; rfl
  | .dic _ _ _, _, _, _, h => by simp [dat] at h
  | .ins _ _ _, _, _, _, h => by simp [dat] at h
  | .ref _, _, _, _, h => by simp [dat] at h
  | .ro _, _, _, _, h => by simp [dat] at h
theorem dats_mono : ∀ (vs : List Val) (k k' : Nat), k ≤ k' → dats k vs = true → dats k' vs = true
  | [], _, _, _, _ => by simp [dats]
  | v :: vs, k, k', hk, h => by
    simp only [dats] at h ⊢
    rw [dat_mono v k k' hk (bAnd h).1, dats_mono vs k k' hk (bAnd h).2]; rfl
end
end E

set_option linter.all false
set_option autoImplicit false
set_option maxHeartbeats 1000000
namespace E
/-! ### told trees: made, changed, looked at -/
mutual
/-- owned data: depth at most k, short -/
def odat : Nat → Val → Bool
  | k, .tup vs => (match k with | 0 => false | k + 1 => decide (vs.length ≤ 1000000) && odats k vs)
  | k, .lst _ vs => (match k with | 0 => false | k + 1 => decide (vs.length ≤ 1000000) && odats k vs)
  | _, .dic _ _ _ => false
  | _, .ins _ _ _ => false
  | _, .ref _ => false
  | _, .ro _ => false
  | _, .non => true
  | _, .bl _ => true
  | _, .int _ => true
  | _, .str _ => true
def odats : Nat → List Val → Bool
  | _, [] => true
  | k, v :: vs => odat k v && odats k vs
end
mutual
theorem odat_frz : ∀ (v : Val) (k : Nat), odat k v = true → dat k (frz v) = true
  | .non, _, _ => by simp [dat]
  | .bl _, _, _ => by simp [dat]
  | .int _, _, _ => by simp [dat]
  | .str _, _, _ => by simp [dat]
  | .tup vs, 0, h => by simp [odat] at h
  | .tup vs, k + 1, h => by
    simp only [odat] at h
    obtain ⟨h1, h2⟩ := bAnd h
    simp only [frz, dat, odats_frzs vs k h2, frzs_len, h1]; rfl
  | .lst _ vs, 0, h => by simp [odat] at h
  | .lst _ vs, k + 1, h => by
    simp only [odat] at h
    obtain ⟨h1, h2⟩ := bAnd h
    simp only [frz, dat, odats_frzs vs k h2, frzs_len, h1]; rfl
  | .dic _ _ _, _, h => by simp [odat] at h
  | .ins _ _ _, _, h => by simp [odat] at h
  | .ref _, _, h => by simp [odat] at h
  | .ro _, _, h => by simp [odat] at h
theorem odats_frzs : ∀ (vs : List Val) (k : Nat), odats k vs = true → dats k (frzs vs) = true
  | [], _, _ => by simp [dats, frzs]
  | v :: vs, k, h => by
    simp only [odats] at h
    simp only [frzs, dats, odat_frz v k (bAnd h).1, odats_frzs vs k (bAnd h).2]; rfl
theorem frzs_len : ∀ (vs : List Val), (frzs vs).length = vs.length
  | [] => by simp [frzs]
  | v :: vs => by simp [frzs, frzs_len vs]
end
mutual
theorem thaw_ext : ∀ (v : Val) (S : Store), ∃ R, (thaw v S).2 = S ++ R
  | .tup vs, S => by simp only [thaw]; exact thaws_ext vs S
  | .lst true vs, S => by
    simp only [thaw]
    obtain ⟨R, e⟩ := thaws_ext vs S
    exact ⟨R ++ [.lst true (thaws vs S).1], by rw [e, List.append_assoc]⟩
  | .dic true ks vs, S => by
    simp only [thaw]
    obtain ⟨R, e⟩ := thaws_ext vs S
    exact ⟨R ++ [.dic true ks (thaws vs S).1], by rw [e, List.append_assoc]⟩
  | .ins c fs vs, S => by
    simp only [thaw]
    obtain ⟨R, e⟩ := thaws_ext vs S
    exact ⟨R ++ [.ins c fs (thaws vs S).1], by rw [e, List.append_assoc]⟩
  | .lst false vs, S => ⟨[], by simp [thaw]⟩
  | .dic false ks vs, S => ⟨[], by simp [thaw]⟩
  | .non, S => ⟨[], by simp [thaw]⟩
  | .bl _, S => ⟨[], by simp [thaw]⟩
  | .int _, S => ⟨[], by simp [thaw]⟩
  | .str _, S => ⟨[], by simp [thaw]⟩
  | .ref _, S => ⟨[], by simp [thaw]⟩
  | .ro _, S => ⟨[], by simp [thaw]⟩
theorem thaws_ext : ∀ (vs : List Val) (S : Store), ∃ R, (thaws vs S).2 = S ++ R
  | [], S => ⟨[], by simp [thaws]⟩
  | v :: vs, S => by
    simp only [thaws]
    obtain ⟨R, e⟩ := thaw_ext v S
    obtain ⟨R2, e2⟩ := thaws_ext vs (thaw v S).2
    exact ⟨R ++ R2, by rw [e2, e, List.append_assoc]⟩
end
mutual
theorem snapG_frz {rd : Nat → Option Val} : ∀ (v : Val) (k : Nat), odat k v = true → snapG rd v = some (frz v)
  | .non, _, _ => by simp only [snapG, frz]
  | .bl _, _, _ => by simp only [snapG, frz]
  | .int _, _, _ => by simp only [snapG, frz]
  | .str _, _, _ => by simp only [snapG, frz]
  | .tup vs, 0, h => by simp [odat] at h
  | .tup vs, k + 1, h => by
    simp only [odat] at h
    simp only [snapG, frz, snapGs_frz vs k (bAnd h).2]; rfl
  | .lst _ vs, 0, h => by simp [odat] at h
  | .lst _ vs, k + 1, h => by
    simp only [odat] at h
    simp only [snapG, frz, snapGs_frz vs k (bAnd h).2]; rfl
  | .dic _ _ _, _, h => by simp [odat] at h
  | .ins _ _ _, _, h => by simp [odat] at h
  | .ref _, _, h => by simp [odat] at h
  | .ro _, _, h => by simp [odat] at h
theorem snapGs_frz {rd : Nat → Option Val} : ∀ (vs : List Val) (k : Nat), odats k vs = true → snapGs rd vs = some (frzs vs)
  | [], _, _ => by simp only [snapGs, frzs]
  | v :: vs, k, h => by
    simp only [odats] at h
    simp only [snapGs, frzs, snapG_frz v k (bAnd h).1, snapGs_frz vs k (bAnd h).2]; rfl
end
def rdK : Nat → Store → Nat → Option Val
  | 0, _ => fun _ => none
  | k + 1, S => fun n => (S[n]?).bind (snap k S)
theorem snap_eq (k : Nat) (S : Store) (v : Val) : snap k S v = snapG (rdK k S) v := by cases k <;> rfl
theorem snapGs_snaps (k : Nat) (S : Store) : ∀ vs : List Val, snapGs (rdK k S) vs = snaps k S vs
  | [] => by simp only [snapGs, snaps]
  | v :: vs => by simp only [snapGs, snaps, ← snap_eq, snapGs_snaps k S vs]
theorem snap_tup (k : Nat) (S : Store) (vs : List Val) : snap k S (.tup vs) = (snaps k S vs).map .tup := by rw [snap_eq, snapG, snapGs_snaps]
theorem snap_lst (k : Nat) (S : Store) (o : Bool) (vs : List Val) : snap k S (.lst o vs) = (snaps k S vs).map (.lst false) := by rw [snap_eq, snapG, snapGs_snaps]
theorem snap_ref (k : Nat) (S : Store) (n : Nat) : snap (k + 1) S (.ref n) = (S[n]?).bind (snap k S) := by rw [snap_eq, snapG]; rfl
mutual
theorem thaw_snap : ∀ (v : Val) (k j : Nat) (S T : Store), odat k v = true → k ≤ j → snap j ((thaw v S).2 ++ T) (thaw v S).1 = some (frz v)
  | .non, k, j, S, T, _, _ => by simp only [thaw]; exact sn_pur rfl
  | .bl _, k, j, S, T, _, _ => by simp only [thaw]; exact sn_pur rfl
  | .int _, k, j, S, T, _, _ => by simp only [thaw]; exact sn_pur rfl
  | .str _, k, j, S, T, _, _ => by simp only [thaw]; exact sn_pur rfl
  | .tup vs, 0, j, S, T, h, _ => by simp [odat] at h
  | .tup vs, k + 1, j, S, T, h, hj => by
    simp only [odat] at h
    simp only [thaw, frz]
    rw [snap_tup, thaws_snap vs k j S T (bAnd h).2 (by omega)]; rfl
  | .lst true vs, 0, j, S, T, h, _ => by simp [odat] at h
  | .lst true vs, k + 1, 0, S, T, h, hj => by omega
  | .lst true vs, k + 1, j + 1, S, T, h, hj => by
    simp only [odat] at h
    simp only [thaw, frz]
    have e : ((thaws vs S).2 ++ [.lst true (thaws vs S).1] ++ T)[(thaws vs S).2.length]? = some (.lst true (thaws vs S).1) := by
      rw [List.append_assoc, List.getElem?_append_right (Nat.le_refl _)]; simp
    rw [snap_ref, e, Option.bind_some, snap_lst, List.append_assoc, thaws_snap vs k j S _ (bAnd h).2 (by omega)]; rfl
  | .lst false vs, k, j, S, T, h, hj => by
    have e : thaw (.lst false vs) S = (.lst false vs, S) := by simp [thaw]
    rw [e, snap_eq]
    exact snapG_frz _ k h
  | .dic _ _ _, _, _, _, _, h, _ => by simp [odat] at h
  | .ins _ _ _, _, _, _, _, h, _ => by simp [odat] at h
  | .ref _, _, _, _, _, h, _ => by simp [odat] at h
  | .ro _, _, _, _, _, h, _ => by simp [odat] at h
theorem thaws_snap : ∀ (vs : List Val) (k j : Nat) (S T : Store), odats k vs = true → k ≤ j → snaps j ((thaws vs S).2 ++ T) (thaws vs S).1 = some (frzs vs)
  | [], _, _, _, _, _, _ => by simp [thaws, snaps, frzs]
  | v :: vs, k, j, S, T, h, hj => by
    simp only [odats] at h
    simp only [thaws, snaps, frzs]
    rw [thaws_snap vs k j _ T (bAnd h).2 hj]
    obtain ⟨R, e⟩ := thaws_ext vs (thaw v S).2
    rw [e, List.append_assoc, thaw_snap v k j S (R ++ T) (bAnd h).1 hj]; rfl
end
/-- a pure def of what stands in the store -/
theorem callS {prog : Nat → Option Fn} {f : Nat} {fn : Fn} {vs ds : List Val} {S : Store} (h : prog f = some fn) (hm : fn.mode = .p) (hl : vs.length = fn.np) (hn : fn.np ≤ fn.ns) (hp : snaps 64 S vs = some ds) (m : Nat) : call prog (m + 1) f vs S = endP (purs vs) S (exs (call prog m) fn.body (startS fn.ns ds) []) := by
  rw [call_succ h]
  unfold runFn
  rw [if_pos ⟨hl, by omega⟩, hm, hp]
theorem snaps_len {k : Nat} {S : Store} : ∀ {vs ds : List Val}, snaps k S vs = some ds → ds.length = vs.length
  | [], ds, h => by simp [snaps] at h; subst h; rfl
  | v :: vs, ds, h => by
    simp only [snaps, Option.bind_eq_some_iff, Option.map_eq_some_iff] at h
    obtain ⟨w, _, ws, e, rfl⟩ := h
    simp [snaps_len e]
/-- a truth value told of what stands -/
theorem callS_bl {prog : Nat → Option Fn} {f : Nat} {fn : Fn} {vs ds : List Val} {S : Store} {b : Bool} {m : Nat} (h : prog f = some fn) (hm : fn.mode = .p) (hp : snaps 64 S vs = some ds) (hd : purs ds = true) (e : call prog (m + 1) f ds S = .ok (.bl b) S) : call prog (m + 1) f vs S = .ok (.bl b) S := by
  rw [call_succ h] at e ⊢
  unfold runFn at e ⊢
  rw [snaps_len hp] at e
  split at e
  · rename_i hc
    rw [if_pos hc]
    simp only [hm, hp, sns_pur hd] at e ⊢
    cases r : exs (call prog m) fn.body (startS fn.ns ds) [] with
    | bad => rw [r] at e; cases e
    | nx σ S1 => rw [r] at e; cases e
    | exc x σ S1 => rw [r] at e; cases e
    | rt w S1 =>
      rw [r] at e
      simp only [endP] at e ⊢
      cases o : own 0 64 w S1 with
      | none => rw [o] at e; cases e
      | some p =>
        obtain ⟨p1, p2⟩ := p
        rw [o] at e
        simp only at e ⊢
        split at e
        · cases e; rw [if_pos (by simp [clean])]
        · cases e
  · cases e
theorem liftP {prog : Nat → Option Fn} {f : Nat} {fn : Fn} {vs : List Val} {v : Val} {m : Nat} (h : prog f = some fn) (hm : fn.mode = .p) (hp : purs vs = true) {S0 : Store} (e : call prog (m + 1) f vs S0 = .ok v S0) (S : Store) : call prog (m + 1) f vs S = .ok v S := by
  rw [call_succ h] at e ⊢
  unfold runFn at e ⊢
  split at e
  · rename_i hc
    rw [if_pos hc]
    simp only [hm, sns_pur hp] at e ⊢
    cases r : exs (call prog m) fn.body (startS fn.ns vs) [] with
    | bad => rw [r] at e; cases e
    | nx σ S1 => rw [r] at e; simp only [endP] at e ⊢; cases e; rfl
    | exc x σ S1 => rw [r] at e; cases e
    | rt w S1 =>
      rw [r] at e
      simp only [endP] at e ⊢
      cases o : own 0 64 w S1 with
      | none => rw [o] at e; cases e
      | some p =>
        obtain ⟨p1, p2⟩ := p
        rw [o] at e
        simp only at e ⊢
        split at e
        · rename_i q; rw [if_pos q]; cases e; rfl
        · cases e
  · cases e
end E

set_option linter.all false
set_option autoImplicit false
set_option maxHeartbeats 1000000
namespace E
theorem belows_append (n : Nat) : ∀ S T : List Val, belows n (S ++ T) = (belows n S && belows n T)
  | [], T => by simp [belows]
  | v :: S, T => by rw [List.cons_append, belows, belows, belows_append n S T, Bool.and_assoc]
mutual
theorem below_mono {n n' : Nat} (h : n ≤ n') : ∀ v : Val, below n v = true → below n' v = true
  | .non, _ => by simp [below]
  | .bl _, _ => by simp [below]
  | .int _, _ => by simp [below]
  | .str _, _ => by simp [below]
  | .tup vs, e => by simp only [below] at e ⊢; exact belows_mono h vs e
  | .lst _ vs, e => by simp only [below] at e ⊢; exact belows_mono h vs e
  | .dic _ _ vs, e => by simp only [below] at e ⊢; exact belows_mono h vs e
  | .ins _ _ vs, e => by simp only [below] at e ⊢; exact belows_mono h vs e
  | .ref m, e => by simp only [below, decide_eq_true_eq] at e ⊢; omega
  | .ro vs, e => by simp only [below] at e ⊢; exact belows_mono h vs e
theorem belows_mono {n n' : Nat} (h : n ≤ n') : ∀ v : List Val, belows n v = true → belows n' v = true
  | [], _ => by simp [belows]
  | v :: vs, e => by
    simp only [belows] at e ⊢
    rw [below_mono h v (bAnd e).1, belows_mono h vs (bAnd e).2]; rfl
end
theorem belows_set {n : Nat} {c : Val} (hc : below n c = true) : ∀ (S : List Val) (i : Nat), belows n S = true → belows n (S.set i c) = true
  | [], _, _ => by simp [belows]
  | v :: S, 0, h => by simp only [List.set_cons_zero, belows] at h ⊢; rw [hc, (bAnd h).2]; rfl
  | v :: S, i + 1, h => by simp only [List.set_cons_succ, belows] at h ⊢; rw [(bAnd h).1, belows_set hc S i (bAnd h).2]; rfl
mutual
theorem odat_below (n : Nat) : ∀ (v : Val) (k : Nat), odat k v = true → below n v = true
  | .non, _, _ => by simp [below]
  | .bl _, _, _ => by simp [below]
  | .int _, _, _ => by simp [below]
  | .str _, _, _ => by simp [below]
  | .tup vs, 0, h => by simp [odat] at h
  | .tup vs, k + 1, h => by simp only [odat] at h; simp only [below]; exact odats_belows n vs k (bAnd h).2
  | .lst _ vs, 0, h => by simp [odat] at h
  | .lst _ vs, k + 1, h => by simp only [odat] at h; simp only [below]; exact odats_belows n vs k (bAnd h).2
  | .dic _ _ _, _, h => by simp [odat] at h
  | .ins _ _ _, _, h => by simp [odat] at h
  | .ref _, _, h => by simp [odat] at h
  | .ro _, _, h => by simp [odat] at h
theorem odats_belows (n : Nat) : ∀ (v : List Val) (k : Nat), odats k v = true → belows n v = true
  | [], _, _ => by simp [belows]
  | v :: vs, k, h => by
    simp only [odats] at h
    simp only [belows, odat_below n v k (bAnd h).1, odats_belows n vs k (bAnd h).2]; rfl
end
mutual
theorem thaw_below : ∀ (v : Val) (k : Nat) (S : Store), odat k v = true → belows S.length S = true → belows (thaw v S).2.length (thaw v S).2 = true ∧ below (thaw v S).2.length (thaw v S).1 = true
  | .non, _, S, _, hS => by simp only [thaw]; exact ⟨hS, rfl⟩
  | .bl _, _, S, _, hS => by simp only [thaw]; exact ⟨hS, rfl⟩
  | .int _, _, S, _, hS => by simp only [thaw]; exact ⟨hS, rfl⟩
  | .str _, _, S, _, hS => by simp only [thaw]; exact ⟨hS, rfl⟩
  | .tup vs, 0, S, h, _ => by simp [odat] at h
  | .tup vs, k + 1, S, h, hS => by
    simp only [odat] at h
    simp only [thaw, below]
    exact thaws_below vs k S (bAnd h).2 hS
  | .lst true vs, 0, S, h, _ => by simp [odat] at h
  | .lst true vs, k + 1, S, h, hS => by
    simp only [odat] at h
    obtain ⟨h1, h2⟩ := thaws_below vs k S (bAnd h).2 hS
    simp only [thaw, below, List.length_append, List.length_cons, List.length_nil, belows_append, belows]
    refine ⟨?_, by simp⟩
    rw [belows_mono (by omega) _ h1, belows_mono (by omega) _ h2]; rfl
  | .lst false vs, k, S, h, hS => by
    have e : thaw (.lst false vs) S = (.lst false vs, S) := by simp [thaw]
    rw [e]
    exact ⟨hS, odat_below _ _ k h⟩
  | .dic _ _ _, _, _, h, _ => by simp [odat] at h
  | .ins _ _ _, _, _, h, _ => by simp [odat] at h
  | .ref _, _, _, h, _ => by simp [odat] at h
  | .ro _, _, _, h, _ => by simp [odat] at h
theorem thaws_below : ∀ (vs : List Val) (k : Nat) (S : Store), odats k vs = true → belows S.length S = true → belows (thaws vs S).2.length (thaws vs S).2 = true ∧ belows (thaws vs S).2.length (thaws vs S).1 = true
  | [], _, S, _, hS => by simp only [thaws]; exact ⟨hS, rfl⟩
  | v :: vs, k, S, h, hS => by
    simp only [odats] at h
    obtain ⟨h1, h2⟩ := thaw_below v k S (bAnd h).1 hS
    obtain ⟨h3, h4⟩ := thaws_below vs k _ (bAnd h).2 h1
    simp only [thaws, belows]
    refine ⟨h3, ?_⟩
    obtain ⟨R, e⟩ := thaws_ext vs (thaw v S).2
    rw [h4, below_mono (by rw [e, List.length_append]; omega) _ h2]; rfl
end
/-- a told list that the caller may change: where it lies -/
theorem told_ok {vs : List Val} {k : Nat} {D : Val} {R : Store} (hd : odat (k + 1) (.lst true vs) = true) (hk : k < 60) (hD : Draw D) (hb : belows (R.length + 1) R = true) :
    ∃ n R' ws, thaw (.lst true vs) (D :: R) = (.ref (n + 1), D :: R') ∧ R'[n]? = some (.lst true ws) ∧ ws.length = vs.length ∧ belows (R'.length + 1) R' = true ∧ snap 64 (D :: R') (.ref (n + 1)) = some (frz (.lst true vs)) ∧
      (∀ us rest, vs = .lst true us :: rest → ∃ j us', ws[0]? = some (.ref (j + 1)) ∧ R'[j]? = some (.lst true us') ∧ j ≠ n ∧ us'.length = us.length) ∧ (∀ (s : Tx) rest, vs = .str s :: rest → ws[0]? = some (.str s)) ∧ belows (R'.length + 1) ws = true := by
  have hS : belows (D :: R).length (D :: R) = true := by simp only [belows, List.length_cons, hD.below, hb]; rfl
  obtain ⟨b1, _⟩ := thaw_below _ _ _ hd hS
  have sn := thaw_snap (.lst true vs) (k + 1) 64 (D :: R) [] hd (by omega)
  rw [List.append_nil] at sn
  have hd2 := hd
  simp only [odat] at hd2
  obtain ⟨b3, b4⟩ := thaws_below vs k (D :: R) (bAnd hd2).2 hS
  obtain ⟨X, eX⟩ := thaws_ext vs (D :: R)
  have e0 : thaw (.lst true vs) (D :: R) = (.ref (thaws vs (D :: R)).2.length, (thaws vs (D :: R)).2 ++ [.lst true (thaws vs (D :: R)).1]) := by simp only [thaw]
  rw [e0] at b1 sn
  have e1 : (thaws vs (D :: R)).2.length = (R ++ X).length + 1 := by rw [eX]; simp [List.length_append]
  have e2 : (thaws vs (D :: R)).2 ++ [.lst true (thaws vs (D :: R)).1] = D :: ((R ++ X) ++ [.lst true (thaws vs (D :: R)).1]) := by rw [eX]; simp
  have len : ∀ (l : List Val) (S : Store), (thaws l S).1.length = l.length := by
    intro l
    induction l with
    | nil => intro S; simp [thaws]
    | cons a l ih => intro S; simp [thaws, ih]
  refine ⟨(R ++ X).length, (R ++ X) ++ [.lst true (thaws vs (D :: R)).1], (thaws vs (D :: R)).1, ?_, ?_, len vs _, ?_, ?_, ?_, ?_, ?_⟩
  · rw [e0, e1, e2]
  · rw [List.getElem?_append_right (Nat.le_refl _)]; simp
  · rw [e2] at b1
    simp only [belows, List.length_cons] at b1
    exact (bAnd b1).2
  · rw [e2, e1] at sn; exact sn
  · intro us rest e
    subst e
    simp only [thaws, thaw]
    obtain ⟨Y, eY⟩ := thaws_ext us (D :: R)
    refine ⟨(R ++ Y).length, (thaws us (D :: R)).1, ?_, ?_, ?_, len us _⟩
    · rw [eY]; simp [List.length_append]
    · obtain ⟨Z, eZ⟩ := thaws_ext rest ((thaws us (D :: R)).2 ++ [.lst true (thaws us (D :: R)).1])
      have : D :: (R ++ X) = D :: (R ++ Y ++ [.lst true (thaws us (D :: R)).1] ++ Z) := by
        rw [← List.cons_append, ← eX]
        simp only [thaws, thaw]
        rw [eZ, eY]; simp
      have := (List.cons.inj this).2
      rw [this, List.append_assoc, List.append_assoc, List.getElem?_append_right (Nat.le_refl _)]; simp
    · obtain ⟨Z, eZ⟩ := thaws_ext rest ((thaws us (D :: R)).2 ++ [.lst true (thaws us (D :: R)).1])
      have : D :: (R ++ X) = D :: (R ++ Y ++ [.lst true (thaws us (D :: R)).1] ++ Z) := by
        rw [← List.cons_append, ← eX]
        simp only [thaws, thaw]
        rw [eZ, eY]; simp
      have := (List.cons.inj this).2
      rw [this]
      simp only [List.length_append, List.length_cons]
      omega
  · intro s rest e
    subst e
    simp [thaws, thaw]
  · rw [e1] at b4
    exact belows_mono (by simp [List.length_append]) _ b4
theorem isTy_ref {S : Store} {n : Nat} {o : Bool} {vs : List Val} (h : S[n]? = some (.lst o vs)) (t : Ty) : isTy S (.ref n) t = some (decide (t = .list)) := by
  simp only [isTy, look, h]
theorem recv_lst {S : Store} {n : Nat} {vs : List Val} (h : S[n]? = some (.lst true vs)) : recv .append (.ref n) S = true := by
  simp only [recv, h]
theorem mth_append {S : Store} {n : Nat} {vs : List Val} (h : S[n]? = some (.lst true vs)) (hl : vs.length ≤ 1000000) (t : Bool) (y : Val) : mth .append t (.ref n) [y] S = .ok .non (S.set n (.lst true (vs ++ [y]))) := by
  have : vs.length < SZ := Nat.lt_of_le_of_lt hl (by decide)
  simp only [mth, h, if_pos this]
end E

namespace E
abbrev i_need_folds : Nat := 0
def b_need_folds : List MS := [.ife (.or (.cmp .lt (.v 0) (.k (.int 1))) (.one (.cmp .gt (.v 0) (.k (.int 3))))) [.rai 2] []]
def f_need_folds : Fn := { mode := .p, np := 1, ns := 1, body := b_need_folds }
abbrev i_grid : Nat := 1
def b_grid : List MS := [.ex (.call 0 false [(.v 0)]),
  .ret (.ix (.tup [(.tup [(.k (.int 1)), (.k (.int 2))]), (.tup [(.k (.int 2)), (.k (.int 2))]), (.tup [(.k (.int 2)), (.k (.int 4))])]) (.bin false .sub (.v 0) (.k (.int 1))))]
def f_grid : Fn := { mode := .p, np := 1, ns := 1, body := b_grid }
abbrev i_turned : Nat := 15
def b_turned : List MS := [.ret (.lc true [1, 2, 3] (.t [(.n 1), (.n 2), (.n 3)]) .rev (.v 0) (.k .non) false (.k .non) (.tup [(.v 1), (.v 2), (.not (.v 3))]))]
def f_turned : Fn := { mode := .p, np := 1, ns := 4, body := b_turned }
abbrev i_across : Nat := 16
def b_across : List MS := [.set 1 (.lst true []),
  .for (.n 2) .val (.v 0) (.k .non) [.set 3 (.bin false .fdiv (.b1 .len false (.v 2)) (.k (.int 2))), .ex (.m .append false (.v 1) [(.lc true [4] (.n 4) .r1 (.v 3) (.k .non) false (.k .non) (.bin true .add (.call 15 true [(.ix (.v 2) (.bin false .sub (.bin false .sub (.v 3) (.k (.int 1))) (.v 4)))]) (.ix (.v 2) (.bin true .add (.v 3) (.v 4)))))])],
  .ret (.v 1)]
def f_across : Fn := { mode := .p, np := 1, ns := 5, body := b_across }
abbrev i_down : Nat := 17
def b_down : List MS := [.ret (.lst true [(.lc true [1] (.n 1) .r1 (.b1 .len false (.ix (.v 0) (.k (.int 0)))) (.k .non) false (.k .non) (.bin true .add (.call 15 true [(.ix (.ix (.v 0) (.k (.int 0))) (.v 1))]) (.ix (.ix (.v 0) (.k (.int 1))) (.v 1))))])]
def f_down : Fn := { mode := .p, np := 1, ns := 2, body := b_down }
abbrev i_pile : Nat := 18
def b_pile : List MS := [.tgt [(.n 3), (.n 4)] (.call 1 false [(.v 0)]),
  .set 1 (.lst true []),
  .for (.n 2) .r1 (.v 3) (.k .non) [.ex (.m .append false (.v 1) [(.lc false [5] (.n 5) .r1 (.v 4) (.k .non) false (.k .non) (.lst false [(.tup [(.v 2), (.v 5), (.k (.bl false))])]))])],
  .ife (.cmp .eq (.v 0) (.k (.int 3))) [.set 1 (.call 16 true [(.v 1)])] [],
  .ife (.cmp .gt (.v 0) (.k (.int 1))) [.set 1 (.call 17 true [(.v 1)])] [],
  .ret (.ix (.ix (.call 16 false [(.v 1)]) (.k (.int 0))) (.k (.int 0)))]
def f_pile : Fn := { mode := .p, np := 1, ns := 6, body := b_pile }
abbrev i_leaf_at : Nat := 24
def b_leaf_at : List MS := [.for (.t [(.n 3), (.t [(.n 4), (.n 5), (.n 6)])]) .enu (.call 18 false [(.v 0)]) (.k .non) [.ife (.and (.cmp .eq (.v 4) (.v 1)) (.one (.cmp .eq (.v 5) (.v 2)))) [.ret (.v 3)] []],
  .rai 5]
def f_leaf_at : Fn := { mode := .p, np := 3, ns := 7, body := b_leaf_at }
abbrev i_Lopen : Nat := 5
def b_Lopen : List MS := [.ret (.lst true [(.b1 .list false (.sl false (.v 0) false (.k .non) true (.k (.int 63)))), (.k (.int 0)), (.k (.int 0)), (.k (.int 29))])]
def f_Lopen : Fn := { mode := .p, np := 1, ns := 1, body := b_Lopen }
abbrev i_Lpull : Nat := 6
def b_Lpull : List MS := [.ife (.and (.cmp .lt (.ix (.v 0) (.k (.int 2))) (.v 1)) (.one (.cmp .lt (.ix (.v 0) (.k (.int 1))) (.b1 .len false (.ix (.v 0) (.k (.int 0))))))) [.set 3 (.ix (.ix (.v 0) (.k (.int 0))) (.ix (.v 0) (.k (.int 1)))), .sub (.v 0) (.k (.int 1)) (.bin false .add (.ix (.v 0) (.k (.int 1))) (.k (.int 1))), .sub (.v 0) (.k (.int 2)) (.k (.int 0)), .ife (.cmp .ge (.v 3) (.bin false .pow (.k (.int 10)) (.k (.int 18)))) [.sub (.v 0) (.k (.int 2)) (.v 3)] [.sub (.v 0) (.k (.int 3)) (.bin false .mod (.bin false .add (.bin false .add (.bin false .mul (.ix (.v 0) (.k (.int 3))) (.k (.int 48271))) (.bin false .mul (.bin false .mod (.v 3) (.k (.int 2147483629))) (.k (.int 69621)))) (.k (.int 12345))) (.k (.int 2147483647)))]] [],
  .ife (.cmp .ge (.ix (.v 0) (.k (.int 2))) (.v 1)) [.set 4 (.bin false .mod (.ix (.v 0) (.k (.int 2))) (.v 1)), .sub (.v 0) (.k (.int 2)) (.bin false .fdiv (.ix (.v 0) (.k (.int 2))) (.v 1)), .ret (.v 4)] [],
  .set 2 (.ix (.v 0) (.k (.int 3))),
  .sub (.v 0) (.k (.int 3)) (.bin false .mod (.bin false .add (.bin false .add (.bin false .mul (.bin false .mod (.bin false .mul (.v 2) (.v 2)) (.k (.int 2147483629))) (.k (.int 5))) (.bin false .mul (.v 2) (.k (.int 16811)))) (.k (.int 2531011))) (.k (.int 2147483647))),
  .ret (.bin false .mod (.bin false .add (.bin false .fdiv (.ix (.v 0) (.k (.int 3))) (.k (.int 59))) (.bin false .mul (.bin false .mod (.ix (.v 0) (.k (.int 3))) (.k (.int 8191))) (.k (.int 31)))) (.v 1))]
def f_Lpull : Fn := { mode := .u, np := 2, ns := 5, body := b_Lpull }
abbrev i_Lfar : Nat := 7
def b_Lfar : List MS := [.set 1 (.call 6 false [(.v 0), (.bin false .pow (.k (.int 10)) (.k (.int 9)))]),
  .ife (.cmp .eq (.call 6 false [(.v 0), (.k (.int 2))]) (.k (.int 0))) [.set 1 (.bin false .add (.v 1) (.bin false .pow (.k (.int 10)) (.k (.int 25))))] [],
  .ife (.cmp .eq (.call 6 false [(.v 0), (.k (.int 2))]) (.k (.int 0))) [.ret (.bin false .sub (.neg (.k (.int 1))) (.v 1))] [],
  .ret (.v 1)]
def f_Lfar : Fn := { mode := .u, np := 1, ns := 2, body := b_Lfar }
abbrev i_Lnear : Nat := 8
def b_Lnear : List MS := [.ife (.cmp .eq (.call 6 false [(.v 0), (.k (.int 12))]) (.k (.int 7))) [.ret (.call 7 true [(.v 0)])] [],
  .ret (.bin false .sub (.call 6 false [(.v 0), (.bin false .add (.v 1) (.k (.int 4)))]) (.k (.int 2)))]
def f_Lnear : Fn := { mode := .u, np := 2, ns := 2, body := b_Lnear }
abbrev i_Lnum : Nat := 9
def b_Lnum : List MS := [.ret (.and (.isi (.v 0) .int) (.one (.not (.isi (.v 0) .bool))))]
def f_Lnum : Fn := { mode := .p, np := 1, ns := 1, body := b_Lnum }
abbrev i_Llike : Nat := 10
def b_Llike : List MS := [.ife (.cmp .is (.v 1) (.k .non)) [.ret (.cmp .is (.v 0) (.k .non))] [],
  .ife (.isi (.v 1) .bool) [.ret (.and (.isi (.v 0) .bool) (.one (.cmp .eq (.v 0) (.v 1))))] [],
  .ife (.isi (.v 1) .int) [.ret (.and (.call 9 false [(.v 0)]) (.one (.cmp .eq (.v 0) (.v 1))))] [],
  .ife (.isi (.v 1) .str) [.ret (.and (.isi (.v 0) .str) (.one (.cmp .eq (.v 0) (.v 1))))] [],
  .ife (.or (.cmp .ne (.isi (.v 1) .tuple) (.isi (.v 0) .tuple)) (.one (.cmp .ne (.isi (.v 1) .list) (.isi (.v 0) .list)))) [.ret (.k (.bl false))] [],
  .ife (.cmp .ne (.b1 .len false (.v 0)) (.b1 .len false (.v 1))) [.ret (.k (.bl false))] [],
  .ret (.b1 .all false (.lc false [2] (.n 2) .r1 (.b1 .len false (.v 1)) (.k .non) false (.k .non) (.call 10 false [(.ix (.v 0) (.v 2)), (.ix (.v 1) (.v 2))])))]
def f_Llike : Fn := { mode := .p, np := 2, ns := 3, body := b_Llike }
abbrev i_Lcells : Nat := 25
def b_Lcells : List MS := [.set 1 (.lst true [(.lst false [(.tup [(.k (.int 0)), (.k (.int 0))]), (.tup [(.k (.int 0)), (.k (.int 1))])]), (.lst false [(.tup [(.k (.int 1)), (.k (.int 0))]), (.tup [(.k (.int 0)), (.k (.int 0))]), (.tup [(.k (.int 0)), (.k (.int 1))]), (.tup [(.k (.int 1)), (.k (.int 1))])])]),
  .ex (.m .append false (.v 1) [(.lst false [(.tup [(.k (.int 1)), (.k (.int 2))]), (.tup [(.k (.int 1)), (.k (.int 1))]), (.tup [(.k (.int 0)), (.k (.int 1))]), (.tup [(.k (.int 0)), (.k (.int 2))]), (.tup [(.k (.int 0)), (.k (.int 3))]), (.tup [(.k (.int 0)), (.k (.int 0))]), (.tup [(.k (.int 1)), (.k (.int 0))]), (.tup [(.k (.int 1)), (.k (.int 3))])])]),
  .ret (.ix (.v 1) (.bin false .sub (.v 0) (.k (.int 1))))]
def f_Lcells : Fn := { mode := .p, np := 1, ns := 2, body := b_Lcells }
abbrev i_Lasked_2 : Nat := 26
def b_Lasked_2 : List MS := [.try [.ret (.call 24 true [(.v 0), (.v 1), (.v 2)])] [0, 2, 5] [2, 5] [(.lst true [(.k (.str [102, 111, 108, 100, 115]))]), (.lst true [(.k (.str [99, 101, 108, 108]))])]]
def f_Lasked_2 : Fn := { mode := .p, np := 3, ns := 3, body := b_Lasked_2 }
abbrev i_law_2 : Nat := 27
def b_law_2 : List MS := [.set 1 (.call 5 true [(.v 0)]),
  .for (.n 2) .r1 (.k (.int 10)) (.k .non) [.set 3 (.call 8 false [(.v 1), (.k (.int 3))]), .set 4 (.tup [(.call 8 false [(.v 1), (.k (.int 2))]), (.call 8 false [(.v 1), (.k (.int 4))])]), .set 5 (.lst false [(.k (.str [102, 111, 108, 100, 115]))]), .ife (.chn .le .le (.k (.int 1)) (.v 3) (.k (.int 3))) [.set 6 (.call 25 false [(.v 3)]), .set 5 (.ite (.cmp .in_ (.v 4) (.v 6)) (.m .index false (.v 6) [(.v 4)]) (.lst false [(.k (.str [99, 101, 108, 108]))]))] [], .ife (.not (.call 10 false [(.call 26 false [(.v 3), (.ix (.v 4) (.k (.int 0))), (.ix (.v 4) (.k (.int 1)))]), (.v 5)])) [.ret (.k (.bl false))] []],
  .ret (.k (.bl true))]
def f_law_2 : Fn := { mode := .p, np := 1, ns := 7, body := b_law_2 }
def prog : Nat → Option Fn := fun i => List.lookup i [(0, f_need_folds), (1, f_grid), (15, f_turned), (16, f_across), (17, f_down), (18, f_pile), (24, f_leaf_at), (5, f_Lopen), (6, f_Lpull), (7, f_Lfar), (8, f_Lnear), (9, f_Lnum), (10, f_Llike), (25, f_Lcells), (26, f_Lasked_2), (27, f_law_2)]
end E

namespace E
theorem pull_ok {prog : Nat → Option Fn} (h : prog 6 = some f_Lpull) {D : Val} {R : Store} (hD : Draw D) (hb : belows (R.length + 1) R = true) {t : Int} (ht : 0 < t) (ht2 : t < 1073741824) (m : Nat) :
    ∃ v D', Draw D' ∧ 0 ≤ v ∧ v < t ∧ call prog (m + 1) 6 [.ref 0, .int t] (D :: R) = .ok (.int v) (D' :: R) := by
  rw [call_succ h]
  obtain ⟨ns, a, p, s, h1, h2, h3, h4, h5⟩ := hD
  have hf : ∀ (p s : Int) (a : Int) (x : Option Val), 0 ≤ a → 0 ≤ p → 0 ≤ s → s < 2147483647 → ∃ v D', Draw D' ∧ 0 ≤ v ∧ v < t ∧ endU (R.length + 1) (exs (call prog m) (b_Lpull.drop 1) [some (.ref 0), some (.int t), none, x, none] (DR ns a p s :: R)) = .ok (.int v) (D' :: R) := by
    intro p s a x g2 g3 g4 g5
    by_cases hp : t ≤ p
    · refine ⟨p % t, DR ns a (p / t) s, .mk ns a _ s h1 g2 (Int.ediv_nonneg g3 (by omega)) g4 g5, Int.emod_nonneg _ (by omega), Int.emod_lt_of_pos _ ht, ?_⟩
      simp [b_Lpull, DR, hp, ht, ht2, ixN]
      exact endU_int (.mk ns a _ s h1 g2 (Int.ediv_nonneg g3 (by omega)) g4 g5) hb rfl
    · have hm : -18446744073709551616 < s ∧ s < 18446744073709551616 := by omega
      obtain ⟨z, hz⟩ : ∃ z, z = (s * s % 2147483629 * 5 + s * 16811 + 2531011) % 2147483647 := ⟨_, rfl⟩
      have z0 : 0 ≤ z := by rw [hz]; exact Int.emod_nonneg _ (by omega)
      have z1 : z < 2147483647 := by rw [hz]; exact Int.emod_lt_of_pos _ (by omega)
      refine ⟨(z / 59 + z % 8191 * 31) % t, DR ns a p z, .mk ns a p z h1 g2 g3 z0 z1, Int.emod_nonneg _ (by omega), Int.emod_lt_of_pos _ ht, ?_⟩
      simp [b_Lpull, DR, hp, ht, ht2, ixN, hm, ← hz]
      exact endU_int (.mk ns a p z h1 g2 g3 z0 z1) hb rfl
  by_cases hp : p < t
  · by_cases ha : a < ns.length
    · obtain ⟨c, hc⟩ : ∃ c, ns[a.toNat]? = some c := ⟨_, List.getElem?_eq_getElem (by omega)⟩
      have hc2 : atI (ns.map Val.int) a = some (.int c) := atI_ap a.toNat (by omega) (by rw [List.getElem?_map, hc]; rfl)
      by_cases hcc : 1000000000000000000 ≤ c
      · obtain ⟨v, D', q1, q2, q3, q4⟩ := hf c s (a + 1) (some (.int c)) (by omega) (by omega) h4 h5
        refine ⟨v, D', q1, q2, q3, ?_⟩
        rw [← q4]
        simp [runFn, f_Lpull, b_Lpull, startS, DR, hp, ha, hc2, ixN, hcc]
      · obtain ⟨v, D', q1, q2, q3, q4⟩ := hf 0 ((s * 48271 + c % 2147483629 * 69621 + 12345) % 2147483647) (a + 1) (some (.int c)) (by omega) (by omega) (Int.emod_nonneg _ (by omega)) (Int.emod_lt_of_pos _ (by omega))
        refine ⟨v, D', q1, q2, q3, ?_⟩
        rw [← q4]
        simp [runFn, f_Lpull, b_Lpull, startS, DR, hp, ha, hc2, ixN, hcc]
    · obtain ⟨v, D', q1, q2, q3, q4⟩ := hf p s a none h2 h3 h4 h5
      refine ⟨v, D', q1, q2, q3, ?_⟩
      rw [← q4]
      simp [runFn, f_Lpull, b_Lpull, startS, DR, hp, ha, ixN]
  · obtain ⟨v, D', q1, q2, q3, q4⟩ := hf p s a none h2 h3 h4 h5
    refine ⟨v, D', q1, q2, q3, ?_⟩
    rw [← q4]
    simp [runFn, f_Lpull, b_Lpull, startS, DR, hp, ixN]
end E

namespace E
theorem far_ok {prog : Nat → Option Fn} (hp : prog 6 = some f_Lpull) (h : prog 7 = some f_Lfar) {D : Val} {R : Store} (hD : Draw D) (hb : belows (R.length + 1) R = true) (m : Nat) :
    ∃ v D', Draw D' ∧ -100000000000000000000000000 ≤ v ∧ v ≤ 100000000000000000000000000 ∧ call prog (m + 2) 7 [.ref 0] (D :: R) = .ok (.int v) (D' :: R) := by
  rw [call_succ h]
  obtain ⟨v1, D1, g1, a1, b1, e1⟩ := pull_ok hp hD hb (t := 1000000000) (by omega) (by omega) m
  obtain ⟨v2, D2, g2, a2, b2, e2⟩ := pull_ok hp g1 hb (t := 2) (by omega) (by omega) m
  obtain ⟨v3, D3, g3, a3, b3, e3⟩ := pull_ok hp g2 hb (t := 2) (by omega) (by omega) m
  refine ⟨if v3 = 0 then -1 - (if v2 = 0 then v1 + 10000000000000000000000000 else v1) else (if v2 = 0 then v1 + 10000000000000000000000000 else v1), D3, g3, ?_, ?_, ?_⟩
  · split <;> split <;> omega
  · split <;> split <;> omega
  · by_cases c2 : v2 = 0 <;> by_cases c3 : v3 = 0 <;> simp [runFn, f_Lfar, b_Lfar, startS, e1, e2, e3, c2, c3, frz] <;> exact endU_int g3 hb rfl
theorem near_ok {prog : Nat → Option Fn} (hp : prog 6 = some f_Lpull) (hf : prog 7 = some f_Lfar) (h : prog 8 = some f_Lnear) {D : Val} {R : Store} (hD : Draw D) (hb : belows (R.length + 1) R = true) {t : Int} (ht : -4 < t) (ht2 : t < 1000000000) (m : Nat) :
    ∃ v D', Draw D' ∧ -100000000000000000000000000 ≤ v ∧ v ≤ 100000000000000000000000000 ∧ call prog (m + 3) 8 [.ref 0, .int t] (D :: R) = .ok (.int v) (D' :: R) := by
  rw [call_succ h]
  obtain ⟨v1, D1, g1, a1, b1, e1⟩ := pull_ok hp hD hb (t := 12) (by omega) (by omega) (m + 1)
  by_cases c1 : v1 = 7
  · obtain ⟨v2, D2, g2, a2, b2, e2⟩ := far_ok hp hf g1 hb m
    refine ⟨v2, D2, g2, a2, b2, ?_⟩
    simp [runFn, f_Lnear, b_Lnear, startS, e1, e2, c1, frz, thaw]
    exact endU_int g2 hb rfl
  · obtain ⟨v2, D2, g2, a2, b2, e2⟩ := pull_ok hp g1 hb (t := t + 4) (by omega) (by omega) (m + 1)
    refine ⟨v2 - 2, D2, g2, by omega, by omega, ?_⟩
    simp [runFn, f_Lnear, b_Lnear, startS, e1, e2, c1, frz, thaw]
    exact endU_int g2 hb rfl
end E

namespace E
theorem num_ok {prog : Nat → Option Fn} (h : prog 9 = some f_Lnum) (m : Nat) (S : Store) (k : Nat) (v : Val) (hv : dat k v = true) : call prog (m + 1) 9 [v] S = .ok (.bl (match v with | .int _ => true | _ => false)) S := by
  rw [call_succ h, runP rfl rfl (by decide) (by simp [purs, dat_pur k v hv])]
  cases v <;> simp [dat] at hv <;> simp [f_Lnum, b_Lnum, startS]
theorem like_seq {prog : Nat → Option Fn} {m : Nat} {vs ws : List Val} {x y : Val} (hx : (look [] x) = some (.tup vs) ∨ look [] x = some (.lst false vs)) (hy : (look [] y) = some (.tup ws) ∨ look [] y = some (.lst false ws)) (hl : vs.length = ws.length) (hs : ws.length ≤ 1000000)
    (ih : ∀ (v w : Val) (i : Nat), vs[i]? = some v → ws[i]? = some w → call prog m 10 [v, w] [] = .ok (.bl (likeV v w)) []) (S : Store) :
    endP true S (exs (call prog m) [MS.ret (ME.b1 B1.all false (ME.lc false [2] (Tg.n 2) Ik.r1 (ME.b1 B1.len false (ME.v 1)) (ME.k Val.non) false (ME.k Val.non) (ME.call 10 false [(ME.v 0).ix (ME.v 2), (ME.v 1).ix (ME.v 2)])))] [some x, some y, none] []) = .ok (.bl (likeVs vs ws)) S := by
  have hlen : lenC (look [] y) [] = .ok (.int ws.length) [] := by rcases hy with hy | hy <;> rw [hy] <;> rfl
  have hlim : lim62 (ws.length : Int) = true := lim_ok (by omega) (by omega)
  have hc := lcl_fix (ec := ev (call prog m) (ME.call 10 false [(ME.v 0).ix (ME.v 2), (ME.v 1).ix (ME.v 2)])) (cc := kCc (call prog m) false (ME.k Val.non)) (tg := .n 2) (σ := [some x, some y, none]) (S := []) (f := fun j => match j with
      | .int j => (match vs[j.toNat]?, ws[j.toNat]? with | some v, some w => .bl (likeV v w) | _, _ => .bl false)
      | _ => .non) (p := fun _ => true) (τ := fun v => [some x, some y, some v]) (rngUp 0 ws.length) (fun v _ => by simp) (fun v _ => rfl) (fun v hv _ => by
        simp only [rngUp, List.mem_map, List.mem_range] at hv
        obtain ⟨i, hi, rfl⟩ := hv
        have hv : vs[i]? = some vs[i] := List.getElem?_eq_getElem (by omega)
        have hw : ws[i]? = some ws[i] := List.getElem?_eq_getElem hi
        have ax : ixC (look [] x) (.int (0 + (i : Int))) = some vs[i] := by
          rcases hx with hx | hx <;> rw [hx]
          · exact atI_ap i (by omega) hv
          · exact atI_ap i (by omega) hv
        have ay : ixC (look [] y) (.int (0 + (i : Int))) = some ws[i] := by
          rcases hy with hy | hy <;> rw [hy]
          · exact atI_ap i (by omega) hw
          · exact atI_ap i (by omega) hw
        simp only [Int.zero_add] at ax ay
        simp [ax, ay, ih _ _ i hv hw, List.getElem?_eq_getElem (show i < vs.length by omega), List.getElem?_eq_getElem hi]) (SZ_le (by simpa [rngUp] using hs))
  have hln : (rngUp 0 ws.length).length = ws.length := by simp [rngUp]
  rw [hln] at hc
  have e2 : ((rngUp 0 ws.length).filter fun _ => true).map (fun j => match j with
      | .int j => (match vs[j.toNat]?, ws[j.toNat]? with | some v, some w => Val.bl (likeV v w) | _, _ => .bl false)
      | _ => .non) = (List.range ws.length).map fun i => .bl (match vs[i]?, ws[i]? with | some v, some w => likeV v w | _, _ => false) := by
    rw [filter_true, rngUp, List.map_map]
    refine List.map_congr_left fun i hi => ?_
    simp only [List.mem_range] at hi
    have hv : vs[i]? = some vs[i] := List.getElem?_eq_getElem (by omega)
    have hw : ws[i]? = some ws[i] := List.getElem?_eq_getElem hi
    simp [List.getElem?_eq_getElem (show i < vs.length by omega), List.getElem?_eq_getElem hi]
  rw [e2] at hc
  simp [hlen, mkSrc_r1 hlim, wipe, hc, szl hs, allC_ap]
  exact (likeVs_ix ws vs hl).symm
theorem like_ok {prog : Nat → Option Fn} (hn : prog 9 = some f_Lnum) (h : prog 10 = some f_Llike) : ∀ (m : Nat) (S : Store) (k : Nat) (v w : Val), dat k v = true → dat m w = true →
    call prog (m + 2) 10 [v, w] S = .ok (.bl (likeV v w)) S := by
  intro m
  induction m with
  | zero =>
    intro S k v w hv hw
    rw [call_succ h, runP rfl rfl (by decide) (by simp [purs, dat_pur k v hv, dat_pur _ w hw])]
    have q := fun S => num_ok hn 0 S k v hv
    cases w <;> simp [dat] at hw <;> cases v <;> simp [dat] at hv <;> simp [f_Llike, b_Llike, startS, likeV, q]
  | succ m ih =>
    intro S k v w hv hw
    rw [call_succ h, runP rfl rfl (by decide) (by simp [purs, dat_pur k v hv, dat_pur _ w hw])]
    have q := fun S => num_ok hn (m + 1) S k v hv
    cases w <;> cases v <;> first | (simp [dat] at hw; done) | (simp [dat] at hv; done) | skip
    case tup.tup ws vs =>
      cases k with
      | zero => simp [dat] at hv
      | succ k =>
        simp only [dat] at hv hw
        by_cases hl : vs.length = ws.length
        · have := like_seq (prog := prog) (m := m + 2) (x := .tup vs) (y := .tup ws) (.inl rfl) (.inl rfl) hl (of_decide_eq_true (bAnd hw).1) (fun v w i e1 e2 => ih [] k v w (dats_get (bAnd hv).2 e1) (dats_get (bAnd hw).2 e2)) S
          simp only [likeV, ← this]
          simp [f_Llike, b_Llike, startS, hl]
        · have hn : likeVs vs ws = false := by
            cases e : likeVs vs ws with
            | true => exact absurd (likeVs_len _ _ e) hl
            | false => rfl
          simp only [likeV, hn]
          have hl3 : decide ((vs.length : Int) = ws.length) = false := decide_eq_false (by omega)
          simp [f_Llike, b_Llike, startS, hl3]
    case lst.lst o1 ws o2 vs =>
      clear q
      cases k with
      | zero => simp [dat] at hv
      | succ k =>
        simp only [dat] at hv hw
        have ho2 := (bAnd hv).1
        have ho1 := (bAnd hw).1
        cases o1 <;> cases o2 <;> first | (cases ho1; done) | (cases ho2; done) | skip
        by_cases hl : vs.length = ws.length
        · have := like_seq (prog := prog) (m := m + 2) (x := .lst false vs) (y := .lst false ws) (.inr rfl) (.inr rfl) hl (of_decide_eq_true (bAnd (bAnd hw).2).1) (fun v w i e1 e2 => ih [] k v w (dats_get (bAnd (bAnd hv).2).2 e1) (dats_get (bAnd (bAnd hw).2).2 e2)) S
          simp only [likeV, ← this]
          simp [f_Llike, b_Llike, startS, hl]
        · have hn : likeVs vs ws = false := by
            cases e : likeVs vs ws with
            | true => exact absurd (likeVs_len _ _ e) hl
            | false => rfl
          simp only [likeV, hn]
          have hl3 : decide ((vs.length : Int) = ws.length) = false := decide_eq_false (by omega)
          simp [f_Llike, b_Llike, startS, hl3]
    all_goals simp [f_Llike, b_Llike, startS, likeV, q]
end E

namespace E
theorem open_ok {prog : Nat → Option Fn} (h : prog 5 = some f_Lopen) (ns : List Int) (hl : ns.length ≤ 63) (m : Nat) : ev (call prog (m + 1)) (.call 5 true [.v 0]) [some (.ro (ns.map .int))] [] = .ok (.ref 0) [DR ns 0 0 29] := by
  have hp : purs [Val.ro (ns.map .int)] = true := by simp [purs, pur, purs_ints]
  have hc : cut (ns.map Val.int) none (some 63) = ns.map .int := cut_63 _ (by simpa using hl)
  have h2 : (ns.map Val.int).length ≤ SZ := SZ_le (by simp; omega)
  have h3 : ns.length ≤ 16777216 := by omega
  have hd : dats 1 [Val.lst false (ns.map .int), .int 0, .int 0, .int 29] = true := by simp [dats, dat, dats_ints]; omega
  simp [callP h rfl rfl (by decide) hp, f_Lopen, b_Lopen, startS, hc, h3]
  rw [endP_lst (k := 1) [] (by rfl) hd]
  simp [thaw, thaws, DR]
theorem open_at {prog : Nat → Option Fn} (h : prog 5 = some f_Lopen) (ns : List Int) (hl : ns.length ≤ 63) (m : Nat) : (call prog (m + 1) 5 [.ro (ns.map .int)] []).bnd (kRet true) = .ok (.ref 0) [DR ns 0 0 29] := by
  have := open_ok h ns hl m
  simpa using this
end E

namespace E
theorem c_need_folds (f : Int) (m : Nat) (S : Store) : call prog (m + 1) 0 [.int f] S = if 1 ≤ f ∧ f ≤ 3 then .ok .non S else .exc ⟨2, none⟩ S := by
  rw [callP (fn := f_need_folds) rfl rfl rfl (by decide) rfl]
  by_cases h1 : f < 1
  · simp [f_need_folds, b_need_folds, startS, h1]
    omega
  · by_cases h2 : 3 < f
    · simp [f_need_folds, b_need_folds, startS, h1, h2]
      try omega
    · simp [f_need_folds, b_need_folds, startS, h1, h2]
      try omega
def gridV (f : Int) : Val := if f = 1 then .tup [.int 1, .int 2] else if f = 2 then .tup [.int 2, .int 2] else .tup [.int 2, .int 4]
def cntV (f : Int) : Int := if f = 1 then 2 else if f = 2 then 4 else 8
theorem in3 {f : Int} (h : 1 ≤ f ∧ f ≤ 3) : f = 1 ∨ f = 2 ∨ f = 3 := by omega
theorem dat_grid (f : Int) : dat 1 (gridV f) = true := by unfold gridV; split <;> (try split) <;> rfl
theorem thaw_grid (f : Int) (S : Store) : thaw (gridV f) S = (gridV f, S) := by unfold gridV; split <;> (try split) <;> simp [thaw, thaws]
theorem c_grid (f : Int) (m : Nat) (S : Store) : call prog (m + 2) 1 [.int f] S = if 1 ≤ f ∧ f ≤ 3 then .ok (gridV f) S else .exc ⟨2, none⟩ S := by
  rw [callP (fn := f_grid) rfl rfl rfl (by decide) rfl]
  by_cases h : 1 ≤ f ∧ f ≤ 3
  · rw [if_pos h]
    rcases in3 h with rfl | rfl | rfl <;> simp [f_grid, b_grid, startS, c_need_folds, gridV] <;> exact endP_dat (k := 1) _ _ rfl
  · rw [if_neg h]
    simp [f_grid, b_grid, startS, c_need_folds, h]
end E

namespace E
/-! ### k03 -/
def enumV : Nat → List Val → List Val
  | _, [] => []
  | i, v :: vs => .tup [.int i, v] :: enumV (i + 1) vs
theorem enumV_get : ∀ (vs : List Val) (k i : Nat), (enumV k vs)[i]? = (vs[i]?).map fun v => .tup [.int ((k + i : Nat) : Int), v]
  | [], k, i => by simp [enumV]
  | v :: vs, k, 0 => by simp [enumV]
  | v :: vs, k, i + 1 => by
    simp only [enumV, List.getElem?_cons_succ, enumV_get vs (k + 1) i]
    rw [show k + 1 + i = k + (i + 1) by omega]
theorem enumV_len : ∀ (vs : List Val) (k : Nat), (enumV k vs).length = vs.length
  | [], k => rfl
  | v :: vs, k => by simp [enumV, enumV_len vs]
theorem lp_enu {body : Sl → Store → Fl} {tg : Tg} (o : Bool) (vs : List Val) (σ : Sl) (S : Store) : lp body tg (.enu (.lst o vs)) (vs.length + 1) 0 σ S = lpL body tg (enumV 0 vs) σ S := by
  rw [← lp_lpL (enumV 0 vs) (vs.length + 1) (by rw [enumV_len])]
  have key : ∀ (k j : Nat) (σ : Sl) (S : Store), lp body tg (.enu (.lst o vs)) k j σ S = lp body tg (.fix (enumV 0 vs)) k j σ S := by
    intro k
    induction k with
    | zero => intro j σ S; rfl
    | succ k ih =>
      intro j σ S
      have e : srcAt S (.enu (.lst o vs)) j = srcAt S (.fix (enumV 0 vs)) j := by
        simp only [srcAt, lstOf_lst, enumV_get, Nat.zero_add]
      simp only [lp, e, ih]
  exact key _ 0 σ S
theorem kFor_enu {Γ : Gam} {tg : Tg} {body : List MS} {σ : Sl} {S : Store} {o : Bool} {vs : List Val} {y : Val} : kForB Γ tg body σ S (mkSrc S .enu (.lst o vs) y) = lpL (exs Γ body) tg (enumV 0 vs) σ S := by
  show lp (exs Γ body) tg (.enu (.lst o vs)) (vs.length + 1) 0 σ S = _
  exact lp_enu o vs σ S
/-- the cells, leaf by leaf -/
def cells (f : Int) : List (Int × Int) := if f = 1 then [(0, 0), (0, 1)] else if f = 2 then [(1, 0), (0, 0), (0, 1), (1, 1)] else [(1, 2), (1, 1), (0, 1), (0, 2), (0, 3), (0, 0), (1, 0), (1, 3)]
def pv : Bool → List (Int × Int) → List Val
  | _, [] => []
  | o, p :: l => .tup [.int p.1, .int p.2, .bl o] :: pv (!o) l
def cv (l : List (Int × Int)) : List Val := l.map fun p => .tup [.int p.1, .int p.2]
def leafOf (r c : Int) : List (Int × Int) → Option Nat
  | [] => none
  | p :: l => if p.1 = r ∧ p.2 = c then some 0 else (leafOf r c l).map (· + 1)
theorem c_pile (f : Int) (h : 1 ≤ f ∧ f ≤ 3) (S : Store) : call prog 17 18 [.int f] S = .ok (.lst false (pv true (cells f))) S := by
  rcases in3 h with rfl | rfl | rfl
  · exact liftP (fn := f_pile) (S0 := []) rfl rfl rfl (by kernel_rfl) S
  · exact liftP (fn := f_pile) (S0 := []) rfl rfl rfl (by kernel_rfl) S
  · exact liftP (fn := f_pile) (S0 := []) rfl rfl rfl (by kernel_rfl) S
theorem c_Lcells (f : Int) (h : 1 ≤ f ∧ f ≤ 3) (S : Store) : call prog 19 25 [.int f] S = .ok (.lst false (cv (cells f))) S := by
  rcases in3 h with rfl | rfl | rfl
  · exact liftP (fn := f_Lcells) (S0 := []) rfl rfl rfl (by kernel_rfl) S
  · exact liftP (fn := f_Lcells) (S0 := []) rfl rfl rfl (by kernel_rfl) S
  · exact liftP (fn := f_Lcells) (S0 := []) rfl rfl rfl (by kernel_rfl) S
theorem pile_x (f : Int) (h : ¬ (1 ≤ f ∧ f ≤ 3)) (S : Store) : call prog 17 18 [.int f] S = .exc ⟨2, none⟩ S := by
  rw [callP (m := 16) (fn := f_pile) rfl rfl rfl (by decide) rfl]
  have := fun S => c_grid f 14 S
  simp [f_pile, b_pile, startS, this, h]
theorem leaf_lp {Γ : Gam} (r c : Int) (x0 : Option Val) : ∀ (l : List (Int × Int)) (k : Nat) (o : Bool) (x3 x4 x5 x6 : Option Val),
    match leafOf r c l with
    | some i => lpL (exs Γ [.ife (.and (.cmp .eq (.v 4) (.v 1)) (.one (.cmp .eq (.v 5) (.v 2)))) [.ret (.v 3)] []]) (.t [(.n 3), (.t [(.n 4), (.n 5), (.n 6)])]) (enumV k (pv o l)) [x0, some (.int r), some (.int c), x3, x4, x5, x6] [] = .rt (.int ((k + i : Nat) : Int)) []
    | none => ∃ σ, lpL (exs Γ [.ife (.and (.cmp .eq (.v 4) (.v 1)) (.one (.cmp .eq (.v 5) (.v 2)))) [.ret (.v 3)] []]) (.t [(.n 3), (.t [(.n 4), (.n 5), (.n 6)])]) (enumV k (pv o l)) [x0, some (.int r), some (.int c), x3, x4, x5, x6] [] = .nx σ [] := by
  intro l
  induction l with
  | nil => intro k o x3 x4 x5 x6; exact ⟨_, rfl⟩
  | cons p l ih =>
    intro k o x3 x4 x5 x6
    have ih' := ih (k + 1) (!o) (some (.int k)) (some (.int p.1)) (some (.int p.2)) (some (.bl o))
    simp only [leafOf]
    by_cases h1 : p.1 = r
    · by_cases h2 : p.2 = c
      · rw [if_pos ⟨h1, h2⟩]
        simp [pv, enumV, h1, h2]
      · rw [if_neg (fun z => h2 z.2)]
        cases e : leafOf r c l with
        | none =>
          rw [e] at ih'
          obtain ⟨σ, q⟩ := ih'
          refine ⟨σ, ?_⟩
          rw [← q]
          simp [pv, enumV, h1, h2]
        | some i =>
          rw [e] at ih'
          show _ = Fl.rt (.int ((k + (i + 1) : Nat) : Int)) []
          rw [show k + (i + 1) = k + 1 + i by omega, ← ih']
          simp [pv, enumV, h1, h2]
    · rw [if_neg (fun z => h1 z.1)]
      cases e : leafOf r c l with
      | none =>
        rw [e] at ih'
        obtain ⟨σ, q⟩ := ih'
        refine ⟨σ, ?_⟩
        rw [← q]
        simp [pv, enumV, h1]
      | some i =>
        rw [e] at ih'
        show _ = Fl.rt (.int ((k + (i + 1) : Nat) : Int)) []
        rw [show k + (i + 1) = k + 1 + i by omega, ← ih']
        simp [pv, enumV, h1]
theorem frz_pv : ∀ (l : List (Int × Int)) (o : Bool), frzs (pv o l) = pv o l
  | [], o => by simp [pv, frzs]
  | p :: l, o => by simp [pv, frzs, frz, frz_pv l]
theorem c_leaf_at (f r c : Int) (S : Store) : call prog 18 24 [.int f, .int r, .int c] S = if 1 ≤ f ∧ f ≤ 3 then (match leafOf r c (cells f) with | some i => .ok (.int i) S | none => .exc ⟨5, none⟩ S) else .exc ⟨2, none⟩ S := by
  rw [callP (m := 17) (fn := f_leaf_at) rfl rfl rfl (by decide) rfl]
  by_cases h : 1 ≤ f ∧ f ≤ 3
  · rw [if_pos h]
    have q := leaf_lp (Γ := call prog 17) r c (some (.int f)) (cells f) 0 true none none none none
    cases e : leafOf r c (cells f) with
    | none =>
      rw [e] at q
      obtain ⟨σ, q⟩ := q
      simp [f_leaf_at, b_leaf_at, startS, c_pile f h, frz, frz_pv, kFor_enu, q]
    | some i =>
      rw [e] at q
      simp [f_leaf_at, b_leaf_at, startS, c_pile f h, frz, frz_pv, kFor_enu, q]
  · rw [if_neg h]
    simp [f_leaf_at, b_leaf_at, startS, pile_x f h]
abbrev tFolds : Val := .lst false [.str [102, 111, 108, 100, 115]]
abbrev tCell : Val := .lst false [.str [99, 101, 108, 108]]
def askV (f r c : Int) : Val := if 1 ≤ f ∧ f ≤ 3 then (match leafOf r c (cells f) with | some i => .int i | none => tCell) else tFolds
theorem dat_ask (f r c : Int) : dat 1 (askV f r c) = true := by
  unfold askV
  split
  · split <;> rfl
  · rfl
theorem c_asked (f r c : Int) (S : Store) : (call prog 19 26 [.int f, .int r, .int c] S).bnd (kRet false) = .ok (askV f r c) S := by
  rw [callP (m := 18) (fn := f_Lasked_2) rfl rfl rfl (by decide) rfl]
  have q := fun S => c_leaf_at f r c S
  unfold askV
  by_cases h : 1 ≤ f ∧ f ≤ 3
  · cases e : leafOf r c (cells f) with
    | none =>
      simp [f_Lasked_2, b_Lasked_2, startS, q, h, e, catches]
      rw [endP_lst (k := 1) S (by rfl) (by rfl)]; rfl
    | some i => simp [f_Lasked_2, b_Lasked_2, startS, q, h, e]
  · simp [f_Lasked_2, b_Lasked_2, startS, q, h, catches]
    rw [endP_lst (k := 1) S (by rfl) (by rfl)]; rfl
theorem cv_dat : ∀ (l : List (Int × Int)), dats 1 (cv l) = true
  | [] => rfl
  | p :: l => by
    have := cv_dat l
    unfold cv at this ⊢
    rw [List.map_cons, dats, this]; rfl
theorem ix_leaf (r c : Int) : ∀ (l : List (Int × Int)), ixOf (.tup [.int r, .int c]) (cv l) = leafOf r c l
  | [] => rfl
  | p :: l => by
    have := ix_leaf r c l
    unfold cv at this ⊢
    simp only [List.map_cons, ixOf, leafOf, this]
    by_cases h : p.1 = r ∧ p.2 = c
    · obtain ⟨h1, h2⟩ := h
      simp [eqv, eqvs, h1, h2]
    · rw [if_neg h]
      have : eqv (.tup [.int p.1, .int p.2]) (.tup [.int r, .int c]) = false := by
        simp [eqv, eqvs]
        intro z
        exact fun z2 => h ⟨z, z2⟩
      simp [this]
theorem any_leaf (r c : Int) : ∀ (l : List (Int × Int)), ((cv l).any fun b => eqv b (.tup [.int r, .int c])) = (leafOf r c l).isSome
  | [] => rfl
  | p :: l => by
    have := any_leaf r c l
    unfold cv at this ⊢
    simp only [List.map_cons, List.any_cons, leafOf, this]
    by_cases h : p.1 = r ∧ p.2 = c
    · obtain ⟨h1, h2⟩ := h
      simp [eqv, eqvs, h1, h2]
    · rw [if_neg h]
      have : eqv (.tup [.int p.1, .int p.2]) (.tup [.int r, .int c]) = false := by
        simp [eqv, eqvs]
        intro z
        exact fun z2 => h ⟨z, z2⟩
      rw [this]
      cases leafOf r c l <;> rfl
theorem cells_len (f : Int) : (cells f).length ≤ 8 := by unfold cells; split <;> (try split) <;> simp
theorem in_cells (f r c : Int) (S : Store) : inS S (.tup [.int r, .int c]) (.lst false (cv (cells f))) = some (leafOf r c (cells f)).isSome := by
  have hp : pur (.lst false (cv (cells f))) = true := by simp only [pur, dats_purs 1 _ (cv_dat _)]; rfl
  have hd : dle 60 (.lst false (cv (cells f))) = true := by simp only [dle]; exact dats_dles 59 _ (dats_mono _ 1 59 (by omega) (cv_dat _))
  simp only [inS, inL, sn_pur (S := S) (k := 64) (v := .tup [.int r, .int c]) rfl, sn_pur hp, hd, any_leaf]
  rfl
theorem m_index (f r c : Int) (S : Store) {i : Nat} (h : leafOf r c (cells f) = some i) : mth .index false (.lst false (cv (cells f))) [.tup [.int r, .int c]] S = .ok (.int i) S := by
  have hp : pur (.lst false (cv (cells f))) = true := by simp only [pur, dats_purs 1 _ (cv_dat _)]; rfl
  have hd : dle 60 (.lst false (cv (cells f))) = true := by simp only [dle]; exact dats_dles 59 _ (dats_mono _ 1 59 (by omega) (cv_dat _))
  simp only [mth, lstOf_lst, sn_pur (S := S) (k := 64) (v := .tup [.int r, .int c]) rfl, sn_pur hp, hd, ix_leaf, h]
  rfl
def turnB : List MS := [.set 3 (.call 8 false [(.v 1), (.k (.int 3))]), .set 4 (.tup [(.call 8 false [(.v 1), (.k (.int 2))]), (.call 8 false [(.v 1), (.k (.int 4))])]), .set 5 (.lst false [(.k (.str [102, 111, 108, 100, 115]))]), .ife (.chn .le .le (.k (.int 1)) (.v 3) (.k (.int 3))) [.set 6 (.call 25 false [(.v 3)]), .set 5 (.ite (.cmp .in_ (.v 4) (.v 6)) (.m .index false (.v 6) [(.v 4)]) (.lst false [(.k (.str [99, 101, 108, 108]))]))] [], .ife (.not (.call 10 false [(.call 26 false [(.v 3), (.ix (.v 4) (.k (.int 0))), (.ix (.v 4) (.k (.int 1)))]), (.v 5)])) [.ret (.k (.bl false))] []]
theorem turn (D : Val) (hD : Draw D) (t x2 x3 x4 x5 x6 : Option Val) :
    ∃ σ2 D', exs (call prog 19) turnB [t, some (.ref 0), x2, x3, x4, x5, x6] [D] = .nx σ2 [D'] ∧ Draw D' ∧ ∃ y3 y4 y5 y6, σ2 = [t, some (.ref 0), x2, y3, y4, y5, y6] := by
  obtain ⟨f, D1, g1, _, _, e1⟩ := near_ok (prog := prog) rfl rfl rfl hD (R := []) rfl (t := 3) (by omega) (by omega) 16
  obtain ⟨r, D2, g2, _, _, e2⟩ := near_ok (prog := prog) rfl rfl rfl g1 (R := []) rfl (t := 2) (by omega) (by omega) 16
  obtain ⟨c, D3, g3, _, _, e3⟩ := near_ok (prog := prog) rfl rfl rfl g2 (R := []) rfl (t := 4) (by omega) (by omega) 16
  have q := c_asked f r c [D3]
  have k0 := like_ok (prog := prog) rfl rfl 17 [D3] 1 _ _ (dat_ask f r c) (dat_mono _ 1 17 (by omega) (dat_ask f r c))
  rw [likeV_refl 1 _ (dat_ask f r c)] at k0
  have hfz : frzs (cv (cells f)) = cv (cells f) := frzs_dats 1 _ (cv_dat _)
  by_cases h : 1 ≤ f ∧ f ≤ 3
  · obtain ⟨h1, h2⟩ := h
    have hc := c_Lcells f ⟨h1, h2⟩ [D3]
    cases e : leafOf r c (cells f) with
    | none =>
      simp [askV, h1, h2, e] at q k0
      have hi := in_cells f r c [D3]
      rw [e] at hi
      simp [turnB, e1, e2, e3, h1, h2, hc, frz, hfz, hi, q, k0]
      exact ⟨_, _, ⟨rfl, rfl⟩, g3, _, _, _, _, rfl⟩
    | some i =>
      simp [askV, h1, h2, e] at q k0
      have hi := in_cells f r c [D3]
      rw [e] at hi
      have hm := m_index f r c [D3] e
      simp [turnB, e1, e2, e3, h1, h2, hc, frz, hfz, hi, q, k0, recv, hm]
      exact ⟨_, _, ⟨rfl, rfl⟩, g3, _, _, _, _, rfl⟩
  · simp [askV, h] at q k0
    by_cases h1 : 1 ≤ f
    · have h2 : ¬ f ≤ 3 := fun z => h ⟨h1, z⟩
      simp [turnB, e1, e2, e3, h1, h2, q, k0]
      exact ⟨_, _, ⟨rfl, rfl⟩, g3, _, _, _, _, rfl⟩
    · simp [turnB, e1, e2, e3, h1, q, k0]
      exact ⟨_, _, ⟨rfl, rfl⟩, g3, _, _, _, _, rfl⟩
theorem law_eq : ∀ ns : List Int, ns.length ≤ 63 → ∃ S', call prog 20 27 [.ro (ns.map .int)] [] = .ok (.bl true) S' := by
  intro ns hl
  refine ⟨[], ?_⟩
  rw [callP (m := 19) (fn := f_law_2) rfl rfl rfl (by decide) (by simp [purs, pur, purs_ints])]
  have ho := open_at (prog := prog) rfl ns hl 18
  have hd : Draw (DR ns 0 0 29) := .mk ns 0 0 29 hl (by omega) (by omega) (by omega) (by omega)
  obtain ⟨σ', S', e, _⟩ := lpL_inv (body := exs (call prog 19) turnB) (tg := .n 2)
    (fun σ S => ∃ D t x2 x3 x4 x5 x6, S = [D] ∧ Draw D ∧ σ = [t, some (.ref 0), x2, x3, x4, x5, x6]) (rngUp 0 10)
    (fun v _ σ S ⟨D, t, x2, x3, x4, x5, x6, eS, hD, eσ⟩ => by
      subst eS eσ
      obtain ⟨σ2, D', e, hD', y3, y4, y5, y6, rfl⟩ := turn D hD t (some v) x3 x4 x5 x6
      exact ⟨_, by simp, _, _, e, D', t, some v, y3, y4, y5, y6, rfl, hD', rfl⟩)
    [some (.ro (ns.map .int)), some (.ref 0), none, none, none, none, none] [DR ns 0 0 29] ⟨_, _, _, _, _, _, _, rfl, hd, rfl⟩
  simp only [turnB] at e
  simp [f_law_2, b_law_2, startS, ho, kFor_r1 (j := 10) rfl, e]
end E

namespace E
open PySem PySem.Spec PyProof.Rows L2
set_option maxRecDepth 100000
set_option maxHeartbeats 0
def top (i : Nat) : Stmt := PySem.Challenge.pw_leafmate_k03_leaves_at_cells.main.body.getD i (.Pass ⟨0, 0, 0, 0⟩)
def tb0 : List Ent := [⟨0, "need_folds", "need_folds", ["folds"], 1, top 5⟩,
  ⟨1, "grid", "grid", ["folds"], 1, top 6⟩,
  ⟨15, "turned", "turned", ["heap", "row", "column", "over"], 1, top 7⟩,
  ⟨16, "across", "across", ["table", "found", "line", "half", "k"], 1, top 8⟩,
  ⟨17, "down", "down", ["table", "k"], 1, top 9⟩,
  ⟨18, "pile", "pile", ["folds", "table", "row", "rows", "columns", "column"], 1, top 10⟩,
  ⟨24, "leaf_at", "leaf_at", ["folds", "row", "column", "leaf", "there", "beside", "over"], 3, top 11⟩,
  ⟨5, "_law_open", "_law_open", ["_law_script"], 1, top 13⟩,
  ⟨6, "_law_pull", "_law_pull", ["_law_draw", "_law_total_of", "_law_seed", "_law_cell", "_law_got"], 2, top 14⟩,
  ⟨7, "_law_far", "_law_far", ["_law_draw", "_law_number"], 1, top 15⟩,
  ⟨8, "_law_near", "_law_near", ["_law_draw", "_law_total_of"], 2, top 16⟩,
  ⟨9, "_law_num", "_law_num", ["_law_found"], 1, top 17⟩]
def tb1 : List Ent := [⟨10, "_law_like", "_law_like", ["_law_found", "_law_due", "_law_k"], 2, top 18⟩,
  ⟨25, "_law_cells", "_law_cells", ["_law_times", "_law_cells_here"], 1, top 19⟩,
  ⟨26, "_law_asked", "_law_asked", ["_law_folds", "_law_row", "_law_column"], 3, top 20⟩,
  ⟨27, "law", "law", ["_law_script", "_law_draw", "_law_turn", "_law_folds", "_law_cell", "_law_due", "_law_cells_here"], 1, top 21⟩]
def ls0 : List Str := ["LeafError", "BadFolds", "NoCell", "need_folds", "grid", "turned", "across", "down", "pile", "leaf_at", "_law_open", "_law_pull", "_law_far", "_law_near", "_law_num", "_law_like", "_law_cells", "_law_asked"]
def lsA : List Str := ls0
def tT : Txt := { tbl := tb0 ++ (tb1), con := [], free := ["len", "range", "isinstance", "list", "all", "enumerate", "str", "tuple", "int", "reversed", "bool"], exc := [(0, "LeafError"), (2, "BadFolds"), (5, "NoCell")] }
theorem tChk : tT.chk prog = true := by decide +kernel
theorem tBind0 : ∀ e ∈ tb0, BindP e := by
  unfold tb0
  simp only [List.mem_cons, List.not_mem_nil, or_false]
  intro e h
  rcases h with rfl | rfl | rfl | rfl | rfl | rfl | rfl | rfl | rfl | rfl | rfl | rfl
  · exact fun _ _ _ _ _ _ us hl => match us, hl with | [_], _ => rfl
  · exact fun _ _ _ _ _ _ us hl => match us, hl with | [_], _ => rfl
  · exact fun _ _ _ _ _ _ us hl => match us, hl with | [_], _ => rfl
  · exact fun _ _ _ _ _ _ us hl => match us, hl with | [_], _ => rfl
  · exact fun _ _ _ _ _ _ us hl => match us, hl with | [_], _ => rfl
  · exact fun _ _ _ _ _ _ us hl => match us, hl with | [_], _ => rfl
  · exact fun _ _ _ _ _ _ us hl => match us, hl with | [_, _, _], _ => rfl
  · exact fun _ _ _ _ _ _ us hl => match us, hl with | [_], _ => rfl
  · exact fun _ _ _ _ _ _ us hl => match us, hl with | [_, _], _ => rfl
  · exact fun _ _ _ _ _ _ us hl => match us, hl with | [_], _ => rfl
  · exact fun _ _ _ _ _ _ us hl => match us, hl with | [_, _], _ => rfl
  · exact fun _ _ _ _ _ _ us hl => match us, hl with | [_], _ => rfl
theorem tBind1 : ∀ e ∈ tb1, BindP e := by
  unfold tb1
  simp only [List.mem_cons, List.not_mem_nil, or_false]
  intro e h
  rcases h with rfl | rfl | rfl | rfl
  · exact fun _ _ _ _ _ _ us hl => match us, hl with | [_, _], _ => rfl
  · exact fun _ _ _ _ _ _ us hl => match us, hl with | [_], _ => rfl
  · exact fun _ _ _ _ _ _ us hl => match us, hl with | [_, _, _], _ => rfl
  · exact fun _ _ _ _ _ _ us hl => match us, hl with | [_], _ => rfl
theorem tBind : ∀ e ∈ tT.tbl, BindP e := by
  intro e h
  have h2 : e ∈ tb0 ++ (tb1) := h
  simp only [List.mem_append] at h2
  rcases h2 with h2 | h2
  · exact tBind0 e h2
  · exact tBind1 e h2
abbrev RR : PySem.W.OpenRow := PySem.W.OpenLaw.row PySem.Challenge.rw_leafmate_k03_leaves_at_cells
abbrev hk : PySem.W.Hook := tT.hook 4
def ob (s : PySem.W.SharedT) : He.AlD := tT.obsG 4 (HandSHeadRun.getT s)
theorem ob_eq (s : PySem.W.SharedT) : ob s = hk.obs s.abs := Txt.obs_eq (HandSHeadRun.getT_eq s)
theorem run (w : World) : HandSHeadRun.RunEq RR (PySem.W.view RR.prog [21]) hk ob 2000 lsA w := by
  intro os
  kernel_rfl
def eLaw : Ent := ⟨27, "law", "law", ["_law_script", "_law_draw", "_law_turn", "_law_folds", "_law_cell", "_law_due", "_law_cells_here"], 1, top 21⟩
theorem eLaw_mem : eLaw ∈ tT.tbl := List.mem_iff_getElem?.mpr ⟨15, rfl⟩
end E
open PySem PySem.W PySem.Calls PyProof.Rows
theorem PySem.Challenge.cw_leafmate_k03_leaves_at_cells_holds : PySem.Challenge.rw_leafmate_k03_leaves_at_cells.Holds := by
  w_on; o_law
  refine HandSHeadRun.head_any (r := OpenLaw.row PySem.Challenge.rw_leafmate_k03_leaves_at_cells) (q := view (OpenLaw.row PySem.Challenge.rw_leafmate_k03_leaves_at_cells).prog [21]) (H := E.hk) (ob := E.ob) (M := 2000) (loose := E.lsA) (d := HandSHeadRun.topDef (OpenLaw.row PySem.Challenge.rw_leafmate_k03_leaves_at_cells).prog 21) (kwd := []) E.ob_eq
    (by kernel_rfl) (fun s => by kernel_rfl) E.run (by kernel_rfl) (by kernel_rfl) (by kernel_rfl) (by rfl) (by first | assumption | decide +kernel) (by decide +kernel) ⟨rfl, rfl, rfl, rfl, rfl, by decide +kernel⟩ ?hw ?hc
  case hw => w_witness2
  case hc =>
    refine LamX.walk_ofTsE (l := PySem.Challenge.rw_leafmate_k03_leaves_at_cells) (n := 63) (k := 20) (x := "_law_script") (CX := fun w => L2.CX (PySem.Challenge.rw_leafmate_k03_leaves_at_cells).prog w) rfl (by decide) (by kernel_rfl) ⟨rfl, by decide, by decide⟩ ?F (fun _ _ _ _ _ z => ?Z)
    case Z =>
      obtain ⟨_, _, _, _, _, _, _, _, _, _, _, _, z⟩ := z
      exact z
    intro w mg fa h Y G hmg0
    obtain ⟨K, KX, c⟩ := Y
    have hmg : mg ("law" : PySem.Str) = some (.ref fa) := by
      have e : (HandSHeadRun.topDef (OpenLaw.row PySem.Challenge.rw_leafmate_k03_leaves_at_cells).prog 21).name = ("law" : PySem.Str) := by kernel_rfl
      rw [← e]
      exact hmg0
    exact ⟨K, KX, E.law_at (T := E.tT) (prog := E.prog) (e := E.eLaw) (x := "_law_script") KX G c E.tChk E.tBind E.eLaw_mem rfl hmg E.law_eq⟩
