import PyProof.Rows.All
import Wide.All
import OpenK.AllK
import Wide.FinOn
import KE.KStateDown
import Lean
import HandS.Base
import HandS.Call
import HandS.List
import HandS.Comp
import HandS.Ends
import HandS.EndBits
import HandS.Exc
import HandS.ExcOwn
import HandS.TryOnly
import HandS.TryMany
import HandS.Words
import HandS.WordsList
import HandS.Iter
import HandS.Zip
import HandS.Rev
import HandS.RevTup
import HandS.Conv
import HandS.SortInts
import HandS.Wide
import HandS.TupAny
import HandS.TupMul
import HandS.WordsExc
import HandS.RevRange
import HandS.HeadHook1
import HandS.HeadHook2
import HandS.HeadEnd
import HandS.Head0
import HandS.Head1
import HandS.Head2
import HandS.ExcIs
import HandS.Text
import PyProof.Rows.SeqMore
import PyProof.ListOps
import KE.IntTextLaws
import KE.KStrOpen
import HandS.IsInst
import HandS.SetFor
import PyProof.TupleOfSeq
import KE.KMinBuiltin
import PyProof.MinMaxWalk
import HandS.SortKw
import HandS.More
import KE.GoesZip
import KE.GoesMore
import KE.GoesEnum
import PyProof.WalkInts
import PySem.Challenge.RW_sideloom_k55_costs_of_loops
set_option Elab.async false
set_option linter.all false
set_option maxRecDepth 100000
set_option maxHeartbeats 4000000
/-! A small core language, its by-value data, and its evaluator. Plain Lean, no program in sight. -/
namespace SL
abbrev Txt := List Nat
inductive D where
  | non | bl (b : Bool) | int (i : Int) | str (x : Txt)
  | tup (ds : List D) | vl (ds : List D) | sc (ds : List D) | ref (i : Nat)
  | exn (c : Nat) (fs : List D)
  deriving Inhabited, Repr
mutual
def D.beq : D → D → Bool
  | .non, .non => true
  | .bl a, .bl b => a == b
  | .int a, .int b => a == b
  | .str a, .str b => a == b
  | .tup a, .tup b => D.beqs a b
  | .vl a, .vl b => D.beqs a b
  | .sc a, .sc b => D.beqs a b
  | .ref a, .ref b => a == b
  | .exn c a, .exn c' b => c == c' && D.beqs a b
  | _, _ => false
def D.beqs : List D → List D → Bool
  | [], [] => true
  | a :: as, b :: bs => D.beq a b && D.beqs as bs
  | _, _ => false
end
mutual
theorem D.beq_eq : ∀ a b : D, D.beq a b = true → a = b
  | .non, b, h => by cases b <;> simp_all [D.beq]
  | .bl x, b, h => by cases b <;> simp_all [D.beq]
  | .int x, b, h => by cases b <;> simp_all [D.beq]
  | .str x, b, h => by cases b <;> simp_all [D.beq]
  | .tup x, b, h => by cases b <;> simp_all [D.beq]; exact D.beqs_eq _ _ h
  | .vl x, b, h => by cases b <;> simp_all [D.beq]; exact D.beqs_eq _ _ h
  | .sc x, b, h => by cases b <;> simp_all [D.beq]; exact D.beqs_eq _ _ h
  | .ref x, b, h => by cases b <;> simp_all [D.beq]
  | .exn c x, b, h => by cases b <;> simp_all [D.beq]; exact D.beqs_eq _ _ h.2
theorem D.beqs_eq : ∀ a b : List D, D.beqs a b = true → a = b
  | [], b, h => by cases b <;> simp_all [D.beqs]
  | x :: xs, b, h => by
    cases b with
    | nil => simp [D.beqs] at h
    | cons y ys =>
      simp [D.beqs] at h
      rw [D.beq_eq x y h.1, D.beqs_eq xs ys h.2]
end
mutual
theorem D.beq_refl : ∀ a : D, D.beq a a = true
  | .non => rfl
  | .bl x => by simp [D.beq]
  | .int x => by simp [D.beq]
  | .str x => by simp [D.beq]
  | .tup x => by simp [D.beq]; exact D.beqs_refl x
  | .vl x => by simp [D.beq]; exact D.beqs_refl x
  | .sc x => by simp [D.beq]; exact D.beqs_refl x
  | .ref x => by simp [D.beq]
  | .exn c x => by simp [D.beq]; exact D.beqs_refl x
theorem D.beqs_refl : ∀ a : List D, D.beqs a a = true
  | [] => rfl
  | x :: xs => by simp [D.beqs, D.beq_refl x, D.beqs_refl xs]
end
instance : DecidableEq D := fun a b =>
  if h : D.beq a b = true then .isTrue (D.beq_eq a b h) else .isFalse fun e => h (e ▸ D.beq_refl a)

inductive Cell where
  | lst (ds : List D) | dic (kvs : List (D × D)) | dead
  deriving DecidableEq, Inhabited, Repr
abbrev Store := List Cell
abbrev Slots := List (Option D)

inductive Res (α : Type) where
  | ok (a : α) (S : Store) | exc (c : Nat) (fs : List D) (S : Store) | stuck
  deriving Repr
def Res.bind {α β : Type} (r : Res α) (k : α → Store → Res β) : Res β :=
  match r with
  | .ok a S => k a S
  | .exc c fs S => .exc c fs S
  | .stuck => .stuck
@[simp] theorem Res.bind_ok {α β : Type} (a : α) (S : Store) (k : α → Store → Res β) : (Res.ok a S).bind k = k a S := rfl
@[simp] theorem Res.bind_exc {α β : Type} (c : Nat) (fs : List D) (S : Store) (k : α → Store → Res β) : (Res.exc c fs S).bind k = Res.exc c fs S := rfl
@[simp] theorem Res.bind_stuck {α β : Type} (k : α → Store → Res β) : (Res.stuck : Res α).bind k = Res.stuck := rfl

inductive Op where | add | sub | mul | fdiv | mod | pow | band | bor | bxor | shr
  deriving DecidableEq, Repr
inductive Cmp where | eq | ne | lt | le | gt | ge | isin | notin | is | isnot
  deriving DecidableEq, Repr
inductive Bi where
  | len | abs | max2 | min2 | max1 | min1 | sum | int | str | tuple | list | tupRev | listRev | listRange | tupRange | sorted
  | maxK1 | maxK2 | minD (d : Int) | maxD (d : Int)
  | isint | isbool | istup | islist | isstr
  deriving DecidableEq, Repr
inductive Mt where
  | append | extend | insert | pop0 | pop1 | index | count | remove | clear | get1 | get2 | join | split | upper | find
  deriving DecidableEq, Repr
inductive Tg where | name (i : Nat) | tup (is : List Nat)
  deriving DecidableEq, Repr
mutual
inductive E where
  | var (i : Nat)
  | con (d : D)
  | op (o : Bool) (p : Op) (a b : E)
  | neg (a : E)
  | cmp (c : Cmp) (a b : E)
  | cmp2 (c c' : Cmp) (a b d : E)
  | and (a b : E) | or (a b : E) | not (a : E) | ite (c a b : E)
  | tup (es : Es) | lst (o : Bool) (es : Es)
  | ix (a b : E) | sl (o : Bool) (a : E) (lo hi : EO)
  | call (f : Nat) (es : Es)
  | bi (o : Bool) (b : Bi) (es : Es)
  | mt (o : Bool) (m : Mt) (a : E) (es : Es)
  | lc (o : Bool) (elt : E) (tg : Tg) (it : It) (c : EO)
  | fld (i k : Nat)
  | isx (i : Nat) (cs : List Nat)
  | fz (i : Nat)
inductive Es where | nil | cons (e : E) (es : Es)
inductive EO where | none | some (e : E)
inductive It where
  | val (e : E) | range1 (a : E) | range2 (a b : E) | range3 (a b c : E) | zip (a b : E) | enum (a : E) | rev (a : E) | revrange (a : E)
end
mutual
inductive St where
  | asg (tg : Tg) (e : E)
  | set (a i e : E)
  | aug (i : Nat) (p : Op) (e : E)
  | expr (e : E)
  | ret (e : E) | retN
  | ite (c : E) (a b : Ss)
  | for_ (tg : Tg) (it : It) (b : Ss)
  | while_ (c : E) (b : Ss)
  | raise_ (c : Nat) (fs : Es)
  | try_ (b : Ss) (hs : Hs) (o : Ss)
  | pass | brk | cont | never
inductive Ss where | nil | cons (s : St) (ss : Ss)
inductive Hs where | nil | cons (c : Nat) (nm : Option Nat) (b : Ss) (hs : Hs)
end

/-! ### values -/
def LINE : Nat := 16777216
def mk (o : Bool) (ds : List D) (S : Store) : Res D :=
  if ds.length ≤ LINE then (if o then .ok (.ref S.length) (S ++ [.lst ds]) else .ok (.vl ds) S) else .stuck
/-- the items of a list of the program's own: one that stands still, or one of the store -/
def itemsH (S : Store) : D → Option (List D)
  | .vl ds => some ds
  | .ref i => match S[i]? with | some (.lst ds) => some ds | _ => none
  | _ => none
/-- .. or the script -/
def items (S : Store) : D → Option (List D)
  | .vl ds => some ds
  | .sc ds => some ds
  | .ref i => match S[i]? with | some (.lst ds) => some ds | _ => none
  | _ => none
/-- the items of a list or a tuple -/
def seqOf (S : Store) : D → Option (List D)
  | .tup ds => some ds
  | d => items S d
def b2i (b : Bool) : Int := if b then 1 else 0
mutual
/-- == of data without store cells -/
def eqv : D → D → Bool
  | .non, .non => true
  | .bl a, .bl b => a == b
  | .bl a, .int j => b2i a == j
  | .int i, .bl b => i == b2i b
  | .int i, .int j => i == j
  | .str a, .str b => a == b
  | .tup a, .tup b => eqvs a b
  | .vl a, .vl b => eqvs a b
  | _, _ => false
def eqvs : List D → List D → Bool
  | [], [] => true
  | a :: as, b :: bs => eqv a b && eqvs as bs
  | _, _ => false
end
mutual
/-- data without store cells, no deeper than n -/
def dle : D → Nat → Bool
  | .non, _ => true
  | .bl _, _ => true
  | .int _, _ => true
  | .str x, _ => x.all fun c => decide (c < 1114112)
  | .tup ds, n => match n with | 0 => false | k + 1 => dles ds k
  | .vl ds, n => match n with | 0 => false | k + 1 => dles ds k
  | .sc _, _ => false
  | .ref _, _ => false
  | .exn _ _, _ => false
def dles : List D → Nat → Bool
  | [], _ => true
  | d :: ds, n => dle d n && dles ds n
end
/-- a list of the store by its items, for == -/
def top (S : Store) (d : D) : D := match d with
  | .ref i => match S[i]? with | some (.lst ds) => .vl ds | _ => d
  | .sc ds => .vl ds
  | d => d
def ixN (n : Nat) (i : Int) : Option Nat := if 0 ≤ i then (if i < n then some i.toNat else none) else if -(n : Int) ≤ i then some (i + n).toNat else none
def cutI (n d : Nat) : Option Int → Nat
  | none => d
  | some i => if i < 0 then (max (i + n) 0).toNat else (min i n).toNat
def cutL {α : Type} (xs : List α) (lo hi : Option Int) : List α :=
  (xs.drop (cutI xs.length 0 lo)).take (cutI xs.length xs.length hi - cutI xs.length 0 lo)
def mulOk (i j : Int) : Bool := decide (i.natAbs < 2 ^ 64) || decide (j.natAbs < 2 ^ 64) || decide (i.natAbs.log2 + j.natAbs.log2 < 100000000)
def divOk (j : Int) : Bool := decide (j ≠ 0) && decide (j.natAbs < 2 ^ 1000)
def powOk (i j : Int) : Bool := decide (0 ≤ j) && decide (j ≤ 1000000) && decide (i.natAbs < 2 ^ 64)
def band : Int → Int → Int
  | .ofNat m, .ofNat n => ((m &&& n : Nat) : Int)
  | .ofNat m, .negSucc n => (m : Int) - ((m &&& n : Nat) : Int)
  | .negSucc m, .ofNat n => (n : Int) - ((n &&& m : Nat) : Int)
  | .negSucc m, .negSucc n => -((m ||| n : Nat) : Int) - 1
def bor (x y : Int) : Int := -(band (-x - 1) (-y - 1)) - 1
def bxor (x y : Int) : Int := bor x y - band x y
def intOp (p : Op) (i j : Int) : Option Int :=
  match p with
  | .add => some (i + j)
  | .sub => some (i - j)
  | .mul => if mulOk i j then some (i * j) else none
  | .fdiv => if divOk j then some (i.fdiv j) else none
  | .mod => if j ≠ 0 then some (i.fmod j) else none
  | .pow => if powOk i j then some (i ^ j.toNat) else none
  | .band => some (SL.band i j)
  | .bor => some (SL.bor i j)
  | .bxor => some (SL.bxor i j)
  | .shr => if 0 ≤ j then some (i / 2 ^ j.toNat) else none
def okO {α : Type} (S : Store) : Option α → Res α
  | some a => .ok a S
  | none => .stuck
def doCat (o : Bool) (p : Op) (xa xb : Option (List D)) (S : Store) : Res D :=
  match xa with
  | some a => match xb with
    | some b => if p = .add then mk o (a ++ b) S else .stuck
    | none => .stuck
  | none => .stuck
/-- lists joined, a list so many times -/
def doOpL (o : Bool) (p : Op) (x y : D) (S : Store) : Res D :=
  match y with
  | .int k => match itemsH S x with
    | some a => if p = .mul ∧ k ≤ 1000000 ∧ -1000000 ≤ k ∧ a.length * k.toNat ≤ LINE then mk o (List.replicate k.toNat a).flatten S else .stuck
    | none => .stuck
  | y => doCat o p (items S x) (items S y) S
def doOp (o : Bool) (p : Op) (x y : D) (S : Store) : Res D :=
  match x with
  | .int i => match y with
    | .int j => okO S ((intOp p i j).map .int)
    | _ => .stuck
  | .str a => match y with
    | .str b => if p = .add ∧ a.length + b.length ≤ LINE then .ok (.str (a ++ b)) S else .stuck
    | _ => .stuck
  | .tup a => match y with
    | .tup b => if p = .add ∧ a.length + b.length ≤ LINE then .ok (.tup (a ++ b)) S else .stuck
    | .int k => if p = .mul ∧ a.length ≤ 1000 ∧ k ≤ 1000 ∧ -1000000 ≤ k then .ok (.tup (List.replicate k.toNat a).flatten) S else .stuck
    | _ => .stuck
  | x => doOpL o p x y S
def flat : D → Bool
  | .non | .bl _ | .int _ | .str _ => true
  | _ => false
/-- is y in the items (== with each, flat ones) -/
def inL (x : D) (xs : List D) : Bool := xs.any fun y => eqv y x
def eqB (x y : D) (S : Store) : Option Bool :=
  match x, y with
  | .int i, .int j => some (decide (i = j))
  | .str a, .str b => some (decide (a = b))
  | x, y => if dle (top S x) 64 && dle (top S y) 64 then some (eqv (top S x) (top S y)) else none
def intB (f : Int → Int → Bool) (x y : D) : Option Bool :=
  match x with
  | .int i => match y with | .int j => some (f i j) | _ => none
  | _ => none
/-- a sign in a text, a flat thing in a row of such -/
def inSeq (x y : D) (S : Store) : Option Bool := match seqOf S y with
  | some ds => if flat x && ds.all flat then some (inL x ds) else none
  | none => none
def inB' (x y : D) (S : Store) : Option Bool := match y with
  | .str z => match x with
    | .str [c] => some (decide (c ∈ z))
    | _ => none
  | y => inSeq x y S
def cmpB (c : Cmp) (x y : D) (S : Store) : Option Bool :=
  match c with
  | .eq => eqB x y S
  | .ne => (eqB x y S).map not
  | .lt => intB (fun i j => decide (i < j)) x y
  | .le => intB (fun i j => decide (i ≤ j)) x y
  | .gt => intB (fun i j => decide (j < i)) x y
  | .ge => intB (fun i j => decide (j ≤ i)) x y
  | .is => match y with | .non => some (match x with | .non => true | _ => false) | _ => none
  | .isnot => match y with | .non => some (match x with | .non => false | _ => true) | _ => none
  | .isin => inB' x y S
  | .notin => (inB' x y S).map not
def doCmp (c : Cmp) (x y : D) (S : Store) : Res D := okO S ((cmpB c x y S).map .bl)
def doIx (x y : D) (S : Store) : Res D :=
  match y with
  | .int i => match x with
    | .str z => if z.length ≤ LINE then okO S ((ixN z.length i).bind fun j => z[j]?.map fun c => .str [c]) else .stuck
    | x => match seqOf S x with
      | some ds => okO S ((ixN ds.length i).bind fun j => ds[j]?)
      | none => .stuck
  | _ => .stuck
def doSl (o : Bool) (x : D) (lo hi : Option Int) (S : Store) : Res D :=
  match x with
  | .str z => if z.length ≤ LINE then .ok (.str (cutL z lo hi)) S else .stuck
  | .tup ds => .ok (.tup (cutL ds lo hi)) S
  | x => match items S x with
    | some ds => mk o (cutL ds lo hi) S
    | none => .stuck
def intsD : List D → Option (List Int)
  | [] => some []
  | .int i :: r => (intsD r).map (i :: ·)
  | _ => none
/-- the first of the greatest -/
def bestK (f : Nat → Nat) : Nat → Nat
  | 0 => 0
  | j + 1 => if f (bestK f j) < f (j + 1) then j + 1 else bestK f j
def lenD (S : Store) (d : D) : Nat := match seqOf S d with | some xs => xs.length | none => 0
def minL : List Int → Option Int
  | [] => none
  | n :: ns => some (ns.foldl min n)
def maxL : List Int → Option Int
  | [] => none
  | n :: ns => some (ns.foldl max n)
def isort : List Int → List Int := fun xs => xs.mergeSort (fun a b => decide (a ≤ b))
/-! texts -/
def isDig (c : Nat) : Bool := decide (48 ≤ c) && decide (c ≤ 57)
def digV (z : Txt) : Nat := z.foldl (fun a c => a * 10 + (c - 48)) 0
def showN (n : Nat) : Txt := (Nat.toDigits 10 n).map Char.toNat
def showI : Int → Txt
  | .ofNat n => showN n
  | .negSucc n => 45 :: showN (n + 1)
def upC (c : Nat) : Nat := if 97 ≤ c ∧ c ≤ 122 then c - 32 else c
def findC (c : Nat) (z : Txt) : Int := match z.findIdx? (fun x => decide (x = c)) with | some i => (i : Int) | none => -1
def joinT (a : Txt) : List Txt → Txt
  | [] => []
  | [x] => x
  | x :: y :: r => x ++ a ++ joinT a (y :: r)
def strsD : List D → Option (List Txt)
  | [] => some []
  | .str x :: r => (strsD r).map (x :: ·)
  | _ => none
def natsI (n : Nat) : List D := (List.range n).map fun k => .int (k : Nat)
/-- a value's kind -/
def kindD (S : Store) : D → Nat
  | .non => 0 | .bl _ => 1 | .int _ => 2 | .str _ => 3 | .tup _ => 4 | .vl _ => 5 | .sc _ => 5
  | .ref i => match S[i]? with | some (.lst _) => 5 | _ => 9
  | .exn _ _ => 9
def isD (p : Nat → Prop) [DecidablePred p] (x : D) (S : Store) : Res D := if kindD S x = 9 then .stuck else .ok (.bl (decide (p (kindD S x)))) S
def doBi (o : Bool) (b : Bi) (xs : List D) (S : Store) : Res D :=
  match b, xs with
  | .len, [.str z] => if z.length ≤ LINE then .ok (.int z.length) S else .stuck
  | .len, [x] => okO S ((seqOf S x).map fun ds => .int ds.length)
  | .abs, [.int i] => .ok (.int i.natAbs) S
  | .max2, [.int i, .int j] => .ok (.int (max i j)) S
  | .min2, [.int i, .int j] => .ok (.int (min i j)) S
  | .sum, [x] => okO S (((items S x).bind intsD).map fun ns => .int ns.sum)
  | .int, [.int i] => .ok (.int i) S
  | .int, [.bl b] => .ok (.int (b2i b)) S
  | .int, [.str z] => if z.length ≤ 640 ∧ z ≠ [] ∧ z.all isDig = true then .ok (.int (digV z)) S else .stuck
  | .str, [.int i] => if i.natAbs.log2 < 1920 then .ok (.str (showI i)) S else .stuck
  | .tuple, [.tup ds] => .ok (.tup ds) S
  | .tuple, [x] => okO S ((items S x).map .tup)
  | .list, [x] => match seqOf S x with | some ds => mk o ds S | none => .stuck
  | .tupRev, [x] => okO S ((seqOf S x).map fun ds => .tup ds.reverse)
  | .listRev, [x] => match items S x with | some ds => mk o ds.reverse S | none => .stuck
  | .listRange, [.int n] => if -1000000 ≤ n ∧ n ≤ 1000000 then mk o (natsI n.toNat) S else .stuck
  | .tupRange, [.int n] => if -1000000 ≤ n ∧ n ≤ 1000000 then .ok (.tup (natsI n.toNat)) S else .stuck
  | .sorted, [x] => match (seqOf S x).bind intsD with | some ns => mk o ((isort ns).map .int) S | none => .stuck
  | .min1, [x] => okO S ((((items S x).bind intsD).bind minL).map .int)
  | .max1, [x] => okO S ((((items S x).bind intsD).bind maxL).map .int)
  | .minD d, [x] => okO S (((items S x).bind intsD).map fun ns => .int ((minL ns).getD d))
  | .maxD d, [x] => okO S (((items S x).bind intsD).map fun ns => .int ((maxL ns).getD d))
  | .maxK2, [x, y] => match seqOf S x with
    | some xs => match seqOf S y with
      | some ys => .ok (if xs.length < ys.length then y else x) S
      | none => .stuck
    | none => .stuck
  | .maxK1, [x] => match items S x with
    | some ds => if 0 < ds.length ∧ (ds.all fun d => (seqOf S d).isSome) = true then okO S (ds[bestK (fun i => lenD S (ds.getD i .non)) (ds.length - 1)]?) else .stuck
    | none => .stuck
  | .isint, [x] => isD (fun t => t = 1 ∨ t = 2) x S
  | .isbool, [x] => isD (fun t => t = 1) x S
  | .istup, [x] => isD (fun t => t = 4) x S
  | .islist, [x] => isD (fun t => t = 5) x S
  | .isstr, [x] => isD (fun t => t = 3) x S
  | _, _ => .stuck
def lstAt (S : Store) (d : D) : Option (Nat × List D) := match d with
  | .ref i => match S[i]? with | some (.lst ds) => some (i, ds) | _ => none
  | _ => none
def extOf (S : Store) : D → Option (List D)
  | .tup ds => some ds
  | d => itemsH S d
/-- what a method may be asked of -/
def recv (m : Mt) (x : D) : Bool := match m, x with
  | .join, .str _ => true
  | .split, .str _ => true
  | .upper, .str _ => true
  | .find, .str _ => true
  | .join, _ => false
  | .split, _ => false
  | .upper, _ => false
  | .find, _ => false
  | .index, .vl _ => true
  | _, .ref _ => true
  | _, _ => false
def doMt (o : Bool) (m : Mt) (x : D) (xs : List D) (S : Store) : Res D :=
  match m, xs with
  | .append, [y] => match lstAt S x with
    | some (i, ds) => if ds.length < LINE then .ok .non (S.set i (.lst (ds ++ [y]))) else .stuck
    | none => .stuck
  | .extend, [y] => match lstAt S x, extOf S y with
    | some (i, ds), some es => if ds.length + es.length ≤ LINE then .ok .non (S.set i (.lst (ds ++ es))) else .stuck
    | _, _ => .stuck
  | .insert, [.int k, y] => match lstAt S x with
    | some (i, ds) => if ds.length < LINE ∧ 0 ≤ k ∧ k < 1000000 then .ok .non (S.set i (.lst (ds.take k.toNat ++ y :: ds.drop k.toNat))) else .stuck
    | none => .stuck
  | .pop0, [] => match lstAt S x with
    | some (i, ds) => match ds.getLast? with | some y => .ok y (S.set i (.lst ds.dropLast)) | none => .stuck
    | none => .stuck
  | .pop1, [.int k] => match lstAt S x with
    | some (i, ds) => match (ixN ds.length k) with
      | some j => match ds[j]? with | some y => .ok y (S.set i (.lst (ds.eraseIdx j))) | none => .stuck
      | none => .stuck
    | none => .stuck
  | .join, [y] => match x with
    | .str a => match (seqOf S y).bind strsD with
      | some xs => if (xs.map List.length).sum + xs.length * a.length ≤ LINE then .ok (.str (joinT a xs)) S else .stuck
      | none => .stuck
    | _ => .stuck
  | .upper, [] => match x with
    | .str a => if a.length ≤ 1000000 ∧ (a.all fun c => decide (c < 128)) = true then .ok (.str (a.map upC)) S else .stuck
    | _ => .stuck
  | .find, [.str [c]] => match x with
    | .str a => .ok (.int (findC c a)) S
    | _ => .stuck
  | .index, [y] => match itemsH S x with
    | some ds => if flat y && ds.all flat then (match ds.findIdx? fun z => eqv z y with | some j => .ok (.int (j : Nat)) S | none => .stuck) else .stuck
    | none => .stuck
  | _, _ => .stuck

/-! ### the evaluator -/
structure Cx where
  call : Nat → List D → Store → Res D
  hot : Bool := false
  /-- class c is class k or stands under it -/
  sub : Nat → Nat → Bool
inductive Out where
  | nx (σ : Slots) | rt (d : D) | bk (σ : Slots) | ct (σ : Slots) | ex (c : Nat) (fs : List D) (σ : Slots)
  deriving Repr
/-- an expression within a statement: what it raises, it raises at these slots -/
def lift {α : Type} (σ : Slots) (r : Res α) (k : α → Store → Res Out) : Res Out :=
  match r with
  | .ok a S => k a S
  | .exc c fs S => .ok (.ex c fs σ) S
  | .stuck => .stuck
@[simp] theorem lift_ok {α : Type} (σ : Slots) (a : α) (S : Store) (k : α → Store → Res Out) : lift σ (.ok a S) k = k a S := rfl
@[simp] theorem lift_exc {α : Type} (σ : Slots) (c : Nat) (fs : List D) (S : Store) (k : α → Store → Res Out) : lift σ (.exc c fs S) k = .ok (.ex c fs σ) S := rfl
@[simp] theorem lift_stuck {α : Type} (σ : Slots) (k : α → Store → Res Out) : lift σ .stuck k = .stuck := rfl
/-- nothing may be raised -/
def calm {α : Type} (r : Res α) : Res α := match r with | .exc _ _ _ => .stuck | r => r
@[simp] theorem calm_ok {α : Type} (a : α) (S : Store) : calm (.ok a S) = .ok a S := rfl
def tgSet (tg : Tg) (d : D) (σ : Slots) (S : Store) : Res Slots :=
  match tg with
  | .name i => .ok (σ.set i (some d)) S
  | .tup is => match d with
    | .tup ds => if ds.length = is.length then .ok ((is.zip ds).foldl (fun σ p => σ.set p.1 (some p.2)) σ) S else .stuck
    | _ => .stuck
def tgIx : Tg → List Nat
  | .name i => [i]
  | .tup is => is
/-- a comprehension's own names are none of the def's -/
def wipeS (σ : Slots) : List Nat → Slots
  | [] => σ
  | v :: vs => (wipeS σ vs).set v none
/-- what a loop walks: the items, and the store's list that must stand still -/
structure Walk where
  ds : List D
  gd : Option (Nat × List D) := none
def Walk.ok (g : Option (Nat × List D)) (S : Store) : Bool := match g with
  | none => true
  | some (i, ds) => decide (S[i]? = some (.lst ds))
def walkOf (S : Store) (d : D) : Option Walk := match d with
  | .tup ds => some ⟨ds, none⟩
  | .vl ds => some ⟨ds, none⟩
  | .sc ds => some ⟨ds, none⟩
  | .str z => some ⟨z.map fun c => .str [c], none⟩
  | .ref i => match S[i]? with | some (.lst ds) => some ⟨ds, some (i, ds)⟩ | _ => none
  | _ => none
def rngL (lo : Int) (n : Nat) (c : Int) : List D := (List.range n).map fun k => .int (lo + (k : Nat) * c)
def rngN (lo hi c : Int) : Nat := if 0 < c then (if lo < hi then (hi - lo - 1) / c + 1 else 0).toNat else (if hi < lo then (lo - hi - 1) / (-c) + 1 else 0).toNat
def small62 (i : Int) : Bool := decide (-(2 ^ 62) ≤ i) && decide (i < 2 ^ 62)
def zipT (a b : List D) : List D := (a.zip b).map fun p => .tup [p.1, p.2]
def enumT (a : List D) : List D := a.zipIdx.map fun p => .tup [.int (p.2 : Nat), p.1]
/-- a row that stands still -/
def fixd : D → Option (List D)
  | .tup ds => some ds
  | .vl ds => some ds
  | .sc ds => some ds
  | _ => none
def zipW (x y : D) (S : Store) : Res Walk := match fixd x with
  | some a => match fixd y with
    | some b => .ok ⟨zipT a b, none⟩ S
    | none => .stuck
  | none => .stuck
def enumW (x : D) (S : Store) : Res Walk := match fixd x with
  | some a => .ok ⟨enumT a, none⟩ S
  | none => .stuck
def revW (x : D) (S : Store) : Res Walk := match fixd x with
  | some a => .ok ⟨a.reverse, none⟩ S
  | none => .stuck
def lcLoop (step : D → Store → Res (Option D)) (gd : Option (Nat × List D)) : List D → List D → Store → Res (List D)
  | [], acc, S => if Walk.ok gd S then .ok acc S else .stuck
  | d :: ds, acc, S => if Walk.ok gd S then (step d S).bind fun x S1 => match x with
      | some y => if acc.length < LINE then lcLoop step gd ds (acc ++ [y]) S1 else .stuck
      | none => lcLoop step gd ds acc S1
    else .stuck
def forLoop (step : D → Slots → Store → Res Out) (gd : Option (Nat × List D)) : List D → Slots → Store → Res Out
  | [], σ, S => if Walk.ok gd S then .ok (.nx σ) S else .stuck
  | d :: ds, σ, S => if Walk.ok gd S then (step d σ S).bind fun o S1 => match o with
      | .nx σ' => forLoop step gd ds σ' S1
      | .ct σ' => forLoop step gd ds σ' S1
      | .bk σ' => .ok (.nx σ') S1
      | o => .ok o S1
    else .stuck
def whileLoop (c : Slots → Store → Res D) (b : Slots → Store → Res Out) : Nat → Slots → Store → Res Out
  | 0, _, _ => .stuck
  | n + 1, σ, S => lift σ (c σ S) fun t S1 => match t with
    | .bl true => (b σ S1).bind fun o S2 => match o with
      | .nx σ' => whileLoop c b n σ' S2
      | .ct σ' => whileLoop c b n σ' S2
      | .bk σ' => .ok (.nx σ') S2
      | o => .ok o S2
    | .bl false => .ok (.nx σ) S1
    | _ => .stuck
def FUEL : Nat := 100000000
def asB (r : Res D) (k : Bool → Store → Res D) : Res D := r.bind fun d S => match d with | .bl b => k b S | _ => .stuck
def asI {α : Type} (r : Res D) (k : Int → Store → Res α) : Res α := r.bind fun d S => match d with | .int i => k i S | _ => .stuck
mutual
def evE (C : Cx) : E → Slots → Store → Res D
  | .var i, σ, S => match σ[i]? with | some (some (.exn _ _)) => .stuck | some (some d) => .ok d S | _ => .stuck
  | .con d, _, S => .ok d S
  | .op o p a b, σ, S => (evE C a σ S).bind fun x S1 => (evE C b σ S1).bind fun y S2 => doOp o p x y S2
  | .neg a, σ, S => asI (evE C a σ S) fun i S1 => .ok (.int (-i)) S1
  | .cmp c a b, σ, S => (evE C a σ S).bind fun x S1 => (evE C b σ S1).bind fun y S2 => doCmp c x y S2
  | .cmp2 c c' a b d, σ, S => (evE C a σ S).bind fun x S1 => (evE C b σ S1).bind fun y S2 =>
      asB (doCmp c x y S2) fun t S3 => if t then (evE C d σ S3).bind fun z S4 => doCmp c' y z S4 else .ok (.bl false) S3
  | .and a b, σ, S => asB (evE C a σ S) fun t S1 => if t then asB (evE C b σ S1) fun u S2 => .ok (.bl u) S2 else .ok (.bl false) S1
  | .or a b, σ, S => asB (evE C a σ S) fun t S1 => if t then .ok (.bl true) S1 else asB (evE C b σ S1) fun u S2 => .ok (.bl u) S2
  | .not a, σ, S => asB (evE C a σ S) fun t S1 => .ok (.bl !t) S1
  | .ite c a b, σ, S => asB (evE C c σ S) fun t S1 => if t then evE C a σ S1 else evE C b σ S1
  | .tup es, σ, S => (evEs C es σ S).bind fun ds S1 => if ds.length ≤ LINE then .ok (.tup ds) S1 else .stuck
  | .lst o es, σ, S => (evEs C es σ S).bind fun ds S1 => mk o ds S1
  | .ix a b, σ, S => (evE C a σ S).bind fun x S1 => (evE C b σ S1).bind fun y S2 => doIx x y S2
  | .sl o a lo hi, σ, S => (evE C a σ S).bind fun x S1 => (evEO C lo σ S1).bind fun l S2 => (evEO C hi σ S2).bind fun h S3 => doSl o x l h S3
  | .call f es, σ, S => if C.hot then .stuck else (evEs C es σ S).bind fun ds S1 => C.call f ds S1
  | .bi o b es, σ, S => if C.hot then .stuck else (evEs C es σ S).bind fun ds S1 => doBi o b ds S1
  | .mt o m a es, σ, S => if C.hot then .stuck else (evE C a σ S).bind fun x S1 => if recv m x then (evEs C es σ S1).bind fun ds S2 => doMt o m x ds S2 else .stuck
  | .lc o elt tg it c, σ, S => if C.hot then .stuck else (evIt C it σ S).bind fun w S1 =>
      (lcLoop (fun d S => calm ((tgSet tg d (wipeS σ (tgIx tg)) S).bind fun σ1 S2 => (evC C c σ1 S2).bind fun t S3 =>
        if t then (evE C elt σ1 S3).bind fun y S4 => .ok (some y) S4 else .ok none S3)) w.gd w.ds [] S1).bind fun ds S2 => mk o ds S2
  | .fld i k, σ, S => match σ[i]? with
      | some (some (.exn _ fs)) => match fs[k]? with | some d => .ok d S | none => .stuck
      | _ => .stuck
  | .isx i cs, σ, S => match σ[i]? with
      | some (some (.exn c _)) => .ok (.bl (cs.any (C.sub c))) S
      | _ => .stuck
  | .fz i, σ, S => match σ[i]? with
      | some (some (.ref j)) => match S[j]? with
        | some (.lst ds) => .ok (.vl ds) (S.set j .dead)
        | _ => .stuck
      | _ => .stuck
def evEs (C : Cx) : Es → Slots → Store → Res (List D)
  | .nil, _, S => .ok [] S
  | .cons e es, σ, S => (evE C e σ S).bind fun d S1 => (evEs C es σ S1).bind fun ds S2 => .ok (d :: ds) S2
def evEO (C : Cx) : EO → Slots → Store → Res (Option Int)
  | .none, _, S => .ok none S
  | .some e, σ, S => asI (evE C e σ S) fun i S1 => .ok (some i) S1
/-- a comprehension's test -/
def evC (C : Cx) : EO → Slots → Store → Res Bool
  | .none, _, S => .ok true S
  | .some e, σ, S => (evE C e σ S).bind fun d S1 => match d with | .bl b => .ok b S1 | _ => .stuck
def evIt (C : Cx) : It → Slots → Store → Res Walk
  | .val e, σ, S => (evE C e σ S).bind fun d S1 => okO S1 (walkOf S1 d)
  | .range1 a, σ, S => asI (evE C a σ S) fun n S1 => if small62 n then .ok ⟨rngL 0 n.toNat 1, none⟩ S1 else .stuck
  | .range2 a b, σ, S => asI (evE C a σ S) fun i S1 => asI (evE C b σ S1) fun j S2 =>
      if small62 i && small62 j then .ok ⟨rngL i (j - i).toNat 1, none⟩ S2 else .stuck
  | .range3 a b c, σ, S => asI (evE C a σ S) fun i S1 => asI (evE C b σ S1) fun j S2 => asI (evE C c σ S2) fun k S3 =>
      if small62 i && small62 j && decide (k ≠ 0) && decide (k.natAbs < 1073741824) then .ok ⟨rngL i (rngN i j k) k, none⟩ S3 else .stuck
  | .zip a b, σ, S => (evE C a σ S).bind fun x S1 => (evE C b σ S1).bind fun y S2 => zipW x y S2
  | .enum a, σ, S => (evE C a σ S).bind fun x S1 => enumW x S1
  | .rev a, σ, S => (evE C a σ S).bind fun x S1 => revW x S1
  | .revrange a, σ, S => asI (evE C a σ S) fun n S1 => if small62 n then .ok ⟨(rngL 0 n.toNat 1).reverse, none⟩ S1 else .stuck
end
/-- a suite lets nothing out -/
def noX (r : Res Out) : Res Out := match r with | .ok (.ex _ _ _) _ => .stuck | r => r
@[simp] theorem noX_nx (σ : Slots) (S : Store) : noX (.ok (.nx σ) S) = .ok (.nx σ) S := rfl
@[simp] theorem noX_rt (d : D) (S : Store) : noX (.ok (.rt d) S) = .ok (.rt d) S := rfl
mutual
def evS (C : Cx) : St → Slots → Store → Res Out
  | .asg tg e, σ, S => lift σ (evE C e σ S) fun d S1 => (tgSet tg d σ S1).bind fun σ' S2 => .ok (.nx σ') S2
  | .set a i e, σ, S => lift σ (evE C e σ S) fun d S1 => lift σ (evE C a σ S1) fun x S2 => lift σ (evE C i σ S2) fun y S3 =>
      match lstAt S3 x, y with
      | some (j, ds), .int k => match ixN ds.length k with
        | some n => .ok (.nx σ) (S3.set j (.lst (ds.set n d)))
        | none => .stuck
      | _, _ => .stuck
  | .aug i p e, σ, S => match σ[i]? with
      | some (some x) => lift σ (evE C e σ S) fun y S1 => match x, y with
        | .int a, .int b => (okO S1 (intOp p a b)).bind fun z S2 => if p = .add ∨ p = .sub then .ok (.nx (σ.set i (some (.int z)))) S2 else .stuck
        | _, _ => .stuck
      | _ => .stuck
  | .expr e, σ, S => lift σ (evE C e σ S) fun _ S1 => .ok (.nx σ) S1
  | .ret e, σ, S => lift σ (evE C e σ S) fun d S1 => .ok (.rt d) S1
  | .retN, _, S => .ok (.rt .non) S
  | .ite c a b, σ, S => lift σ (evE C c σ S) fun d S1 => match d with
      | .bl true => evSs C a σ S1
      | .bl false => evSs C b σ S1
      | _ => .stuck
  | .for_ tg it b, σ, S => if C.hot then .stuck else lift σ (evIt C it σ S) fun w S1 =>
      forLoop (fun d σ S => (tgSet tg d σ S).bind fun σ1 S2 => evSs C b σ1 S2) w.gd w.ds σ S1
  | .while_ c b, σ, S => if C.hot then .stuck else whileLoop (fun σ S => evE C c σ S) (fun σ S => evSs C b σ S) FUEL σ S
  | .raise_ c fs, σ, S => if C.hot then .stuck else lift σ (evEs C fs σ S) fun ds S1 => .ok (.ex c ds σ) S1
  | .try_ b hs o, σ, S => if C.hot then .stuck else (evSs C b σ S).bind fun q S1 => match q with
      | .nx σ' => evSs C o σ' S1
      | .ex c fs σ' => evHs C hs c fs σ' S1
      | q => .ok q S1
  | .pass, σ, S => .ok (.nx σ) S
  | .brk, σ, S => .ok (.bk σ) S
  | .cont, σ, S => .ok (.ct σ) S
  | .never, _, _ => .stuck
def evSs (C : Cx) : Ss → Slots → Store → Res Out
  | .nil, σ, S => .ok (.nx σ) S
  | .cons s ss, σ, S => (evS C s σ S).bind fun o S1 => match o with
      | .nx σ' => evSs C ss σ' S1
      | o => .ok o S1
/-- the clauses of a try, at the slots where it was raised -/
def evHs (C : Cx) : Hs → Nat → List D → Slots → Store → Res Out
  | .nil, c, fs, σ, S => .ok (.ex c fs σ) S
  | .cons k nm b hs, c, fs, σ, S => if C.sub c k then
      (match nm with
       | none => noX (evSs { C with hot := true } b σ S)
       | some i => (noX (evSs { C with hot := true } b (σ.set i (some (.exn c fs))) S)).bind fun o S1 => match o with
          | .nx σ' => .ok (.nx (σ'.set i none)) S1
          | .bk σ' => .ok (.bk (σ'.set i none)) S1
          | .ct σ' => .ok (.ct (σ'.set i none)) S1
          | o => .ok o S1)
    else evHs C hs c fs σ S
end

structure Fn where
  np : Nat
  ns : Nat
  body : Ss
  keep : Bool := false
structure Prog where
  fns : List Fn
  sub : Nat → Nat → Bool := fun _ _ => false
mutual
/-- plain data: no cell, no script, nothing caught -/
def pureD : D → Bool
  | .non => true
  | .bl _ => true
  | .int _ => true
  | .str _ => true
  | .tup ds => pureDs ds
  | .vl ds => pureDs ds
  | .sc _ => false
  | .ref _ => false
  | .exn _ _ => false
def pureDs : List D → Bool
  | [] => true
  | d :: ds => pureD d && pureDs ds
end
mutual
def fz : Nat → Nat → Store → D → Option D
  | 0, _, _, _ => none
  | k + 1, n, S, d => if pureD d = true then some d else match d with
    | .ref i => if i < n then some (.ref i) else match S[i]? with
      | some (.lst ds) => (fzs k n S ds).map .vl
      | _ => none
    | .tup ds => (fzs k n S ds).map .tup
    | .vl ds => (fzs k n S ds).map .vl
    | .sc ds => (fzs k n S ds).map .sc
    | .exn _ _ => none
    | d => some d
def fzs : Nat → Nat → Store → List D → Option (List D)
  | 0, _, _, _ => none
  | _ + 1, _, _, [] => some []
  | k + 1, n, S, d :: ds => (fz k n S d).bind fun d' => (fzs (k + 1) n S ds).map (d' :: ·)
end
/-- behind a call: what the call made and did not hand out is forgotten, a list that it hands out stands still from here on -/
def fin (keep : Bool) (S : Store) (r : Res Out) : Res D :=
  match r with
  | .ok (.bk _) _ | .ok (.ct _) _ => .stuck
  | .ok (.ex c fs _) S1 => if S1.take S.length = S then .exc c fs S else .exc c fs S1
  | .ok o S1 =>
    let d := match o with | .rt d => d | _ => D.non
    if keep then .ok d S1 else match fz 64 S.length S1 d with
      | some d' => if S1.take S.length = S then .ok d' S else .ok d S1
      | none => .ok d S1
  | _ => .stuck
def evCall (P : Prog) : Nat → Nat → List D → Store → Res D
  | 0, _, _, _ => .stuck
  | n + 1, f, ds, S => match P.fns[f]? with
    | some fn => if ds.length = fn.np then
        fin fn.keep S (evSs { call := evCall P n, sub := P.sub } fn.body (ds.map some ++ List.replicate (fn.ns - fn.np) none) S)
      else .stuck
    | none => .stuck
end SL
/-! The store and the values against the hand layer's heap. -/
namespace SL
open PySem PySem.Spec PyProof.Rows L2
abbrev Ad := PySem.Addr
abbrev Fz := Ad → Prop
/-- lists that stand still by themselves -/
def Still (K : PySem.W.Frag) (H : Hp) (a : Ad) (xs : List V) : Prop :=
  (∃ o, H a = some (.frz o (.lst xs))) ∨
    ∃ (o : Obj) (its : Array Value) (n : Nat), K.lookup a = some o ∧ o.cls = .type "list" ∧ o.dict = none ∧ o.data = .seq its n ∧ its.size ≤ sizeLine ∧ Vals xs its.toList
abbrev ExP := Nat → Nat → List D → V → Prop
/-- what the relation leans on -/
structure Bs where
  K : PySem.W.Frag
  Ex : ExP
mutual
inductive Rep (B : Bs) (μ : List Ad) (F : Fz) (H : Hp) : D → V → Prop
  | non : Rep B μ F H .non .non
  | bl (b : Bool) : Rep B μ F H (.bl b) (.bl b)
  | int (i : Int) : Rep B μ F H (.int i) (.int i)
  | str (x : Txt) : Rep B μ F H (.str x) (.str ⟨x.toArray⟩)
  | tup {a : Ad} {vs : List V} {ds : List D} : SqT B.K H a vs → Reps B μ F H ds vs → Rep B μ F H (.tup ds) (.ref a)
  | vl {a : Ad} {vs : List V} {ds : List D} : F a → H a = some (.lst vs) → Reps B μ F H ds vs → Rep B μ F H (.vl ds) (.ref a)
  | vs {a : Ad} {vs : List V} {ds : List D} : Still B.K H a vs → Reps B μ F H ds vs → Rep B μ F H (.sc ds) (.ref a)
  | ref {i : Nat} {a : Ad} : μ[i]? = some a → Rep B μ F H (.ref i) (.ref a)
inductive Reps (B : Bs) (μ : List Ad) (F : Fz) (H : Hp) : List D → List V → Prop
  | nil : Reps B μ F H [] []
  | cons {d : D} {ds : List D} {v : V} {vs : List V} : Rep B μ F H d v → Reps B μ F H ds vs → Reps B μ F H (d :: ds) (v :: vs)
end
/-- what a value's reading leans on -/
structure Wk (μ : List Ad) (F : Fz) (H : Hp) (μ' : List Ad) (F' : Fz) (H' : Hp) : Prop where
  pre : ∀ (i : Nat) (a : Ad), μ[i]? = some a → μ'[i]? = some a
  fz : ∀ a, F a → F' a
  tup : ∀ a xs, H a = some (.tup xs) → H' a = some (.tup xs)
  lst : ∀ a xs, F a → H a = some (.lst xs) → H' a = some (.lst xs)
  frz : ∀ a o u, H a = some (.frz o u) → H' a = some (.frz o u)
/-- a later state: but for the store's own lists all stands as it stood -/
structure Ext (μ : List Ad) (F : Fz) (H : Hp) (μ' : List Ad) (F' : Fz) (H' : Hp) : Prop extends Wk μ F H μ' F' H' where
  keep : ∀ a o, H a = some o → (∀ i : Nat, μ[i]? ≠ some a) → H' a = some o
  trk : ∀ a, H a ≠ none → H' a ≠ none
  nw : ∀ (i : Nat) (a : Ad), μ'[i]? = some a → μ[i]? = some a ∨ H a = none
  nf : ∀ a, F' a → F a ∨ H a = none ∨ ∃ i : Nat, μ[i]? = some a
theorem Ext.refl (μ : List Ad) (F : Fz) (H : Hp) : Ext μ F H μ F H := ⟨⟨fun _ _ h => h, fun _ h => h, fun _ _ h => h, fun _ _ _ h => h, fun _ _ _ h => h⟩, fun _ _ h _ => h, fun _ h => h, fun _ _ h => .inl h, fun _ h => .inl h⟩
theorem Ext.back {μ1 μ2 : List Ad} {F1 F2 : Fz} {H1 H2 : Hp} (a : Ext μ1 F1 H1 μ2 F2 H2) {x : Ad} (h : H2 x = none) : H1 x = none := by
  cases q : H1 x with
  | none => rfl
  | some o => exact absurd h (a.trk x (by rw [q]; simp))
theorem Ext.trans {μ1 μ2 μ3 : List Ad} {F1 F2 F3 : Fz} {H1 H2 H3 : Hp} (a : Ext μ1 F1 H1 μ2 F2 H2) (b : Ext μ2 F2 H2 μ3 F3 H3) : Ext μ1 F1 H1 μ3 F3 H3 :=
  ⟨⟨fun i x h => b.pre i x (a.pre i x h), fun x h => b.fz x (a.fz x h), fun x xs h => b.tup x xs (a.tup x xs h), fun x xs f h => b.lst x xs (a.fz x f) (a.lst x xs f h), fun x o u h => b.frz x o u (a.frz x o u h)⟩,
    fun x o h n => b.keep x o (a.keep x o h n) fun i q => (a.nw i x q).elim (n i) (fun z => absurd (h.symm.trans z) (by simp)),
    fun x h => b.trk x (a.trk x h), fun i x h => (b.nw i x h).elim (a.nw i x) fun z => .inr (a.back z), fun x h => (b.nf x h).elim (a.nf x) fun z => z.elim (fun z => .inr (.inl (a.back z))) fun ⟨i, z⟩ => (a.nw i x z).elim (fun z => .inr (.inr ⟨i, z⟩)) fun z => .inr (.inl z)⟩
section
variable {B : Bs} {μ μ' : List Ad} {F F' : Fz} {H H' : Hp}
theorem Wk.sqt (e : Wk μ F H μ' F' H') {K : PySem.W.Frag} {a : Ad} {xs : List V} (h : SqT K H a xs) : SqT K H' a xs := by
  rcases h with (h | ⟨o, h⟩) | h
  · exact .inl (.inl (e.tup _ _ h))
  · exact .inl (.inr ⟨o, e.frz _ _ _ h⟩)
  · exact .inr h
theorem Wk.still (e : Wk μ F H μ' F' H') {K : PySem.W.Frag} {a : Ad} {xs : List V} (h : Still K H a xs) : Still K H' a xs := by
  rcases h with ⟨o, h⟩ | h
  · exact .inl ⟨o, e.frz _ _ _ h⟩
  · exact .inr h
theorem Still.sql {K : PySem.W.Frag} {a : Ad} {xs : List V} (h : Still K H a xs) : SqL K H a xs := by
  rcases h with ⟨o, h⟩ | h
  · exact .inl (.inr ⟨o, h⟩)
  · exact .inr h
mutual
theorem Rep.wk (e : Wk μ F H μ' F' H') : ∀ {d : D} {v : V}, Rep B μ F H d v → Rep B μ' F' H' d v
  | _, _, .non => .non
  | _, _, .bl b => .bl b
  | _, _, .int i => .int i
  | _, _, .str x => .str x
  | _, _, .tup h r => .tup (e.sqt h) (Reps.wk e r)
  | _, _, .vl f h r => .vl (e.fz _ f) (e.lst _ _ f h) (Reps.wk e r)
  | _, _, .vs h r => .vs (e.still h) (Reps.wk e r)
  | _, _, .ref h => .ref (e.pre _ _ h)
theorem Reps.wk (e : Wk μ F H μ' F' H') : ∀ {ds : List D} {vs : List V}, Reps B μ F H ds vs → Reps B μ' F' H' ds vs
  | _, _, .nil => .nil
  | _, _, .cons r t => .cons (Rep.wk e r) (Reps.wk e t)
end
theorem Rep.mono (e : Ext μ F H μ' F' H') {d : D} {v : V} (h : Rep B μ F H d v) : Rep B μ' F' H' d v := h.wk e.toWk
theorem Reps.mono (e : Ext μ F H μ' F' H') {ds : List D} {vs : List V} (h : Reps B μ F H ds vs) : Reps B μ' F' H' ds vs := h.wk e.toWk
theorem Reps.length : ∀ {ds : List D} {vs : List V}, Reps B μ F H ds vs → ds.length = vs.length
  | _, _, .nil => rfl
  | _, _, .cons _ t => by simp [Reps.length t]
theorem Reps.get : ∀ {ds : List D} {vs : List V}, Reps B μ F H ds vs → ∀ {i : Nat} {d : D}, ds[i]? = some d → ∃ v, vs[i]? = some v ∧ Rep B μ F H d v
  | _, _, .nil, i, d, h => by simp at h
  | _, _, .cons r t, 0, d, h => by simp at h; subst h; exact ⟨_, rfl, r⟩
  | _, _, .cons r t, i + 1, d, h => by
    obtain ⟨v, h1, h2⟩ := Reps.get t (i := i) (d := d) (by simpa using h)
    exact ⟨v, by simpa using h1, h2⟩
theorem Reps.get' : ∀ {ds : List D} {vs : List V}, Reps B μ F H ds vs → ∀ {i : Nat} {v : V}, vs[i]? = some v → ∃ d, ds[i]? = some d ∧ Rep B μ F H d v
  | _, _, .nil, i, d, h => by simp at h
  | _, _, .cons r t, 0, d, h => by simp at h; subst h; exact ⟨_, rfl, r⟩
  | _, _, .cons r t, i + 1, d, h => by
    obtain ⟨v, h1, h2⟩ := Reps.get' t (i := i) (v := d) (by simpa using h)
    exact ⟨v, by simpa using h1, h2⟩
theorem Reps.append : ∀ {ds : List D} {vs : List V} {ds' : List D} {vs' : List V}, Reps B μ F H ds vs → Reps B μ F H ds' vs' → Reps B μ F H (ds ++ ds') (vs ++ vs')
  | _, _, _, _, .nil, s => s
  | _, _, _, _, .cons r t, s => .cons r (Reps.append t s)
theorem Reps.take : ∀ {ds : List D} {vs : List V} (n : Nat), Reps B μ F H ds vs → Reps B μ F H (ds.take n) (vs.take n)
  | _, _, 0, _ => .nil
  | _, _, _ + 1, .nil => .nil
  | _, _, n + 1, .cons r t => .cons r (Reps.take n t)
theorem Reps.drop : ∀ {ds : List D} {vs : List V} (n : Nat), Reps B μ F H ds vs → Reps B μ F H (ds.drop n) (vs.drop n)
  | _, _, 0, r => r
  | _, _, _ + 1, .nil => .nil
  | _, _, n + 1, .cons _ t => Reps.drop n t
theorem Reps.set {x : D} {v : V} (r : Rep B μ F H x v) : ∀ {ds : List D} {vs : List V} (n : Nat), Reps B μ F H ds vs → Reps B μ F H (ds.set n x) (vs.set n v)
  | _, _, _, .nil => .nil
  | _, _, 0, .cons _ t => .cons r t
  | _, _, n + 1, .cons q t => .cons q (Reps.set r n t)
theorem Reps.eraseIdx : ∀ {ds : List D} {vs : List V} (n : Nat), Reps B μ F H ds vs → Reps B μ F H (ds.eraseIdx n) (vs.eraseIdx n)
  | _, _, _, .nil => .nil
  | _, _, 0, .cons _ t => t
  | _, _, n + 1, .cons q t => .cons q (Reps.eraseIdx n t)
theorem Reps.reverse {ds : List D} {vs : List V} (h : Reps B μ F H ds vs) : Reps B μ F H ds.reverse vs.reverse := by
  induction ds generalizing vs with
  | nil => cases h; exact .nil
  | cons d ds ih =>
    cases h with
    | cons r t => rw [List.reverse_cons, List.reverse_cons]; exact (ih t).append (.cons r .nil)
theorem Reps.rep {ds : List D} {vs : List V} (h : Reps B μ F H ds vs) (n : Nat) : Reps B μ F H (List.replicate n ds).flatten (List.replicate n vs).flatten := by
  induction n with
  | zero => exact .nil
  | succ n ih => rw [List.replicate_succ, List.replicate_succ, List.flatten_cons, List.flatten_cons]; exact h.append ih
theorem Reps.ints : ∀ {ns : List Int} {vs : List V}, Reps B μ F H (ns.map .int) vs → vs = ns.map V.int
  | [], _, h => by cases h; rfl
  | n :: ns, _, h => by
    cases h with
    | cons r t => cases r; rw [Reps.ints t]; rfl
theorem Reps.of_ints : ∀ ns : List Int, Reps B μ F H (ns.map .int) (ns.map V.int)
  | [] => .nil
  | n :: ns => .cons (.int n) (Reps.of_ints ns)
theorem Rep.cut {ds : List D} {vs : List V} (h : Reps B μ F H ds vs) (lo hi : Option Int) : Reps B μ F H (cutL ds lo hi) (cutV vs lo hi) := by
  have e : ∀ (n d : Nat) (o : Option Int), cutI n d o = HT.sIx n d o := by
    intro n d o
    cases o with
    | none => rfl
    | some i =>
      apply Int.ofNat.inj
      show ((cutI n d (some i) : Nat) : Int) = ((HT.sIx n d (some i) : Nat) : Int)
      rw [← HT.clip_eq]
      by_cases hc : i < 0
      · rw [if_pos hc]
        show ((if i < 0 then (max (i + n) 0).toNat else (min i n).toNat : Nat) : Int) = _
        rw [if_pos hc]
        omega
      · rw [if_neg hc]
        show ((if i < 0 then (max (i + n) 0).toNat else (min i n).toNat : Nat) : Int) = _
        rw [if_neg hc]
        omega
  unfold cutL cutV
  rw [e, e, h.length]
  exact (h.drop _).take _
theorem ixN_eq (n : Nat) (i : Int) : SL.ixN n i = L2.ixN n i := rfl

/-- a store's cell -/
def CellOk (B : Bs) (μ : List Ad) (F : Fz) (H : Hp) (a : Ad) : Cell → Prop
  | .lst ds => ∃ vs, H a = some (.lst vs) ∧ Reps B μ F H ds vs
  | .dic _ => False
  | .dead => ∃ vs, H a = some (.lst vs)
structure Rl (B : Bs) (μ : List Ad) (F : Fz) (H : Hp) (S : Store) : Prop where
  len : μ.length = S.length
  nd : ∀ (i j : Nat) (a : Ad), μ[i]? = some a → μ[j]? = some a → i = j
  nf : ∀ (i : Nat) (a : Ad), μ[i]? = some a → S[i]? ≠ some .dead → ¬ F a
  fl : ∀ a, F a → ∃ xs, H a = some (.lst xs)
  cell : ∀ (i : Nat) (a : Ad) (c : Cell), μ[i]? = some a → S[i]? = some c → CellOk B μ F H a c
theorem CellOk.wk (e : Wk μ F H μ' F' H') {a : Ad} {c : Cell} (k : ∀ xs, H a = some (.lst xs) → H' a = some (.lst xs)) (h : CellOk B μ F H a c) : CellOk B μ' F' H' a c := by
  cases c with
  | lst ds => obtain ⟨vs, h1, h2⟩ := h; exact ⟨vs, k _ h1, h2.wk e⟩
  | dic _ => exact h.elim
  | dead => obtain ⟨vs, h1⟩ := h; exact ⟨vs, k _ h1⟩
theorem Rl.at {S : Store} (r : Rl B μ F H S) {i : Nat} {c : Cell} (h : S[i]? = some c) : ∃ a, μ[i]? = some a ∧ CellOk B μ F H a c := by
  have hi : i < μ.length := by rw [r.len]; exact (List.getElem?_eq_some_iff.mp h).1
  exact ⟨_, List.getElem?_eq_getElem hi, r.cell i _ c (List.getElem?_eq_getElem hi) h⟩
theorem Rl.lst {S : Store} (r : Rl B μ F H S) {i : Nat} {ds : List D} (h : S[i]? = some (.lst ds)) : ∃ a vs, μ[i]? = some a ∧ H a = some (.lst vs) ∧ Reps B μ F H ds vs := by
  obtain ⟨a, h1, vs, h2, h3⟩ := r.at h
  exact ⟨a, vs, h1, h2, h3⟩
theorem Rl.trk {S : Store} (r : Rl B μ F H S) {i : Nat} {a : Ad} (h : μ[i]? = some a) : ∃ xs, H a = some (.lst xs) := by
  have hi : i < S.length := by rw [← r.len]; exact (List.getElem?_eq_some_iff.mp h).1
  have := r.cell i a _ h (List.getElem?_eq_getElem hi)
  cases hc : S[i] with
  | lst ds => rw [hc] at this; obtain ⟨vs, h1, _⟩ := this; exact ⟨vs, h1⟩
  | dic _ => rw [hc] at this; exact this.elim
  | dead => rw [hc] at this; exact this
theorem Ext.upd {p : Ad} {u : HO} (n : H p = none) : Ext μ F H μ F (upd H p u) :=
  ⟨⟨fun _ _ h => h, fun _ h => h, fun a xs h => by rw [upd_ne (ne_of_none h n)]; exact h, fun a xs _ h => by rw [upd_ne (ne_of_none h n)]; exact h, fun a o u h => by rw [upd_ne (ne_of_none h n)]; exact h⟩,
    fun a o h _ => by rw [upd_ne (ne_of_none h n)]; exact h, fun a h => by
      by_cases e : a = p
      · rw [e, upd_same]; simp
      · rw [upd_ne e]; exact h, fun _ _ h => .inl h, fun _ h => .inl h⟩
theorem Rl.wkF {S : Store} (r : Rl B μ F H S) (e : Wk μ F H μ F H') (k : ∀ (i : Nat) (a : Ad) (xs : List V), μ[i]? = some a ∨ F a → H a = some (.lst xs) → H' a = some (.lst xs)) : Rl B μ F H' S :=
  ⟨r.len, r.nd, r.nf, fun a f => let ⟨xs, h⟩ := r.fl a f; ⟨xs, k 0 _ _ (.inr f) h⟩, fun i a c h1 h2 => (r.cell i a c h1 h2).wk e fun xs h => k i _ _ (.inl h1) h⟩
theorem Rl.new {S : Store} (r : Rl B μ F H S) {p : Ad} {u : HO} (n : H p = none) : Rl B μ F (L2.upd H p u) S :=
  r.wkF (Ext.upd n).toWk fun _ a xs _ h => by rw [upd_ne (ne_of_none h n)]; exact h
/-- a list that stands outside, adopted: as one that stands still, as one of the store -/
theorem adopt_still {S : Store} (r : Rl B μ F H S) {p : Ad} {vs : List V} (np : ∀ i : Nat, μ[i]? ≠ some p) (h : H p = some (.lst vs)) : Wk μ F H μ (fun a => F a ∨ a = p) H ∧ Rl B μ (fun a => F a ∨ a = p) H S := by
  have e : Wk μ F H μ (fun a => F a ∨ a = p) H := ⟨fun _ _ h => h, fun _ h => .inl h, fun _ _ h => h, fun _ _ _ h => h, fun _ _ _ h => h⟩
  refine ⟨e, r.len, r.nd, fun i a hi hS f => ?_, fun a f => ?_, fun i a c h1 h2 => (r.cell i a c h1 h2).wk e fun _ h => h⟩
  · rcases f with f | f
    · exact r.nf i a hi hS f
    · rw [f] at hi; exact np i hi
  · rcases f with f | f
    · exact r.fl a f
    · exact ⟨vs, by rw [f]; exact h⟩
theorem adopt_own {S : Store} (r : Rl B μ F H S) {p : Ad} {vs : List V} {ds : List D} (np : ∀ i : Nat, μ[i]? ≠ some p) (nf : ¬ F p) (h : H p = some (.lst vs)) (q : Reps B μ F H ds vs) :
    Wk μ F H (μ ++ [p]) F H ∧ Rl B (μ ++ [p]) F H (S ++ [.lst ds]) := by
  have e : Wk μ F H (μ ++ [p]) F H := ⟨fun i a h => by rw [List.getElem?_append_left (List.getElem?_eq_some_iff.mp h).1]; exact h, fun _ h => h, fun _ _ h => h, fun _ _ _ h => h, fun _ _ _ h => h⟩
  have old : ∀ (i : Nat) (a : Ad), (μ ++ [p])[i]? = some a → (μ[i]? = some a ∧ i < μ.length) ∨ (i = μ.length ∧ a = p) := fun i a h => by
    by_cases hi : i < μ.length
    · rw [List.getElem?_append_left hi] at h; exact .inl ⟨h, hi⟩
    · rw [List.getElem?_append_right (by omega)] at h
      have : i - μ.length = 0 := by
        cases q : i - μ.length with
        | zero => rfl
        | succ k => rw [q] at h; simp at h
      rw [this] at h
      simp at h
      exact .inr ⟨by omega, h.symm⟩
  refine ⟨e, by simp [r.len], fun i j a h1 h2 => ?_, fun i a hi hS f => ?_, r.fl, fun i a c h1 h2 => ?_⟩
  · rcases old i a h1 with ⟨h1, l1⟩ | ⟨rfl, rfl⟩ <;> rcases old j _ h2 with ⟨h2, l2⟩ | ⟨rfl, e2⟩
    · exact r.nd i j a h1 h2
    · rw [e2] at h1; exact absurd h1 (np i)
    · exact absurd h2 (np j)
    · rfl
  · rcases old i a hi with ⟨hi, hl⟩ | ⟨rfl, rfl⟩
    · exact r.nf i a hi (by rw [List.getElem?_append_left (by rw [← r.len]; exact hl)] at hS; exact hS) f
    · exact nf f
  · rcases old i a h1 with ⟨h1, l1⟩ | ⟨rfl, rfl⟩
    · rw [List.getElem?_append_left (by rw [← r.len]; exact l1)] at h2
      exact (r.cell i a c h1 h2).wk e fun _ h => h
    · rw [r.len, List.getElem?_append_right (Nat.le_refl _)] at h2
      simp at h2
      subst h2
      exact ⟨vs, h, q.wk e⟩
theorem Rl.nmem {S : Store} (r : Rl B μ F H S) {p : Ad} (n : H p = none) (i : Nat) : μ[i]? ≠ some p := fun h => by
  obtain ⟨xs, hx⟩ := r.trk h
  rw [n] at hx; cases hx
theorem Rl.nF {S : Store} (r : Rl B μ F H S) {p : Ad} (n : H p = none) : ¬ F p := fun h => by
  obtain ⟨xs, hx⟩ := r.fl p h
  rw [n] at hx; cases hx
/-- a new list that stands still from here on -/
theorem new_still {S : Store} (r : Rl B μ F H S) {p : Ad} {vs : List V} (n : H p = none) :
    Ext μ F H μ (fun a => F a ∨ a = p) (L2.upd H p (.lst vs)) ∧ Rl B μ (fun a => F a ∨ a = p) (L2.upd H p (.lst vs)) S := by
  have e := Ext.upd (μ := μ) (F := F) (u := .lst vs) n
  obtain ⟨w, q⟩ := adopt_still (r.new (u := .lst vs) n) (p := p) (vs := vs) (r.nmem n) upd_same
  exact ⟨⟨⟨fun _ _ h => h, fun _ h => .inl h, e.tup, fun a xs f h => e.lst a xs f h, e.frz⟩, e.keep, e.trk, e.nw, fun a f => f.elim .inl fun z => .inr (.inl (by rw [z]; exact n))⟩, q⟩
/-- a new list of the store -/
theorem new_own {S : Store} (r : Rl B μ F H S) {p : Ad} {vs : List V} {ds : List D} (n : H p = none) (q : Reps B μ F H ds vs) :
    Ext μ F H (μ ++ [p]) F (L2.upd H p (.lst vs)) ∧ Rl B (μ ++ [p]) F (L2.upd H p (.lst vs)) (S ++ [.lst ds]) := by
  have e := Ext.upd (μ := μ) (F := F) (u := .lst vs) n
  obtain ⟨w, q'⟩ := adopt_own (r.new (u := .lst vs) n) (p := p) (vs := vs) (ds := ds) (r.nmem n) (r.nF n) upd_same (q.mono e)
  refine ⟨⟨⟨w.pre, e.fz, e.tup, e.lst, e.frz⟩, e.keep, e.trk, fun i a h => ?_, e.nf⟩, q'⟩
  by_cases hi : i < μ.length
  · rw [List.getElem?_append_left hi] at h; exact .inl h
  · rw [List.getElem?_append_right (by omega)] at h
    have : i - μ.length = 0 := by
      cases q : i - μ.length with
      | zero => rfl
      | succ k => rw [q] at h; simp at h
    rw [this] at h
    simp at h
    exact .inr (by rw [← h]; exact n)
/-- a list of the store written -/
theorem put {S : Store} (r : Rl B μ F H S) {i : Nat} {a : Ad} {xs vs : List V} {ds : List D} (hi : μ[i]? = some a) (ha : H a = some (.lst xs)) (hS : S[i]? ≠ some .dead) (q : Reps B μ F H ds vs) :
    Ext μ F H μ F (L2.upd H a (.lst vs)) ∧ Rl B μ F (L2.upd H a (.lst vs)) (S.set i (.lst ds)) := by
  have e : Ext μ F H μ F (L2.upd H a (.lst vs)) :=
    ⟨⟨fun _ _ h => h, fun _ h => h, fun b ys h => by rw [upd_ne (ne_of h ha (by intro z; cases z))]; exact h,
      fun b ys f h => by rw [upd_ne (show b ≠ a from fun z => r.nf i a hi hS (by rw [← z]; exact f))]; exact h, fun b o u h => by rw [upd_ne (ne_of h ha (by intro z; cases z))]; exact h⟩,
      fun b o h n => by rw [upd_ne (show b ≠ a from fun z => n i (by rw [z]; exact hi))]; exact h, fun b h => by
        by_cases z : b = a
        · rw [z, upd_same]; simp
        · rw [upd_ne z]; exact h, fun _ _ h => .inl h, fun _ h => .inl h⟩
  refine ⟨e, by simp [r.len], r.nd, fun j b hj hd => r.nf j b hj (fun z => by
    by_cases e : j = i
    · subst e; exact hS z
    · exact hd (by rw [List.getElem?_set_ne (Ne.symm e)]; exact z)), fun b f => ?_, fun j b c h1 h2 => ?_⟩
  · obtain ⟨ys, h⟩ := r.fl b f
    exact ⟨ys, by rw [upd_ne (show b ≠ a from fun z => r.nf i a hi hS (by rw [← z]; exact f))]; exact h⟩
  · by_cases hj : j = i
    · subst hj
      rw [hi] at h1; cases h1
      have hl : j < S.length := by rw [← r.len]; exact (List.getElem?_eq_some_iff.mp hi).1
      rw [List.getElem?_set_self hl] at h2
      cases h2
      exact ⟨vs, upd_same, q.mono e⟩
    · rw [List.getElem?_set_ne (Ne.symm hj)] at h2
      exact (r.cell j b c h1 h2).wk e.toWk fun ys h => by rw [upd_ne (show b ≠ a from fun z => hj (r.nd j i a (by rw [← z]; exact h1) hi))]; exact h
/-- a list of the store that stands still from here on -/
theorem freeze {S : Store} (r : Rl B μ F H S) {i : Nat} {a : Ad} {ds : List D} (hi : μ[i]? = some a) (hS : S[i]? = some (.lst ds)) :
    ∃ vs, H a = some (.lst vs) ∧ Ext μ F H μ (fun b => F b ∨ b = a) H ∧ Rl B μ (fun b => F b ∨ b = a) H (S.set i .dead) ∧ Reps B μ (fun b => F b ∨ b = a) H ds vs := by
  obtain ⟨vs, h1, h2⟩ := r.cell i a _ hi hS
  have e : Ext μ F H μ (fun b => F b ∨ b = a) H := ⟨⟨fun _ _ h => h, fun _ h => .inl h, fun _ _ h => h, fun _ _ _ h => h, fun _ _ _ h => h⟩, fun _ _ h _ => h, fun _ h => h, fun _ _ h => .inl h, fun b f => f.elim .inl fun z => .inr (.inr ⟨i, by rw [z]; exact hi⟩)⟩
  have hl : i < S.length := (List.getElem?_eq_some_iff.mp hS).1
  refine ⟨vs, h1, e, ⟨by simp [r.len], r.nd, fun j b hj hd f => ?_, fun b f => ?_, fun j b c h3 h4 => ?_⟩, h2.mono e⟩
  · by_cases z : j = i
    · subst z; exact hd (List.getElem?_set_self hl)
    · rw [List.getElem?_set_ne (Ne.symm z)] at hd
      rcases f with f | f
      · exact r.nf j b hj hd f
      · rw [f] at hj; exact z (r.nd j i a hj hi)
  · rcases f with f | f
    · exact r.fl b f
    · exact ⟨vs, by rw [f]; exact h1⟩
  · by_cases z : j = i
    · subst z
      rw [List.getElem?_set_self hl] at h4
      cases h4
      rw [hi] at h3; cases h3
      exact ⟨vs, h1⟩
    · rw [List.getElem?_set_ne (Ne.symm z)] at h4
      exact (r.cell j b c h3 h4).wk e.toWk fun _ h => h
/-- the items of a list: where they stand -/
theorem items_ok {S : Store} (r : Rl B μ F H S) {d : D} {v : V} {ds : List D} (q : Rep B μ F H d v) (h : items S d = some ds) : ∃ a vs, v = .ref a ∧ SqL B.K H a vs ∧ Reps B μ F H ds vs := by
  cases q with
  | vl f h1 r1 => simp [items] at h; subst h; exact ⟨_, _, rfl, SqL.of h1, r1⟩
  | vs h1 r1 => simp [items] at h; subst h; exact ⟨_, _, rfl, h1.sql, r1⟩
  | @ref i a h1 =>
    simp only [items] at h
    split at h
    · rename_i ds' hS
      cases h
      obtain ⟨a', vs, e1, e2, e3⟩ := r.lst hS
      rw [h1] at e1; cases e1
      exact ⟨_, vs, rfl, SqL.of e2, e3⟩
    · cases h
  | _ => simp [items] at h
theorem itemsH_ok {S : Store} (r : Rl B μ F H S) {d : D} {v : V} {ds : List D} (q : Rep B μ F H d v) (h : itemsH S d = some ds) : ∃ a vs, v = .ref a ∧ H a = some (.lst vs) ∧ Reps B μ F H ds vs := by
  cases q with
  | vl f h1 r1 => simp [itemsH] at h; subst h; exact ⟨_, _, rfl, h1, r1⟩
  | @ref i a h1 =>
    simp only [itemsH] at h
    split at h
    · rename_i ds' hS
      cases h
      obtain ⟨a', vs, e1, e2, e3⟩ := r.lst hS
      rw [h1] at e1; cases e1
      exact ⟨_, vs, rfl, e2, e3⟩
    · cases h
  | _ => simp [itemsH] at h
theorem seq_ok {S : Store} (r : Rl B μ F H S) {d : D} {v : V} {ds : List D} (q : Rep B μ F H d v) (h : seqOf S d = some ds) : ∃ a vs, v = .ref a ∧ (SqL B.K H a vs ∨ SqT B.K H a vs) ∧ Reps B μ F H ds vs := by
  cases q with
  | tup h1 r1 => simp [seqOf] at h; subst h; exact ⟨_, _, rfl, .inr h1, r1⟩
  | vl f h1 r1 => obtain ⟨a, vs, e, s, t⟩ := items_ok r (Rep.vl f h1 r1) (by simpa [seqOf] using h); exact ⟨a, vs, e, .inl s, t⟩
  | vs h1 r1 => obtain ⟨a, vs, e, s, t⟩ := items_ok r (Rep.vs h1 r1) (by simpa [seqOf] using h); exact ⟨a, vs, e, .inl s, t⟩
  | ref h1 => obtain ⟨a, vs, e, s, t⟩ := items_ok r (Rep.ref h1) (by simpa [seqOf] using h); exact ⟨a, vs, e, .inl s, t⟩
  | _ => simp [seqOf, items] at h
theorem lstAt_ok {S : Store} (r : Rl B μ F H S) {d : D} {v : V} {i : Nat} {ds : List D} (q : Rep B μ F H d v) (h : lstAt S d = some (i, ds)) : ∃ a vs, v = .ref a ∧ μ[i]? = some a ∧ H a = some (.lst vs) ∧ S[i]? ≠ some .dead ∧ Reps B μ F H ds vs := by
  cases q with
  | @ref j a h1 =>
    simp only [lstAt] at h
    split at h
    · rename_i ds' hS
      cases h
      obtain ⟨a', vs, e1, e2, e3⟩ := r.lst hS
      rw [h1] at e1; cases e1
      exact ⟨_, vs, rfl, h1, e2, by rw [hS]; simp, e3⟩
    · cases h
  | _ => simp [lstAt] at h
end
/-- the slots -/
def RepX (B : Bs) (μ : List Ad) (F : Fz) (H : Hp) (i : Nat) : D → V → Prop
  | .exn c fs, v => B.Ex i c fs v
  | d, v => Rep B μ F H d v
theorem RepX.of {B : Bs} {μ : List Ad} {F : Fz} {H : Hp} {i : Nat} {d : D} {v : V} (r : Rep B μ F H d v) : RepX B μ F H i d v := by
  cases r with
  | non => exact Rep.non
  | bl b => exact Rep.bl b
  | int i => exact Rep.int i
  | str x => exact Rep.str x
  | tup h q => exact Rep.tup h q
  | vl f h q => exact Rep.vl f h q
  | vs h q => exact Rep.vs h q
  | ref h => exact Rep.ref h
theorem RepX.mono {B : Bs} {μ μ' : List Ad} {F F' : Fz} {H H' : Hp} {i : Nat} {d : D} {v : V} (e : Ext μ F H μ' F' H') (h : RepX B μ F H i d v) : RepX B μ' F' H' i d v := by
  cases d with
  | exn c fs => exact h
  | non => exact Rep.mono (d := .non) e h
  | bl b => exact Rep.mono (d := .bl b) e h
  | int i => exact Rep.mono (d := .int i) e h
  | str x => exact Rep.mono (d := .str x) e h
  | tup h2 => exact Rep.mono (d := .tup h2) e h
  | vl h2 => exact Rep.mono (d := .vl h2) e h
  | sc h2 => exact Rep.mono (d := .sc h2) e h
  | ref h2 => exact Rep.mono (d := .ref h2) e h
def Sl (B : Bs) (μ : List Ad) (F : Fz) (H : Hp) (σ : Slots) (τ : L2.St) : Prop :=
  σ.length = τ.length ∧ ∀ (i : Nat) (d : D), σ[i]? = some (some d) → ∃ v, τ[i]? = some (some v) ∧ RepX B μ F H i d v
theorem Sl.mono {B : Bs} {μ μ' : List Ad} {F F' : Fz} {H H' : Hp} {σ : Slots} {τ : L2.St} (e : Ext μ F H μ' F' H') (h : Sl B μ F H σ τ) : Sl B μ' F' H' σ τ :=
  ⟨h.1, fun i d q => let ⟨v, a, b⟩ := h.2 i d q; ⟨v, a, b.mono e⟩⟩
theorem Sl.set {B : Bs} {μ : List Ad} {F : Fz} {H : Hp} {σ : Slots} {τ : L2.St} (h : Sl B μ F H σ τ) {d : D} {v : V} (r : Rep B μ F H d v) (i : Nat) : Sl B μ F H (σ.set i (some d)) (τ.set i (some v)) := by
  refine ⟨by simp [h.1], fun j e q => ?_⟩
  by_cases hj : j = i
  · subst hj
    have hl : j < σ.length := by
      have := (List.getElem?_eq_some_iff.mp q).1
      simpa using this
    rw [List.getElem?_set_self hl] at q
    cases q
    exact ⟨v, by rw [List.getElem?_set_self (by rw [← h.1]; exact hl)], .of r⟩
  · rw [List.getElem?_set_ne (Ne.symm hj)] at q
    rw [List.getElem?_set_ne (Ne.symm hj)]
    exact h.2 j e q
end SL
/-! Readings by the evaluator; operators by values. -/
namespace SL
open PySem PySem.Spec PyProof.Rows L2
abbrev WG := Nat → List D → List Ad → Fz → Hp → Prop
/-- what comes out, wherever the new objects stand -/
def PostG {α : Type} (B : Bs) (W : WG) (μ : List Ad) (F : Fz) (H : Hp) (r : Res α) (G : α → Store → List Ad → Fz → Hp → Prop) : Prop :=
  match r with
  | .ok a S => ∀ μ' F' H', Ext μ F H μ' F' H' → Rl B μ' F' H' S → G a S μ' F' H'
  | .exc c fs S => ∀ μ' F' H', Ext μ F H μ' F' H' → Rl B μ' F' H' S → W c fs μ' F' H'
  | .stuck => False
section
variable {α β : Type} {B : Bs} {W : WG} {μ μ' : List Ad} {F F' : Fz} {H H' : Hp} {r : Res α} {G G' : α → Store → List Ad → Fz → Hp → Prop}
theorem PostG.base (h : PostG B W μ F H r G) (e : Ext μ F H μ' F' H') : PostG B W μ' F' H' r G := by
  cases r with
  | ok a S => exact fun μ2 F2 H2 e2 => h μ2 F2 H2 (e.trans e2)
  | exc c fs S => exact fun μ2 F2 H2 e2 => h μ2 F2 H2 (e.trans e2)
  | stuck => exact h
theorem PostG.bind {k : α → Store → Res β} {K : β → Store → List Ad → Fz → Hp → Prop} (h : PostG B W μ F H (r.bind k) K) :
    PostG B W μ F H r fun a S μ' F' H' => PostG B W μ' F' H' (k a S) K := by
  cases r with
  | ok a S => exact fun μ2 F2 H2 e2 _ => PostG.base (r := k a S) h e2
  | exc c fs S => exact h
  | stuck => exact h
theorem PostG.imp (h : PostG B W μ F H r G) (k : ∀ a S μ' F' H', r = .ok a S → Ext μ F H μ' F' H' → Rl B μ' F' H' S → G a S μ' F' H' → G' a S μ' F' H') : PostG B W μ F H r G' := by
  cases r with
  | ok a S => exact fun μ2 F2 H2 e2 r2 => k a S μ2 F2 H2 rfl e2 r2 (h μ2 F2 H2 e2 r2)
  | exc c fs S => exact h
  | stuck => exact h
end
/-- the static part: core program, classes -/
structure Tb where
  P : Prog
  cl : Nat → Value
  nc : Nat
  na : Nat
/-- how what is raised lies -/
def XR (T : Tb) (c : Nat) (fs : List D) (d : Option Ad) (H : Hp) : Prop := c < T.nc ∧ fs = [] ∧ d = none
def wE (T : Tb) (W : WX) (τ : L2.St) : WG := fun c fs μ F H => ∀ d, XR T c fs d H → W (T.cl c) d τ H
/-- an expression's reading -/
def tE (T : Tb) (B : Bs) (W : WX) (C : Cx) (e : E) : TE := fun τ H Q => ∃ μ F S σ, Rl B μ F H S ∧ Sl B μ F H σ τ ∧
  PostG B (wE T W τ) μ F H (evE C e σ S) fun d _ μ' F' H' => ∀ v, Rep B μ' F' H' d v → Q v H'
def tEs (T : Tb) (B : Bs) (W : WX) (C : Cx) (es : Es) : TA := fun τ H Q => ∃ μ F S σ, Rl B μ F H S ∧ Sl B μ F H σ τ ∧
  PostG B (wE T W τ) μ F H (evEs C es σ S) fun ds _ μ' F' H' => ∀ vs, Reps B μ' F' H' ds vs → Q vs H'
def tEO (T : Tb) (B : Bs) (W : WX) (C : Cx) (e : EO) : TO := fun τ H Q => ∃ μ F S σ, Rl B μ F H S ∧ Sl B μ F H σ τ ∧
  PostG B (wE T W τ) μ F H (evEO C e σ S) fun i _ μ' F' H' => Q i H'
/-- a test's reading -/
def tT (T : Tb) (B : Bs) (W : WX) (C : Cx) (e : E) : TT := fun τ H Q => ∃ μ F S σ, Rl B μ F H S ∧ Sl B μ F H σ τ ∧
  PostG B (wE T W τ) μ F H (evE C e σ S) fun d _ μ' F' H' => ∃ b, d = .bl b ∧ Q b H'
section
variable {T : Tb} {B : Bs} {W : WX} {C : Cx} {μ : List Ad} {F : Fz} {H : Hp} {S : Store} {σ : Slots} {τ : L2.St}
theorem tE.go {a : E} {G : D → Store → List Ad → Fz → Hp → Prop} {Q : VK} (rl : Rl B μ F H S) (sl : Sl B μ F H σ τ) (h : PostG B (wE T W τ) μ F H (evE C a σ S) G)
    (hk : ∀ d S1 μ1 F1 H1 v, Rl B μ1 F1 H1 S1 → Sl B μ1 F1 H1 σ τ → Ext μ F H μ1 F1 H1 → G d S1 μ1 F1 H1 → Rep B μ1 F1 H1 d v → Q v H1) : tE T B W C a τ H Q :=
  ⟨μ, F, S, σ, rl, sl, h.imp fun d S1 μ1 F1 H1 _ e r g v q => hk d S1 μ1 F1 H1 v r (sl.mono e) e g q⟩
theorem tEs.go {a : Es} {G : List D → Store → List Ad → Fz → Hp → Prop} {Q : List V → Hp → Prop} (rl : Rl B μ F H S) (sl : Sl B μ F H σ τ) (h : PostG B (wE T W τ) μ F H (evEs C a σ S) G)
    (hk : ∀ d S1 μ1 F1 H1 v, Rl B μ1 F1 H1 S1 → Sl B μ1 F1 H1 σ τ → Ext μ F H μ1 F1 H1 → G d S1 μ1 F1 H1 → Reps B μ1 F1 H1 d v → Q v H1) : tEs T B W C a τ H Q :=
  ⟨μ, F, S, σ, rl, sl, h.imp fun d S1 μ1 F1 H1 _ e r g v q => hk d S1 μ1 F1 H1 v r (sl.mono e) e g q⟩
theorem tEO.go {a : EO} {G : Option Int → Store → List Ad → Fz → Hp → Prop} {Q : Option Int → Hp → Prop} (rl : Rl B μ F H S) (sl : Sl B μ F H σ τ) (h : PostG B (wE T W τ) μ F H (evEO C a σ S) G)
    (hk : ∀ d S1 μ1 F1 H1, Rl B μ1 F1 H1 S1 → Sl B μ1 F1 H1 σ τ → Ext μ F H μ1 F1 H1 → G d S1 μ1 F1 H1 → Q d H1) : tEO T B W C a τ H Q :=
  ⟨μ, F, S, σ, rl, sl, h.imp fun d S1 μ1 F1 H1 _ e r g => hk d S1 μ1 F1 H1 r (sl.mono e) e g⟩
theorem tT.go {a : E} {G : D → Store → List Ad → Fz → Hp → Prop} {Q : Bool → Hp → Prop} (rl : Rl B μ F H S) (sl : Sl B μ F H σ τ) (h : PostG B (wE T W τ) μ F H (evE C a σ S) G)
    (hk : ∀ d S1 μ1 F1 H1, Rl B μ1 F1 H1 S1 → Sl B μ1 F1 H1 σ τ → Ext μ F H μ1 F1 H1 → G d S1 μ1 F1 H1 → ∃ b, d = .bl b ∧ Q b H1) : tT T B W C a τ H Q :=
  ⟨μ, F, S, σ, rl, sl, h.imp fun d S1 μ1 F1 H1 _ e r g => hk d S1 μ1 F1 H1 r (sl.mono e) e g⟩
end
theorem PE.imp {X : L2.Cx} {e : Expr} {t t' : TE} (h : PE X e t) (k : ∀ σ H Q, t' σ H Q → t σ H Q) : PE X e t' := ⟨fun pins s σ H Q I q => h.run pins s σ H Q I (k σ H Q q)⟩
theorem PT.imp {X : L2.Cx} {e : Expr} {t t' : TT} (h : PT X e t) (k : ∀ σ H Q, t' σ H Q → t σ H Q) : PT X e t' := ⟨fun pins s σ H Q I q => h.run pins s σ H Q I (k σ H Q q)⟩
theorem PW.imp {X : L2.Cx} {e : Expr} {t t' : TT} (h : PW X e t) (k : ∀ σ H Q, t' σ H Q → t σ H Q) : PW X e t' := ⟨fun wh pins s σ H Q I q => h.run wh pins s σ H Q I (k σ H Q q)⟩
theorem PA.imp {X : L2.Cx} {e : List Expr} {t t' : TA} (h : PA X e t) (k : ∀ σ H Q, t' σ H Q → t σ H Q) : PA X e t' := ⟨fun pos pins s σ H Q I q => h.run pos pins s σ H Q I (k σ H Q q)⟩
theorem PO.imp {X : L2.Cx} {e : Option Expr} {t t' : TO} (h : PO X e t) (k : ∀ σ H Q, t' σ H Q → t σ H Q) : PO X e t' := ⟨fun pins s σ H Q I q => h.run pins s σ H Q I (k σ H Q q)⟩
theorem PS.imp {X : L2.Cx} {e : Stmt} {t t' : TS} (h : PS X e t) (k : ∀ D σ H, t' D σ H → t D σ H) : PS X e t' := ⟨fun pins s σ H D I q => h.run pins s σ H D I (k D σ H q)⟩
theorem PSs.imp {X : L2.Cx} {e : List Stmt} {t t' : TS} (h : PSs X e t) (k : ∀ D σ H, t' D σ H → t D σ H) : PSs X e t' := ⟨fun pins s σ H D I q => h.run pins s σ H D I (k D σ H q)⟩

/-! ### results -/
def Yes {α : Type} : Res α → Prop | .ok _ _ => True | _ => False
/-- an operation by values: what it does with the data -/
def r2 (B : Bs) (f : D → D → Store → Res D) : R2 := fun x y H Q => ∃ μ F S d e, Rl B μ F H S ∧ Rep B μ F H d x ∧ Rep B μ F H e y ∧
  match f d e S with
  | .ok z S' => ∀ μ' F' H', Ext μ F H μ' F' H' → Rl B μ' F' H' S' → ∀ v, Rep B μ' F' H' z v → Q v H'
  | _ => False
def rL (B : Bs) (f : List D → Store → Res D) : List V → Hp → VK → Prop := fun xs H Q => ∃ μ F S ds, Rl B μ F H S ∧ Reps B μ F H ds xs ∧
  match f ds S with
  | .ok z S' => ∀ μ' F' H', Ext μ F H μ' F' H' → Rl B μ' F' H' S' → ∀ v, Rep B μ' F' H' z v → Q v H'
  | _ => False
def rM (B : Bs) (f : D → List D → Store → Res D) : V → List V → Hp → VK → Prop := fun x xs H Q => ∃ μ F S d ds, Rl B μ F H S ∧ Rep B μ F H d x ∧ Reps B μ F H ds xs ∧
  match f d ds S with
  | .ok z S' => ∀ μ' F' H', Ext μ F H μ' F' H' → Rl B μ' F' H' S' → ∀ v, Rep B μ' F' H' z v → Q v H'
  | _ => False
/-- a new list, in the store or still -/
theorem mk_ok {B : Bs} {μ : List Ad} {F : Fz} {H : Hp} {S : Store} {o : Bool} {ds : List D} {vs : List V} {Q : VK} (rl : Rl B μ F H S) (q : Reps B μ F H ds vs)
    (h : match mk o ds S with
      | .ok z S' => ∀ μ' F' H', Ext μ F H μ' F' H' → Rl B μ' F' H' S' → ∀ v, Rep B μ' F' H' z v → Q v H'
      | _ => False) : vs.length ≤ sizeLine ∧ ∀ p, H p = none → Q (.ref p) (upd H p (.lst vs)) := by
  unfold mk at h
  by_cases hz : ds.length ≤ LINE
  · rw [if_pos hz] at h
    refine ⟨by rw [← q.length]; exact Nat.le_trans hz (by rw [sizeLine_eq]; decide), fun p n => ?_⟩
    cases o with
    | true =>
      obtain ⟨e, r⟩ := new_own rl n q
      exact h _ _ _ e r _ (.ref (by rw [← rl.len, List.getElem?_append_right (Nat.le_refl _)]; simp))
    | false =>
      obtain ⟨e, r⟩ := new_still rl (vs := vs) n
      exact h _ _ _ e r _ (.vl (.inr rfl) upd_same (q.mono e))
  · rw [if_neg hz] at h; exact h.elim
/-- a new tuple -/
theorem tup_ok {B : Bs} {μ : List Ad} {F : Fz} {H : Hp} {S : Store} {ds : List D} {vs : List V} {Q : VK} (rl : Rl B μ F H S) (q : Reps B μ F H ds vs)
    (h : ∀ μ' F' H', Ext μ F H μ' F' H' → Rl B μ' F' H' S → ∀ v, Rep B μ' F' H' (.tup ds) v → Q v H') (p : Ad) (n : H p = none) : Q (.ref p) (upd H p (.tup vs)) :=
  h _ _ _ (Ext.upd n) (rl.new n) _ (.tup (SqT.of upd_same) (q.mono (Ext.upd n)))
section
variable {X : L2.Cx} {B : Bs} (hK : B.K = X.K)
def opP : Op → Operator
  | .add => .Add | .sub => .Sub | .mul => .Mult | .fdiv => .FloorDiv | .mod => .Mod | .pow => .Pow | .band => .BitAnd | .bor => .BitOr | .bxor => .BitXor | .shr => .RShift
def cmpP : Cmp → CmpOp
  | .eq => .Eq | .ne => .NotEq | .lt => .Lt | .le => .LtE | .gt => .Gt | .ge => .GtE | .isin => .In | .notin => .NotIn | .is => .Is | .isnot => .IsNot
theorem mul_line {i j : Int} (h : i.natAbs.log2 + j.natAbs.log2 < 100000000) : IntMulOk i j := by
  have q : ∀ z : Int, Builtin.Int.intBits z ≤ z.natAbs.log2 + 1 := by
    intro z
    simp only [Builtin.Int.intBits]
    split <;> omega
  have q1 := q i
  have q2 := q j
  have hl : bitsLine = 134217728 := by decide
  intro z
  simp only [Bool.and_eq_true, Builtin.Int.intTooBig, decide_eq_true_eq] at z
  have w := z.2
  rw [hl] at w
  omega
theorem mulOk_ok {i j : Int} (h : mulOk i j = true) : IntMulOk i j := by
  unfold mulOk at h
  simp only [Bool.or_eq_true, decide_eq_true_eq] at h
  rcases h with (h | h) | h
  · exact .of_left (intBits_le_64 (by omega) (by omega))
  · exact .of_right (intBits_le_64 (by omega) (by omega))
  · exact mul_line h
theorem bitNot_eq (x : Int) : Builtin.bitNot x = -x - 1 := by
  first | rfl | (unfold Builtin.bitNot; omega) | simp [Builtin.bitNot]
end
end SL
namespace SL
open PySem PySem.Spec PyProof.Rows L2
/-- a tuple so many times: itself -/
theorem tmul_same (l : Ad) (items : Array Value) (n : Nat) (dd : Option Ad) (sl : Array (Option Value)) (x : Int) (u : Tok) (c0 : (decide (x < -(2 ^ 63)) || decide (x ≥ 2 ^ 63)) = false) (c1 : (items.isEmpty || x == 1) = true) :
    Meets (Builtin.«tuple.__mul__» ⟨[.ref l, .int x u], []⟩) (fun _ R s => s.heap.get? l = some { cls := .type "tuple", dict := dd, data := .seq items n, slots := sl } ∧ R (.ok (.ret (.ref l))) s) :=
  .of_wp fun prog w A R s h => by
    obtain ⟨hp, g, d, tk, os⟩ := s; obtain ⟨hl, h⟩ := h; have f1 := AutoSeq1.idx_int
    have hT : ({ heap := hp, gens := g, drawn := d, toks := tk, os := os } : Shared).TypeIs (.ref l) "tuple" := ⟨_, hl, rfl⟩
    wp_walk using wpAny_loadPart' hl, wpAny_typeOf hT
    repeat (first
      | (refine wpAny_ite_false (decide_eq_false (by rw [c0]; exact Bool.false_ne_true)) ?_; wp_walk using wpAny_loadPart' hl, wpAny_typeOf hT)
      | (refine wpAny_ite_true (decide_eq_true c1) ?_; wp_walk using wpAny_loadPart' hl, wpAny_typeOf hT))
    exact ⟨_, rfl, h⟩
theorem tmul_none (l : Ad) (items : Array Value) (n : Nat) (dd : Option Ad) (sl : Array (Option Value)) (x : Int) (u : Tok) (c0 : (decide (x < -(2 ^ 63)) || decide (x ≥ 2 ^ 63)) = false) (c1 : (items.isEmpty || x == 1) = false) (c2 : (decide (x ≤ 0) || items.isEmpty) = true) :
    Meets (Builtin.«tuple.__mul__» ⟨[.ref l, .int x u], []⟩) (fun _ R s => s.heap.get? l = some { cls := .type "tuple", dict := dd, data := .seq items n, slots := sl } ∧
      R (.ok (.ret (Value.ref s.heap.objs.size))) { s with heap := s.heap.push { cls := Value.type "tuple", data := Data.seq #[] }, toks := s.toks }) :=
  .of_wp fun prog w A R s h => by
    obtain ⟨hp, g, d, tk, os⟩ := s; obtain ⟨hl, h⟩ := h; have f1 := AutoSeq1.idx_int
    wp_walk using wpAny_loadPart' hl
    repeat (first
      | (refine wpAny_ite_false (decide_eq_false (by rw [c0]; exact Bool.false_ne_true)) ?_; wp_walk using wpAny_loadPart' hl)
      | (refine wpAny_ite_false (decide_eq_false (by rw [c1]; exact Bool.false_ne_true)) ?_; wp_walk using wpAny_loadPart' hl)
      | (refine wpAny_ite_true (decide_eq_true c2) ?_; wp_walk using wpAny_loadPart' hl))
    exact ⟨_, rfl, h⟩
/-- a tuple so many times, any number -/
def rRepA (K : PySem.W.Frag) : R2 := fun x y H Q => ∃ l k xs, x = .ref l ∧ y = .int k ∧ SqT K H l xs ∧ k ≤ 1000 ∧ -1000000 ≤ k ∧ xs.length ≤ 1000 ∧
  (xs = [] ∨ k = 1 → Q (.ref l) H) ∧ (xs ≠ [] → k ≠ 1 → ∀ p, H p = none → Q (.ref p) (upd H p (.tup (List.replicate k.toNat xs).flatten)))
theorem op_repA {X : L2.Cx} : OpR X (binaryOp .Mult) (rRepA X.K) := by
  intro pins s σ H x y v u Q I rx ry h
  obtain ⟨l, k, xs, rfl, rfl, hT, h1, h2, hz, q1, q2⟩ := h
  by_cases hs : xs = [] ∨ k = 1
  · cases rx
    obtain ⟨t, rfl⟩ := ry
    obtain ⟨its, r, ⟨⟨cls, dd, data, sl⟩, ho, hc, n, hd⟩, hz2⟩ := I.tuple hT
    simp only at hc hd
    subst hc hd
    have c0 : (decide (k < -(2 ^ 63)) || decide (k ≥ 2 ^ 63)) = false := by rw [decide_eq_false (by omega), decide_eq_false (by omega)]; rfl
    have c1 : (its.toArray.isEmpty || k == 1) = true := by
      rcases hs with h | h
      · subst h; cases r; rfl
      · subst h; simp
    refine wpAny_binaryOp_repeat_ref (T := "tuple") (U := "int") (by decide) ⟨_, ho, rfl⟩ (fun s' => typeIs_int s' k t) noFill_tuple_mul F.fills_int_mul F.slot_int_rmul repeat_tuple F.slot_int_index.lookup
      (call_meets F.slot_int_rmul (typeIs_int s k t) F.entry_int_rmul (F.args_int_rmul_2 _ _) (int_rmul_tuple k t l its.toArray n dd sl) ⟨ho, rfl, ⟨_, ho, rfl⟩, call_meets F.slot_tuple_mul ⟨_, ho, rfl⟩ F.entry_tuple_mul (F.args_tuple_mul_2 _ _) (tmul_same l its.toArray n dd sl k t c0 c1) ⟨ho, ?_⟩⟩)
    exact ⟨.ref l, H, I, rfl, q1 hs⟩
  · have hn : xs ≠ [] := fun z => hs (.inl z)
    have hk : k ≠ 1 := fun z => hs (.inr z)
    by_cases h3 : 2 ≤ k
    · exact op_repT pins s σ H _ _ v u Q I rx ry ⟨l, k, xs, rfl, rfl, hT, hn, h3, h1, hz, q2 hn hk⟩
    · cases rx
      obtain ⟨t, rfl⟩ := ry
      obtain ⟨its, r, ⟨⟨cls, dd, data, sl⟩, ho, hc, n, hd⟩, hz2⟩ := I.tuple hT
      simp only at hc hd
      subst hc hd
      have c0 : (decide (k < -(2 ^ 63)) || decide (k ≥ 2 ^ 63)) = false := by rw [decide_eq_false (by omega), decide_eq_false (by omega)]; rfl
      have hi : its.toArray.isEmpty = false := by
        cases its with
        | nil => cases r; exact absurd rfl hn
        | cons a b => rfl
      have c1 : (its.toArray.isEmpty || k == 1) = false := by rw [hi, Bool.false_or]; exact beq_eq_false_iff_ne.mpr hk
      have c2 : (decide (k ≤ 0) || its.toArray.isEmpty) = true := by rw [decide_eq_true (by omega), Bool.true_or]
      refine wpAny_binaryOp_repeat_ref (T := "tuple") (U := "int") (by decide) ⟨_, ho, rfl⟩ (fun s' => typeIs_int s' k t) noFill_tuple_mul F.fills_int_mul F.slot_int_rmul repeat_tuple F.slot_int_index.lookup
        (call_meets F.slot_int_rmul (typeIs_int s k t) F.entry_int_rmul (F.args_int_rmul_2 _ _) (int_rmul_tuple k t l its.toArray n dd sl) ⟨ho, rfl, ⟨_, ho, rfl⟩, call_meets F.slot_tuple_mul ⟨_, ho, rfl⟩ F.entry_tuple_mul (F.args_tuple_mul_2 _ _) (tmul_none l its.toArray n dd sl k t c0 c1 c2) ⟨ho, ?_⟩⟩)
      have e0 : (List.replicate k.toNat xs).flatten = [] := by rw [show k.toNat = 0 by omega]; rfl
      have q3 := q2 hn hk s.heap.objs.size (I.hok.fresh (Nat.le_refl _))
      rw [e0] at q3
      refine ⟨.ref s.heap.objs.size, _, I.laid (t' := s.toks) (o := .tup []) (fun b ob q => Heap.get?_push_of_some _ q) (Nat.le_refl _) ?_, rfl, q3⟩
      exact ⟨Nat.zero_le _, [], .nil, IsTup.new _ _⟩
end SL
namespace SL
open PySem PySem.Spec PyProof.Rows L2
theorem band_eq (x y : Int) : Builtin.bitAnd x y = SL.band x y := by
  have nn : ∀ k : Nat, (Builtin.bitNot (Int.negSucc k)).toNat = k := fun k => by
    show (-(Int.negSucc k) - 1).toNat = k
    omega
  cases x with
  | ofNat m =>
    cases y with
    | ofNat n => rfl
    | negSucc n =>
      show Int.ofNat m - (((Int.ofNat m).toNat &&& (Builtin.bitNot (Int.negSucc n)).toNat : Nat) : Int) = _
      rw [nn]
      rfl
  | negSucc m =>
    cases y with
    | ofNat n =>
      show Int.ofNat n - (((Int.ofNat n).toNat &&& (Builtin.bitNot (Int.negSucc m)).toNat : Nat) : Int) = _
      rw [nn]
      rfl
    | negSucc n =>
      show Builtin.bitNot (((Builtin.bitNot (Int.negSucc m)).toNat ||| (Builtin.bitNot (Int.negSucc n)).toNat : Nat) : Int) = _
      rw [nn, nn]
      rfl
theorem bor_eq (x y : Int) : Builtin.bitOr x y = SL.bor x y := by
  show Builtin.bitNot (Builtin.bitAnd (Builtin.bitNot x) (Builtin.bitNot y)) = _
  rw [band_eq]
  rfl
theorem bxor_eq (x y : Int) : Builtin.bitXor x y = SL.bxor x y := by
  show Builtin.bitOr x y - Builtin.bitAnd x y = _
  rw [band_eq, bor_eq]
  rfl
section
variable {X : L2.Cx} {B : Bs}
/-- ints by the operator -/
theorem int_ok {p : Op} {pins : List (Addr × Obj)} {s : Shared} {σ : L2.St} {H : Hp} {i j k : Int} {v u : Value} {Q : VK} (I : Inv X pins σ H s) (rx : RelV (.int i) v) (ry : RelV (.int j) u)
    (h : intOp p i j = some k) (q : Q (.int k) H) : wpAny (model X.prog X.w) X.A (binaryOp (opP p) v u) (EP X pins σ Q) X.xe s := by
  cases p with
  | add => cases h; exact op_add pins s σ H _ _ v u Q I rx ry ⟨i, j, rfl, rfl, q⟩
  | sub => cases h; exact op_sub pins s σ H _ _ v u Q I rx ry ⟨i, j, rfl, rfl, q⟩
  | mul =>
    simp only [intOp] at h
    split at h
    · rename_i hm
      cases h
      obtain ⟨t, rfl⟩ := rx
      obtain ⟨t', rfl⟩ := ry
      exact mul_int ⟨.int _, H, I.tok _, ⟨_, rfl⟩, q⟩ (mulOk_ok hm)
    · cases h
  | fdiv =>
    simp only [intOp] at h
    split at h
    · rename_i hm
      cases h
      unfold divOk at hm
      simp only [Bool.and_eq_true, decide_eq_true_eq] at hm
      obtain ⟨t, rfl⟩ := rx
      obtain ⟨t', rfl⟩ := ry
      exact floordiv_int hm.1 ⟨.int _, H, I.tok _, ⟨_, rfl⟩, q⟩ (.inl (PyProof.noPylong_of_log2 (Nat.lt_of_lt_of_le (PySem.Flt.log2_lt_of (by decide) hm.2) (by decide))))
    · cases h
  | mod =>
    simp only [intOp] at h
    split at h
    · rename_i hm
      cases h
      exact op_modN pins s σ H _ _ v u Q I rx ry ⟨i, j, rfl, rfl, hm, q⟩
    · cases h
  | pow =>
    simp only [intOp] at h
    split at h
    · rename_i hm
      cases h
      unfold powOk at hm
      simp only [Bool.and_eq_true, decide_eq_true_eq] at hm
      exact op_pow pins s σ H _ _ v u Q I rx ry ⟨i, j, rfl, rfl, ⟨hm.1.1, hm.1.2, hm.2⟩, q⟩
    · cases h
  | band => cases h; exact op_and pins s σ H _ _ v u Q I rx ry ⟨i, j, rfl, rfl, by show Q (.int (Builtin.bitAnd i j)) H; rw [band_eq]; exact q⟩
  | bor => cases h; exact op_or pins s σ H _ _ v u Q I rx ry ⟨i, j, rfl, rfl, by show Q (.int (Builtin.bitOr i j)) H; rw [bor_eq]; exact q⟩
  | bxor => cases h; exact op_xor pins s σ H _ _ v u Q I rx ry ⟨i, j, rfl, rfl, by show Q (.int (Builtin.bitXor i j)) H; rw [bxor_eq]; exact q⟩
  | shr =>
    simp only [intOp] at h
    split at h
    · rename_i hm
      cases h
      exact op_shr pins s σ H _ _ v u Q I rx ry ⟨i, j, rfl, rfl, hm, q⟩
    · cases h
theorem line_le {n : Nat} (h : n ≤ LINE) : n ≤ sizeLine := Nat.le_trans h (by rw [sizeLine_eq]; decide)
theorem size_str (a : Txt) : (Str.mk a.toArray).length = a.length := by
  show (Str.mk a.toArray).cps.size = a.length
  simp
theorem str_app (a b : Txt) : (Str.mk a.toArray ++ Str.mk b.toArray) = Str.mk (a ++ b).toArray := by
  show Str.mk (a.toArray ++ b.toArray) = _
  simp
/-- two lists joined, whatever holds them -/
def rCatL (K : PySem.W.Frag) : R2 := fun x y H Q => ∃ l b xs zs, x = .ref l ∧ y = .ref b ∧ SqL K H l xs ∧ SqL K H b zs ∧ xs.length + zs.length ≤ sizeLine ∧ ∀ p, H p = none → Q (.ref p) (upd H p (.lst (xs ++ zs)))
theorem op_catL {X : L2.Cx} : OpR X (binaryOp .Add) (rCatL X.K) := by
  intro pins s σ H x y v u Q I rx ry h
  obtain ⟨l, b, xs, zs, rfl, rfl, h1, h2, hz, q⟩ := h
  cases rx
  cases ry
  obtain ⟨its, r, ⟨⟨c1, d1, da1, sl1⟩, n, ho, hc, hn1, hd⟩, w1⟩ := I.list h1
  obtain ⟨its2, r2, ⟨⟨c2, d2, da2, sl2⟩, n2, ho2, hc2, hn2, hd2⟩, w2⟩ := I.list h2
  simp only at hc hd hc2 hd2 hn1 hn2
  subst hc hd hc2 hd2 hn1 hn2
  have hl := r.length
  have hl2 := r2.length
  refine concat_meets ⟨_, ho, rfl⟩ ⟨_, ho2, rfl⟩ noFill_list_add seq_list_add F.slot_list_add F.entry_list_add (F.args_list_add_2 _ _)
    (PyProof.Rows.list_addW l b its.toArray its2.toArray n n2 none none sl1 sl2 (by rw [List.size_toArray, List.size_toArray]; omega)) ⟨ho, ho2, ?_⟩
  have ea : its.toArray ++ its2.toArray = (its ++ its2).toArray := by simp
  rw [ea]
  exact ⟨.ref _, _, I.lnew (t' := s.toks) (r.append r2) (by rw [List.length_append]; exact hz), rfl, q _ I.fresh⟩
/-- a list by the operator: the rest of doOp -/
theorem op_list (hK : B.K = X.K) {o : Bool} {p : Op} {pins : List (Addr × Obj)} {s : Shared} {τ : L2.St} {μ : List Ad} {F : Fz} {H : Hp} {S : Store} {a b : List D} {x y : V} {v u : Value} {Q : VK} (I : Inv X pins τ H s) (rx : RelV x v) (ry : RelV y u)
    (rl : Rl B μ F H S) {d e : D} (rd : Rep B μ F H d x) (re : Rep B μ F H e y) (hd : items S d = some a) (he : items S e = some b) (hp : p = .add)
    (h : match mk o (a ++ b) S with
      | .ok z S' => ∀ μ' F' H', Ext μ F H μ' F' H' → Rl B μ' F' H' S' → ∀ v, Rep B μ' F' H' z v → Q v H'
      | _ => False) : wpAny (model X.prog X.w) X.A (binaryOp (opP p) v u) (EP X pins τ Q) X.xe s := by
  subst hp
  obtain ⟨l, xs, rfl, h1, q1⟩ := items_ok rl rd hd
  obtain ⟨m, ys, rfl, h2, q2⟩ := items_ok rl re he
  rw [hK] at h1 h2
  obtain ⟨z, k⟩ := mk_ok rl (q1.append q2) h
  exact op_catL pins s τ H _ _ v u Q I rx ry ⟨l, m, xs, ys, rfl, rfl, h1, h2, by rw [← List.length_append]; exact z, k⟩
theorem op_rept {o : Bool} {p : Op} {pins : List (Addr × Obj)} {s : Shared} {τ : L2.St} {μ : List Ad} {F : Fz} {H : Hp} {S : Store} {a : List D} {x : V} {k : Int} {v u : Value} {Q : VK} (I : Inv X pins τ H s) (rx : RelV x v) (ry : RelV (.int k) u)
    (rl : Rl B μ F H S) {d : D} (rd : Rep B μ F H d x) (hd : itemsH S d = some a) (hp : p = .mul ∧ k ≤ 1000000 ∧ -1000000 ≤ k ∧ a.length * k.toNat ≤ LINE)
    (h : match mk o (List.replicate k.toNat a).flatten S with
      | .ok z S' => ∀ μ' F' H', Ext μ F H μ' F' H' → Rl B μ' F' H' S' → ∀ v, Rep B μ' F' H' z v → Q v H'
      | _ => False) : wpAny (model X.prog X.w) X.A (binaryOp (opP p) v u) (EP X pins τ Q) X.xe s := by
  obtain ⟨rfl, k1, k2, k3⟩ := hp
  obtain ⟨l, xs, rfl, h1, q1⟩ := itemsH_ok rl rd hd
  obtain ⟨z, kk⟩ := mk_ok rl (q1.rep k.toNat) h
  exact op_rep pins s τ H _ _ v u Q I rx ry ⟨l, k, xs, rfl, rfl, h1, by omega, by omega, line_le (by rw [← q1.length]; exact k3), kk⟩
theorem opL_ok (hK : B.K = X.K) {o : Bool} {p : Op} {pins : List (Addr × Obj)} {s : Shared} {τ : L2.St} {μ : List Ad} {F : Fz} {H : Hp} {S : Store} {x y : V} {v u : Value} {Q : VK} (I : Inv X pins τ H s) (rx : RelV x v) (ry : RelV y u)
    (rl : Rl B μ F H S) {d e : D} (rd : Rep B μ F H d x) (re : Rep B μ F H e y)
    (h : match doOpL o p d e S with
      | .ok z S' => ∀ μ' F' H', Ext μ F H μ' F' H' → Rl B μ' F' H' S' → ∀ v, Rep B μ' F' H' z v → Q v H'
      | _ => False) : wpAny (model X.prog X.w) X.A (binaryOp (opP p) v u) (EP X pins τ Q) X.xe s := by
  have eq : (∀ k, e ≠ .int k) → doOpL o p d e S = doCat o p (items S d) (items S e) S := fun ne => by
    unfold doOpL
    split
    · rename_i k; exact absurd rfl (ne k)
    · rfl
  have no : items S e = none → (∀ k, e ≠ .int k) → ∀ q : Prop, q := fun he ne q => by
    exfalso
    rw [eq ne, he] at h
    have z : doCat o p (items S d) none S = .stuck := by unfold doCat; cases items S d <;> rfl
    rw [z] at h
    exact h
  have yes : ∀ b, items S e = some b → (∀ k, e ≠ .int k) → wpAny (model X.prog X.w) X.A (binaryOp (opP p) v u) (EP X pins τ Q) X.xe s := fun b he ne => by
    rw [eq ne, he] at h
    cases hd : items S d with
    | none => rw [hd] at h; exact h.elim
    | some a =>
      rw [hd] at h
      simp only [doCat] at h
      by_cases hp : p = .add
      · rw [if_pos hp] at h; exact op_list hK I rx ry rl rd re hd he hp h
      · rw [if_neg hp] at h; exact h.elim
  cases re with
  | int k =>
    unfold doOpL at h
    simp only at h
    cases hd : itemsH S d with
    | none => rw [hd] at h; exact h.elim
    | some a =>
      rw [hd] at h
      simp only at h
      by_cases hp : p = .mul ∧ k ≤ 1000000 ∧ -1000000 ≤ k ∧ a.length * k.toNat ≤ LINE
      · rw [if_pos hp] at h; exact op_rept I rx ry rl rd hd hp h
      · rw [if_neg hp] at h; exact h.elim
  | vl f h1 q1 => exact yes _ rfl (fun _ z => nomatch z)
  | vs h1 q1 => exact yes _ rfl (fun _ z => nomatch z)
  | @ref i a h1 =>
    cases he : items S (.ref i) with
    | none => exact no he (fun _ z => nomatch z) _
    | some b => exact yes b he (fun _ z => nomatch z)
  | non => exact no rfl (fun _ z => nomatch z) _
  | bl _ => exact no rfl (fun _ z => nomatch z) _
  | str _ => exact no rfl (fun _ z => nomatch z) _
  | tup _ _ => exact no rfl (fun _ z => nomatch z) _
theorem op_ok (hK : B.K = X.K) (o : Bool) (p : Op) : OpR X (binaryOp (opP p)) (r2 B (doOp o p)) := by
  intro pins s τ H x y v u Q I rx ry hq
  obtain ⟨μ, F, S, d, e, rl, rd, re, h⟩ := hq
  cases rd with
  | int i =>
    cases re with
    | int j =>
      simp only [doOp] at h
      cases ho : intOp p i j with
      | none => rw [ho] at h; exact h.elim
      | some k => rw [ho] at h; exact int_ok I rx ry ho (h _ _ _ (Ext.refl _ _ _) rl _ (.int k))
    | _ => exact h.elim
  | str a =>
    cases re with
    | str b =>
      simp only [doOp] at h
      by_cases hp : p = .add ∧ a.length + b.length ≤ LINE
      · rw [if_pos hp] at h
        obtain ⟨rfl, hz⟩ := hp
        refine op_add_str pins s τ H _ _ v u Q I rx ry ⟨_, _, rfl, rfl, by rw [size_str, size_str]; exact line_le hz, ?_⟩
        rw [str_app]
        exact h _ _ _ (Ext.refl _ _ _) rl _ (.str _)
      · rw [if_neg hp] at h; exact h.elim
    | _ => exact h.elim
  | @tup ad vs a h1 q1 =>
    cases re with
    | @tup ad2 vs2 b h2 q2 =>
      simp only [doOp] at h
      by_cases hp : p = .add ∧ a.length + b.length ≤ LINE
      · rw [if_pos hp] at h
        obtain ⟨rfl, hz⟩ := hp
        rw [hK] at h1 h2
        refine op_catA pins s τ H _ _ v u Q I rx ry ⟨_, _, vs, vs2, rfl, rfl, h1, h2, by rw [← q1.length, ← q2.length]; exact line_le hz, fun e => ?_, fun n e => ?_, fun n1 n2 => tup_ok rl (q1.append q2) h⟩
        · subst e
          have : a = [] := List.eq_nil_of_length_eq_zero q1.length
          subst this
          exact h _ _ _ (Ext.refl _ _ _) rl _ (.tup (by rw [hK]; exact h2) q2)
        · subst e
          have : b = [] := List.eq_nil_of_length_eq_zero q2.length
          subst this
          rw [List.append_nil] at h
          exact h _ _ _ (Ext.refl _ _ _) rl _ (.tup (by rw [hK]; exact h1) q1)
      · rw [if_neg hp] at h; exact h.elim
    | int k =>
      simp only [doOp] at h
      by_cases hp : p = .mul ∧ a.length ≤ 1000 ∧ k ≤ 1000 ∧ -1000000 ≤ k
      · rw [if_pos hp] at h
        obtain ⟨rfl, z2, z3, z4⟩ := hp
        rw [hK] at h1
        refine op_repA pins s τ H _ _ v u Q I rx ry ⟨_, k, vs, rfl, rfl, h1, z3, z4, by rw [← q1.length]; exact z2, fun e => ?_, fun n1 n2 => tup_ok rl (q1.rep _) h⟩
        have e2 : (List.replicate k.toNat a).flatten = a := by
          rcases e with e | e
          · have : a = [] := List.eq_nil_of_length_eq_zero (by rw [q1.length, e]; rfl)
            rw [this]; simp
          · rw [e]; simp
        rw [e2] at h
        exact h _ _ _ (Ext.refl _ _ _) rl _ (.tup (by rw [hK]; exact h1) q1)
      · rw [if_neg hp] at h; exact h.elim
    | _ => exact h.elim
  | vl f h1 q1 => exact opL_ok hK I rx ry rl (.vl f h1 q1) re h
  | vs h1 q1 => exact opL_ok hK I rx ry rl (.vs h1 q1) re h
  | ref h1 => exact opL_ok hK I rx ry rl (.ref h1) re h
  | non => exact opL_ok hK I rx ry rl .non re h
  | bl b => exact opL_ok hK I rx ry rl (.bl b) re h

/-! ### comparisons -/
end
end SL
namespace SL
open PySem PySem.Spec PyProof.Rows L2
mutual
def toPy : D → PyData
  | .non => .none
  | .bl b => .bool b
  | .int i => .int i
  | .str x => .str ⟨x.toArray⟩
  | .tup ds => .tuple (toPys ds)
  | .vl ds => .list (toPys ds)
  | .sc _ | .ref _ | .exn _ _ => .none
def toPys : List D → List PyData
  | [] => []
  | d :: ds => toPy d :: toPys ds
end
mutual
theorem eqv_py : ∀ (a b : D) (n m : Nat), dle a n = true → dle b m = true → PyData.eqv (toPy a) (toPy b) = eqv a b
  | .non, b, n, m, h, h' => by cases b <;> simp_all [dle, toPy, PyData.eqv, eqv]
  | .bl x, b, n, m, h, h' => by cases b <;> simp_all [dle, toPy, PyData.eqv, eqv, b2i]
  | .int x, b, n, m, h, h' => by cases b <;> simp_all [dle, toPy, PyData.eqv, eqv, b2i]
  | .str x, b, n, m, h, h' => by
    cases b with
    | str y =>
      simp only [toPy, PyData.eqv, eqv]
      rw [Bool.eq_iff_iff]
      simp
    | _ => simp_all [dle, toPy, PyData.eqv, eqv]
  | .tup x, b, n, m, h, h' => by
    cases b with
    | tup y =>
      cases n with
      | zero => simp [dle] at h
      | succ n =>
        cases m with
        | zero => simp [dle] at h'
        | succ m => simp only [dle] at h h'; simp only [toPy, PyData.eqv, eqv]; exact eqvs_py x y n m h h'
    | _ => simp_all [dle, toPy, PyData.eqv, eqv]
  | .vl x, b, n, m, h, h' => by
    cases b with
    | vl y =>
      cases n with
      | zero => simp [dle] at h
      | succ n =>
        cases m with
        | zero => simp [dle] at h'
        | succ m => simp only [dle] at h h'; simp only [toPy, PyData.eqv, eqv]; exact eqvs_py x y n m h h'
    | _ => simp_all [dle, toPy, PyData.eqv, eqv]
  | .sc x, b, n, m, h, h' => by simp [dle] at h
  | .ref x, b, n, m, h, h' => by simp [dle] at h
  | .exn c x, b, n, m, h, h' => by simp [dle] at h
theorem eqvs_py : ∀ (a b : List D) (n m : Nat), dles a n = true → dles b m = true → PyData.eqvAll (toPys a) (toPys b) = eqvs a b
  | [], b, n, m, h, h' => by cases b <;> simp_all [dles, toPys, PyData.eqvAll, eqvs]
  | x :: xs, b, n, m, h, h' => by
    cases b with
    | nil => simp [toPys, PyData.eqvAll, eqvs]
    | cons y ys =>
      simp only [dles, Bool.and_eq_true] at h h'
      simp only [toPys, PyData.eqvAll, eqvs]
      rw [eqv_py x y n m h.1 h'.1, eqvs_py xs ys n m h.2 h'.2]
end
mutual
theorem dle_lay : ∀ (a : D) (n : Nat), dle a n = true → (toPy a).canLay0 = true ∧ (toPy a).depth ≤ n
  | .non, n, h => by simp [toPy, PyData.canLay0, PyData.depth]
  | .bl x, n, h => by simp [toPy, PyData.canLay0, PyData.depth]
  | .int x, n, h => by simp [toPy, PyData.canLay0, PyData.depth]
  | .str x, n, h => by
    refine ⟨?_, by simp [toPy, PyData.depth]⟩
    simp only [dle] at h
    simp only [toPy, PyData.canLay0, PyData.strOk]
    simpa using h
  | .tup x, n, h => by
    cases n with
    | zero => simp [dle] at h
    | succ n =>
      simp only [dle] at h
      obtain ⟨h1, h2⟩ := dles_lay x n h
      exact ⟨by simpa [toPy, PyData.canLay0] using h1, by simpa [toPy, PyData.depth] using h2⟩
  | .vl x, n, h => by
    cases n with
    | zero => simp [dle] at h
    | succ n =>
      simp only [dle] at h
      obtain ⟨h1, h2⟩ := dles_lay x n h
      exact ⟨by simpa [toPy, PyData.canLay0] using h1, by simpa [toPy, PyData.depth] using h2⟩
  | .sc x, n, h => by simp [dle] at h
  | .ref x, n, h => by simp [dle] at h
  | .exn c x, n, h => by simp [dle] at h
theorem dles_lay : ∀ (a : List D) (n : Nat), dles a n = true → PyData.canLayAll0 (toPys a) = true ∧ PyData.depthAll (toPys a) ≤ n
  | [], n, h => by simp [toPys, PyData.canLayAll0, PyData.depthAll]
  | x :: xs, n, h => by
    simp only [dles, Bool.and_eq_true] at h
    obtain ⟨h1, h2⟩ := dle_lay x n h.1
    obtain ⟨h3, h4⟩ := dles_lay xs n h.2
    refine ⟨by simp [toPys, PyData.canLayAll0, h1, h3], ?_⟩
    simp only [toPys, PyData.depthAll]
    omega
end
theorem dle_shaped {a : D} (h : dle a 64 = true) : SeqAt.shaped (toPy a) = true := by
  obtain ⟨h1, h2⟩ := dle_lay a 64 h
  simp [SeqAt.shaped, h1, h2]
section
variable {B : Bs} {μ : List Ad} {F : Fz} {H : Hp}
mutual
theorem Rep.dp : ∀ {n : Nat} {d : D} {v : V}, Rep B μ F H d v → dle d n = true → Dp B.K H v (toPy d)
  | _, _, _, .non, _ => .non
  | _, _, _, .bl b, _ => .bl b
  | _, _, _, .int i, _ => .int i
  | _, _, _, .str x, _ => .str _
  | 0, _, _, .tup h r, hd => by simp [dle] at hd
  | n + 1, _, _, .tup h r, hd => by simp only [dle] at hd; simp only [toPy]; exact .tup h (Reps.dp r hd)
  | 0, _, _, .vl f h r, hd => by simp [dle] at hd
  | n + 1, _, _, .vl f h r, hd => by simp only [dle] at hd; simp only [toPy]; exact .lst (SqL.of h) (Reps.dp r hd)
  | n, _, _, .vs h r, hd => by simp [dle] at hd
  | n, _, _, .ref h, hd => by simp [dle] at hd
theorem Reps.dp : ∀ {n : Nat} {ds : List D} {vs : List V}, Reps B μ F H ds vs → dles ds n = true → DpAll B.K H vs (toPys ds)
  | _, _, _, .nil, _ => .nil
  | n, _, _, .cons r t, hd => by
    simp only [dles, Bool.and_eq_true] at hd
    simp only [toPys]
    exact .cons (Rep.dp r hd.1) (Reps.dp t hd.2)
end
theorem top_dp {S : Store} (rl : Rl B μ F H S) {d : D} {v : V} (r : Rep B μ F H d v) (h : dle (top S d) 64 = true) : Dp B.K H v (toPy (top S d)) := by
  cases r with
  | vs h1 q1 =>
    simp only [top, dle] at h
    simp only [top, toPy]
    exact .lst h1.sql (Reps.dp q1 h)
  | @ref i a h1 =>
    simp only [top] at h ⊢
    cases hS : S[i]? with
    | none => rw [hS] at h; simp [dle] at h
    | some c =>
      cases c with
      | lst ds =>
        rw [hS] at h
        obtain ⟨a', vs, e1, e2, e3⟩ := rl.lst hS
        rw [h1] at e1; cases e1
        simp only [dle] at h
        simp only [toPy]
        exact .lst (SqL.of e2) (Reps.dp e3 h)
      | dic k => rw [hS] at h; simp [dle] at h
      | dead => rw [hS] at h; simp [dle] at h
  | non => exact Rep.dp (μ := μ) (F := F) .non h
  | bl b => exact Rep.dp (μ := μ) (F := F) (.bl b) h
  | int i => exact Rep.dp (μ := μ) (F := F) (.int i) h
  | str x => exact Rep.dp (μ := μ) (F := F) (.str x) h
  | tup h1 q => exact Rep.dp (.tup h1 q) h
  | vl f h1 q => exact Rep.dp (.vl f h1 q) h
/-- == and != -/
theorem eq_ok {X : L2.Cx} (hK : B.K = X.K) (hu : X.A.units + 64 < cLine) {pins : List (Addr × Obj)} {s : Shared} {τ : L2.St} {S : Store} {x y : V} {v u : Value} {Q : VK} (I : Inv X pins τ H s) (rx : RelV x v) (ry : RelV y u)
    (rl : Rl B μ F H S) {d e : D} (rd : Rep B μ F H d x) (re : Rep B μ F H e y) {b : Bool} (h : eqB d e S = some b) :
    (Q (.bl b) H → wpAny (model X.prog X.w) X.A (compareOp .Eq v u) (EP X pins τ Q) X.xe s) ∧ (Q (.bl (!b)) H → wpAny (model X.prog X.w) X.A (compareOp .NotEq v u) (EP X pins τ Q) X.xe s) := by
  have gen : dle (top S d) 64 = true → dle (top S e) 64 = true → eqv (top S d) (top S e) = b → (Q (.bl b) H → wpAny (model X.prog X.w) X.A (compareOp .Eq v u) (EP X pins τ Q) X.xe s) ∧ (Q (.bl (!b)) H → wpAny (model X.prog X.w) X.A (compareOp .NotEq v u) (EP X pins τ Q) X.xe s) := by
    intro h1 h2 h3
    have d1 := top_dp rl rd h1
    have d2 := top_dp rl re h2
    rw [hK] at d1 d2
    have ee : PyData.eqv (toPy (top S d)) (toPy (top S e)) = b := by rw [eqv_py _ _ 64 64 h1 h2, h3]
    exact ⟨fun q => op_eqD hu pins s τ H x y v u Q I rx ry ⟨_, _, d1, d2, dle_shaped h1, dle_shaped h2, by rw [ee]; exact q⟩,
      fun q => op_neD hu pins s τ H x y v u Q I rx ry ⟨_, _, d1, d2, dle_shaped h1, dle_shaped h2, by rw [ee]; exact q⟩⟩
  unfold eqB at h
  split at h
  · cases h
    cases rd
    cases re
    rename_i i j
    have e1 : decide (V.int i = V.int j) = decide (i = j) := by simp
    exact ⟨fun q => op_eq pins s τ H _ _ v u Q I rx ry ⟨rfl, by rw [e1]; exact q⟩, fun q => op_ne pins s τ H _ _ v u Q I rx ry ⟨rfl, by rw [e1]; exact q⟩⟩
  · cases h
    cases rd
    cases re
    rename_i i j
    have e1 : decide (V.str (Str.mk i.toArray) = V.str (Str.mk j.toArray)) = decide (i = j) := by simp
    exact ⟨fun q => op_eq pins s τ H _ _ v u Q I rx ry ⟨rfl, by rw [e1]; exact q⟩, fun q => op_ne pins s τ H _ _ v u Q I rx ry ⟨rfl, by rw [e1]; exact q⟩⟩
  · split at h
    · rename_i hd
      simp only [Bool.and_eq_true] at hd
      exact gen hd.1 hd.2 (Option.some.inj h)
    · cases h
theorem eqV_flat {d e : D} {x y : V} (rd : Rep B μ F H d x) (re : Rep B μ F H e y) (fd : flat d = true) (fe : flat e = true) : eqV x y = eqv d e := by
  cases rd <;> first | exact absurd fd Bool.false_ne_true | skip
  all_goals (cases re <;> first | exact absurd fe Bool.false_ne_true | skip)
  all_goals (first | (simp [eqV, eqv, b2i]; done) | (simp only [eqV, eqv]; rw [Bool.eq_iff_iff]; simp))
theorem flatV_of {d : D} {x : V} (rd : Rep B μ F H d x) (fd : flat d = true) : flatV x = true := by
  cases rd <;> first | rfl | exact absurd fd Bool.false_ne_true
theorem inV_flat {d : D} {x : V} (rd : Rep B μ F H d x) (fd : flat d = true) : ∀ {ds : List D} {vs : List V}, Reps B μ F H ds vs → ds.all flat = true → vs.all flatV = true ∧ inV x vs = inL d ds
  | _, _, .nil, _ => ⟨rfl, rfl⟩
  | _, _, .cons r t, h => by
    simp only [List.all_cons, Bool.and_eq_true] at h
    obtain ⟨h1, h2⟩ := inV_flat rd fd t h.2
    refine ⟨by simp [flatV_of r h.1, h1], ?_⟩
    have e := eqV_flat r rd h.1 fd
    unfold inV inL at *
    rw [List.any_cons, List.any_cons, e, h2]
theorem in_seq_ok {X : L2.Cx} (hK : B.K = X.K) {pins : List (Addr × Obj)} {s : Shared} {τ : L2.St} {S : Store} {x y : V} {v u : Value} {Q : VK} (I : Inv X pins τ H s) (rx : RelV x v) (ry : RelV y u)
    (rl : Rl B μ F H S) {d e : D} (rd : Rep B μ F H d x) (re : Rep B μ F H e y) {b : Bool} (h : inSeq d e S = some b) :
    (Q (.bl b) H → wpAny (model X.prog X.w) X.A (compareOp .In v u) (EP X pins τ Q) X.xe s) ∧ (Q (.bl (!b)) H → wpAny (model X.prog X.w) X.A (compareOp .NotIn v u) (EP X pins τ Q) X.xe s) := by
  unfold inSeq at h
  split at h
  · rename_i ds hs
    split at h
    · rename_i hf
      simp only [Bool.and_eq_true] at hf
      obtain ⟨a, vs, rfl, hsq, q1⟩ := seq_ok rl re hs
      obtain ⟨f1, f2⟩ := inV_flat rd hf.1 q1 hf.2
      rw [hK] at hsq
      cases h
      exact ⟨fun q => op_in_seq pins s τ H _ _ v u Q I rx ry ⟨a, vs, rfl, hsq, flatV_of rd hf.1, f1, by
          show Q (.bl (inV x vs)) H
          rw [f2]
          exact q⟩,
        fun q => op_notIn_seq pins s τ H _ _ v u Q I rx ry ⟨a, vs, rfl, hsq, flatV_of rd hf.1, f1, by
          show Q (.bl (!inV x vs)) H
          rw [f2]
          exact q⟩⟩
    · cases h
  · cases h
/-- in, not in -/
theorem in_ok {X : L2.Cx} (hK : B.K = X.K) {pins : List (Addr × Obj)} {s : Shared} {τ : L2.St} {S : Store} {x y : V} {v u : Value} {Q : VK} (I : Inv X pins τ H s) (rx : RelV x v) (ry : RelV y u)
    (rl : Rl B μ F H S) {d e : D} (rd : Rep B μ F H d x) (re : Rep B μ F H e y) {b : Bool} (h : inB' d e S = some b) :
    (Q (.bl b) H → wpAny (model X.prog X.w) X.A (compareOp .In v u) (EP X pins τ Q) X.xe s) ∧ (Q (.bl (!b)) H → wpAny (model X.prog X.w) X.A (compareOp .NotIn v u) (EP X pins τ Q) X.xe s) := by
  cases e with
  | str z =>
    simp only [inB'] at h
    split at h
    · rename_i c
      cases h
      cases rd
      cases re
      exact ⟨fun q => op_in_sign pins s τ H _ _ v u Q I rx ry ⟨c, _, rfl, rfl, q⟩, fun q => op_notIn_sign pins s τ H _ _ v u Q I rx ry ⟨c, _, rfl, rfl, q⟩⟩
    · cases h
  | _ => exact in_seq_ok hK I rx ry rl rd re h
theorem cmp_ok {X : L2.Cx} (hK : B.K = X.K) (hu : X.A.units + 64 < cLine) (c : Cmp) : OpR X (compareOp (cmpP c)) (r2 B (doCmp c)) := by
  intro pins s τ H x y v u Q I rx ry hq
  obtain ⟨μ, F, S, d, e, rl, rd, re, h⟩ := hq
  unfold doCmp at h
  cases hc : cmpB c d e S with
  | none => rw [hc] at h; exact h.elim
  | some b =>
    rw [hc] at h
    have q : Q (.bl b) H := h _ _ _ (Ext.refl _ _ _) rl _ (.bl b)
    have intz : ∀ f : Int → Int → Bool, intB f d e = some b → ∃ i j, x = .int i ∧ y = .int j ∧ f i j = b := by
      intro f hf
      cases rd <;> first | (simp [intB] at hf; done) | skip
      cases re <;> first | (simp [intB] at hf; done) | skip
      exact ⟨_, _, rfl, rfl, Option.some.inj hf⟩
    cases c with
    | eq => exact (eq_ok hK hu I rx ry rl rd re hc).1 q
    | ne =>
      simp only [cmpB] at hc
      cases he : eqB d e S with
      | none => rw [he] at hc; cases hc
      | some b' =>
        rw [he] at hc
        cases hc
        exact (eq_ok hK hu I rx ry rl rd re he).2 q
    | lt => obtain ⟨i, j, rfl, rfl, e⟩ := intz _ hc; subst e; exact op_lt pins s τ H _ _ v u Q I rx ry ⟨i, j, rfl, rfl, q⟩
    | le => obtain ⟨i, j, rfl, rfl, e⟩ := intz _ hc; subst e; exact op_le pins s τ H _ _ v u Q I rx ry ⟨i, j, rfl, rfl, q⟩
    | gt => obtain ⟨i, j, rfl, rfl, e⟩ := intz _ hc; subst e; exact op_gt pins s τ H _ _ v u Q I rx ry ⟨i, j, rfl, rfl, q⟩
    | ge => obtain ⟨i, j, rfl, rfl, e⟩ := intz _ hc; subst e; exact op_ge pins s τ H _ _ v u Q I rx ry ⟨i, j, rfl, rfl, q⟩
    | is =>
      simp only [cmpB] at hc
      cases re <;> first | (cases hc; done) | skip
      have e : decide (x = V.non) = b := by
        cases rd <;> (simp at hc; simp [← hc])
      exact op_isN pins s τ H _ _ v u Q I rx ry ⟨rfl, by rw [e]; exact q⟩
    | isnot =>
      simp only [cmpB] at hc
      cases re <;> first | (cases hc; done) | skip
      have e : (!decide (x = V.non)) = b := by
        cases rd <;> (simp at hc; simp [← hc])
      exact op_notN pins s τ H _ _ v u Q I rx ry ⟨rfl, by rw [e]; exact q⟩
    | isin => exact (in_ok hK I rx ry rl rd re hc).1 q
    | notin =>
      simp only [cmpB] at hc
      cases he : inB' d e S with
      | none => rw [he] at hc; cases hc
      | some b' =>
        rw [he] at hc
        cases hc
        exact (in_ok hK I rx ry rl rd re he).2 q
end
end SL
/-! Texts: what the library says of them, by lists of signs. -/
namespace SL
open PySem PySem.Spec PyProof.Rows L2
abbrev Sx (x : Txt) : Str := ⟨x.toArray⟩
theorem toList_repr (n : Nat) : (Nat.repr n).toList = Nat.toDigits 10 n := by
  simp [Nat.repr]
theorem show_ok (i : Int) : Str.ofString (toString i) = Sx (showI i) := by
  rw [Str.ofString_eq_toList]
  cases i with
  | ofNat n =>
    have e : toString (Int.ofNat n) = Nat.repr n := rfl
    rw [e, toList_repr]
    rfl
  | negSucc n =>
    have e : (toString (Int.negSucc n)).toList = '-' :: Nat.toDigits 10 (n + 1) := by
      have : toString (Int.negSucc n) = "-" ++ Nat.repr (n + 1) := rfl
      rw [this, String.toList_append, toList_repr]
      rfl
    rw [e]
    rfl
theorem int_txt {z : Txt} (h1 : z.length ≤ 640) (h2 : z ≠ []) (h3 : z.all isDig = true) : PySem.intText? (Sx z) = some ((digV z : Nat) : Int) := by
  have h4 : NumText.AllDigits (Sx z).cps.toList := fun c hc => by
    have hc : c ∈ z := hc
    have := List.all_eq_true.mp h3 c hc
    simpa [isDig] using this
  exact intText_digits h4 h2 (by rw [size_str]; omega)
theorem joinS (a : Txt) : ∀ xs : List Txt, Str.join (Sx a) (xs.map Sx) = Sx (joinT a xs)
  | [] => rfl
  | [x] => rfl
  | x :: y :: r => by
    have h := joinS a (y :: r)
    rw [List.map_cons] at h
    show Sx x ++ Sx a ++ Str.join (Sx a) (Sx y :: r.map Sx) = _
    rw [h, str_app, str_app]
    rfl
theorem join_ok (a : Txt) (xs : List Txt) : Txt.join (Sx a) (xs.map Sx) = Sx (joinT a xs) := by
  rw [← joinS]
  exact StrLaws.glued_eq_join _ _
theorem find_ok (a : Txt) (c : Nat) : Txt.find (Sx a) ⟨#[c]⟩ = findC c a := by
  have key : ∀ i, StrLaws.At (Sx a) ⟨#[c]⟩ (Sx a).length i ↔ a[i]? = some c := fun i => StrLaws.subAt_one (Sx a) c i
  unfold Txt.find findC
  rcases StrLaws.occ_head (Sx a) ⟨#[c]⟩ 1 (Nat.le_refl 1) with ⟨h0, hn⟩ | ⟨i, r, h0, ha, hn⟩
  · rw [h0]
    have : a.findIdx? (fun x => decide (x = c)) = none := by
      rw [List.findIdx?_eq_none_iff]
      intro x hx
      obtain ⟨i, hi⟩ := List.mem_iff_getElem?.mp hx
      by_cases e : x = c
      · subst e; exact absurd ((key i).mpr hi) (hn i)
      · simp [e]
    rw [this]
  · rw [h0]
    have hi := (key i).mp ha
    obtain ⟨hl, he⟩ := List.getElem?_eq_some_iff.mp hi
    have : a.findIdx? (fun x => decide (x = c)) = some i := by
      rw [List.findIdx?_eq_some_iff_getElem]
      refine ⟨hl, by simp [he], fun j hj => ?_⟩
      have h3 : ¬ a[j]? = some c := fun z => hn j hj ((key j).mpr z)
      rw [List.getElem?_eq_getElem (by omega)] at h3
      simpa using h3
    rw [this]
theorem upper_ok : ∀ a : Txt, (a.all fun c => decide (c < 128)) = true → Txt.upper (Sx a) = Sx (a.map upC)
  | [], _ => rfl
  | c :: a, h => by
    simp only [List.all_cons, Bool.and_eq_true, decide_eq_true_eq] at h
    have e : Sx (c :: a) = (⟨#[c]⟩ : Str) ++ Sx a := by
      show _ = Sx [c] ++ Sx a
      rw [str_app]
      rfl
    have h1 := PySem.W.KOpn.upper_one h.1
    rw [e, PySem.W.KOpn.upper_app, upper_ok a h.2, h1]
    show Sx [_] ++ Sx _ = _
    rw [str_app]
    rfl
theorem strsD_ok {B : Bs} {μ : List Ad} {F : Fz} {H : Hp} : ∀ {ds : List D} {vs : List V} {xs : List Txt}, Reps B μ F H ds vs → strsD ds = some xs → vs = (xs.map Sx).map V.str
  | _, _, _, .nil, h => by simp [strsD] at h; subst h; rfl
  | _, _, xs, .cons r t, h => by
    cases r <;> first | (simp [strsD] at h; done) | skip
    simp only [strsD] at h
    obtain ⟨ys, h1, rfl⟩ := Option.map_eq_some_iff.mp h
    rw [strsD_ok t h1]
    rfl
end SL
namespace SL
open PySem PySem.Spec PyProof.Rows L2
section
variable {X : L2.Cx} {B : Bs}
theorem Reps.one {μ : List Ad} {F : Fz} {H : Hp} {d : D} {vs : List V} (h : Reps B μ F H [d] vs) : ∃ v, vs = [v] ∧ Rep B μ F H d v := by
  cases h with
  | cons r t => cases t; exact ⟨_, rfl, r⟩
theorem Reps.two {μ : List Ad} {F : Fz} {H : Hp} {d e : D} {vs : List V} (h : Reps B μ F H [d, e] vs) : ∃ v w, vs = [v, w] ∧ Rep B μ F H d v ∧ Rep B μ F H e w := by
  cases h with
  | cons r t =>
    obtain ⟨w, rfl, q⟩ := Reps.one t
    exact ⟨_, _, rfl, r, q⟩
theorem ixN_lt {n j : Nat} {i : Int} (h : L2.ixN n i = some j) : j < n := (ixN_seq h).2.1
/-- x[i] -/
theorem ix_ok (hK : B.K = X.K) : IxR X (r2 B doIx) := by
  intro ev es pins s τ H x y v u Q I rx ry hq hsub
  obtain ⟨μ, F, S, d, e, rl, rd, re, h⟩ := hq
  unfold doIx at h
  cases re with
  | int i =>
    have seq : ∀ (hh : match (match seqOf S d with | some ds => okO S ((SL.ixN ds.length i).bind fun j => ds[j]?) | none => Res.stuck) with
      | .ok z S' => ∀ μ' F' H', Ext μ F H μ' F' H' → Rl B μ' F' H' S' → ∀ v, Rep B μ' F' H' z v → Q v H'
      | _ => False), wpAny (model X.prog X.w) X.A (subscriptTail ev es v u) (EP X pins τ Q) X.xe s := by
      intro hh
      cases hs : seqOf S d with
      | none => rw [hs] at hh; exact hh.elim
      | some ds =>
        rw [hs] at hh
        simp only at hh
        obtain ⟨a, vs, rfl, hsq, q1⟩ := seq_ok rl rd hs
        rw [hK] at hsq
        cases hj : SL.ixN ds.length i with
        | none => rw [hj] at hh; exact hh.elim
        | some j =>
          rw [hj] at hh
          simp only [Option.bind_some] at hh
          cases hd : ds[j]? with
          | none => rw [hd] at hh; exact hh.elim
          | some z =>
            rw [hd] at hh
            obtain ⟨w, h1, h2⟩ := q1.get hd
            have hat : atI vs i = some w := by
              unfold atI
              rw [← q1.length]
              rw [ixN_eq] at hj
              rw [hj]
              exact h1
            have q : Q w H := hh _ _ _ (Ext.refl _ _ _) rl _ h2
            rcases hsq with hsq | hsq
            · exact ix_seq ev es pins s τ H _ _ v u Q I rx ry (.inl ⟨a, vs, i, w, rfl, rfl, hsq, hat, q⟩) hsub
            · exact ix_seq ev es pins s τ H _ _ v u Q I rx ry (.inr (.inl ⟨a, vs, i, w, rfl, rfl, hsq, hat, q⟩)) hsub
    cases rd with
    | str z =>
      simp only at h
      by_cases hz : z.length ≤ LINE
      · rw [if_pos hz] at h
        cases hj : SL.ixN z.length i with
        | none => rw [hj] at h; exact h.elim
        | some j =>
          rw [hj] at h
          simp only [Option.bind_some] at h
          cases hd : z[j]? with
          | none => rw [hd] at h; exact h.elim
          | some c =>
            rw [hd] at h
            have hat : atI (Str.mk z.toArray).cps.toList i = some c := by
              unfold atI
              have e : (Str.mk z.toArray).cps.toList = z := by simp
              rw [e]
              rw [ixN_eq] at hj
              rw [hj]
              exact hd
            exact ix_seq ev es pins s τ H _ _ v u Q I rx ry (.inr (.inr ⟨_, i, c, rfl, rfl, by rw [size_str]; exact line_le hz, hat, h _ _ _ (Ext.refl _ _ _) rl _ (.str [c])⟩)) hsub
      · rw [if_neg hz] at h; exact h.elim
    | non => exact h.elim
    | bl _ => exact h.elim
    | int _ => exact h.elim
    | tup h1 q1 => exact seq h
    | vl f h1 q1 => exact seq h
    | vs h1 q1 => exact seq h
    | ref h1 => exact seq h
  | _ => exact h.elim
theorem cutI_eq (n d : Nat) (o : Option Int) : cutI n d o = HT.sIx n d o := by
  cases o with
  | none => rfl
  | some i =>
    apply Int.ofNat.inj
    show ((cutI n d (some i) : Nat) : Int) = ((HT.sIx n d (some i) : Nat) : Int)
    rw [← HT.clip_eq]
    unfold cutI
    by_cases hc : i < 0
    · rw [if_pos hc]
      show ((if i < 0 then (max (i + n) 0).toNat else (min i n).toNat : Nat) : Int) = _
      rw [if_pos hc]
      omega
    · rw [if_neg hc]
      show ((if i < 0 then (max (i + n) 0).toNat else (min i n).toNat : Nat) : Int) = _
      rw [if_neg hc]
      omega
/-- x[a:b] -/
theorem sl_okS (hK : B.K = X.K) (o : Bool) : SlR X (fun x lo hi H Q => ∃ μ F S d, Rl B μ F H S ∧ Rep B μ F H d x ∧
    match doSl o d lo hi S with
    | .ok z S' => ∀ μ' F' H', Ext μ F H μ' F' H' → Rl B μ' F' H' S' → ∀ v, Rep B μ' F' H' z v → Q v H'
    | _ => False) := by
  intro pins s τ H x v vl vu lo hi sl Q I rx hs pl pu hq
  obtain ⟨μ, F, S, d, rl, rd, h⟩ := hq
  have lst : (hh : match (match items S d with | some ds => mk o (cutL ds lo hi) S | none => Res.stuck) with
      | .ok z S' => ∀ μ' F' H', Ext μ F H μ' F' H' → Rl B μ' F' H' S' → ∀ v, Rep B μ' F' H' z v → Q v H'
      | _ => False) → ∃ a xs, x = .ref a ∧ SqL X.K H a xs ∧ ∀ p, H p = none → Q (.ref p) (upd H p (.lst (cutV xs lo hi))) := by
    intro hh
    cases hi' : items S d with
    | none => rw [hi'] at hh; exact hh.elim
    | some ds =>
      rw [hi'] at hh
      obtain ⟨a, vs, rfl, hsq, q1⟩ := items_ok rl rd hi'
      rw [hK] at hsq
      exact ⟨a, vs, rfl, hsq, (mk_ok rl (Rep.cut q1 lo hi) hh).2⟩
  unfold doSl at h
  cases rd with
  | non => exact h.elim
  | bl _ => exact h.elim
  | int _ => exact h.elim
  | str z =>
    simp only at h
    by_cases hz : z.length ≤ LINE
    · rw [if_pos hz] at h
      refine sl_str pins s τ H _ v vl vu lo hi sl Q I rx hs pl pu ⟨_, rfl, by rw [size_str]; exact line_le hz, ?_⟩
      have e : cutS (Str.mk z.toArray) lo hi = Str.mk (cutL z lo hi).toArray := by
        unfold cutS cutL
        rw [size_str, cutI_eq, cutI_eq]
      rw [e]
      exact h _ _ _ (Ext.refl _ _ _) rl _ (.str _)
    · rw [if_neg hz] at h; exact h.elim
  | @tup a vs ds h1 q1 =>
    rw [hK] at h1
    refine sl_tupA pins s τ H _ v vl vu lo hi sl Q I rx hs pl pu ⟨a, vs, rfl, h1, fun hw => ?_, fun _ => tup_ok rl (Rep.cut q1 lo hi) h⟩
    have e : cutL ds lo hi = ds := by
      unfold cutL
      rw [cutI_eq, cutI_eq, q1.length, hw.1, hw.2, List.drop_zero, Nat.sub_zero, ← q1.length, List.take_length]
    simp only [e] at h
    exact h _ _ _ (Ext.refl _ _ _) rl _ (.tup (by rw [hK]; exact h1) q1)
  | vl f h1 q1 => exact sl_list pins s τ H _ v vl vu lo hi sl Q I rx hs pl pu (lst h)
  | vs h1 q1 => exact sl_list pins s τ H _ v vl vu lo hi sl Q I rx hs pl pu (lst h)
  | ref h1 => exact sl_list pins s τ H _ v vl vu lo hi sl Q I rx hs pl pu (lst h)

/-! ### built-ins -/
/-- those whose call is a plain one -/
inductive BiV : Bi → Str → Value → Prop where
  | len : BiV .len "len" (.builtin "len")
  | abs : BiV .abs "abs" (.builtin "abs")
  | max2 : BiV .max2 "max" (.builtin "max")
  | min2 : BiV .min2 "min" (.builtin "min")
  | sum : BiV .sum "sum" (.builtin "sum")
  | min1 : BiV .min1 "min" (.builtin "min")
  | max1 : BiV .max1 "max" (.builtin "max")
  | int : BiV .int "int" (.type "int")
  | str : BiV .str "str" (.type "str")
  | tuple : BiV .tuple "tuple" (.type "tuple")
  | list : BiV .list "list" (.type "list")
theorem intsD_ok {μ : List Ad} {F : Fz} {H : Hp} : ∀ {ds : List D} {vs : List V} {ns : List Int}, Reps B μ F H ds vs → intsD ds = some ns → vs = ns.map V.int
  | _, _, ns, .nil, h => by simp [intsD] at h; subst h; rfl
  | _, _, ns, .cons r t, h => by
    cases r <;> first | (simp [intsD] at h; done) | skip
    rename_i i
    simp only [intsD] at h
    rename_i ds vs
    cases hi : intsD ds with
    | none => rw [hi] at h; cases h
    | some ms =>
      rw [hi] at h
      cases h
      rw [intsD_ok t hi]
      rfl
theorem minL_fold : ∀ (ns : List Int) (n : Int), (ns.foldl min n = n ∨ ns.foldl min n ∈ ns) ∧ ns.foldl min n ≤ n ∧ ∀ a ∈ ns, ns.foldl min n ≤ a
  | [], n => ⟨.inl rfl, Int.le_refl _, by simp⟩
  | m :: ns, n => by
    obtain ⟨h1, h2, h3⟩ := minL_fold ns (min n m)
    simp only [List.foldl_cons, List.mem_cons]
    refine ⟨?_, by omega, fun a ha => ?_⟩
    · rcases h1 with h1 | h1
      · rw [h1]; omega
      · exact .inr (.inr h1)
    · rcases ha with rfl | ha
      · omega
      · exact h3 a ha
theorem maxL_fold : ∀ (ns : List Int) (n : Int), (ns.foldl max n = n ∨ ns.foldl max n ∈ ns) ∧ n ≤ ns.foldl max n ∧ ∀ a ∈ ns, a ≤ ns.foldl max n
  | [], n => ⟨.inl rfl, Int.le_refl _, by simp⟩
  | m :: ns, n => by
    obtain ⟨h1, h2, h3⟩ := maxL_fold ns (max n m)
    simp only [List.foldl_cons, List.mem_cons]
    refine ⟨?_, by omega, fun a ha => ?_⟩
    · rcases h1 with h1 | h1
      · rw [h1]; omega
      · exact .inr (.inr h1)
    · rcases ha with rfl | ha
      · omega
      · exact h3 a ha
theorem minL_eq {ns : List Int} {m M : Int} (h : minL ns = some m) (h1 : M ∈ ns) (h2 : ∀ a ∈ ns, M ≤ a) : M = m := by
  cases ns with
  | nil => cases h
  | cons n ns =>
    cases h
    obtain ⟨g1, g2, g3⟩ := minL_fold ns n
    have a1 : M ≤ ns.foldl min n := by
      rcases g1 with g | g
      · rw [g]; exact h2 n (by simp)
      · exact h2 _ (by simp [g])
    rcases List.mem_cons.mp h1 with rfl | h1
    · omega
    · have := g3 M h1; omega
theorem maxL_eq {ns : List Int} {m M : Int} (h : maxL ns = some m) (h1 : M ∈ ns) (h2 : ∀ a ∈ ns, a ≤ M) : M = m := by
  cases ns with
  | nil => cases h
  | cons n ns =>
    cases h
    obtain ⟨g1, g2, g3⟩ := maxL_fold ns n
    have a1 : ns.foldl max n ≤ M := by
      rcases g1 with g | g
      · rw [g]; exact h2 n (by simp)
      · exact h2 _ (by simp [g])
    rcases List.mem_cons.mp h1 with rfl | h1
    · omega
    · have := g3 M h1; omega
theorem bi_ok (hK : B.K = X.K) (hc : X.calm = true) (o : Bool) {b : Bi} {x : Str} {f : Value} (hb : BiV b x f) : CallR X f (rL B (doBi o b)) := by
  intro pins s τ H xs us Q I r hq
  obtain ⟨μ, F, S, ds, rl, q, h⟩ := hq
  have seq1 : ∀ {d : D} {v : V} {es : List D}, Rep B μ F H d v → seqOf S d = some es → ∃ p ys, v = .ref p ∧ (SqL X.K H p ys ∨ SqT X.K H p ys) ∧ Reps B μ F H es ys := by
    intro d v es rd hs
    obtain ⟨a, vs, rfl, hsq, q1⟩ := seq_ok rl rd hs
    rw [hK] at hsq
    exact ⟨a, vs, rfl, hsq, q1⟩
  cases hb with
  | len =>
    cases q with
    | nil => exact h.elim
    | cons r1 q =>
      cases q with
      | cons r2 q => simp only [doBi] at h
      | nil =>
        have gen : ∀ {d : D} {v : V}, Vals [v] us → Rep B μ F H d v → (match okO S ((seqOf S d).map fun ds => D.int ds.length) with
          | .ok z S' => ∀ μ' F' H', Ext μ F H μ' F' H' → Rl B μ' F' H' S' → ∀ v, Rep B μ' F' H' z v → Q v H'
          | _ => False) → wpAny (model X.prog X.w) X.A (PySem.call (.builtin "len") us) (EP X pins τ Q) X.xe s := by
          intro d v r rd hh
          cases hs : seqOf S d with
          | none => rw [hs] at hh; exact hh.elim
          | some es =>
            rw [hs] at hh
            obtain ⟨p, ys, rfl, hsq, q1⟩ := seq1 rd hs
            exact call_len_seq pins s τ H _ us Q I r ⟨p, ys, rfl, hsq, by rw [← q1.length]; exact hh _ _ _ (Ext.refl _ _ _) rl _ (.int _)⟩
        cases r1 with
        | str z =>
          simp only [doBi] at h
          by_cases hz : z.length ≤ LINE
          · rw [if_pos hz] at h
            exact call_len_str pins s τ H _ us Q I r ⟨_, rfl, by rw [size_str]; exact line_le hz, by rw [size_str]; exact h _ _ _ (Ext.refl _ _ _) rl _ (.int _)⟩
          · rw [if_neg hz] at h; exact h.elim
        | non => exact h.elim
        | bl _ => exact h.elim
        | int _ => exact h.elim
        | tup h1 q1 => exact gen r (.tup h1 q1) h
        | vl f h1 q1 => exact gen r (.vl f h1 q1) h
        | vs h1 q1 => exact gen r (.vs h1 q1) h
        | ref h1 => exact gen r (.ref h1) h
  | abs =>
    cases q with
    | nil => exact h.elim
    | cons r1 q =>
      cases q with
      | cons r2 q => cases r1 <;> exact h.elim
      | nil =>
        cases r1 <;> first | exact h.elim | skip
        rename_i i
        refine call_abs pins s τ H _ us Q I r ⟨i, rfl, ?_⟩
        have e : (if i < 0 then -i else i) = (i.natAbs : Int) := by split <;> omega
        rw [e]
        exact h _ _ _ (Ext.refl _ _ _) rl _ (.int _)
  | max2 =>
    cases q with
    | nil => exact h.elim
    | cons r1 q =>
      cases q with
      | nil => cases r1 <;> exact h.elim
      | cons r2 q =>
        cases r1 <;> first | exact h.elim | skip
        cases r2 <;> first | exact h.elim | skip
        cases q with
        | cons _ _ => exact h.elim
        | nil =>
          rename_i i j
          refine call_max2 hc pins s τ H _ us Q I r ⟨i, j, rfl, ?_⟩
          have e : (if j > i then j else i) = max i j := by split <;> omega
          rw [e]
          exact h _ _ _ (Ext.refl _ _ _) rl _ (.int _)
  | min2 =>
    cases q with
    | nil => exact h.elim
    | cons r1 q =>
      cases q with
      | nil => cases r1 <;> exact h.elim
      | cons r2 q =>
        cases r1 <;> first | exact h.elim | skip
        cases r2 <;> first | exact h.elim | skip
        cases q with
        | cons _ _ => exact h.elim
        | nil =>
          rename_i i j
          refine call_min2 hc pins s τ H _ us Q I r ⟨i, j, rfl, ?_⟩
          have e : (if j < i then j else i) = min i j := by split <;> omega
          rw [e]
          exact h _ _ _ (Ext.refl _ _ _) rl _ (.int _)
  | sum =>
    cases q with
    | nil => exact h.elim
    | cons r1 q =>
      cases q with
      | cons r2 q => exact h.elim
      | nil =>
        rename_i d v
        simp only [doBi] at h
        cases hi : items S d with
        | none => rw [hi] at h; exact h.elim
        | some es =>
          rw [hi] at h
          simp only [Option.bind_some] at h
          cases hn : intsD es with
          | none => rw [hn] at h; exact h.elim
          | some ns =>
            rw [hn] at h
            obtain ⟨a, vs, rfl, hsq, q1⟩ := items_ok rl r1 hi
            rw [hK] at hsq
            have e := intsD_ok q1 hn
            subst e
            exact cr_sum hc pins s τ H _ us Q I r ⟨a, ns, rfl, hsq, h _ _ _ (Ext.refl _ _ _) rl _ (.int _)⟩
  | int =>
    cases q with
    | nil => exact h.elim
    | cons r1 q =>
      cases q with
      | cons r2 q => cases r1 <;> exact h.elim
      | nil =>
        cases r1 <;> first | exact h.elim | skip
        · rename_i b
          exact call_int1 pins s τ H _ us Q I r (.inr ⟨b, rfl, h _ _ _ (Ext.refl _ _ _) rl _ (.int _)⟩)
        · rename_i i
          exact call_int1 pins s τ H _ us Q I r (.inl ⟨i, rfl, h _ _ _ (Ext.refl _ _ _) rl _ (.int _)⟩)
        · rename_i z
          simp only [doBi] at h
          by_cases hz : z.length ≤ 640 ∧ z ≠ [] ∧ z.all isDig = true
          · rw [if_pos hz] at h
            exact call_int_str pins s τ H _ us Q I r ⟨_, _, rfl, int_txt hz.1 hz.2.1 hz.2.2, by rw [size_str]; exact hz.1, h _ _ _ (Ext.refl _ _ _) rl _ (.int _)⟩
          · rw [if_neg hz] at h; exact h.elim
  | str =>
    cases q with
    | nil => exact h.elim
    | cons r1 q =>
      cases q with
      | cons r2 q => cases r1 <;> exact h.elim
      | nil =>
        cases r1 <;> first | exact h.elim | skip
        rename_i i
        simp only [doBi] at h
        by_cases hz : i.natAbs.log2 < 1920
        · rw [if_pos hz] at h
          refine call_str_int pins s τ H _ us Q I r ⟨i, rfl, hz, ?_⟩
          show Q (.str (Str.ofString (toString i))) H
          rw [show_ok]
          exact h _ _ _ (Ext.refl _ _ _) rl _ (.str _)
        · rw [if_neg hz] at h; exact h.elim
  | min1 =>
    cases q with
    | nil => exact h.elim
    | cons r1 q =>
      cases q with
      | cons r2 q => exact h.elim
      | nil =>
        rename_i d v
        simp only [doBi] at h
        cases hs : items S d with
        | none => rw [hs] at h; exact h.elim
        | some es =>
          rw [hs] at h
          simp only [Option.bind_some] at h
          cases hn : intsD es with
          | none => rw [hn] at h; exact h.elim
          | some ns =>
            rw [hn] at h
            simp only [Option.bind_some] at h
            cases hm : minL ns with
            | none => rw [hm] at h; exact h.elim
            | some m =>
              rw [hm] at h
              obtain ⟨a, vs, rfl, hsq, q1⟩ := items_ok rl r1 hs
              rw [hK] at hsq
              have e := intsD_ok q1 hn
              subst e
              have hp : 0 < ns.length := by cases ns with | nil => cases hm | cons _ _ => simp
              exact cr_min hc pins s τ H _ us Q I r ⟨a, ns, rfl, hsq, hp, fun M h1 h2 => by
                rw [minL_eq hm h1 h2]
                exact h _ _ _ (Ext.refl _ _ _) rl _ (.int _)⟩
  | max1 =>
    cases q with
    | nil => exact h.elim
    | cons r1 q =>
      cases q with
      | cons r2 q => exact h.elim
      | nil =>
        rename_i d v
        simp only [doBi] at h
        cases hs : items S d with
        | none => rw [hs] at h; exact h.elim
        | some es =>
          rw [hs] at h
          simp only [Option.bind_some] at h
          cases hn : intsD es with
          | none => rw [hn] at h; exact h.elim
          | some ns =>
            rw [hn] at h
            simp only [Option.bind_some] at h
            cases hm : maxL ns with
            | none => rw [hm] at h; exact h.elim
            | some m =>
              rw [hm] at h
              obtain ⟨a, vs, rfl, hsq, q1⟩ := items_ok rl r1 hs
              rw [hK] at hsq
              have e := intsD_ok q1 hn
              subst e
              have hp : 0 < ns.length := by cases ns with | nil => cases hm | cons _ _ => simp
              exact cr_max hc pins s τ H _ us Q I r ⟨a, ns, rfl, hsq, hp, fun M h1 h2 => by
                rw [maxL_eq hm h1 h2]
                exact h _ _ _ (Ext.refl _ _ _) rl _ (.int _)⟩
  | tuple =>
    cases q with
    | nil => exact h.elim
    | cons r1 q =>
      cases q with
      | cons r2 q => cases r1 <;> exact h.elim
      | nil =>
        have gen : ∀ {d : D} {v : V}, Vals [v] us → Rep B μ F H d v → (match okO S ((items S d).map D.tup) with
          | .ok z S' => ∀ μ' F' H', Ext μ F H μ' F' H' → Rl B μ' F' H' S' → ∀ v, Rep B μ' F' H' z v → Q v H'
          | _ => False) → wpAny (model X.prog X.w) X.A (PySem.call (.type "tuple") us) (EP X pins τ Q) X.xe s := by
          intro d v r rd hh
          cases hs : items S d with
          | none => rw [hs] at hh; exact hh.elim
          | some es =>
            rw [hs] at hh
            obtain ⟨a, vs, rfl, hsq, q1⟩ := items_ok rl rd hs
            rw [hK] at hsq
            exact call_tuple_of pins s τ H _ us Q I r ⟨a, vs, rfl, .inl ⟨hsq, tup_ok rl q1 hh⟩⟩
        cases r1 with
        | @tup a vs es h1 q1 =>
          have h1' := h1
          rw [hK] at h1'
          exact call_tuple_of pins s τ H _ us Q I r ⟨a, vs, rfl, .inr ⟨h1', h _ _ _ (Ext.refl _ _ _) rl _ (.tup h1 q1)⟩⟩
        | non => exact h.elim
        | bl _ => exact h.elim
        | int _ => exact h.elim
        | str _ => exact h.elim
        | vl f h1 q1 => exact gen r (.vl f h1 q1) h
        | vs h1 q1 => exact gen r (.vs h1 q1) h
        | ref h1 => exact gen r (.ref h1) h
  | list =>
    cases q with
    | nil => exact h.elim
    | cons r1 q =>
      cases q with
      | cons r2 q => exact h.elim
      | nil =>
        rename_i d v
        simp only [doBi] at h
        cases hs : seqOf S d with
        | none => rw [hs] at h; exact h.elim
        | some es =>
          rw [hs] at h
          obtain ⟨p, ys, rfl, hsq, q1⟩ := seq1 r1 hs
          exact call_list_of pins s τ H _ us Q I r ⟨p, ys, rfl, hsq, (mk_ok rl q1 h).2⟩
end
end SL
namespace SL
open PySem PySem.Spec PyProof.Rows L2
section
variable {X : L2.Cx} {T : Tb} {B : Bs} {W : WX} {C : Cx} {e l r e1 e2 e3 : Expr} {pos p2 : Pos} {a b c d : E} {es : Es}
theorem get2 {α : Type} {r : Res α} {W : WG} {μ : List Ad} {F : Fz} {H : Hp} {G : α → Store → List Ad → Fz → Hp → Prop} {z : α} {S : Store} (h : PostG B W μ F H r G) (e : r = .ok z S) :
    ∀ μ' F' H', Ext μ F H μ' F' H' → Rl B μ' F' H' S → G z S μ' F' H' := by subst e; exact h
/-- from a reading of an operation -/
theorem r2_of {f : D → D → Store → Res D} {μ : List Ad} {F : Fz} {H : Hp} {S : Store} {x y : D} {v u : V} {Q : VK} {W : WG} (ne : ∀ c fs S', f x y S ≠ .exc c fs S') (rl : Rl B μ F H S) (rx : Rep B μ F H x v) (ry : Rep B μ F H y u)
    (h : PostG B W μ F H (f x y S) fun d _ μ' F' H' => ∀ v, Rep B μ' F' H' d v → Q v H') : r2 B f v u H Q := by
  refine ⟨μ, F, S, x, y, rl, rx, ry, ?_⟩
  cases hf : f x y S with
  | ok z S' => rw [hf] at h; exact h
  | exc c fs S' => exact absurd hf (ne c fs S')
  | stuck => rw [hf] at h; exact h
theorem rL_of {f : List D → Store → Res D} {μ : List Ad} {F : Fz} {H : Hp} {S : Store} {x : List D} {v : List V} {Q : VK} {W : WG} (ne : ∀ c fs S', f x S ≠ .exc c fs S') (rl : Rl B μ F H S) (rx : Reps B μ F H x v)
    (h : PostG B W μ F H (f x S) fun d _ μ' F' H' => ∀ v, Rep B μ' F' H' d v → Q v H') : rL B f v H Q := by
  refine ⟨μ, F, S, x, rl, rx, ?_⟩
  cases hf : f x S with
  | ok z S' => rw [hf] at h; exact h
  | exc c fs S' => exact absurd hf (ne c fs S')
  | stuck => rw [hf] at h; exact h
theorem okO_ne {α : Type} (S : Store) (o : Option α) (c : Nat) (fs : List D) (S' : Store) : okO S o ≠ .exc c fs S' := by cases o <;> (intro h; cases h)
theorem mk_ne (o : Bool) (ds : List D) (S : Store) (c : Nat) (fs : List D) (S' : Store) : mk o ds S ≠ .exc c fs S' := by
  unfold mk; split
  · split <;> (intro h; cases h)
  · intro h; cases h
theorem doCat_ne (o : Bool) (p : Op) (x y : Option (List D)) (S : Store) (c : Nat) (fs : List D) (S' : Store) : doCat o p x y S ≠ .exc c fs S' := by
  unfold doCat
  split
  · split
    · split
      · exact mk_ne _ _ _ _ _ _
      · intro h; cases h
    · intro h; cases h
  · intro h; cases h
theorem doOpL_ne (o : Bool) (p : Op) (x y : D) (S : Store) (c : Nat) (fs : List D) (S' : Store) : doOpL o p x y S ≠ .exc c fs S' := by
  unfold doOpL
  split
  · split
    · split
      · exact mk_ne _ _ _ _ _ _
      · intro h; cases h
    · intro h; cases h
  · exact doCat_ne _ _ _ _ _ _ _ _
theorem doOp_ne (o : Bool) (p : Op) (x y : D) (S : Store) (c : Nat) (fs : List D) (S' : Store) : doOp o p x y S ≠ .exc c fs S' := by
  unfold doOp
  split
  · split
    · exact okO_ne _ _ _ _ _
    · intro h; cases h
  · split
    · split <;> (intro h; cases h)
    · intro h; cases h
  · split
    · split <;> (intro h; cases h)
    · split <;> (intro h; cases h)
    · intro h; cases h
  · exact doOpL_ne _ _ _ _ _ _ _ _
theorem doCmp_ne (k : Cmp) (x y : D) (S : Store) (c : Nat) (fs : List D) (S' : Store) : doCmp k x y S ≠ .exc c fs S' := okO_ne _ _ _ _ _
theorem doIx_ne (x y : D) (S : Store) (c : Nat) (fs : List D) (S' : Store) : doIx x y S ≠ .exc c fs S' := by
  unfold doIx
  split
  · split
    · split
      · exact okO_ne _ _ _ _ _
      · intro h; cases h
    · split
      · exact okO_ne _ _ _ _ _
      · intro h; cases h
  · intro h; cases h
theorem doSl_ne (o : Bool) (x : D) (lo hi : Option Int) (S : Store) (c : Nat) (fs : List D) (S' : Store) : doSl o x lo hi S ≠ .exc c fs S' := by
  unfold doSl
  split
  · split <;> (intro h; cases h)
  · intro h; cases h
  · split
    · exact mk_ne _ _ _ _ _ _
    · intro h; cases h
theorem doBi_ne (o : Bool) (b : Bi) (xs : List D) (S : Store) (c : Nat) (fs : List D) (S' : Store) : doBi o b xs S ≠ .exc c fs S' := by
  unfold doBi
  split
  all_goals (try split)
  all_goals (try split)
  all_goals first
    | exact okO_ne _ _ _ _ _
    | exact mk_ne _ _ _ _ _ _
    | (unfold isD; split <;> (intro h; cases h))
    | (intro h; cases h)

theorem pe_con' {v : V} {d : D} (h : PE X e (tC v)) (hr : ∀ μ F H, Rep B μ F H d v) : PE X e (tE T B W C (.con d)) := by
  refine PE.imp h fun τ H Q ⟨μ, F, S, σ, rl, sl, p⟩ => ?_
  exact get2 p rfl _ _ _ (Ext.refl _ _ _) rl v (hr _ _ _)
theorem fz_eq {σ : Slots} {S : Store} {i j : Nat} (h : σ[i]? = some (some (.ref j))) : evE C (.fz i) σ S = (match S[j]? with | some (.lst ds) => .ok (.vl ds) (S.set j .dead) | _ => .stuck) := by
  simp only [evE, h] <;> rfl
theorem pe_fz' {i : Nat} (h : PE X e (tVar i)) : PE X e (tE T B W C (.fz i)) := by
  refine PE.imp h fun τ H Q ⟨μ, F, S, σ, rl, sl, p⟩ => ?_
  cases hi : σ[i]? with
  | none => simp [evE, hi] at p; exact p.elim
  | some o =>
    cases o with
    | none => simp [evE, hi] at p; exact p.elim
    | some d =>
      obtain ⟨v, h1, h2⟩ := sl.2 i d hi
      cases d with
      | ref j =>
        have h2 : Rep B μ F H (.ref j) v := h2
        rw [fz_eq hi] at p
        cases h2 with
        | ref hm =>
          cases hS : S[j]? with
          | none => rw [hS] at p; exact p.elim
          | some c =>
            rw [hS] at p
            cases c with
            | lst ds =>
              obtain ⟨vs, g1, g2, g3, g4⟩ := freeze rl hm hS
              exact ⟨_, h1, get2 p rfl _ _ _ g2 g3 _ (.vl (.inr rfl) g1 g4)⟩
            | _ => exact p.elim
      | _ => simp only [evE, hi] at p; exact p.elim
theorem pe_var' {i : Nat} (h : PE X e (tVar i)) : PE X e (tE T B W C (.var i)) := by
  refine PE.imp h fun τ H Q ⟨μ, F, S, σ, rl, sl, p⟩ => ?_
  cases hi : σ[i]? with
  | none => simp [evE, hi] at p; exact p.elim
  | some o =>
    cases o with
    | none => simp [evE, hi] at p; exact p.elim
    | some d =>
      obtain ⟨v, h1, h2⟩ := sl.2 i d hi
      simp only [evE, hi] at p
      cases d with
      | exn c fs => exact p.elim
      | non => exact ⟨v, h1, get2 p rfl _ _ _ (Ext.refl _ _ _) rl v h2⟩
      | bl _ => exact ⟨v, h1, get2 p rfl _ _ _ (Ext.refl _ _ _) rl v h2⟩
      | int _ => exact ⟨v, h1, get2 p rfl _ _ _ (Ext.refl _ _ _) rl v h2⟩
      | str _ => exact ⟨v, h1, get2 p rfl _ _ _ (Ext.refl _ _ _) rl v h2⟩
      | tup _ => exact ⟨v, h1, get2 p rfl _ _ _ (Ext.refl _ _ _) rl v h2⟩
      | vl _ => exact ⟨v, h1, get2 p rfl _ _ _ (Ext.refl _ _ _) rl v h2⟩
      | sc _ => exact ⟨v, h1, get2 p rfl _ _ _ (Ext.refl _ _ _) rl v h2⟩
      | ref _ => exact ⟨v, h1, get2 p rfl _ _ _ (Ext.refl _ _ _) rl v h2⟩
/-- two parts and an operation -/
theorem bin2 {f : D → D → Store → Res D} (ne : ∀ x y S c fs S', f x y S ≠ .exc c fs S') {μ : List Ad} {F : Fz} {H : Hp} {S : Store} {σ : Slots} {τ : L2.St} {Q : VK} (rl : Rl B μ F H S) (sl : Sl B μ F H σ τ)
    (p : PostG B (wE T W τ) μ F H ((evE C a σ S).bind fun x S1 => (evE C b σ S1).bind fun y S2 => f x y S2) fun d _ μ' F' H' => ∀ v, Rep B μ' F' H' d v → Q v H') :
    tE T B W C a τ H fun x H1 => tE T B W C b τ H1 fun y H2 => r2 B f x y H2 Q := by
  refine tE.go rl sl p.bind fun x S1 μ1 F1 H1 v rl1 sl1 e1 p1 rx => ?_
  refine tE.go rl1 sl1 p1.bind fun y S2 μ2 F2 H2 u rl2 sl2 e2 p2 ry => ?_
  exact r2_of (ne x y S2) rl2 (rx.mono e2) ry p2
theorem pe_op' (hK : B.K = X.K) {o : Bool} {p : Op} (ha : PE X l (tE T B W C a)) (hb : PE X r (tE T B W C b)) : PE X (.BinOp l (opP p) r pos) (tE T B W C (.op o p a b)) :=
  PE.imp (pe_op (op_ok hK o p) ha hb) fun τ H Q ⟨μ, F, S, σ, rl, sl, h⟩ => bin2 (doOp_ne o p) rl sl (by simpa only [evE] using h)
theorem pe_cmp' (hK : B.K = X.K) (hu : X.A.units + 64 < cLine) {k : Cmp} (ha : PE X l (tE T B W C a)) (hb : PE X r (tE T B W C b)) (hm : behindInMarks (cmpP k) r = false) : PE X (.Compare l [cmpP k] [r] pos) (tE T B W C (.cmp k a b)) :=
  PE.imp (pe_cmpR (cmp_ok hK hu k) ha hb hm) fun τ H Q ⟨μ, F, S, σ, rl, sl, h⟩ => bin2 (doCmp_ne k) rl sl (by simpa only [evE] using h)
theorem pe_ix' (hK : B.K = X.K) (ha : PE X l (tE T B W C a)) (hb : PE X r (tE T B W C b)) (hs : PlainIx r) : PE X (.Subscript l r pos) (tE T B W C (.ix a b)) :=
  PE.imp (pe_ix (ix_ok hK) ha hb hs) fun τ H Q ⟨μ, F, S, σ, rl, sl, h⟩ => bin2 doIx_ne rl sl (by simpa only [evE] using h)
theorem PostG.asB {α : Type} {r : Res D} {k : Bool → Store → Res D} {W : WG} {μ : List Ad} {F : Fz} {H : Hp} {G : D → Store → List Ad → Fz → Hp → Prop} (h : PostG B W μ F H (SL.asB r k) G) :
    PostG B W μ F H r fun d S μ' F' H' => ∃ b, d = .bl b ∧ PostG B W μ' F' H' (k b S) G := by
  refine (PostG.bind h).imp fun d S μ' F' H' _ _ _ p => ?_
  cases d <;> first | exact ⟨_, rfl, p⟩ | exact p.elim
theorem PostG.asI {α : Type} {r : Res D} {k : Int → Store → Res α} {W : WG} {μ : List Ad} {F : Fz} {H : Hp} {G : α → Store → List Ad → Fz → Hp → Prop} (h : PostG B W μ F H (SL.asI r k) G) :
    PostG B W μ F H r fun d S μ' F' H' => ∃ b, d = .int b ∧ PostG B W μ' F' H' (k b S) G := by
  refine (PostG.bind h).imp fun d S μ' F' H' _ _ _ p => ?_
  cases d <;> first | exact ⟨_, rfl, p⟩ | exact p.elim
theorem pe_neg' (ha : PE X e (tE T B W C a)) : PE X (.UnaryOp .USub e pos) (tE T B W C (.neg a)) := by
  refine PE.imp (pe_un un_neg ha) fun τ H Q ⟨μ, F, S, σ, rl, sl, h⟩ => ?_
  simp only [evE] at h
  refine tE.go rl sl h.asI fun x S1 μ1 F1 H1 v rl1 sl1 e1 ⟨i, hx, p1⟩ rx => ?_
  subst hx
  cases rx
  exact ⟨i, rfl, get2 p1 rfl _ _ _ (Ext.refl _ _ _) rl1 _ (.int _)⟩
/-- a test from a value -/
theorem pt_of (h : PE X e (tE T B W C a)) (he : ∀ whole, isTrue e X.env whole = (do let v ← whole; standAt e.pos; holding [v] (truthy v))) : PT X e (tT T B W C a) := by
  refine PT.imp (pt_val h he) fun τ H Q ⟨μ, F, S, σ, rl, sl, p⟩ => ?_
  refine tE.go rl sl p fun d S1 μ1 F1 H1 v rl1 sl1 e1 ⟨b, hd, q⟩ rd => ?_
  subst hd
  cases rd
  exact ⟨b, rfl, q⟩
theorem pt_cmp' (hK : B.K = X.K) (hu : X.A.units + 64 < cLine) {k : Cmp} (ha : PE X l (tE T B W C a)) (hb : PE X r (tE T B W C b)) (hm : behindInMarks (cmpP k) r = false) : PT X (.Compare l [cmpP k] [r] pos) (tT T B W C (.cmp k a b)) := by
  refine PT.imp (pt_cmpR (cmp_ok hK hu k) ha hb hm) fun τ H Q ⟨μ, F, S, σ, rl, sl, h⟩ => ?_
  refine bin2 (Q := fun x H' => ∃ k, x = .bl k ∧ Q k H') (doCmp_ne k) rl sl ?_
  simp only [evE] at h
  refine h.imp fun d S1 μ1 F1 H1 _ e1 rl1 ⟨b, hd, q⟩ v rd => ?_
  subst hd
  cases rd
  exact ⟨b, rfl, q⟩
/-- the second half of a chain -/
theorem chain_go {k k' : Cmp} {μ : List Ad} {F : Fz} {H : Hp} {S : Store} {σ : Slots} {τ : L2.St} {Q : VK} (rl : Rl B μ F H S) (sl : Sl B μ F H σ τ)
    (h : PostG B (wE T W τ) μ F H (evE C (.cmp2 k k' a b d) σ S) fun d _ μ' F' H' => ∀ v, Rep B μ' F' H' d v → Q v H') :
    tE T B W C a τ H fun x H1 => tE T B W C b τ H1 fun y H2 => r2 B (doCmp k) x y H2 fun z H3 => ∃ t, z = .bl t ∧ if t = true then tE T B W C d τ H3 fun w H4 => r2 B (doCmp k') y w H4 Q else Q (.bl false) H3 := by
  simp only [evE] at h
  refine tE.go rl sl h.bind fun x S1 μ1 F1 H1 v rl1 sl1 e1 p1 rx => ?_
  refine tE.go rl1 sl1 p1.bind fun y S2 μ2 F2 H2 u rl2 sl2 e2 p2 ry => ?_
  refine r2_of (W := wE T W τ) (doCmp_ne k x y S2) rl2 (rx.mono e2) ry ?_
  refine (PostG.asB (α := D) p2).imp fun z S3 μ3 F3 H3 _ e3 rl3 ⟨t, hz, p3⟩ w rw' => ?_
  subst hz
  cases rw'
  refine ⟨t, rfl, ?_⟩
  cases t with
  | false => rw [if_neg (by decide)] at p3; rw [if_neg (by decide)]; exact get2 p3 rfl _ _ _ (Ext.refl _ _ _) rl3 _ (.bl false)
  | true =>
    rw [if_pos rfl] at p3
    rw [if_pos rfl]
    refine tE.go rl3 (sl2.mono e3) p3.bind fun q S4 μ4 F4 H4 w4 rl4 sl4 e4 p4 r4 => ?_
    exact r2_of (doCmp_ne k' y q S4) rl4 ((ry.mono e3).mono e4) r4 p4
end
end SL
namespace SL
open PySem PySem.Spec PyProof.Rows L2
section
variable {X : L2.Cx} {T : Tb} {B : Bs} {W : WX} {C : Cx} {e l r e1 e2 e3 : Expr} {pos p2 : Pos} {a b c d : E} {es : Es}
theorem pe_chain' (hK : B.K = X.K) (hu : X.A.units + 64 < cLine) {k k' : Cmp} (ha : PE X e1 (tE T B W C a)) (hb : PE X e2 (tE T B W C b)) (hc : PE X e3 (tE T B W C d))
    (hm : lastMarks [cmpP k, cmpP k'] [e2, e3] = false) : PE X (.Compare e1 [cmpP k, cmpP k'] [e2, e3] pos) (tE T B W C (.cmp2 k k' a b d)) :=
  PE.imp (pe_chain (cmp_ok hK hu k) (cmp_ok hK hu k') ha hb hc hm) fun τ H Q ⟨μ, F, S, σ, rl, sl, h⟩ => chain_go rl sl h
theorem bl_of {μ : List Ad} {F : Fz} {H : Hp} {S : Store} {σ : Slots} {τ : L2.St} {Q : Bool → Hp → Prop}
    (h : PostG B (wE T W τ) μ F H (evE C a σ S) fun d _ μ' F' H' => ∃ b, d = .bl b ∧ Q b H') : PostG B (wE T W τ) μ F H (evE C a σ S) fun d _ μ' F' H' => ∀ v, Rep B μ' F' H' d v → ∃ k, v = .bl k ∧ Q k H' :=
  h.imp fun d S1 μ1 F1 H1 _ e1 rl1 ⟨b, hd, q⟩ v rd => by subst hd; cases rd; exact ⟨b, rfl, q⟩
theorem pt_chain' (hK : B.K = X.K) (hu : X.A.units + 64 < cLine) {k k' : Cmp} (ha : PE X e1 (tE T B W C a)) (hb : PE X e2 (tE T B W C b)) (hc : PE X e3 (tE T B W C d))
    (hm : lastMarks [cmpP k, cmpP k'] [e2, e3] = false) : PT X (.Compare e1 [cmpP k, cmpP k'] [e2, e3] pos) (tT T B W C (.cmp2 k k' a b d)) :=
  PT.imp (pt_chain (cmp_ok hK hu k) (cmp_ok hK hu k') ha hb hc hm) fun τ H Q ⟨μ, F, S, σ, rl, sl, h⟩ => chain_go rl sl (bl_of h)
/-! ### and, or, not, if else -/
theorem pe_and' {rest : List Expr} (ha : PE X e (tE T B W C a)) (hb : PE X (.BoolOp .And (r :: rest) pos) (tE T B W C b)) : PE X (.BoolOp .And (e :: r :: rest) pos) (tE T B W C (.and a b)) := by
  refine PE.imp (pe_and ha hb) fun τ H Q ⟨μ, F, S, σ, rl, sl, h⟩ => ?_
  simp only [evE] at h
  refine tE.go rl sl (PostG.asB (α := D) h) fun x S1 μ1 F1 H1 v rl1 sl1 e1 ⟨t, hx, p1⟩ rx => ?_
  subst hx
  cases rx
  refine ⟨t, rfl, ?_⟩
  cases t with
  | false => rw [if_neg (by decide)] at p1; rw [if_neg (by decide)]; exact get2 p1 rfl _ _ _ (Ext.refl _ _ _) rl1 _ (.bl false)
  | true =>
    rw [if_pos rfl] at p1
    rw [if_pos rfl]
    refine tE.go rl1 sl1 (PostG.asB (α := D) p1) fun y S2 μ2 F2 H2 u rl2 sl2 e2 ⟨t2, hy, p2⟩ ry => ?_
    subst hy
    exact get2 p2 rfl _ _ _ (Ext.refl _ _ _) rl2 _ ry
theorem pe_or' {rest : List Expr} (ha : PE X e (tE T B W C a)) (hb : PE X (.BoolOp .Or (r :: rest) pos) (tE T B W C b)) : PE X (.BoolOp .Or (e :: r :: rest) pos) (tE T B W C (.or a b)) := by
  refine PE.imp (pe_or ha hb) fun τ H Q ⟨μ, F, S, σ, rl, sl, h⟩ => ?_
  simp only [evE] at h
  refine tE.go rl sl (PostG.asB (α := D) h) fun x S1 μ1 F1 H1 v rl1 sl1 e1 ⟨t, hx, p1⟩ rx => ?_
  subst hx
  cases rx
  refine ⟨t, rfl, ?_⟩
  cases t with
  | true => rw [if_pos rfl] at p1; rw [if_pos rfl]; exact get2 p1 rfl _ _ _ (Ext.refl _ _ _) rl1 _ (.bl true)
  | false =>
    rw [if_neg (by decide)] at p1
    rw [if_neg (by decide)]
    refine tE.go rl1 sl1 (PostG.asB (α := D) p1) fun y S2 μ2 F2 H2 u rl2 sl2 e2 ⟨t2, hy, p2⟩ ry => ?_
    subst hy
    exact get2 p2 rfl _ _ _ (Ext.refl _ _ _) rl2 _ ry
theorem pe_not' (ha : PE X e (tE T B W C a)) : PE X (.UnaryOp .Not e pos) (tE T B W C (.not a)) := by
  refine PE.imp (pe_not ha) fun τ H Q ⟨μ, F, S, σ, rl, sl, h⟩ => ?_
  simp only [evE] at h
  refine tE.go rl sl (PostG.asB (α := D) h) fun x S1 μ1 F1 H1 v rl1 sl1 e1 ⟨t, hx, p1⟩ rx => ?_
  subst hx
  cases rx
  exact ⟨t, rfl, get2 p1 rfl _ _ _ (Ext.refl _ _ _) rl1 _ (.bl _)⟩
theorem tT_bl {μ : List Ad} {F : Fz} {H : Hp} {S : Store} {σ : Slots} {τ : L2.St} {G : D → Store → List Ad → Fz → Hp → Prop} {Q : Bool → Hp → Prop} (rl : Rl B μ F H S) (sl : Sl B μ F H σ τ)
    (h : PostG B (wE T W τ) μ F H (evE C a σ S) fun d S μ' F' H' => ∃ b, d = .bl b ∧ G d S μ' F' H')
    (k : ∀ t S1 μ1 F1 H1, Rl B μ1 F1 H1 S1 → Sl B μ1 F1 H1 σ τ → Ext μ F H μ1 F1 H1 → G (.bl t) S1 μ1 F1 H1 → Q t H1) : tT T B W C a τ H Q :=
  tT.go rl sl h fun x S1 μ1 F1 H1 rl1 sl1 e1 ⟨t, hx, p1⟩ => by subst hx; exact ⟨t, rfl, k t S1 μ1 F1 H1 rl1 sl1 e1 p1⟩
theorem asBT {r : Res D} {k : Bool → Store → Res D} {WW : WG} {μ : List Ad} {F : Fz} {H : Hp} {G : D → Store → List Ad → Fz → Hp → Prop} (h : PostG B WW μ F H (SL.asB r k) G) :
    PostG B WW μ F H r fun d S μ' F' H' => ∃ b, d = .bl b ∧ ∃ b', d = .bl b' ∧ PostG B WW μ' F' H' (k b' S) G :=
  (PostG.asB (α := D) h).imp fun d S μ' F' H' _ _ _ ⟨b, e, p⟩ => ⟨b, e, b, e, p⟩
theorem pw_and' {rest : List Expr} (ha : PT X e (tT T B W C a)) (hb : PW X (.BoolOp .And (r :: rest) pos) (tT T B W C b)) : PW X (.BoolOp .And (e :: r :: rest) pos) (tT T B W C (.and a b)) := by
  refine PW.imp (pw_and ha hb) fun τ H Q ⟨μ, F, S, σ, rl, sl, h⟩ => ?_
  simp only [evE] at h
  refine tT_bl rl sl (asBT h) fun t S1 μ1 F1 H1 rl1 sl1 e1 ⟨t', ht, p1⟩ => ?_
  cases ht
  cases t with
  | false =>
    rw [if_neg (by decide)] at p1
    rw [if_neg (by decide)]
    obtain ⟨b, hb, q⟩ := get2 p1 rfl _ _ _ (Ext.refl _ _ _) rl1
    cases hb
    exact q
  | true =>
    rw [if_pos rfl] at p1
    rw [if_pos rfl]
    refine tT_bl rl1 sl1 (asBT p1) fun t S2 μ2 F2 H2 rl2 sl2 e2 ⟨t', ht, p2⟩ => ?_
    cases ht
    obtain ⟨b, hb, q⟩ := get2 p2 rfl _ _ _ (Ext.refl _ _ _) rl2
    cases hb
    exact q
theorem pw_or' {rest : List Expr} (ha : PT X e (tT T B W C a)) (hb : PW X (.BoolOp .Or (r :: rest) pos) (tT T B W C b)) : PW X (.BoolOp .Or (e :: r :: rest) pos) (tT T B W C (.or a b)) := by
  refine PW.imp (pw_or ha hb) fun τ H Q ⟨μ, F, S, σ, rl, sl, h⟩ => ?_
  simp only [evE] at h
  refine tT_bl rl sl (asBT h) fun t S1 μ1 F1 H1 rl1 sl1 e1 ⟨t', ht, p1⟩ => ?_
  cases ht
  cases t with
  | true =>
    rw [if_pos rfl] at p1
    rw [if_pos rfl]
    obtain ⟨b, hb, q⟩ := get2 p1 rfl _ _ _ (Ext.refl _ _ _) rl1
    cases hb
    exact q
  | false =>
    rw [if_neg (by decide)] at p1
    rw [if_neg (by decide)]
    refine tT_bl rl1 sl1 (asBT p1) fun t S2 μ2 F2 H2 rl2 sl2 e2 ⟨t', ht, p2⟩ => ?_
    cases ht
    obtain ⟨b, hb, q⟩ := get2 p2 rfl _ _ _ (Ext.refl _ _ _) rl2
    cases hb
    exact q
theorem pt_not' (ha : PT X e (tT T B W C a)) : PT X (.UnaryOp .Not e pos) (tT T B W C (.not a)) := by
  refine PT.imp (pt_not ha) fun τ H Q ⟨μ, F, S, σ, rl, sl, h⟩ => ?_
  simp only [evE] at h
  refine tT_bl rl sl (asBT h) fun t S1 μ1 F1 H1 rl1 sl1 e1 ⟨t', ht, p1⟩ => ?_
  cases ht
  obtain ⟨b, hb, q⟩ := get2 p1 rfl _ _ _ (Ext.refl _ _ _) rl1
  cases hb
  exact q
theorem pe_ite' (hc : PT X e1 (tT T B W C c)) (ha : PE X e2 (tE T B W C a)) (hb : PE X e3 (tE T B W C b)) : PE X (.IfExp e1 e2 e3 pos) (tE T B W C (.ite c a b)) := by
  refine PE.imp (pe_ifExp hc ha hb) fun τ H Q ⟨μ, F, S, σ, rl, sl, h⟩ => ?_
  simp only [evE] at h
  refine tT_bl rl sl (asBT h) fun t S1 μ1 F1 H1 rl1 sl1 e1 ⟨t', ht, p1⟩ => ?_
  cases ht
  cases t with
  | true => rw [if_pos rfl] at p1; rw [if_pos rfl]; exact ⟨μ1, F1, S1, σ, rl1, sl1, p1⟩
  | false => rw [if_neg (by decide)] at p1; rw [if_neg (by decide)]; exact ⟨μ1, F1, S1, σ, rl1, sl1, p1⟩
/-! ### displays, slices -/
theorem pa_nil' : PA X [] (tEs T B W C .nil) := PA.imp pa_nil fun τ H Q ⟨μ, F, S, σ, rl, sl, h⟩ => get2 h rfl _ _ _ (Ext.refl _ _ _) rl _ .nil
theorem pa_cons' {xs : List Expr} (ha : PE X e (tE T B W C a)) (hr : PA X xs (tEs T B W C es)) (hs : starEach (e :: xs) X.env = (false, eval e X.env) :: starEach xs X.env) : PA X (e :: xs) (tEs T B W C (.cons a es)) := by
  refine PA.imp (pa_cons ha hr hs) fun τ H Q ⟨μ, F, S, σ, rl, sl, h⟩ => ?_
  simp only [evEs] at h
  refine tE.go rl sl h.bind fun x S1 μ1 F1 H1 v rl1 sl1 e1 p1 rx => ?_
  refine tEs.go rl1 sl1 p1.bind fun xs S2 μ2 F2 H2 vs rl2 sl2 e2 p2 rxs => ?_
  exact get2 p2 rfl _ _ _ (Ext.refl _ _ _) rl2 _ (.cons (rx.mono e2) rxs)
theorem pe_tup' {xs : List Expr} {k : Nat} (h : PA X xs (tEs T B W C es)) : PE X (.Tuple xs k pos) (tE T B W C (.tup es)) := by
  refine PE.imp (pe_tup h) fun τ H Q ⟨μ, F, S, σ, rl, sl, h⟩ => ?_
  simp only [evE] at h
  refine tEs.go rl sl h.bind fun ds S1 μ1 F1 H1 vs rl1 sl1 e1 p1 rx => ?_
  by_cases hz : ds.length ≤ LINE
  · rw [if_pos hz] at p1
    exact ⟨by rw [← rx.length]; exact line_le hz, tup_ok rl1 rx (get2 p1 rfl)⟩
  · rw [if_neg hz] at p1; exact p1.elim
theorem mk_post {o : Bool} {ds : List D} {S : Store} {μ : List Ad} {F : Fz} {H : Hp} {WW : WG} {G : D → Store → List Ad → Fz → Hp → Prop} (h : PostG B WW μ F H (mk o ds S) G) :
    match mk o ds S with
      | .ok z S' => ∀ μ' F' H', Ext μ F H μ' F' H' → Rl B μ' F' H' S' → G z S' μ' F' H'
      | _ => False := by
  cases hm : mk o ds S with
  | ok z S' => rw [hm] at h; exact h
  | exc c fs S' => exact absurd hm (mk_ne _ _ _ _ _ _)
  | stuck => rw [hm] at h; exact h
theorem mk_okG {μ : List Ad} {F : Fz} {H : Hp} {S : Store} {o : Bool} {ds : List D} {vs : List V} {Q : VK} {WW : WG} (rl : Rl B μ F H S) (q : Reps B μ F H ds vs)
    (h : PostG B WW μ F H (mk o ds S) fun d _ μ' F' H' => ∀ v, Rep B μ' F' H' d v → Q v H') : vs.length ≤ sizeLine ∧ ∀ p, H p = none → Q (.ref p) (upd H p (.lst vs)) := by
  have h2 := mk_post h
  refine mk_ok rl q (o := o) (Q := Q) ?_
  cases hm : mk o ds S with
  | ok z S' => rw [hm] at h2; exact h2
  | exc c fs S' => rw [hm] at h2; exact h2
  | stuck => rw [hm] at h2; exact h2
theorem pe_lst' {xs : List Expr} {o : Bool} (h : PA X xs (tEs T B W C es)) : PE X (.List xs pos) (tE T B W C (.lst o es)) := by
  refine PE.imp (pe_lst h) fun τ H Q ⟨μ, F, S, σ, rl, sl, h⟩ => ?_
  simp only [evE] at h
  refine tEs.go rl sl h.bind fun ds S1 μ1 F1 H1 vs rl1 sl1 e1 p1 rx => ?_
  exact mk_okG rl1 rx p1
theorem po_none' : PO X none (tEO T B W C .none) := PO.imp po_none fun τ H Q ⟨μ, F, S, σ, rl, sl, h⟩ => get2 h rfl _ _ _ (Ext.refl _ _ _) rl
theorem po_some' (h : PE X e (tE T B W C a)) : PO X (some e) (tEO T B W C (.some a)) := by
  refine PO.imp (po_some h) fun τ H Q ⟨μ, F, S, σ, rl, sl, h⟩ => ?_
  simp only [evEO] at h
  refine tE.go rl sl h.asI fun x S1 μ1 F1 H1 v rl1 sl1 e1 ⟨i, hx, p1⟩ rx => ?_
  subst hx
  cases rx
  exact ⟨i, rfl, get2 p1 rfl _ _ _ (Ext.refl _ _ _) rl1⟩
/-- not of texts yet -/
theorem pe_sl' (hK : B.K = X.K) {o : Bool} {lo hi : Option Expr} {fl fh : EO} (ha : PE X e (tE T B W C a)) (hl : PO X lo (tEO T B W C fl)) (hh : PO X hi (tEO T B W C fh)) :
    PE X (.Subscript e (.Slice lo hi none p2) pos) (tE T B W C (.sl o a fl fh)) := by
  refine PE.imp (pe_slice (sl_okS hK o) ha hl hh) fun τ H Q ⟨μ, F, S, σ, rl, sl, h⟩ => ?_
  simp only [evE] at h
  refine tE.go rl sl h.bind fun x S1 μ1 F1 H1 v rl1 sl1 e1 p1 rx => ?_
  refine tEO.go rl1 sl1 p1.bind fun i S2 μ2 F2 H2 rl2 sl2 e2 p2 => ?_
  refine tEO.go rl2 sl2 p2.bind fun j S3 μ3 F3 H3 rl3 sl3 e3 p3 => ?_
  refine ⟨μ3, F3, S3, x, rl3, (rx.mono e2).mono e3, ?_⟩
  cases hd : doSl o x i j S3 with
  | ok z S' => rw [hd] at p3; exact p3
  | exc c fs S' => exact absurd hd (doSl_ne _ _ _ _ _ _ _ _)
  | stuck => rw [hd] at p3; exact p3
end
end SL
namespace SL
open PySem PySem.Spec PyProof.Rows L2
/-! ### calls -/
def wC (T : Tb) (E : XK) : WG := fun c fs μ F H => ∀ d, XR T c fs d H → E (T.cl c) d H
/-- a def's promise: what the evaluator says of its call -/
def spF (T : Tb) (B : Bs) (n i : Nat) : Sp := fun vs H Q E => ∃ μ F S ds, Rl B μ F H S ∧ Reps B μ F H ds vs ∧
  PostG B (wC T E) μ F H (evCall T.P n i ds S) fun d _ μ' F' H' => ∀ v, Rep B μ' F' H' d v → Q v H'
section
variable {X : L2.Cx} {T : Tb} {B : Bs} {W : WX} {C : Cx} {e l r e1 e2 e3 : Expr} {pos p2 : Pos} {a b c d : E} {es : Es}
theorem pe_call' {n i : Nat} {f : Ad} {fd : FuncData} {ps : List Str} {x : Str} {p : Pos} {xs : List Expr} (hot : C.hot = false) (hcall : C.call = evCall T.P n)
    (F : FnOk X.prog X.w X.K X.mg X.base (L2.CX X.prog X.w) n f fd ps (spF T B n i)) (hr : Room n X.A) (hg : Gl X x) (hm : X.mg x = some (.ref f)) (hk : PySem.W.keepIn X.K (.ref f) = true) (hb : Binds X.K fd ps [])
    (tk : Takes X W) (ha : PA X (e :: xs) (tEs T B W C es)) (hdb : (x == ("__debug__" : Str)) = false) (he : starEach (e :: xs) X.env = (false, eval e X.env) :: starEach xs X.env) (hpl : (backTo pos (starEach xs X.env)).any (·.1) = false) :
    PE X (.Call (.Name x p) (e :: xs) [] pos) (tE T B W C (.call i es)) := by
  refine PE.imp (pe_callS (E := WE W) F hr hg hm hk hb (fun σ => passAt tk σ) ha hdb he hpl) fun τ H Q ⟨μ, F, S, σ, rl, sl, h⟩ => ?_
  simp only [evE, hot, hcall] at h
  refine tEs.go rl sl h.bind fun ds S1 μ1 F1 H1 vs rl1 sl1 e1 p1 rx => ?_
  exact ⟨μ1, F1, S1, ds, rl1, rx, p1⟩
theorem pe_callZ {P' : Program} {k : Nat} {f : Ad} {fd : FuncData} {ps : List Str} {sp : Sp} {CX' : CXT} {E : L2.St → XK} {x : Str} {p : Pos} (F : FnOk X.prog X.w X.K X.mg X.base CX' k f fd ps sp) (hr : Room k X.A) (hg : Gl X x) (hm : X.mg x = some (.ref f))
    (hk : PySem.W.keepIn X.K (.ref f) = true) (hb : Binds X.K fd ps []) (hx : ∀ σ, PassesAt CX' X σ (E σ)) (hdb : (x == ("__debug__" : Str)) = false) : PE X (.Call (.Name x p) [] [] pos) (tCallS sp E tNil) := by
  refine ⟨fun pins s σ H Q I h => ?_⟩; refine wpAny_Call_Name_kw (ld_glob I hg hm ?_ hdb)
  exact PySem.W.callWith_K0 I.kIn hk (run_fnS F hr hb (hx σ) I .nil h)
theorem pe_call0' {n i : Nat} {f : Ad} {fd : FuncData} {ps : List Str} {x : Str} {p : Pos} (hot : C.hot = false) (hcall : C.call = evCall T.P n)
    (F : FnOk X.prog X.w X.K X.mg X.base (L2.CX X.prog X.w) n f fd ps (spF T B n i)) (hr : Room n X.A) (hg : Gl X x) (hm : X.mg x = some (.ref f)) (hk : PySem.W.keepIn X.K (.ref f) = true) (hb : Binds X.K fd ps [])
    (tk : Takes X W) (hdb : (x == ("__debug__" : Str)) = false) : PE X (.Call (.Name x p) [] [] pos) (tE T B W C (.call i .nil)) := by
  refine PE.imp (pe_callZ (P' := X.prog) (E := WE W) F hr hg hm hk hb (fun σ => passAt tk σ) hdb) fun τ H Q ⟨μ, F, S, σ, rl, sl, h⟩ => ?_
  simp only [evE, evEs, hot, hcall] at h
  exact ⟨μ, F, S, [], rl, .nil, h⟩
/-! ### built-ins -/
theorem pe_bi' (hK : B.K = X.K) (hot : C.hot = false) (hc : X.calm = true) {o : Bool} {k : Bi} {x : Str} {id : String} {p : Pos} {xs : List Expr} (hb : BiV k x (.builtin id)) (hg : Gl X x) (hm : X.mg x = none)
    (hv : bootBuiltins x = some (.builtin id)) (ha : PA X (e :: xs) (tEs T B W C es)) (hn : x ≠ "__name__") (hdb : (x == ("__debug__" : Str)) = false) (he : starEach (e :: xs) X.env = (false, eval e X.env) :: starEach xs X.env)
    (hpl : (backTo pos (starEach xs X.env)).any (·.1) = false) : PE X (.Call (.Name x p) (e :: xs) [] pos) (tE T B W C (.bi o k es)) := by
  refine PE.imp (pe_callB (bi_ok hK hc o hb) hg hm hv ha hn hdb he hpl) fun τ H Q ⟨μ, F, S, σ, rl, sl, h⟩ => ?_
  simp only [evE, hot] at h
  refine tEs.go rl sl h.bind fun ds S1 μ1 F1 H1 vs rl1 sl1 e1 p1 rx => ?_
  exact rL_of (doBi_ne o k ds S1) rl1 rx p1
theorem pe_biT' (hK : B.K = X.K) (hot : C.hot = false) (hc : X.calm = true) {o : Bool} {k : Bi} {x : Str} {id : String} {p : Pos} {xs : List Expr} (hb : BiV k x (.type id)) (hg : Gl X x) (hm : X.mg x = none)
    (hv : bootBuiltins x = some (.type id)) (ha : PA X (e :: xs) (tEs T B W C es)) (hn : x ≠ "__name__") (hdb : (x == ("__debug__" : Str)) = false) (he : starEach (e :: xs) X.env = (false, eval e X.env) :: starEach xs X.env)
    (hpl : (backTo pos (starEach xs X.env)).any (·.1) = false) : PE X (.Call (.Name x p) (e :: xs) [] pos) (tE T B W C (.bi o k es)) := by
  refine PE.imp (pe_callTy (bi_ok hK hc o hb) hg hm hv ha hn hdb he hpl) fun τ H Q ⟨μ, F, S, σ, rl, sl, h⟩ => ?_
  simp only [evE, hot] at h
  refine tEs.go rl sl h.bind fun ds S1 μ1 F1 H1 vs rl1 sl1 e1 p1 rx => ?_
  exact rL_of (doBi_ne o k ds S1) rl1 rx p1
/-! ### isinstance with a built-in class -/
def isTy : Bi → Option String
  | .isint => some "int" | .isbool => some "bool" | .istup => some "tuple" | .islist => some "list" | .isstr => some "str" | _ => none
/-- a value's class -/
def tyD (S : Store) : D → Option String
  | .non => some "NoneType" | .bl _ => some "bool" | .int _ => some "int" | .str _ => some "str" | .tup _ => some "tuple" | .vl _ => some "list" | .sc _ => some "list"
  | .ref i => match S[i]? with | some (.lst _) => some "list" | _ => none
  | .exn _ _ => none
theorem tyX_of (hK : B.K = X.K) {μ : List Ad} {F : Fz} {H : Hp} {S : Store} {d : D} {v : V} {t : String} (rl : Rl B μ F H S) (h : Rep B μ F H d v) (ht : tyD S d = some t) : TyX X.K H v (.type t) := by
  cases h with
  | non => cases ht; exact .base .non
  | bl b => cases ht; exact .base (.bl b)
  | int i => cases ht; exact .base (.int i)
  | str x => cases ht; exact .base (.str _)
  | tup h1 q =>
    cases ht
    rw [hK] at h1
    rcases h1 with (h1 | ⟨o, h1⟩) | ⟨o, its, n, h1, h2, _⟩
    · exact .base (.tup h1)
    · exact .fTuple h1
    · exact .kTuple h1 h2
  | vl f h1 q => cases ht; exact .base (.lst h1)
  | vs h1 q =>
    cases ht
    rw [hK] at h1
    rcases h1 with ⟨o, h1⟩ | ⟨o, its, n, h1, h2, _⟩
    · exact .base (.frz h1)
    · exact .kList h1 h2
  | @ref i a h1 =>
    simp only [tyD] at ht
    split at ht
    · rename_i ds hS
      cases ht
      obtain ⟨a', vs, e1, e2, e3⟩ := rl.lst hS
      rw [h1] at e1; cases e1
      exact .base (.lst e2)
    · cases ht
theorem pe_is' (hK : B.K = X.K) (hot : C.hot = false) {o : Bool} {k : Bi} {ty : String} {x : Str} {p p3 : Pos} (hk : isTy k = some ty) (hg : Gl X "isinstance") (hm : X.mg "isinstance" = none) (hgt : Gl X x) (hmt : X.mg x = none)
    (hvt : bootBuiltins x = some (.type ty)) (hn : x ≠ "__name__") (hdb : (x == ("__debug__" : Str)) = false) (ha : PE X e (tE T B W C a)) (hs : ∀ es, starEach (e :: es) X.env = (false, eval e X.env) :: starEach es X.env) :
    PE X (.Call (.Name "isinstance" p) [e, .Name x p3] [] pos) (tE T B W C (.bi o k (.cons a .nil))) := by
  have hN : PE X (.Name x p3) (tC (.ty ty)) := pe_bltn hgt hmt hvt (show RelV (.ty ty) (.type ty) from rfl) hn hdb
  refine PE.imp (pe_callB call_isi hg hm (by decide +kernel) (pa_cons ha (pa_cons hN pa_nil) (hs _)) (by decide) (by decide) (hs _) (by rfl)) fun τ H Q ⟨μ, F, S, σ, rl, sl, h⟩ => ?_
  simp only [evE, evEs, hot] at h
  have h2 : PostG B (wE T W τ) μ F H (evE C a σ S) fun d S μ' F' H' => PostG B (wE T W τ) μ' F' H' (doBi o k [d] S) fun d _ μ' F' H' => ∀ v, Rep B μ' F' H' d v → Q v H' := by
    cases hr : evE C a σ S with
    | ok d S' => rw [hr] at h; exact PostG.bind (r := Res.ok d S') (k := fun d S => doBi o k [d] S) h
    | exc c fs S' => rw [hr] at h; exact h
    | stuck => rw [hr] at h; exact h
  refine tE.go rl sl h2 fun d S1 μ1 F1 H1 v rl1 sl1 e1 p1 rx => ?_
  have fin : ∀ {b : Bool} {t : String}, tyD S1 d = some t → kitB t ty = some b → doBi o k [d] S1 = .ok (.bl b) S1 → rIsi X.K [v, .ty ty] H1 Q := by
    intro b t h1 h3 h4
    exact ⟨v, .ty ty, .type t, .type ty, b, rfl, .ty ty, tyX_of hK rl1 rx h1, kit_ty h3, get2 p1 h4 _ _ _ (Ext.refl _ _ _) rl1 _ (.bl b)⟩
  cases d with
  | non => cases k <;> cases hk <;> (first | exact fin (b := true) rfl (by decide +kernel) rfl | exact fin (b := false) rfl (by decide +kernel) rfl)
  | bl b => cases k <;> cases hk <;> (first | exact fin (b := true) rfl (by decide +kernel) rfl | exact fin (b := false) rfl (by decide +kernel) rfl)
  | int b => cases k <;> cases hk <;> (first | exact fin (b := true) rfl (by decide +kernel) rfl | exact fin (b := false) rfl (by decide +kernel) rfl)
  | str b => cases k <;> cases hk <;> (first | exact fin (b := true) rfl (by decide +kernel) rfl | exact fin (b := false) rfl (by decide +kernel) rfl)
  | tup b => cases k <;> cases hk <;> (first | exact fin (b := true) rfl (by decide +kernel) rfl | exact fin (b := false) rfl (by decide +kernel) rfl)
  | vl b => cases k <;> cases hk <;> (first | exact fin (b := true) rfl (by decide +kernel) rfl | exact fin (b := false) rfl (by decide +kernel) rfl)
  | sc b => cases k <;> cases hk <;> (first | exact fin (b := true) rfl (by decide +kernel) rfl | exact fin (b := false) rfl (by decide +kernel) rfl)
  | exn c fs => cases k <;> cases hk <;> exact p1.elim
  | ref i =>
    cases hS : S1[i]? with
    | none => cases k <;> cases hk <;> (simp [doBi, isD, kindD, hS] at p1; exact p1.elim)
    | some cl =>
      cases cl with
      | dic _ => cases k <;> cases hk <;> (simp [doBi, isD, kindD, hS] at p1; exact p1.elim)
      | dead => cases k <;> cases hk <;> (simp [doBi, isD, kindD, hS] at p1; exact p1.elim)
      | lst ds =>
        have ht : tyD S1 (.ref i) = some "list" := by simp only [tyD, hS]
        cases k <;> cases hk <;> (first | exact fin (b := true) ht (by decide +kernel) (by simp [doBi, isD, kindD, hS]) | exact fin (b := false) ht (by decide +kernel) (by simp [doBi, isD, kindD, hS]))
end
end SL
namespace SL
open PySem PySem.Spec PyProof.Rows L2
section
variable {X : L2.Cx} {T : Tb} {B : Bs} {W : WX} {C : Cx} {e l r e1 e2 e3 : Expr} {pos p2 : Pos} {a b c d : E} {es : Es}
/-! ### what is walked -/
structure ItOk (B : Bs) (μ : List Ad) (F : Fz) (H : Hp) (w : Walk) (J : L2.It) : Prop where
  go : ∀ (i : Nat) μ' F' H' S', Ext μ F H μ' F' H' → Rl B μ' F' H' S' → Walk.ok w.gd S' = true → i < w.ds.length → J.go i H'
  stop : ∀ (i : Nat) μ' F' H' S', Ext μ F H μ' F' H' → Rl B μ' F' H' S' → Walk.ok w.gd S' = true → i = w.ds.length → J.stop i H'
  yld : ∀ (i : Nat) μ' F' H' S' x H2, Ext μ F H μ' F' H' → Rl B μ' F' H' S' → Walk.ok w.gd S' = true → i < w.ds.length → J.yld i H' x H2 →
    ∃ d, w.ds[i]? = some d ∧ Ext μ' F' H' μ' F' H2 ∧ Rl B μ' F' H2 S' ∧ Rep B μ' F' H2 d x
def tIt (T : Tb) (B : Bs) (W : WX) (C : Cx) (it : It) : TI := fun τ H R => ∃ μ F S σ, Rl B μ F H S ∧ Sl B μ F H σ τ ∧
  PostG B (wE T W τ) μ F H (evIt C it σ S) fun w _ μ' F' H' => ∀ J, ItOk B μ' F' H' w J → R J H'
theorem pi_imp {tg : Expr} {t t' : TI} (h : PI X tg e t) (k : ∀ σ H Q, t' σ H Q → t σ H Q) : PI X tg e t' := ⟨fun pins s σ H Q I q => h.run pins s σ H Q I (k σ H Q q)⟩
theorem pi_or {tg : Expr} {t u : TI} (h : PI X tg e t) (h' : PI X tg e u) : PI X tg e (fun σ H R => t σ H R ∨ u σ H R) :=
  ⟨fun pins s σ H R I q => q.elim (h.run pins s σ H R I) (h'.run pins s σ H R I)⟩
/-- a list that stands, walked -/
theorem itl_ok {K : PySem.W.Frag} {μ : List Ad} {F : Fz} {H : Hp} {x : Ad} {w : Walk}
    (st : ∀ μ' F' H' S', Ext μ F H μ' F' H' → Rl B μ' F' H' S' → Walk.ok w.gd S' = true → ∃ vs, SqL K H' x vs ∧ Reps B μ' F' H' w.ds vs) : ItOk B μ F H w (Itl K x) where
  go := fun i μ' F' H' S' e r k hi => by
    obtain ⟨vs, h, q⟩ := st _ _ _ _ e r k
    have hv : i < vs.length := by rw [← q.length]; exact hi
    exact ⟨vs, vs[i], h, List.getElem?_eq_getElem hv⟩
  stop := fun i μ' F' H' S' e r k hi => by
    obtain ⟨vs, h, q⟩ := st _ _ _ _ e r k
    exact ⟨vs, h, by rw [← q.length]; omega⟩
  yld := fun i μ' F' H' S' y H2 e r k hi ⟨h1, h2⟩ => by
    subst h1
    obtain ⟨vs, h, q⟩ := st _ _ _ _ e r k
    obtain ⟨d, h4, h5⟩ := q.get' (h2 vs h)
    exact ⟨d, h4, Ext.refl _ _ _, r, h5⟩
theorem itt_ok {K : PySem.W.Frag} {μ : List Ad} {F : Fz} {H : Hp} {x : Ad} {vs : List V} {ds : List D} (q : Reps B μ F H ds vs) (h : SqT K H x vs) : ItOk B μ F H ⟨ds, none⟩ (Itt K x) where
  go := fun i μ' F' H' S' e r k hi => by
    have hv : i < vs.length := by rw [← q.length]; exact hi
    exact ⟨vs, vs[i], e.sqt h, List.getElem?_eq_getElem hv⟩
  stop := fun i μ' F' H' S' e r k hi => ⟨vs, e.sqt h, by rw [← q.length]; simp only at hi; omega⟩
  yld := fun i μ' F' H' S' y H2 e r k hi ⟨h1, h2⟩ => by
    subst h1
    have h3 := h2 vs (e.sqt h)
    obtain ⟨d, h4, h5⟩ := q.get' h3
    exact ⟨d, h4, Ext.refl _ _ _, r, h5.mono e⟩
theorem its_ok {μ : List Ad} {F : Fz} {H : Hp} (z : Txt) : ItOk B μ F H ⟨z.map fun c => .str [c], none⟩ (Its ⟨z.toArray⟩) where
  go := fun i μ' F' H' S' e r k hi => by
    show i < z.toArray.size
    simpa using hi
  stop := fun i μ' F' H' S' e r k hi => by
    show z.toArray.size ≤ i
    simp only [List.length_map] at hi
    simp [hi]
  yld := fun i μ' F' H' S' y H2 e r k hi ⟨h1, c, h2, h3⟩ => by
    subst h1; subst h3
    have h2 : z.toArray[i]? = some c := h2
    have h4 : z[i]? = some c := by simpa using h2
    exact ⟨.str [c], by rw [List.getElem?_map, h4]; rfl, Ext.refl _ _ _, r, .str [c]⟩
theorem pi_val' (hK : B.K = X.K) {tg : Expr} (ha : PE X e (tE T B W C a)) : PI X tg e (tIt T B W C (.val a)) := by
  refine pi_imp (pi_or (pi_list ha) (pi_or (pi_tup ha) (pi_str ha))) fun τ H R ⟨μ, F, S, σ, rl, sl, h⟩ => ?_
  simp only [evIt] at h
  cases hr : evE C a σ S with
  | stuck => rw [hr] at h; exact h.elim
  | exc c fs S' =>
    rw [hr] at h
    exact .inl ⟨μ, F, S, σ, rl, sl, by rw [hr]; exact h⟩
  | ok d S' =>
    have h0 : PostG B (wE T W τ) μ F H (okO S' (walkOf S' d)) (fun w _ μ' F' H' => ∀ J, ItOk B μ' F' H' w J → R J H') := by rw [hr] at h; exact h
    have h1 : ∀ μ1 F1 H1, Ext μ F H μ1 F1 H1 → Rl B μ1 F1 H1 S' → PostG B (wE T W τ) μ1 F1 H1 (okO S' (walkOf S' d)) (fun w _ μ' F' H' => ∀ J, ItOk B μ' F' H' w J → R J H') := fun μ1 F1 H1 e1 _ => h0.base e1
    have no : walkOf S' d = none → ∀ p : Prop, p := fun z p => by rw [z] at h0; exact h0.elim
    have lst : (∀ μ1 F1 H1 v, Ext μ F H μ1 F1 H1 → Rl B μ1 F1 H1 S' → Rep B μ1 F1 H1 d v → ∃ w, walkOf S' d = some w ∧ ∃ x, v = .ref x ∧ (∃ xs, SqL X.K H1 x xs) ∧ ItOk B μ1 F1 H1 w (Itl X.K x)) → iList X.K (tE T B W C a) τ H R := by
      intro k
      refine ⟨μ, F, S, σ, rl, sl, ?_⟩
      rw [hr]
      intro μ1 F1 H1 e1 rl1 v rd
      obtain ⟨w, hw, x, hx, hxs, hJ⟩ := k μ1 F1 H1 v e1 rl1 rd
      have p1 := h1 μ1 F1 H1 e1 rl1
      rw [hw] at p1
      exact ⟨x, hx, hxs, p1 μ1 F1 H1 (Ext.refl _ _ _) rl1 _ hJ⟩
    cases d with
    | str z =>
      refine .inr (.inr ⟨μ, F, S, σ, rl, sl, ?_⟩)
      rw [hr]
      intro μ1 F1 H1 e1 rl1 v rd
      have p1 := h1 μ1 F1 H1 e1 rl1
      cases rd
      exact ⟨_, rfl, p1 μ1 F1 H1 (Ext.refl _ _ _) rl1 _ (its_ok z)⟩
    | tup ds =>
      refine .inr (.inl ⟨μ, F, S, σ, rl, sl, ?_⟩)
      rw [hr]
      intro μ1 F1 H1 e1 rl1 v rd
      have p1 := h1 μ1 F1 H1 e1 rl1
      cases rd with
      | tup h2 q =>
        rw [hK] at h2
        exact ⟨_, rfl, ⟨_, h2⟩, p1 μ1 F1 H1 (Ext.refl _ _ _) rl1 _ (itt_ok q h2)⟩
    | vl ds =>
      refine .inl (lst fun μ1 F1 H1 v e1 rl1 rd => ?_)
      cases rd with
      | vl f h2 q => exact ⟨⟨ds, none⟩, rfl, _, rfl, ⟨_, SqL.of h2⟩, itl_ok fun μ' F' H' S2 e2 r2 _ => ⟨_, SqL.of (e2.lst _ _ f h2), q.mono e2⟩⟩
    | sc ds =>
      refine .inl (lst fun μ1 F1 H1 v e1 rl1 rd => ?_)
      cases rd with
      | vs h2 q =>
        rw [hK] at h2
        exact ⟨⟨ds, none⟩, rfl, _, rfl, ⟨_, h2.sql⟩, itl_ok fun μ' F' H' S2 e2 r2 _ => ⟨_, (e2.toWk.still h2).sql, q.mono e2⟩⟩
    | ref i =>
      cases hS : S'[i]? with
      | none => exact no (by simp [walkOf, hS]) _
      | some cl =>
        cases cl with
        | dic _ => exact no (by simp [walkOf, hS]) _
        | dead => exact no (by simp [walkOf, hS]) _
        | lst ds =>
          refine .inl (lst fun μ1 F1 H1 v e1 rl1 rd => ?_)
          cases rd with
          | @ref _ x h2 =>
            refine ⟨⟨ds, some (i, ds)⟩, by simp [walkOf, hS], x, rfl, ?_, itl_ok fun μ' F' H' S2 e2 r2 k => ?_⟩
            · obtain ⟨x', vs, g1, g2, _⟩ := rl1.lst hS
              rw [h2] at g1; cases g1
              exact ⟨vs, SqL.of g2⟩
            · have k' : S2[i]? = some (.lst ds) := by simpa [Walk.ok] using k
              obtain ⟨x', vs, g1, g2, g3⟩ := r2.lst k'
              rw [e2.pre _ _ h2] at g1; cases g1
              exact ⟨vs, SqL.of g2, g3⟩
    | _ => exact no rfl _
end
end SL
namespace SL
open PySem PySem.Spec PyProof.Rows L2
section
variable {X : L2.Cx} {T : Tb} {B : Bs} {W : WX} {C : Cx} {e l r e1 e2 e3 : Expr} {pos p2 : Pos} {a b c d : E} {es : Es}
theorem rng_len (lo : Int) (n : Nat) (c : Int) : (rngL lo n c).length = n := by simp [rngL]
theorem rng_get {lo : Int} {n : Nat} {c : Int} {i : Nat} (h : i < n) : (rngL lo n c)[i]? = some (.int (lo + (i : Nat) * c)) := by
  simp [rngL, h]
theorem itr_ok {μ : List Ad} {F : Fz} {H : Hp} (lo : Int) (n : Nat) : ItOk B μ F H ⟨rngL lo n 1, none⟩ (Itr lo n) where
  go := fun i μ' F' H' S' e r k hi => by rw [rng_len] at hi; exact hi
  stop := fun i μ' F' H' S' e r k hi => by rw [rng_len] at hi; exact Nat.le_of_eq hi.symm
  yld := fun i μ' F' H' S' y H2 e r k hi ⟨h1, h2⟩ => by
    subst h1
    subst h2
    rw [rng_len] at hi
    refine ⟨_, rng_get hi, Ext.refl _ _ _, r, ?_⟩
    rw [Int.mul_one]
    exact .int _
theorem small62_ok {i : Int} (h : small62 i = true) : -(2 ^ 62) ≤ i ∧ i < 2 ^ 62 := by
  unfold small62 at h
  simpa using h
theorem pi_r1' {tg : Expr} {p : Pos} (hg : Gl X "range") (hm : X.mg "range" = none) (ha : PE X e (tE T B W C a)) (hs : ∀ es, starEach (e :: es) X.env = (false, eval e X.env) :: starEach es X.env) : PI X tg (.Call (.Name "range" p) [e] [] pos) (tIt T B W C (.range1 a)) := by
  refine pi_imp (pi_range1 hg hm (pa_cons ha pa_nil (hs _)) (hs [])) fun τ H R ⟨μ, F, S, σ, rl, sl, h⟩ => ?_
  simp only [evIt] at h
  refine tE.go rl sl h.asI fun d S1 μ1 F1 H1 v rl1 sl1 e1 ⟨n, hd, p1⟩ rd => ?_
  subst hd
  cases rd
  by_cases hn : small62 n = true
  · rw [if_pos hn] at p1
    exact ⟨n, rfl, (small62_ok hn).1, (small62_ok hn).2, get2 p1 rfl _ _ _ (Ext.refl _ _ _) rl1 _ (itr_ok 0 n.toNat)⟩
  · rw [if_neg hn] at p1; exact p1.elim
theorem pi_r2' {tg : Expr} {p : Pos} (hg : Gl X "range") (hm : X.mg "range" = none) (ha : PE X e (tE T B W C a)) (hb : PE X r (tE T B W C b)) (hs : ∀ es, starEach (e :: es) X.env = (false, eval e X.env) :: starEach es X.env)
    (hs2 : ∀ es, starEach (r :: es) X.env = (false, eval r X.env) :: starEach es X.env) : PI X tg (.Call (.Name "range" p) [e, r] [] pos) (tIt T B W C (.range2 a b)) := by
  refine pi_imp (pi_range2 hg hm (pa_cons ha (pa_cons hb pa_nil (hs2 _)) (hs _)) (by rw [hs, hs2]; rfl) (hs2 [])) fun τ H R ⟨μ, F, S, σ, rl, sl, h⟩ => ?_
  simp only [evIt] at h
  refine tE.go rl sl h.asI fun d S1 μ1 F1 H1 v rl1 sl1 e1 ⟨n, hd, p1⟩ rd => ?_
  subst hd
  cases rd
  refine tE.go rl1 sl1 p1.asI fun d S2 μ2 F2 H2 v rl2 sl2 e2 ⟨m, hd, p2⟩ rd => ?_
  subst hd
  cases rd
  by_cases hn : (small62 n && small62 m) = true
  · rw [if_pos hn] at p2
    simp only [Bool.and_eq_true] at hn
    exact ⟨n, m, rfl, ⟨(small62_ok hn.1).1, (small62_ok hn.1).2, (small62_ok hn.2).1, (small62_ok hn.2).2⟩, get2 p2 rfl _ _ _ (Ext.refl _ _ _) rl2 _ (itr_ok n (m - n).toNat)⟩
  · rw [if_neg hn] at p2; exact p2.elim
/-! ### targets -/
theorem wipe_get (σ : L2.St) : ∀ (vs : List Nat) (j : Nat), (wipe σ vs)[j]? = if j ∈ vs then (if j < σ.length then some none else none) else σ[j]?
  | [], j => by simp [wipe]
  | v :: vs, j => by
    show ((wipe σ vs).set v none)[j]? = _
    by_cases h : j = v
    · subst h
      by_cases hl : j < σ.length
      · rw [List.getElem?_set_self (by rw [wipe_length]; exact hl)]
        simp [hl]
      · rw [List.getElem?_eq_none (by rw [List.length_set, wipe_length]; omega)]
        simp [hl]
    · rw [List.getElem?_set_ne (Ne.symm h), wipe_get σ vs j]
      simp [h]
theorem wipe_eq {σ σ' : L2.St} {vs : List Nat} (hl : σ'.length = σ.length) (h : ∀ j, j ∉ vs → σ'[j]? = σ[j]?) : wipe σ' vs = wipe σ vs := by
  apply List.ext_getElem?
  intro j
  rw [wipe_get, wipe_get, hl]
  by_cases hj : j ∈ vs
  · simp [hj]
  · simp [hj, h j hj]
theorem wipe_wipe (σ : L2.St) (vs : List Nat) : wipe (wipe σ vs) vs = wipe σ vs := by
  refine wipe_eq (wipe_length _ _) fun j hj => ?_
  rw [wipe_get]
  simp [hj]
theorem wipeS_len (σ : Slots) : ∀ vs : List Nat, (wipeS σ vs).length = σ.length
  | [] => rfl
  | v :: vs => by show ((wipeS σ vs).set v none).length = _; rw [List.length_set, wipeS_len σ vs]
theorem wipeS_some {σ : Slots} {i : Nat} {x : D} : ∀ {vs : List Nat}, (wipeS σ vs)[i]? = some (some x) → σ[i]? = some (some x) ∧ i ∉ vs
  | [], h => ⟨h, by simp⟩
  | v :: vs, h => by
    have h' : ((wipeS σ vs).set v none)[i]? = some (some x) := h
    by_cases hv : i = v
    · subst hv
      by_cases hl : i < (wipeS σ vs).length
      · rw [List.getElem?_set_self hl] at h'; cases h'
      · rw [List.getElem?_eq_none (by rw [List.length_set]; omega)] at h'; cases h'
    · rw [List.getElem?_set_ne (Ne.symm hv)] at h'
      obtain ⟨h1, h2⟩ := wipeS_some h'
      exact ⟨h1, by simp [hv, h2]⟩
theorem Sl.wipe {μ : List Ad} {F : Fz} {H : Hp} {σ : Slots} {τ : L2.St} (h : Sl B μ F H σ τ) (vs : List Nat) : Sl B μ F H (wipeS σ vs) (L2.wipe τ vs) := by
  refine ⟨by rw [wipeS_len, wipe_length, h.1], fun i d q => ?_⟩
  obtain ⟨q1, q2⟩ := wipeS_some q
  obtain ⟨v, h1, h2⟩ := h.2 i d q1
  exact ⟨v, by rw [wipe_get]; simp [q2, h1], h2⟩
def tTg (B : Bs) (tg : Tg) : TG := fun v τ H Q => ∃ μ F S σ d, Rl B μ F H S ∧ Sl B μ F H σ τ ∧ Rep B μ F H d v ∧ match tgSet tg d σ S with
  | .ok σ' _ => ∀ τ', Sl B μ F H σ' τ' → L2.wipe τ' (tgIx tg) = L2.wipe τ (tgIx tg) → Q τ' H
  | _ => False
theorem pg_imp {tg : Expr} {t t' : TG} (h : PG X tg t) (k : ∀ v σ H Q, t' v σ H Q → t v σ H Q) : PG X tg t' := ⟨fun pins s σ H v u Q I r q => h.run pins s σ H v u Q I r (k v σ H Q q)⟩
theorem pg_name' {i : Nat} {x : Str} (hN : X.N.Nodup) (hi : X.N[i]? = some x) (hx : Loc X.env.scope x) (hf : X.fn x = true ∨ X.env.scope.names.lookup x = some .local) : PG X (.Name x pos) (tTg B (.name i)) := by
  refine pg_imp (pg_name hN hi hx hf) fun v τ H Q ⟨μ, F, S, σ, d, rl, sl, rd, h⟩ => ?_
  refine h _ (sl.set rd i) (wipe_eq (by simp) fun j hj => ?_)
  rw [List.getElem?_set_ne (by simp [tgIx] at hj; omega)]
def gNs : List Nat → TGs
  | [] => gNil
  | i :: is => gCons (gName i) (gNs is)
/-- names in a row -/
inductive TgNs (X : L2.Cx) : List Expr → List Nat → Prop
  | nil : TgNs X [] []
  | cons {i : Nat} {x : Str} {p : Pos} {xs : List Expr} {is : List Nat} (hi : X.N[i]? = some x) (hx : Loc X.env.scope x) (hf : X.fn x = true ∨ X.env.scope.names.lookup x = some .local) (t : TgNs X xs is) : TgNs X (.Name x p :: xs) (i :: is)
theorem TgNs.pgs (hN : X.N.Nodup) : ∀ {xs : List Expr} {is : List Nat}, TgNs X xs is → PGs X xs (gNs is)
  | _, _, .nil => pgs_nil
  | _, _, .cons hi hx hf t => pgs_cons (pg_name hN hi hx hf) (TgNs.pgs hN t)
theorem TgNs.len : ∀ {xs : List Expr} {is : List Nat}, TgNs X xs is → (assignEach xs X.env).length = is.length ∧ (assignEach xs X.env).findIdx? (·.1) = none
  | _, _, .nil => ⟨rfl, rfl⟩
  | _, _, .cons (x := x) (p := p) (xs := xs) hi hx hf t => by
    obtain ⟨h1, h2⟩ := TgNs.len t
    have e : assignEach (.Name x p :: xs) X.env = (false, assign (.Name x p) X.env) :: assignEach xs X.env := rfl
    rw [e]
    refine ⟨by simp [h1], ?_⟩
    rw [List.findIdx?_cons]
    simp [h2]
theorem gNs_ok {Q : L2.St → Hp → Prop} {μ : List Ad} {F : Fz} {H : Hp} {σ0 : L2.St} : ∀ {is : List Nat} {ds : List D} {vs : List V} {σ : Slots} {τ : L2.St}, is.length = ds.length → Reps B μ F H ds vs → Sl B μ F H σ τ → (all : List Nat) → (∀ i ∈ is, i ∈ all) → L2.wipe τ all = L2.wipe σ0 all →
    (∀ τ', Sl B μ F H ((is.zip ds).foldl (fun σ p => σ.set p.1 (some p.2)) σ) τ' → L2.wipe τ' all = L2.wipe σ0 all → Q τ' H) → gNs is vs τ H Q
  | [], [], _, σ, τ, _, .nil, sl, all, _, hw, k => ⟨rfl, k τ sl hw⟩
  | i :: is, d :: ds, _, σ, τ, hl, .cons r t, sl, all, hm, hw, k => by
    refine ⟨_, _, rfl, ?_⟩
    refine gNs_ok (by simpa using hl) t (sl.set r i) all (fun j hj => hm j (List.mem_cons_of_mem _ hj)) ?_ k
    rw [← hw]
    refine wipe_eq (by simp) fun j hj => ?_
    rw [List.getElem?_set_ne]
    intro z
    exact hj (z ▸ hm i List.mem_cons_self)
theorem pg_tup' (hK : B.K = X.K) (hN : X.N.Nodup) (hc : X.calm = true) {xs : List Expr} {is : List Nat} {k : Nat} (h : TgNs X xs is) : PG X (.Tuple xs k pos) (tTg B (.tup is)) := by
  refine pg_imp (pg_tup (n := is.length) hc (h.pgs hN) h.len.1 h.len.2) fun v τ H Q ⟨μ, F, S, σ, d, rl, sl, rd, hq⟩ => ?_
  cases rd with
  | @tup x vs ds h1 q =>
    simp only [tgSet] at hq
    by_cases hz : ds.length = is.length
    · rw [if_pos hz] at hq
      rw [hK] at h1
      exact ⟨x, vs, rfl, h1, by rw [← q.length, hz], gNs_ok hz.symm q sl is (fun i hi => hi) rfl hq⟩
    · rw [if_neg hz] at hq; exact hq.elim
  | _ => exact hq.elim
/-! ### comprehensions -/
theorem calm_bind {α β : Type} {r : Res α} {K' : α → Store → Res β} {W1 W2 : WG} {μ μ' : List Ad} {F F' : Fz} {H H' : Hp} {G : β → Store → List Ad → Fz → Hp → Prop} (h : PostG B W1 μ F H ((calm r).bind K') G) :
    PostG B W2 μ' F' H' r fun x S _ _ _ => PostG B W1 μ F H (K' x S) G := by
  cases r with
  | ok x S => exact fun _ _ _ _ _ => h
  | exc c fs S => exact h.elim
  | stuck => exact h.elim
theorem calm_bindd {α β : Type} (r : Res α) (k : α → Store → Res β) : calm (r.bind k) = (calm r).bind fun x S => calm (k x S) := by cases r <;> rfl
theorem bind_assoc {α β γ : Type} (r : Res α) (k : α → Store → Res β) (m : β → Store → Res γ) : (r.bind k).bind m = r.bind fun x S => (k x S).bind m := by cases r <;> rfl
abbrev W0 : WX := fun _ _ _ _ => False
def tCnd (T : Tb) (B : Bs) (C : Cx) (c : EO) : TT := fun τ H Q => ∃ μ F S σ, Rl B μ F H S ∧ Sl B μ F H σ τ ∧ PostG B (wE T W0 τ) μ F H (evC C c σ S) fun b _ μ' F' H' => Q b H'
theorem pts_none' : PTs X [] (tCnd T B C .none) := ⟨fun pins s σ H Q I ⟨μ, F, S, σd, rl, sl, h⟩ => pts_nil.run pins s σ H Q I (get2 h rfl _ _ _ (Ext.refl _ _ _) rl)⟩
theorem pts_some' (hp : PT X e (tT T B W0 C a)) : PTs X [e] (tCnd T B C (.some a)) := by
  refine ⟨fun pins s σ H Q I ⟨μ, F, S, σd, rl, sl, h⟩ => (pts_one hp).run pins s σ H Q I ⟨μ, F, S, σd, rl, sl, ?_⟩⟩
  simp only [evC] at h
  refine (PostG.bind h).imp fun d S1 μ1 F1 H1 _ e1 rl1 p1 => ?_
  cases d <;> first | exact p1.elim | skip
  exact ⟨_, rfl, get2 p1 rfl _ _ _ (Ext.refl _ _ _) rl1⟩
/-- a list outside: a step that grows it -/
theorem Wk.out {μ : List Ad} {F : Fz} {H : Hp} {p : Ad} {xs : List V} {o : HO} (hp : H p = some (.lst xs)) (nF : ¬ F p) : Wk μ F H μ F (L2.upd H p o) :=
  ⟨fun _ _ h => h, fun _ h => h, fun a ys h => by rw [upd_ne (ne_of h hp (by intro z; cases z))]; exact h, fun a ys f h => by rw [upd_ne (show a ≠ p from fun z => nF (by rw [← z]; exact f))]; exact h,
    fun a o' u h => by rw [upd_ne (ne_of h hp (by intro z; cases z))]; exact h⟩
theorem Rl.out {μ : List Ad} {F : Fz} {H : Hp} {S : Store} {p : Ad} {xs : List V} {o : HO} (r : Rl B μ F H S) (hp : H p = some (.lst xs)) (nF : ¬ F p) (nM : ∀ i : Nat, μ[i]? ≠ some p) : Rl B μ F (L2.upd H p o) S :=
  r.wkF (Wk.out hp nF) fun i a ys h g => by
    refine (upd_ne (show a ≠ p from fun z => ?_)).trans g
    rcases h with h | h
    · exact nM i (by rw [← z]; exact h)
    · exact nF (by rw [← z]; exact h)
theorem Ext.out {μ μ' : List Ad} {F F' : Fz} {H H' : Hp} {p : Ad} {o : HO} (e : Ext μ F H μ' F' H') (n : H p = none) (nF : ∀ a, F a → H a ≠ none) : Ext μ F H μ' F' (L2.upd H' p o) :=
  ⟨⟨e.pre, e.fz, fun a xs h => by rw [upd_ne (ne_of_none h n)]; exact e.tup a xs h, fun a xs f h => by rw [upd_ne (ne_of_none h n)]; exact e.lst a xs f h, fun a ob u h => by rw [upd_ne (ne_of_none h n)]; exact e.frz a ob u h⟩,
    fun a ob h m => by rw [upd_ne (ne_of_none h n)]; exact e.keep a ob h m, fun a h => by
      by_cases z : a = p
      · rw [z, upd_same]; simp
      · rw [upd_ne z]; exact e.trk a h, e.nw, e.nf⟩
/-- a list outside stays so -/
theorem Ext.outs {μ μ' : List Ad} {F F' : Fz} {H H' : Hp} {p : Ad} {o : HO} (e : Ext μ F H μ' F' H') (hp : H p = some o) (nF : ¬ F p) (nM : ∀ i : Nat, μ[i]? ≠ some p) : H' p = some o ∧ ¬ F' p ∧ ∀ i : Nat, μ'[i]? ≠ some p :=
  ⟨e.keep p o hp nM, fun f => (e.nf p f).elim nF (fun z => z.elim (fun z => absurd (hp.symm.trans z) (by simp)) fun ⟨i, z⟩ => nM i z), fun i h => (e.nw i p h).elim (nM i) (fun z => absurd (hp.symm.trans z) (by simp))⟩
theorem lc_read {o : Bool} {tg : Tg} {it : It} {cd : EO} {elt : E} (hot : C.hot = false) {τ : L2.St} {H : Hp} {Q : VK} (hq : tE T B W C (.lc o elt tg it cd) τ H Q) :
    tLc (tIt T B W C it) (tTg B tg) (tCnd T B C cd) (tE T B W0 C elt) (tgIx tg) τ H Q := by
  obtain ⟨μ, F, S, σ, rl, sl, h⟩ := hq
  simp only [evE, hot] at h
  refine ⟨μ, F, S, σ, rl, sl, (PostG.bind h).imp fun w S1 μ1 F1 H1 _ e1 rl1 p1 J hJ => ?_⟩
  have sl1 := (sl.mono e1).wipe (tgIx tg)
  intro D nD
  have nF1 : ∀ a, F1 a → H1 a ≠ none := fun a f z => by obtain ⟨xs, hx⟩ := rl1.fl a f; rw [z] at hx; cases hx
  -- the state at turn i
  let Inv' : Nat → Hp → Prop := fun i Hc => ∃ μ2 F2 S2 acc accv, Ext μ1 F1 H1 μ2 F2 Hc ∧ Rl B μ2 F2 Hc S2 ∧ Hc D = some (.lst accv) ∧ ¬ F2 D ∧ (∀ i : Nat, μ2[i]? ≠ some D) ∧ Reps B μ2 F2 Hc acc accv ∧
    PostG B (wE T W τ) μ1 F1 H1 ((lcLoop (fun d S => calm ((tgSet tg d (wipeS σ (tgIx tg)) S).bind fun σ1 S2 => (evC C cd σ1 S2).bind fun t S3 =>
        if t then (evE C elt σ1 S3).bind fun y S4 => .ok (some y) S4 else .ok none S3)) w.gd (w.ds.drop i) acc S2).bind fun ds S2 => mk o ds S2) fun d _ μ' F' H' => ∀ v, Rep B μ' F' H' d v → Q v H'
  refine ⟨fun i m Hc => i + m = w.ds.length ∧ Inv' i Hc, ⟨w.ds.length, by omega, μ1, F1, S1, [], [], Ext.upd nD, rl1.new nD, upd_same, rl1.nF nD, rl1.nmem nD, .nil, by simpa using p1⟩, fun i m Hc ⟨em, μ2, F2, S2, acc, accv, e2, rl2, hD, nF2, nM2, racc, p2⟩ => ?_⟩
  by_cases hi : i < w.ds.length
  · right
    have hdrop : w.ds.drop i = w.ds[i] :: w.ds.drop (i + 1) := by rw [List.drop_eq_getElem_cons hi]
    rw [hdrop] at p2
    unfold lcLoop at p2
    by_cases hok : Walk.ok w.gd S2 = true
    · rw [if_pos hok] at p2
      refine ⟨hJ.go i _ _ _ _ e2 rl2 hok hi, fun Hc' => ∃ m', m' < m ∧ (i + 1 + m' = w.ds.length ∧ Inv' (i + 1) Hc'), fun H' z => z, fun x H' hy => ?_⟩
      obtain ⟨d, hd, e3, rl3, rd⟩ := hJ.yld i _ _ _ _ x H' e2 rl2 hok hi hy
      have ed : w.ds[i] = d := by rw [List.getElem?_eq_getElem hi] at hd; exact Option.some.inj hd
      rw [ed, bind_assoc, calm_bindd, bind_assoc] at p2
      obtain ⟨hD3, nF3, nM3⟩ := e3.outs hD nF2 nM2
      have racc3 := racc.mono e3
      have next : ∀ {μ4 F4 S4 acc' accv'}, ¬ F4 D → (∀ i : Nat, μ4[i]? ≠ some D) →
          PostG B (wE T W τ) μ1 F1 H1 ((lcLoop (fun d S => calm ((tgSet tg d (wipeS σ (tgIx tg)) S).bind fun σ1 S2 => (evC C cd σ1 S2).bind fun t S3 =>
            if t then (evE C elt σ1 S3).bind fun y S4 => .ok (some y) S4 else .ok none S3)) w.gd (w.ds.drop (i + 1)) acc' S4).bind fun ds S2 => mk o ds S2) (fun d _ μ' F' H' => ∀ v, Rep B μ' F' H' d v → Q v H') →
          ∀ Hn, Ext μ1 F1 H1 μ4 F4 Hn → Rl B μ4 F4 Hn S4 → Hn D = some (.lst accv') → Reps B μ4 F4 Hn acc' accv' → ∃ m', m' < m ∧ (i + 1 + m' = w.ds.length ∧ Inv' (i + 1) Hn) :=
        fun nF4 nM4 pp Hn en rln hDn raccn => ⟨m - 1, by omega, by omega, _, _, _, _, _, en, rln, hDn, nF4, nM4, raccn, pp⟩
      refine ⟨μ2, F2, S2, wipeS σ (tgIx tg), d, rl3, ((sl1.mono e2).mono e3), rd, ?_⟩
      cases ht : tgSet tg d (wipeS σ (tgIx tg)) S2 with
      | exc c fs S' => rw [ht] at p2; exact p2.elim
      | stuck => rw [ht] at p2; exact p2.elim
      | ok σ1 S2' =>
        have hS : S2' = S2 := by
          unfold tgSet at ht
          split at ht
          · cases ht; rfl
          · split at ht
            · split at ht
              · cases ht; rfl
              · cases ht
            · cases ht
        subst hS
        rw [ht] at p2
        intro τ' slt hw
        refine ⟨by rw [hw, wipe_wipe], ?_⟩
        have p3 : PostG B (wE T W τ) μ1 F1 H1 ((calm ((evC C cd σ1 S2').bind fun t S3 => if t then (evE C elt σ1 S3).bind fun y S4 => Res.ok (some y) S4 else Res.ok none S3)).bind fun x S1 => (match x with
          | some y => if acc.length < LINE then lcLoop (fun d S => calm ((tgSet tg d (wipeS σ (tgIx tg)) S).bind fun σ1 S2 => (evC C cd σ1 S2).bind fun t S3 =>
              if t then (evE C elt σ1 S3).bind fun y S4 => .ok (some y) S4 else .ok none S3)) w.gd (w.ds.drop (i + 1)) (acc ++ [y]) S1 else Res.stuck
          | none => lcLoop (fun d S => calm ((tgSet tg d (wipeS σ (tgIx tg)) S).bind fun σ1 S2 => (evC C cd σ1 S2).bind fun t S3 =>
              if t then (evE C elt σ1 S3).bind fun y S4 => .ok (some y) S4 else .ok none S3)) w.gd (w.ds.drop (i + 1)) acc S1).bind fun ds S2 => mk o ds S2) (fun d _ μ' F' H' => ∀ v, Rep B μ' F' H' d v → Q v H') := p2
        rw [calm_bindd, bind_assoc] at p3
        refine ⟨μ2, F2, S2', σ1, rl3, slt, (calm_bind p3).imp fun t S3 μ3 F3 H3 _ e4 rl4 p4 => ?_⟩
        obtain ⟨hD4, nF4, nM4⟩ := e4.outs hD3 nF3 nM3
        cases t with
        | false =>
          rw [if_neg (by decide)] at p4
          rw [if_neg (by decide)]
          exact next nF4 nM4 p4 H3 ((e2.trans e3).trans e4) rl4 hD4 (racc3.mono e4)
        | true =>
          rw [if_pos rfl, calm_bindd, bind_assoc] at p4
          rw [if_pos rfl]
          refine ⟨μ3, F3, S3, σ1, rl4, slt.mono e4, (calm_bind p4).imp fun y S4 μ4 F4 H4 _ e5 rl5 p5 yv ry => ?_⟩
          obtain ⟨hD5, nF5, nM5⟩ := e5.outs hD4 nF4 nM4
          have p6 : PostG B (wE T W τ) μ1 F1 H1 ((if acc.length < LINE then lcLoop (fun d S => calm ((tgSet tg d (wipeS σ (tgIx tg)) S).bind fun σ1 S2 => (evC C cd σ1 S2).bind fun t S3 =>
              if t then (evE C elt σ1 S3).bind fun y S4 => .ok (some y) S4 else .ok none S3)) w.gd (w.ds.drop (i + 1)) (acc ++ [y]) S4 else Res.stuck).bind fun ds S2 => mk o ds S2) (fun d _ μ' F' H' => ∀ v, Rep B μ' F' H' d v → Q v H') := p5
          by_cases hz : acc.length < LINE
          · rw [if_pos hz] at p6
            have racc5 := (racc3.mono e4).mono e5
            refine ⟨accv, hD5, by rw [← racc.length]; exact Nat.lt_of_lt_of_le hz (line_le (Nat.le_refl _)), ?_⟩
            have wk := Wk.out (μ := μ4) (o := .lst (accv ++ [yv])) hD5 nF5
            exact next (accv' := accv ++ [yv]) (μ4 := μ4) (F4 := F4) (S4 := S4) nF5 nM5 p6 _
              ((((e2.trans e3).trans e4).trans e5).out nD nF1) (rl5.out hD5 nF5 nM5) upd_same ((racc5.append (.cons ry .nil)).wk wk)
          · rw [if_neg hz] at p6; exact p6.elim
    · rw [if_neg hok] at p2; exact p2.elim
  · left
    have hdrop : w.ds.drop i = [] := List.drop_eq_nil_of_le (by omega)
    rw [hdrop] at p2
    unfold lcLoop at p2
    by_cases hok : Walk.ok w.gd S2 = true
    · rw [if_pos hok] at p2
      refine ⟨hJ.stop i _ _ _ _ e2 rl2 hok (by omega), ?_⟩
      have p3 : PostG B (wE T W τ) μ1 F1 H1 (mk o acc S2) (fun d _ μ' F' H' => ∀ v, Rep B μ' F' H' d v → Q v H') := p2
      unfold mk at p3
      by_cases hz : acc.length ≤ LINE
      · rw [if_pos hz] at p3
        cases o with
        | true =>
          rw [if_pos rfl] at p3
          obtain ⟨wk, r⟩ := adopt_own rl2 nM2 nF2 hD racc
          refine get2 p3 rfl (μ2 ++ [D]) F2 Hc ⟨⟨fun i a h => wk.pre i a (e2.pre i a h), e2.fz, e2.tup, e2.lst, e2.frz⟩, e2.keep, e2.trk, fun i a h => ?_, e2.nf⟩ r _ (.ref (by rw [← rl2.len, List.getElem?_append_right (Nat.le_refl _)]; simp))
          by_cases hl : i < μ2.length
          · rw [List.getElem?_append_left hl] at h; exact e2.nw i a h
          · rw [List.getElem?_append_right (by omega)] at h
            have : i - μ2.length = 0 := by
              cases q : i - μ2.length with
              | zero => rfl
              | succ k => rw [q] at h; simp at h
            rw [this] at h
            simp at h
            exact .inr (by rw [← h]; exact nD)
        | false =>
          rw [if_neg (by decide)] at p3
          obtain ⟨wk, r⟩ := adopt_still rl2 nM2 hD
          exact get2 p3 rfl μ2 (fun a => F2 a ∨ a = D) Hc ⟨⟨e2.pre, fun a f => .inl (e2.fz a f), e2.tup, e2.lst, e2.frz⟩, e2.keep, e2.trk, e2.nw, fun a f => f.elim (e2.nf a) fun z => .inr (.inl (by rw [z]; exact nD))⟩ r _ (.vl (.inr rfl) hD (racc.wk wk))
      · rw [if_neg hz] at p3; exact p3.elim
    · rw [if_neg hok] at p2; exact p2.elim
end
end SL
namespace SL
open PySem PySem.Spec PyProof.Rows L2
/-! ### statements -/
def OutOk (T : Tb) (B : Bs) (W : WX) (D : Ends) (o : Out) (μ : List Ad) (F : Fz) (H : Hp) : Prop :=
  match o with
  | .nx σ => ∀ τ, Sl B μ F H σ τ → D.nx τ H
  | .rt d => ∀ v, Rep B μ F H d v → D.rt v H
  | .bk σ => ∀ τ, Sl B μ F H σ τ → D.bk τ H
  | .ct σ => ∀ τ, Sl B μ F H σ τ → D.ct τ H
  | .ex c fs σ => ∀ τ, Sl B μ F H σ τ → ∀ d, XR T c fs d H → W (T.cl c) d τ H
abbrev WF : WG := fun _ _ _ _ _ => False
def tS (T : Tb) (B : Bs) (W : WX) (C : Cx) (s : St) : TS := fun D τ H => ∃ μ F S σ, Rl B μ F H S ∧ Sl B μ F H σ τ ∧
  PostG B WF μ F H (evS C s σ S) fun o _ μ' F' H' => OutOk T B W D o μ' F' H'
def tSs (T : Tb) (B : Bs) (W : WX) (C : Cx) (s : Ss) : TS := fun D τ H => ∃ μ F S σ, Rl B μ F H S ∧ Sl B μ F H σ τ ∧
  PostG B WF μ F H (evSs C s σ S) fun o _ μ' F' H' => OutOk T B W D o μ' F' H'
section
variable {X : L2.Cx} {T : Tb} {B : Bs} {W : WX} {C : Cx} {e l r e1 e2 e3 : Expr} {pos p2 : Pos} {a b c d : E} {es : Es}
theorem lift_post {α : Type} {r : Res α} {k : α → Store → Res Out} {σ : Slots} {τ : L2.St} {μ : List Ad} {F : Fz} {H : Hp} {D : Ends} (sl : Sl B μ F H σ τ)
    (h : PostG B WF μ F H (lift σ r k) fun o _ μ' F' H' => OutOk T B W D o μ' F' H') :
    PostG B (wE T W τ) μ F H r fun a S μ' F' H' => PostG B WF μ' F' H' (k a S) fun o _ μ' F' H' => OutOk T B W D o μ' F' H' := by
  cases r with
  | ok a S => exact fun μ2 F2 H2 e2 _ => PostG.base (r := k a S) h e2
  | exc c fs S => exact fun μ2 F2 H2 e2 r2 d x => h μ2 F2 H2 e2 r2 τ (sl.mono e2) d x
  | stuck => exact h
theorem noEx {α : Type} {r : Res α} {μ : List Ad} {F : Fz} {H : Hp} {W1 W2 : WG} {G : α → Store → List Ad → Fz → Hp → Prop} (ne : ∀ c fs S, r ≠ .exc c fs S) (h : PostG B W1 μ F H r G) : PostG B W2 μ F H r G := by
  cases r with
  | ok a S => exact h
  | exc c fs S => exact absurd rfl (ne c fs S)
  | stuck => exact h
theorem tgSet_S {tg : Tg} {d : D} {σ σ' : Slots} {S S' : Store} (ht : tgSet tg d σ S = .ok σ' S') : S' = S := by
  unfold tgSet at ht
  split at ht
  · cases ht; rfl
  · split at ht
    · split at ht
      · cases ht; rfl
      · cases ht
    · cases ht
theorem tg_go {tg : Tg} {d : D} {v : V} {σ : Slots} {τ : L2.St} {S : Store} {μ : List Ad} {F : Fz} {H : Hp} {β : Type} {k : Slots → Store → Res β} {G : β → Store → List Ad → Fz → Hp → Prop} {Q : L2.St → Hp → Prop} {W' : WG} (rl : Rl B μ F H S) (sl : Sl B μ F H σ τ) (rd : Rep B μ F H d v)
    (h : PostG B W' μ F H ((tgSet tg d σ S).bind k) G) (q : ∀ σ' τ', Sl B μ F H σ' τ' → PostG B W' μ F H (k σ' S) G → Q τ' H) : tTg B tg v τ H Q := by
  refine ⟨μ, F, S, σ, d, rl, sl, rd, ?_⟩
  cases ht : tgSet tg d σ S with
  | exc c fs S' => rw [ht] at h; unfold tgSet at ht; split at ht <;> (try split at ht) <;> (try split at ht) <;> cases ht
  | stuck => rw [ht] at h; exact h.elim
  | ok σ' S' =>
    have := tgSet_S ht
    subst this
    rw [ht] at h
    exact fun τ' sl' _ => q σ' τ' sl' h
theorem ps_asg' {tg : Expr} {g : Tg} (he : PE X e (tE T B W C a)) (hg : PG X tg (tTg B g)) (hs : swapsWithSole [tg] e pos.line X.env = pure false) (hw : swappedStores [tg] e X.env = pure none)
    (h1 : (assignEach [tg] X.env).map (·.2) = [assign tg X.env]) : PS X (.Assign [tg] e pos) (tS T B W C (.asg g a)) := by
  refine PS.imp (ps_asg he hg hs hw h1) fun D τ H ⟨μ, F, S, σ, rl, sl, h⟩ => ?_
  simp only [evS] at h
  refine tE.go rl sl (lift_post sl h) fun d S1 μ1 F1 H1 v rl1 sl1 e1 p1 rd => ?_
  exact tg_go rl1 sl1 rd p1 fun σ' τ' sl' p => get2 p rfl _ _ _ (Ext.refl _ _ _) rl1 τ' sl'
/-- name = [..] of one line -/
theorem ps_lcset' {i : Nat} {y : Str} {py : Pos} {elt tg iter : Expr} {ifs : List Expr} {scope : Scope} {own : List (Str × Nat)} {o : Bool} {g : Tg} {it : It} {cd : EO} {el : E} (hot : C.hot = false) (hc : X.calm = true) (hN : X.N.Nodup) (hy : X.N[i]? = some y) (hyl : X.env.scope.names.lookup y = some .local)
    (hsw : swapsWith (.ListComp elt [⟨tg, iter, ifs, 0⟩] scope p2) (some (.Name y py)) pos.line X.env = pure true) (hi : PI X tg iter (tIt T B W C it)) (ok : BlkOk X.N X.env.scope scope own) (ho : own.map (·.2) = tgIx g)
    (hg : ∀ (s : Shared) (H : Hp) (Ce : Addr) (cl : List (Str × Addr)) (fp : List Addr), PG (X.blk s H scope (compEnvC scope cl Ce X.env) fp) tg (tTg B g)) (ht : ∀ (s : Shared) (H : Hp) (Ce : Addr) (cl : List (Str × Addr)) (fp : List Addr), PTs (X.blk s H scope (compEnvC scope cl Ce X.env) fp) ifs (tCnd T B C cd))
    (he : ∀ (s : Shared) (H : Hp) (Ce : Addr) (cl : List (Str × Addr)) (fp : List Addr), PE (X.blk s H scope (compEnvC scope cl Ce X.env) fp) elt (tE T B W0 C el)) (hs : ∀ x, foldedSetIterable iter X.env x = pure x) :
    PS X (.Assign [.Name y py] (.ListComp elt [⟨tg, iter, ifs, 0⟩] scope p2) pos) (tS T B W C (.asg (.name i) (.lc o el g it cd))) := by
  refine PS.imp (ps_setLc hc hN hy hyl hsw hi ok hg ht he hs) fun D τ H ⟨μ, F, S, σ, rl, sl, h⟩ => ?_
  show tLc _ _ _ _ (own.map (·.2)) τ H _
  rw [ho]
  refine lc_read (o := o) hot ?_
  rw [evS] at h
  refine tE.go rl sl (lift_post sl h) fun d S1 μ1 F1 H1 v rl1 sl1 e1 p1 rd => ?_
  exact get2 p1 rfl _ _ _ (Ext.refl _ _ _) rl1 _ (sl1.set rd i)
theorem pe_lc' {elt tg iter : Expr} {ifs : List Expr} {scope : Scope} {own : List (Str × Nat)} {o : Bool} {g : Tg} {it : It} {cd : EO} {el : E} (hot : C.hot = false) (hc : X.calm = true) (hN : X.N.Nodup)
    (hi : PI X tg iter (tIt T B W C it)) (ok : BlkOk X.N X.env.scope scope own) (ho : own.map (·.2) = tgIx g)
    (hg : ∀ (s : Shared) (H : Hp) (Ce : Addr) (cl : List (Str × Addr)) (fp : List Addr), PG (X.blk s H scope (compEnvC scope cl Ce X.env) fp) tg (tTg B g)) (ht : ∀ (s : Shared) (H : Hp) (Ce : Addr) (cl : List (Str × Addr)) (fp : List Addr), PTs (X.blk s H scope (compEnvC scope cl Ce X.env) fp) ifs (tCnd T B C cd))
    (he : ∀ (s : Shared) (H : Hp) (Ce : Addr) (cl : List (Str × Addr)) (fp : List Addr), PE (X.blk s H scope (compEnvC scope cl Ce X.env) fp) elt (tE T B W0 C el)) (hs : ∀ x, foldedSetIterable iter X.env x = pure x) :
    PE X (.ListComp elt [⟨tg, iter, ifs, 0⟩] scope pos) (tE T B W C (.lc o el g it cd)) :=
  PE.imp (pe_lc hc hN hi ok hg ht he hs) fun τ H Q h => by rw [ho]; exact lc_read hot h
theorem ps_expr' (he : PE X e (tE T B W C a)) (hs : swapsWith e none pos.line X.env = pure false) : PS X (.Expr e pos) (tS T B W C (.expr a)) := by
  refine PS.imp (ps_expr he hs) fun D τ H ⟨μ, F, S, σ, rl, sl, h⟩ => ?_
  simp only [evS] at h
  exact tE.go rl sl (lift_post sl h) fun d S1 μ1 F1 H1 v rl1 sl1 e1 p1 rd => get2 p1 rfl _ _ _ (Ext.refl _ _ _) rl1 _ sl1
theorem ps_ret' (he : PE X e (tE T B W C a)) : PS X (.Return (some e) pos) (tS T B W C (.ret a)) := by
  refine PS.imp (ps_ret he) fun D τ H ⟨μ, F, S, σ, rl, sl, h⟩ => ?_
  simp only [evS] at h
  exact tE.go rl sl (lift_post sl h) fun d S1 μ1 F1 H1 v rl1 sl1 e1 p1 rd => get2 p1 rfl _ _ _ (Ext.refl _ _ _) rl1 _ rd
theorem ps_retN' : PS X (.Return none pos) (tS T B W C .retN) :=
  PS.imp ps_retN fun D τ H ⟨μ, F, S, σ, rl, sl, h⟩ => get2 h rfl _ _ _ (Ext.refl _ _ _) rl _ .non
theorem ps_pass' : PS X (.Pass pos) (tS T B W C .pass) := PS.imp ps_pass fun D τ H ⟨μ, F, S, σ, rl, sl, h⟩ => get2 h rfl _ _ _ (Ext.refl _ _ _) rl _ sl
theorem ps_brk' : PS X (.Break pos) (tS T B W C .brk) := PS.imp ps_break fun D τ H ⟨μ, F, S, σ, rl, sl, h⟩ => get2 h rfl _ _ _ (Ext.refl _ _ _) rl _ sl
theorem ps_cont' : PS X (.Continue pos) (tS T B W C .cont) := PS.imp ps_continue fun D τ H ⟨μ, F, S, σ, rl, sl, h⟩ => get2 h rfl _ _ _ (Ext.refl _ _ _) rl _ sl
theorem ps_ite' {sa sb : List Stmt} {ca cb : Ss} (hc : PT X e (tT T B W C c)) (ha : PSs X sa (tSs T B W C ca)) (hb : PSs X sb (tSs T B W C cb)) : PS X (.If e sa sb pos) (tS T B W C (.ite c ca cb)) := by
  refine PS.imp (ps_if hc ha hb) fun D τ H ⟨μ, F, S, σ, rl, sl, h⟩ => ?_
  simp only [evS] at h
  refine tT_bl rl sl ((lift_post sl h).imp (G' := fun d S μ' F' H' => ∃ b, d = .bl b ∧ ∃ t, d = .bl t ∧ PostG B WF μ' F' H' (if t = true then evSs C ca σ S else evSs C cb σ S) fun o _ μ' F' H' => OutOk T B W D o μ' F' H') fun d S1 μ1 F1 H1 hee e1 rl1 p1 => ?_)
    fun t S1 μ1 F1 H1 rl1 sl1 e1 ⟨t', ht, p1⟩ => ?_
  · cases d <;> first | exact p1.elim | skip
    rename_i b
    cases b
    · exact ⟨_, rfl, false, rfl, p1⟩
    · exact ⟨_, rfl, true, rfl, p1⟩
  · cases ht
    cases t with
    | true => rw [if_pos rfl] at p1; rw [if_pos rfl]; exact ⟨μ1, F1, S1, σ, rl1, sl1, p1⟩
    | false => rw [if_neg (by decide)] at p1; rw [if_neg (by decide)]; exact ⟨μ1, F1, S1, σ, rl1, sl1, p1⟩
theorem pss_nil' : PSs X [] (tSs T B W C .nil) := PSs.imp pss_nil fun D τ H ⟨μ, F, S, σ, rl, sl, h⟩ => get2 h rfl _ _ _ (Ext.refl _ _ _) rl _ sl
theorem pss_cons' {st : Stmt} {rest : List Stmt} {s : St} {ss : Ss} (h1 : PS X st (tS T B W C s)) (h2 : PSs X rest (tSs T B W C ss)) : PSs X (st :: rest) (tSs T B W C (.cons s ss)) := by
  refine PSs.imp (pss_cons h1 h2) fun D τ H ⟨μ, F, S, σ, rl, sl, h⟩ => ?_
  simp only [evSs] at h
  refine ⟨μ, F, S, σ, rl, sl, (PostG.bind h).imp fun o S1 μ1 F1 H1 _ e1 rl1 p1 => ?_⟩
  cases o with
  | nx σ' => exact fun τ' sl' => ⟨μ1, F1, S1, σ', rl1, sl', p1⟩
  | rt d => exact get2 p1 rfl _ _ _ (Ext.refl _ _ _) rl1
  | bk σ' => exact get2 p1 rfl _ _ _ (Ext.refl _ _ _) rl1
  | ct σ' => exact get2 p1 rfl _ _ _ (Ext.refl _ _ _) rl1
  | ex c fs σ' => exact get2 p1 rfl _ _ _ (Ext.refl _ _ _) rl1
/-! ### loops -/
theorem ps_for' {tg iter : Expr} {body : List Stmt} {g : Tg} {it : It} {cb : Ss} (hot : C.hot = false) (hp : PassesOwn (model X.prog X.w) X.A X.env X.xe) (hc : X.calm = true) (hi : PI X tg iter (tIt T B W C it)) (hg : PG X tg (tTg B g)) (hb : PSs X body (tSs T B W C cb))
    (hs : ∀ x, foldedSetIterable iter X.env x = pure x) : PS X (.For tg iter body [] pos) (tS T B W C (.for_ g it cb)) := by
  refine PS.imp (ps_for hp hc hi hg hb hs) fun D τ H ⟨μ, F, S, σ, rl, sl, h⟩ => ?_
  simp only [evS, hot] at h
  refine ⟨μ, F, S, σ, rl, sl, (lift_post sl h).imp fun w S1 μ1 F1 H1 _ e1 rl1 p1 J hJ => ?_⟩
  refine ⟨fun i m τi Hc => i + m = w.ds.length ∧ ∃ μ2 F2 S2 σ2, Ext μ1 F1 H1 μ2 F2 Hc ∧ Rl B μ2 F2 Hc S2 ∧ Sl B μ2 F2 Hc σ2 τi ∧
    PostG B WF μ2 F2 Hc (forLoop (fun d σ S => (tgSet g d σ S).bind fun σ1 S2 => evSs C cb σ1 S2) w.gd (w.ds.drop i) σ2 S2) fun o _ μ' F' H' => OutOk T B W D o μ' F' H',
    ⟨w.ds.length, by omega, μ1, F1, S1, σ, Ext.refl _ _ _, rl1, sl.mono e1, by simpa using p1⟩, fun i m τi Hc ⟨em, μ2, F2, S2, σ2, e2, rl2, sl2, p2⟩ => ?_⟩
  by_cases hi : i < w.ds.length
  · right
    have hdrop : w.ds.drop i = w.ds[i] :: w.ds.drop (i + 1) := by rw [List.drop_eq_getElem_cons hi]
    rw [hdrop] at p2
    unfold forLoop at p2
    by_cases hok : Walk.ok w.gd S2 = true
    · rw [if_pos hok] at p2
      refine ⟨hJ.go i _ _ _ _ e2 rl2 hok hi, fun τ' Hc' => ∃ m', m' < m ∧ (i + 1 + m' = w.ds.length ∧ ∃ μ2 F2 S2 σ2, Ext μ1 F1 H1 μ2 F2 Hc' ∧ Rl B μ2 F2 Hc' S2 ∧ Sl B μ2 F2 Hc' σ2 τ' ∧
        PostG B WF μ2 F2 Hc' (forLoop (fun d σ S => (tgSet g d σ S).bind fun σ1 S2 => evSs C cb σ1 S2) w.gd (w.ds.drop (i + 1)) σ2 S2) fun o _ μ' F' H' => OutOk T B W D o μ' F' H'), fun _ _ z => z, fun x H' hy => ?_⟩
      obtain ⟨d, hd, e3, rl3, rd⟩ := hJ.yld i _ _ _ _ x H' e2 rl2 hok hi hy
      have ed : w.ds[i] = d := by rw [List.getElem?_eq_getElem hi] at hd; exact Option.some.inj hd
      rw [ed, bind_assoc] at p2
      refine tg_go rl3 (sl2.mono e3) rd (p2.base e3) fun σ' τ' sl' p3 => ?_
      refine ⟨μ2, F2, S2, σ', rl3, sl', (PostG.bind p3).imp fun o S3 μ3 F3 H3 _ e4 rl4 p4 => ?_⟩
      have en := (e2.trans e3).trans e4
      cases o with
      | nx σ3 => exact fun τ3 sl3 => ⟨m - 1, by omega, by omega, μ3, F3, S3, σ3, en, rl4, sl3, p4⟩
      | ct σ3 => exact fun τ3 sl3 => ⟨m - 1, by omega, by omega, μ3, F3, S3, σ3, en, rl4, sl3, p4⟩
      | bk σ3 => exact fun τ3 sl3 => get2 p4 rfl _ _ _ (Ext.refl _ _ _) rl4 τ3 sl3
      | rt d => exact get2 p4 rfl _ _ _ (Ext.refl _ _ _) rl4
      | ex c fs σ3 => exact get2 p4 rfl _ _ _ (Ext.refl _ _ _) rl4
    · rw [if_neg hok] at p2; exact p2.elim
  · left
    have hdrop : w.ds.drop i = [] := List.drop_eq_nil_of_le (by omega)
    rw [hdrop] at p2
    unfold forLoop at p2
    by_cases hok : Walk.ok w.gd S2 = true
    · rw [if_pos hok] at p2
      exact ⟨hJ.stop i _ _ _ _ e2 rl2 hok (by omega), get2 p2 rfl _ _ _ (Ext.refl _ _ _) rl2 τi sl2⟩
    · rw [if_neg hok] at p2; exact p2.elim
theorem ps_while' {body : List Stmt} {cb : Ss} (hot : C.hot = false) (hp : PassesOwn (model X.prog X.w) X.A X.env X.xe) (hc : PT X e (tT T B W C c)) (hb : PSs X body (tSs T B W C cb)) : PS X (.While e body [] pos) (tS T B W C (.while_ c cb)) := by
  refine PS.imp (ps_while hp hc hb) fun D τ H ⟨μ, F, S, σ, rl, sl, h⟩ => ?_
  simp only [evS, hot] at h
  refine ⟨fun m τi Hc => ∃ μ2 F2 S2 σ2, Rl B μ2 F2 Hc S2 ∧ Sl B μ2 F2 Hc σ2 τi ∧
    PostG B WF μ2 F2 Hc (whileLoop (fun σ S => evE C c σ S) (fun σ S => evSs C cb σ S) m σ2 S2) fun o _ μ' F' H' => OutOk T B W D o μ' F' H',
    ⟨FUEL, μ, F, S, σ, rl, sl, h⟩, fun m τi Hc ⟨μ2, F2, S2, σ2, rl2, sl2, p2⟩ => ?_⟩
  cases m with
  | zero => exact p2.elim
  | succ m =>
    unfold whileLoop at p2
    refine tT_bl rl2 sl2 ((lift_post sl2 p2).imp (G' := fun d S μ' F' H' => ∃ b, d = .bl b ∧ ∃ t, d = .bl t ∧ PostG B WF μ' F' H' (if t = true then (evSs C cb σ2 S).bind (fun o S2 => match o with
          | .nx σ' => whileLoop (fun σ S => evE C c σ S) (fun σ S => evSs C cb σ S) m σ' S2
          | .ct σ' => whileLoop (fun σ S => evE C c σ S) (fun σ S => evSs C cb σ S) m σ' S2
          | .bk σ' => .ok (.nx σ') S2
          | o => .ok o S2) else .ok (.nx σ2) S) fun o _ μ' F' H' => OutOk T B W D o μ' F' H') fun d S1 μ1 F1 H1 hee e1 rl1 p1 => ?_)
      fun t S1 μ1 F1 H1 rl1 sl1 e1 ⟨t', ht, p1⟩ => ?_
    · cases d <;> first | exact p1.elim | skip
      rename_i b
      cases b
      · exact ⟨_, rfl, false, rfl, p1⟩
      · exact ⟨_, rfl, true, rfl, p1⟩
    · cases ht
      cases t with
      | false => rw [if_neg (by decide)] at p1; rw [if_neg (by decide)]; exact get2 p1 rfl _ _ _ (Ext.refl _ _ _) rl1 τi sl1
      | true =>
        rw [if_pos rfl] at p1
        rw [if_pos rfl]
        refine ⟨fun τ' H' => ∃ m', m' < m + 1 ∧ ∃ μ2 F2 S2 σ2, Rl B μ2 F2 H' S2 ∧ Sl B μ2 F2 H' σ2 τ' ∧
          PostG B WF μ2 F2 H' (whileLoop (fun σ S => evE C c σ S) (fun σ S => evSs C cb σ S) m' σ2 S2) fun o _ μ' F' H' => OutOk T B W D o μ' F' H', fun _ _ z => z,
          μ1, F1, S1, σ2, rl1, sl1, (PostG.bind p1).imp fun o S3 μ3 F3 H3 _ e4 rl4 p4 => ?_⟩
        cases o with
        | nx σ3 => exact fun τ3 sl3 => ⟨m, by omega, μ3, F3, S3, σ3, rl4, sl3, p4⟩
        | ct σ3 => exact fun τ3 sl3 => ⟨m, by omega, μ3, F3, S3, σ3, rl4, sl3, p4⟩
        | bk σ3 => exact fun τ3 sl3 => get2 p4 rfl _ _ _ (Ext.refl _ _ _) rl4 τ3 sl3
        | rt d => exact get2 p4 rfl _ _ _ (Ext.refl _ _ _) rl4
        | ex c fs σ3 => exact get2 p4 rfl _ _ _ (Ext.refl _ _ _) rl4
end
end SL
namespace SL
open PySem PySem.Spec PyProof.Rows L2
/-! ### behind a call -/
mutual
/-- all cells named lie below n -/
def low : D → Nat → Prop
  | .tup ds, n => lows ds n
  | .vl ds, n => lows ds n
  | .sc ds, n => lows ds n
  | .ref i, n => i < n
  | _, _ => True
def lows : List D → Nat → Prop
  | [], _ => True
  | d :: ds, n => low d n ∧ lows ds n
end
section
variable {B : Bs} {μ μ' : List Ad} {F F' : Fz} {H H' : Hp}
mutual
theorem Rep.low : ∀ {d : D} {v : V}, Rep B μ F H d v → SL.low d μ.length
  | _, _, .non => trivial
  | _, _, .bl b => trivial
  | _, _, .int i => trivial
  | _, _, .str x => trivial
  | _, _, .tup h r => by simp only [SL.low]; exact Reps.low r
  | _, _, .vl f h r => by simp only [SL.low]; exact Reps.low r
  | _, _, .vs h r => by simp only [SL.low]; exact Reps.low r
  | _, _, .ref h => by simp only [SL.low]; exact (List.getElem?_eq_some_iff.mp h).1
theorem Reps.low : ∀ {ds : List D} {vs : List V}, Reps B μ F H ds vs → SL.lows ds μ.length
  | _, _, .nil => trivial
  | _, _, .cons r t => ⟨Rep.low r, Reps.low t⟩
end
/-- the cells from n on forgotten, their lists still -/
def forget (μ' : List Ad) (F' : Fz) (n : Nat) : Fz := fun a => F' a ∨ ∃ j : Nat, n ≤ j ∧ μ'[j]? = some a
mutual
theorem Rep.forget (hm : ∀ (i : Nat) (a : Ad), i < μ.length → μ'[i]? = some a → μ[i]? = some a) : ∀ {d : D} {v : V}, Rep B μ' F' H' d v → SL.low d μ.length → Rep B μ (SL.forget μ' F' μ.length) H' d v
  | _, _, .non, _ => .non
  | _, _, .bl b, _ => .bl b
  | _, _, .int i, _ => .int i
  | _, _, .str x, _ => .str x
  | _, _, .tup h r, l => .tup h (Reps.forget hm r (by simpa only [SL.low] using l))
  | _, _, .vl f h r, l => .vl (.inl f) h (Reps.forget hm r (by simpa only [SL.low] using l))
  | _, _, .vs h r, l => .vs h (Reps.forget hm r (by simpa only [SL.low] using l))
  | _, _, .ref h, l => .ref (hm _ _ (by simpa only [SL.low] using l) h)
theorem Reps.forget (hm : ∀ (i : Nat) (a : Ad), i < μ.length → μ'[i]? = some a → μ[i]? = some a) : ∀ {ds : List D} {vs : List V}, Reps B μ' F' H' ds vs → SL.lows ds μ.length → Reps B μ (SL.forget μ' F' μ.length) H' ds vs
  | _, _, .nil, _ => .nil
  | _, _, .cons r t, l => .cons (Rep.forget hm r l.1) (Reps.forget hm t l.2)
end
theorem ext_low (e : Ext μ F H μ' F' H') {i : Nat} {a : Ad} (hi : i < μ.length) (h : μ'[i]? = some a) : μ[i]? = some a := by
  have h1 := e.pre i _ (List.getElem?_eq_getElem hi)
  rw [h] at h1
  rw [List.getElem?_eq_getElem hi, Option.some.inj h1]
theorem Ext.forget (e : Ext μ F H μ' F' H') : Ext μ F H μ (SL.forget μ' F' μ.length) H' :=
  ⟨⟨fun _ _ h => h, fun a f => .inl (e.fz a f), e.tup, e.lst, e.frz⟩, e.keep, e.trk, fun _ _ h => .inl h, fun a f => by
    rcases f with f | ⟨j, hj, h⟩
    · exact e.nf a f
    · rcases e.nw j a h with z | z
      · exact absurd (List.getElem?_eq_some_iff.mp z).1 (by omega)
      · exact .inr (.inl z)⟩
theorem Rl.forget {S S1 : Store} (r : Rl B μ F H S) (e : Ext μ F H μ' F' H') (r' : Rl B μ' F' H' S1) (hS : S1.take S.length = S) : Rl B μ (SL.forget μ' F' μ.length) H' S := by
  refine ⟨r.len, r.nd, fun i a h hd f => ?_, fun a f => ?_, fun i a c h1 h2 => ?_⟩
  · rcases f with f | ⟨j, hj, hq⟩
    · exact r'.nf i a (e.pre i a h) (fun z => hd (by
        have hi : i < S.length := by rw [← r.len]; exact (List.getElem?_eq_some_iff.mp h).1
        rw [← hS, List.getElem?_take, if_pos hi]; exact z)) f
    · have := r'.nd i j a (e.pre i a h) hq
      have := (List.getElem?_eq_some_iff.mp h).1
      omega
  · rcases f with f | ⟨j, hj, hq⟩
    · exact r'.fl a f
    · exact r'.trk hq
  · have hi : i < S.length := (List.getElem?_eq_some_iff.mp h2).1
    have h3 : S1[i]? = some c := by
      rw [← hS] at h2
      rw [List.getElem?_take] at h2
      rw [if_pos hi] at h2
      exact h2
    have c1 := r.cell i a c h1 h2
    have c2 := r'.cell i a c (e.pre i a h1) h3
    cases c with
    | dic _ => exact c1.elim
    | dead => exact c2
    | lst ds =>
      obtain ⟨vs1, _, q1⟩ := c1
      obtain ⟨vs2, h4, q2⟩ := c2
      exact ⟨vs2, h4, q2.forget (fun i a hi h => ext_low e hi h) q1.low⟩
mutual
theorem Rep.plainF {n : Nat} : ∀ {d : D} {v : V}, pureD d = true → Rep B μ' F' H' d v → Rep B μ (SL.forget μ' F' n) H' d v
  | _, _, _, .non => .non
  | _, _, _, .bl b => .bl b
  | _, _, _, .int i => .int i
  | _, _, _, .str x => .str x
  | _, _, p, .tup h r => .tup h (Reps.plainF (by simpa only [pureD] using p) r)
  | _, _, p, .vl f h r => .vl (.inl f) h (Reps.plainF (by simpa only [pureD] using p) r)
  | _, _, p, .vs h r => by simp [pureD] at p
  | _, _, p, .ref h => by simp [pureD] at p
theorem Reps.plainF {n : Nat} : ∀ {ds : List D} {vs : List V}, pureDs ds = true → Reps B μ' F' H' ds vs → Reps B μ (SL.forget μ' F' n) H' ds vs
  | _, _, _, .nil => .nil
  | _, _, p, .cons r t => by
    simp only [pureDs, Bool.and_eq_true] at p
    exact .cons (Rep.plainF p.1 r) (Reps.plainF p.2 t)
end
theorem fz_ok (e : Ext μ F H μ' F' H') {S1 : Store} (r' : Rl B μ' F' H' S1) : ∀ (k : Nat),
    (∀ (d d' : D) (v : V), fz k μ.length S1 d = some d' → Rep B μ' F' H' d v → Rep B μ (SL.forget μ' F' μ.length) H' d' v) ∧
    (∀ (ds ds' : List D) (vs : List V), fzs k μ.length S1 ds = some ds' → Reps B μ' F' H' ds vs → Reps B μ (SL.forget μ' F' μ.length) H' ds' vs)
  | 0 => ⟨fun d d' v h => by simp [fz] at h, fun ds ds' vs h => by simp [fzs] at h⟩
  | k + 1 => by
    obtain ⟨i1, i2⟩ := fz_ok e r' k
    have a1 : ∀ (d d' : D) (v : V), fz (k + 1) μ.length S1 d = some d' → Rep B μ' F' H' d v → Rep B μ (SL.forget μ' F' μ.length) H' d' v := by
      intro d d' v h q
      unfold fz at h
      by_cases hp : pureD d = true
      · rw [if_pos hp] at h
        cases h
        exact q.plainF hp
      rw [if_neg hp] at h
      cases q with
      | non => cases h; exact .non
      | bl b => cases h; exact .bl b
      | int i => cases h; exact .int i
      | str x => cases h; exact .str x
      | tup h1 r =>
        simp only at h
        obtain ⟨ds', h2, rfl⟩ := Option.map_eq_some_iff.mp h
        exact .tup h1 (i2 _ _ _ h2 r)
      | vl f h1 r =>
        simp only at h
        obtain ⟨ds', h2, rfl⟩ := Option.map_eq_some_iff.mp h
        exact .vl (.inl f) h1 (i2 _ _ _ h2 r)
      | vs h1 r =>
        simp only at h
        obtain ⟨ds', h2, rfl⟩ := Option.map_eq_some_iff.mp h
        exact .vs h1 (i2 _ _ _ h2 r)
      | @ref i a h1 =>
        simp only at h
        by_cases hi : i < μ.length
        · rw [if_pos hi] at h
          cases h
          exact .ref (ext_low e hi h1)
        · rw [if_neg hi] at h
          cases hS : S1[i]? with
          | none => rw [hS] at h; cases h
          | some c =>
            rw [hS] at h
            cases c with
            | dic _ => cases h
            | dead => cases h
            | lst ds =>
              obtain ⟨ds', h2, rfl⟩ := Option.map_eq_some_iff.mp h
              obtain ⟨a', vs, g1, g2, g3⟩ := r'.lst hS
              rw [h1] at g1; cases g1
              exact .vl (.inr ⟨i, by omega, h1⟩) g2 (i2 _ _ _ h2 g3)
    refine ⟨a1, ?_⟩
    intro ds
    induction ds with
    | nil => intro ds' vs h q; simp only [fzs] at h; cases h; cases q; exact .nil
    | cons d ds ih =>
      intro ds' vs h q
      simp only [fzs] at h
      obtain ⟨d', h1, h2⟩ := Option.bind_eq_some_iff.mp h
      obtain ⟨ds'', h3, rfl⟩ := Option.map_eq_some_iff.mp h2
      cases q with
      | cons r t => exact .cons (i1 _ _ _ h1 r) (ih _ _ h3 t)
/-- a def's body, from what is wanted of its call -/
theorem fin_ok {T : Tb} {keep : Bool} {S : Store} {r : Res Out} {Q : VK} {E : XK} (rl : Rl B μ F H S)
    (h : PostG B (wC T E) μ F H (fin keep S r) fun d _ μ' F' H' => ∀ v, Rep B μ' F' H' d v → Q v H') :
    PostG B WF μ F H r fun o _ μ' F' H' => OutOk T B (fun c d _ H => E c d H) { nx := fun _ H' => Q .non H', rt := Q } o μ' F' H' := by
  have lenS : S.length = μ.length := rl.len.symm
  have back : ∀ {S1 : Store} {d : D}, PostG B (wC T E) μ F H (if keep then .ok d S1 else match fz 64 S.length S1 d with
      | some d' => if S1.take S.length = S then .ok d' S else .ok d S1
      | none => .ok d S1) (fun d _ μ' F' H' => ∀ v, Rep B μ' F' H' d v → Q v H') → ∀ μ' F' H', Ext μ F H μ' F' H' → Rl B μ' F' H' S1 → ∀ v, Rep B μ' F' H' d v → Q v H' := by
    intro S1 d hh μ' F' H' e r' v rd
    cases keep with
    | true => exact get2 hh rfl _ _ _ e r' v rd
    | false =>
      rw [if_neg (by decide)] at hh
      cases hf : fz 64 S.length S1 d with
      | none => rw [hf] at hh; exact get2 hh rfl _ _ _ e r' v rd
      | some d' =>
        rw [hf] at hh
        simp only at hh
        by_cases ht : S1.take S.length = S
        · rw [if_pos ht] at hh
          rw [lenS] at hf
          exact get2 hh rfl _ _ _ e.forget (rl.forget e r' ht) v ((fz_ok e r' 64).1 _ _ _ hf rd)
        · rw [if_neg ht] at hh; exact get2 hh rfl _ _ _ e r' v rd
  cases r with
  | stuck => exact h
  | exc c fs S1 => exact h.elim
  | ok o S1 =>
    cases o with
    | bk σ => exact h.elim
    | ct σ => exact h.elim
    | nx σ => exact fun μ' F' H' e r' τ _ => back h μ' F' H' e r' .non .non
    | rt d => exact fun μ' F' H' e r' v rd => back h μ' F' H' e r' v rd
    | ex c fs σ =>
      intro μ' F' H' e r' τ _ d x
      have h' : PostG B (wC T E) μ F H (if S1.take S.length = S then Res.exc (α := D) c fs S else .exc c fs S1) (fun d _ μ' F' H' => ∀ v, Rep B μ' F' H' d v → Q v H') := h
      by_cases ht : S1.take S.length = S
      · rw [if_pos ht] at h'
        exact h' _ _ _ e.forget (rl.forget e r' ht) d x
      · rw [if_neg ht] at h'
        exact h' _ _ _ e r' d x
end
/-- the slots at a body's begin -/
theorem start_ok {B : Bs} {μ : List Ad} {F : Fz} {H : Hp} {ds : List D} {vs : List V} {N : List Str} {k : Nat} (q : Reps B μ F H ds vs) (hk : ds.length + k = N.length) : Sl B μ F H (ds.map some ++ List.replicate k none) (L2.start N vs) := by
  have hl := q.length
  refine ⟨by unfold L2.start; simp; omega, fun i d h => ?_⟩
  unfold L2.start
  by_cases hi : i < ds.length
  · rw [List.getElem?_append_left (by simpa using hi), List.getElem?_map] at h
    obtain ⟨d', h1, h2⟩ := Option.map_eq_some_iff.mp h
    cases h2
    obtain ⟨v, h3, h4⟩ := q.get h1
    refine ⟨v, ?_, .of h4⟩
    rw [List.getElem?_append_left (by simp; omega), List.getElem?_map, h3]
    rfl
  · rw [List.getElem?_append_right (by simp; omega)] at h
    have : (List.replicate k (none : Option D))[i - (ds.map some).length]? = some (some d) := h
    rw [List.getElem?_replicate] at this
    split at this <;> cases this
end SL
/-! sorted of a tuple of ints; tuple.count -/
namespace SrtO
open PySem PyProof.Rows Srt
section
variable {prog : Program} {w : World} {A : Around} {E : Value → Shared → Prop} {s : Shared}
theorem collect_tupS {l : Addr} {vs : List Value} {Q : List Value → Shared → Prop} (hl : s.heap.IsTuple l vs.toArray)
    (h : Q vs { s with heap := (s.heap.push (seqObj "list" #[] 0)).update s.heap.objs.size (Obj.mapSeq (· ++ vs.toArray)) }) (hsz : vs.length ≤ sizeLine) :
    wpAny (model prog w) A (collect (.ref l)) Q E s := by
  obtain ⟨o, ho, hc, n, hd⟩ := id hl
  unfold collect
  refine wpAny_bind (wpAny_runValue (codeAny_builtin entry_proto_collect' ?_))
  show wpAny _ _ (do again (.builtin "list.__iadd__" ⟨[← newList [], .ref l], []⟩)) _ _ s
  refine wpAny_bind (wpAny_newList (wpAny_pure ⟨Code.quiet_builtin _ (by decide +kernel), codeAny_builtin entry_list_iadd' ?_⟩))
  show wpAny _ _ (Builtin.List.listExtendWith (.ref s.heap.objs.size) (.ref l) (.ref s.heap.objs.size)) _ _ { s with heap := s.heap.push (seqObj "list" #[] 0) }
  unfold Builtin.List.listExtendWith
  have ho' : (s.heap.push (seqObj "list" #[] 0)).get? l = some o := Heap.get?_push_of_some _ ho
  refine wpAny_bind (wpAny_typeOf (T := "tuple") ⟨o, ho', hc⟩ ?_)
  have ht : (Value.type "tuple" == Value.type "tuple") = true := by rfl
  rw [if_pos (by rw [ht]; simp)]
  refine wpAny_bind (listItems_at ho' hd ?_)
  refine wpAny_bind (listItems_at (xs := #[]) (n := 0) (Heap.get?_push_size _ rfl) rfl ?_)
  rw [if_neg (by simp)]
  refine wpAny_bind (listUpdate_at (xs := #[]) (n := 0) (Heap.get?_push_size _ rfl) rfl ?_ (Nat.zero_le _) (by show (#[] ++ vs.toArray).size ≤ sizeLine + 1; simp only [Array.size_append, List.size_toArray, List.length_nil]; omega))
  refine wpAny_pure ?_
  show wpAny (model prog w) A (do
      let o ← load s.heap.objs.size
      match o.data with
      | .seq xs _ => pure xs.toList
      | _ => unsupported "internal:collect") Q E { s with heap := (s.heap.push (seqObj "list" #[] 0)).update s.heap.objs.size (Obj.mapSeq (· ++ vs.toArray)) }
  refine wpAny_bind (wpAny_load (get?_update_seq (Heap.get?_push_size _ rfl) _) ?_)
  show wpAny _ _ (pure ((#[] : Array Value) ++ vs.toArray).toList) Q E _
  rw [show ((#[] : Array Value) ++ vs.toArray).toList = vs by simp]
  exact wpAny_pure h
theorem sorted_ordT {l : Addr} {vs : List Value} {ltv : Value → Value → Bool} {Q : Value → Shared → Prop} (O : Swo ltv) (hl : s.heap.IsTuple l vs.toArray) (hz : vs.length ≤ sizeLine)
    (hS : 2 ≤ vs.length → ∀ (h₁ : Heap) (a : Addr), h₁.get? a = some (seqObj "list" vs.toArray 0) → (∀ b o, s.heap.get? b = some o → b ≠ a ∧ h₁.get? b = some o) → SortableO prog w A.in1.in1 { s with heap := h₁ } a vs ltv)
    (h : ∀ out : List Value, Srtd ltv out → Stb ltv out vs → Q (.ref (s.heap.objs.size + 1)) { s with heap := sortedAll s.heap vs out.toArray }) :
    wpAny (model prog w) A (call (.builtin "sorted") [.ref l]) Q E s := by
  refine Calls.call_function_entry kind_sorted plain_sorted entry_sorted (args_sorted1 _) ?_
  unfold Builtin.«sorted»
  refine wpAny_bind (m := checkCount "sorted" 1 1 _) (wpAny_pure ?_)
  refine wpAny_bind (collect_tupS hl ?_ hz)
  refine wpAny_bind (wpAny_newList ?_ hz)
  have hsz : ((s.heap.push (seqObj "list" #[] 0)).update s.heap.objs.size (Obj.mapSeq (· ++ vs.toArray))).objs.size = s.heap.objs.size + 1 := by
    rw [Heap.size_update, size_push']
  have hoL : (((s.heap.push (seqObj "list" #[] 0)).update s.heap.objs.size (Obj.mapSeq (· ++ vs.toArray))).push (seqObj "list" vs.toArray 0)).get? (s.heap.objs.size + 1) = some (seqObj "list" vs.toArray 0) := by
    rw [← hsz]; exact Heap.get?_push_size _ rfl
  have keep : ∀ b o, s.heap.get? b = some o → b ≠ s.heap.objs.size + 1 ∧ (((s.heap.push (seqObj "list" #[] 0)).update s.heap.objs.size (Obj.mapSeq (· ++ vs.toArray))).push (seqObj "list" vs.toArray 0)).get? b = some o := fun b o q => by
    have hlt : b < s.heap.objs.size := Heap.lt_size q
    refine ⟨Nat.ne_of_lt (Nat.lt_succ_of_lt hlt), Heap.get?_push_of_some _ ?_⟩
    rw [Heap.get?_update_ne _ _ _ _ (Nat.ne_of_lt hlt)]
    exact Heap.get?_push_of_some _ q
  show wpAny _ _ _ _ _ { s with heap := ((s.heap.push (seqObj "list" #[] 0)).update s.heap.objs.size (Obj.mapSeq (· ++ vs.toArray))).push (seqObj "list" vs.toArray 0) }
  rw [hsz]
  refine wpAny_bind (wpAny_holding (wpAny_call_entry slot_list_sort ⟨_, hoL, rfl⟩ entry_list_sort (list_sort_ord O hoL hz (fun h2 => hS h2 _ _ hoL keep) fun out hs hb => ⟨_, rfl, ?_⟩) (args_list_sort _)))
  exact wpAny_pure ⟨_, rfl, h out hs hb⟩
end
end SrtO
namespace SL
open PySem PySem.Spec PyProof.Rows L2
section
variable {X : L2.Cx}
/-- sorted(xs), a list or a tuple of ints -/
def rSortedQ (K : PySem.W.Frag) : List V → Hp → VK → Prop := fun vs H Q => ∃ (a : Addr) (ns : List Int), vs = [V.ref a] ∧ (SqL K H a (ns.map V.int) ∨ SqT K H a (ns.map V.int)) ∧
  ∀ (ns' : List Int) (p : Addr), ns'.Perm ns → ns'.Pairwise (· ≤ ·) → H p = none → Q (.ref p) (upd H p (.lst (ns'.map V.int)))
theorem cr_sortedQ : CallR X (.builtin "sorted") (rSortedQ X.K) := by
  intro pins s σ H vs us Q I r h
  obtain ⟨a, ns, rfl, hs | hs, q⟩ := h
  · exact cr_sortedI pins s σ H _ us Q I r ⟨a, ns, rfl, hs, q⟩
  · obtain ⟨its, rv, hl, hz⟩ := I.tuple hs
    rw [Vals.ref1 r]
    have hi := rv.ints
    have hz' : ns.length ≤ sizeLine := by rw [List.length_map] at hz; exact hz
    refine SrtO.sorted_ordT SrtO.swo_int hl (by rw [← rv.length]; exact hz) (fun h2 h₁ a' _ _ => SrtO.ints_sortable hi h2) fun out h1 h2 => ?_
    obtain ⟨k1, k2, k3⟩ := SrtO.ints_out hi h1 h2
    obtain ⟨ep, he'⟩ := PyProof.Rows.sortedAll_at s.heap its out.toArray
    have hlen : ((out.map SrtO.iv).map V.int).length ≤ sizeLine := by
      rw [List.length_map, k2.length_eq]
      exact hz'
    exact ⟨.ref _, upd H (s.heap.objs.size + 1) (.lst ((out.map SrtO.iv).map V.int)), I.laid (t' := s.toks) (fun _ _ => PyProof.Rows.sortedAll_old) (Nat.le_succ _) ⟨hlen, out, ep, vals_of_ints k1, he'⟩, rfl, q _ _ k2 k3 (I.hok.fresh (Nat.le_succ _))⟩
def rTCnt (K : PySem.W.Frag) : V → List V → Hp → VK → Prop := fun x xs H Q => ∃ (p : Addr) (ns : List Int) (k : Int), x = .ref p ∧ xs = [.int k] ∧ SqT K H p (ns.map V.int) ∧ Q (.int (ns.count k : Nat)) H
theorem mt_tcount : MtR X "tuple.count" (rTCnt X.K) := by
  intro pins s σ H x xs v us Q I rx rxs h
  obtain ⟨p, ns, k, rfl, rfl, hs, q⟩ := h
  cases rx
  obtain ⟨u, rfl, ru⟩ := rxs.one
  obtain ⟨t, rfl⟩ := ru
  obtain ⟨its, rv, ⟨⟨cls, dd, data, sl⟩, ho, hc, n, hd⟩, hlen⟩ := I.tuple hs
  simp only at hc hd
  subst hc hd
  have hi := ints_of_vals rv
  refine call_meets PySem.F.slot_tuple_count ⟨_, ho, rfl⟩ PySem.F.entry_tuple_count (PySem.F.args_tuple_count_2 _ _)
    (SeqAt.tuple_countAt p its.toArray n dd sl (.int k t) (eqk k)) ⟨ho, fun y hy => (eqk_gives hi y (by simpa using hy)).at _ _, ?_⟩
  have ec : its.toArray.toList.countP (eqk k) = ns.count k := eqk_count hi
  refine ⟨.int (ns.count k : Nat), H, I.tok _, ⟨s.toks, ?_⟩, q⟩
  show Value.int ((its.toArray.toList.countP (eqk k) : Nat) : Int) s.toks = Value.int ((ns.count k : Nat) : Int) s.toks
  rw [ec]
end
end SL
/-! max(.., key=len) -/
namespace MaxK
open PySem PyProof.Rows
section
variable {prog : Program} {w : World} {A : Around} {R : Result → Shared → Prop} {I : Addr} {fp wr : List Addr} {n : Nat} {P : Nat → Value → Prop} {St : Nat → Heap → Prop} {kid : String} {kf : Nat → Int} {K : Heap → Prop}
/-- a key asked of an item: an int, nothing changes -/
def KeyOk (prog : Program) (w : World) (A : Around) (kid : String) (P : Nat → Value → Prop) (kf : Nat → Int) (K : Heap → Prop) : Prop :=
  ∀ (i : Nat) (v : Value), P i v → ∀ (s : Shared) (Q : Value → Shared → Prop) (E : Value → Shared → Prop), K s.heap → (∀ t tk, Q (.int (kf i) t) { s with toks := tk }) → wpAny (model prog w) A (call (.builtin kid) [v]) Q E s
abbrev bt (kf : Nat → Int) (i j : Nat) : Bool := decide (kf i > kf j)
theorem loop (W : Walks prog w A.in1 I fp wr n P St) (KO : KeyOk prog w A.in1 kid P kf K) (S : Addr) (hSf : S ∉ fp) (hK : ∀ h h', K h → (∀ b o, b ∉ wr → b ≠ S → h.get? b = some o → h'.get? b = some o) → K h') :
    ∀ (k j : Nat) (s : Shared) (vb : Value) (tb : Tok) (c : Nat), n - (j + 1) = k → j + 1 ≤ n → St (j + 1) s.heap → K s.heap → P (argBest (bt kf) j) vb →
    s.heap.get? S = some { cls := .type "list", dict := none, data := .seq #[vb, .int (kf (argBest (bt kf) j)) tb] c, slots := #[] } →
    (∀ v h' tk, P (argBest (bt kf) (n - 1)) v → (∀ b o, b ∉ wr → b ≠ S → s.heap.get? b = some o → h'.get? b = some o) → R (.ok (.ret v)) { s with heap := h', toks := tk }) →
    codeAny (model prog w) A (.builtin "max.loop" ⟨[.ref I, .builtin kid, .ref S], []⟩) R s := by
  have hSw : S ∉ wr := fun h => hSf (W.sub _ h)
  have hname : (toString "max" ++ toString ".loop" : String) = "max.loop" := by decide
  intro k
  induction k with
  | zero =>
    intro j s vb tb c hk hj hst hKs hPb hS hR
    have hin : j + 1 = n := by omega
    refine codeAny_builtin PySem.F.entry_max_loop ?_
    rw [Around.under_plainId PySem.F.plain_max_loop _]
    show wpAny _ A.in1 (seqItems? (.ref S) >>= _) _ _ s
    refine wpAny_bind (wpAny_seqItems hS rfl ?_)
    show wpAny _ A.in1 (tryCatch (pyNext (.ref I)) _ >>= _) _ _ s
    refine wpAny_bind (wpAny_tryCatch (W.done s _ _ (hin ▸ hst) fun h' tk hk' => ?_))
    have hS' := hk' S _ hSw hS
    show wpAny _ A.in1 (updateSeq S (fun _ => #[]) >>= _) _ _ _
    refine wpAny_bind ?_
    refine wpAny_updateSeq hS' rfl (wpAny_bind (wpAny_letGo (wpAny_pure ?_)))
    exact hR vb _ tk (by rw [← hin]; exact hPb) fun b o hbw hbS e => (Heap.get?_update_other _ _ (Ne.symm hbS)).trans (hk' b o hbw e)
  | succ k ih =>
    intro j s vb tb c hk hj hst hKs hPb hS hR
    have hlt : j + 1 < n := by omega
    refine codeAny_builtin PySem.F.entry_max_loop ?_
    rw [Around.under_plainId PySem.F.plain_max_loop _]
    show wpAny _ A.in1 (seqItems? (.ref S) >>= _) _ _ s
    refine wpAny_bind (wpAny_seqItems hS rfl ?_)
    show wpAny _ A.in1 (tryCatch (pyNext (.ref I)) _ >>= _) _ _ s
    refine wpAny_bind (wpAny_tryCatch (W.item (j + 1) s _ _ hlt hst fun v h' tk hP hst' hk' => ?_))
    have hS' := hk' S _ hSw hS
    have hKs' := hK _ _ hKs fun b o hbw _ e => hk' b o hbw e
    show wpAny _ A.in1 (tryCatch (holding [v] (call (.builtin kid) [v])) _ >>= _) _ _ _
    refine wpAny_bind (wpAny_tryCatch (wpAny_holding (KO (j + 1) v hP _ _ _ hKs' fun t2 tk2 => ?_)))
    show wpAny _ A.in1 (tryCatch (holding [v, .int (kf (j + 1)) t2] (richCompare .Gt (.int (kf (j + 1)) t2) (.int (kf (argBest (bt kf) j)) tb) >>= _)) _ >>= _) _ _ _
    refine wpAny_bind (wpAny_tryCatch (wpAny_holding (wpAny_bind (CmpOf.ints_gt (prog := prog) (w := w) (A := A.in1) (P := fun i v => ∃ t, v = .int (kf i) t) kf (fun i v h => h) (j + 1) (argBest (bt kf) j) _ _ _ _ _ ⟨t2, rfl⟩ ⟨tb, rfl⟩ ?_))))
    refine wpAny_bind (wpAny_holding (wpAny_truthy_bool ?_))
    refine wpAny_bind (wpAny_letGo (wpAny_pure ?_))
    by_cases hb : kf (j + 1) > kf (argBest (bt kf) j)
    · have eb : argBest (bt kf) (j + 1) = j + 1 := by simp only [argBest, bt, hb, decide_true, if_true]
      simp only [hb, decide_true, if_true]
      refine wpAny_bind ?_
      refine wpAny_updateSeq hS' rfl (wpAny_bind (wpAny_letGo ?_))
      rw [hname]
      refine wpAny_pure ⟨plainId_quiet PySem.F.plain_max_loop _, ih (j + 1) _ v t2 _ (by omega) hlt (W.frame _ _ _ hst' fun b hbf o e => ?_) (hK _ _ hKs' fun b o _ hbS e => (Heap.get?_update_other _ _ (Ne.symm hbS)).trans e) (by rw [eb]; exact hP) (by rw [eb]; exact Heap.get?_update_self _ hS' rfl)
        fun v' h'' tk'' hP' hk'' => ?_⟩
      · exact (Heap.get?_update_other _ _ (fun h : S = b => hSf (by rw [h]; exact hbf))).trans e
      · exact hR v' h'' tk'' hP' fun b o hbw hbS e => hk'' b o hbw hbS ((Heap.get?_update_other _ _ (Ne.symm hbS)).trans (hk' b o hbw e))
    · have eb : argBest (bt kf) (j + 1) = argBest (bt kf) j := by simp only [argBest, bt, hb, decide_false, Bool.false_eq_true, if_false]
      simp only [hb, decide_false, Bool.false_eq_true, if_false]
      refine wpAny_bind (wpAny_letGo ?_)
      rw [hname]
      refine wpAny_pure ⟨plainId_quiet PySem.F.plain_max_loop _, ih (j + 1) _ vb tb c (by omega) hlt hst' hKs' (by rw [eb]; exact hPb) (by rw [eb]; exact hS') fun v' h'' tk'' hP' hk'' => ?_⟩
      exact hR v' h'' tk'' hP' fun b o hbw hbS e => hk'' b o hbw hbS (hk' b o hbw e)
theorem first (W : Walks prog w A.in1 I fp wr n P St) (KO : KeyOk prog w A.in1 kid P kf K) (S : Addr) (hSf : S ∉ fp) (hK : ∀ h h', K h → (∀ b o, b ∉ wr → b ≠ S → h.get? b = some o → h'.get? b = some o) → K h') (hn : 0 < n) {s : Shared} {c : Nat} (hst : St 0 s.heap) (hKs : K s.heap)
    (hS : s.heap.get? S = some { cls := .type "list", dict := none, data := .seq #[] c, slots := #[] })
    (hR : ∀ v h' tk, P (argBest (bt kf) (n - 1)) v → (∀ b o, b ∉ wr → b ≠ S → s.heap.get? b = some o → h'.get? b = some o) → R (.ok (.ret v)) { s with heap := h', toks := tk }) :
    codeAny (model prog w) A (.builtin "max.loop" ⟨[.ref I, .builtin kid, .ref S], []⟩) R s := by
  have hSw : S ∉ wr := fun h => hSf (W.sub _ h)
  have hname : (toString "max" ++ toString ".loop" : String) = "max.loop" := by decide
  refine codeAny_builtin PySem.F.entry_max_loop ?_
  rw [Around.under_plainId PySem.F.plain_max_loop _]
  show wpAny _ A.in1 (seqItems? (.ref S) >>= _) _ _ s
  refine wpAny_bind (wpAny_seqItems hS rfl ?_)
  show wpAny _ A.in1 (tryCatch (pyNext (.ref I)) _ >>= _) _ _ s
  refine wpAny_bind (wpAny_tryCatch (W.item 0 s _ _ hn hst fun v h' tk hP hst' hk' => ?_))
  have hS' := hk' S _ hSw hS
  have hKs' := hK _ _ hKs fun b o hbw _ e => hk' b o hbw e
  show wpAny _ A.in1 (tryCatch (holding [v] (call (.builtin kid) [v])) _ >>= _) _ _ _
  refine wpAny_bind (wpAny_tryCatch (wpAny_holding (KO 0 v hP _ _ _ hKs' fun t2 tk2 => ?_)))
  show wpAny _ A.in1 (updateSeq S (fun _ => #[v, .int (kf 0) t2]) >>= _) _ _ _
  refine wpAny_bind ?_
  refine wpAny_updateSeq hS' rfl ?_
  rw [hname]
  refine wpAny_pure ⟨plainId_quiet PySem.F.plain_max_loop _, loop W KO S hSf hK _ 0 _ v t2 _ rfl hn (W.frame _ _ _ hst' fun b hbf o e => ?_) (hK _ _ hKs' fun b o _ hbS e => (Heap.get?_update_other _ _ (Ne.symm hbS)).trans e) hP (Heap.get?_update_self _ hS' rfl) fun v' h'' tk'' hP' hk'' => ?_⟩
  · exact (Heap.get?_update_other _ _ (fun h : S = b => hSf (by rw [h]; exact hbf))).trans e
  · exact hR v' h'' tk'' hP' fun b o hbw hbS e => hk'' b o hbw hbS ((Heap.get?_update_other _ _ (Ne.symm hbS)).trans (hk' b o hbw e))
end
theorem args2 (a b v : Value) : argsOk "max" ⟨[a, b], [(Str.ofString "key", v)]⟩ := by unfold argsOk; kernel_rfl
section
variable {prog : Program} {w : World} {A : Around} {E : Value → Shared → Prop} {s : Shared} {kid : String} {Q : Value → Shared → Prop}
/-- max(a, b, key=f) -/
theorem two {a b : Value} {ka kb : Int} (hh : A.handled = none) (hz : 2 ≤ sizeLine)
    (KA : ∀ (s' : Shared) (Q : Value → Shared → Prop) (E : Value → Shared → Prop), (∀ b o, s.heap.get? b = some o → s'.heap.get? b = some o) → (∀ t tk, Q (.int ka t) { s' with toks := tk }) → wpAny (model prog w) A.in1 (call (.builtin kid) [a]) Q E s')
    (KB : ∀ (s' : Shared) (Q : Value → Shared → Prop) (E : Value → Shared → Prop), (∀ b o, s.heap.get? b = some o → s'.heap.get? b = some o) → (∀ t tk, Q (.int kb t) { s' with toks := tk }) → wpAny (model prog w) A.in1 (call (.builtin kid) [b]) Q E s')
    (h : ∀ h' tk, (∀ c o, s.heap.get? c = some o → h'.get? c = some o) → Q (if kb > ka then b else a) { s with heap := h', toks := tk }) :
    wpAny (model prog w) A (call (.builtin "max") [a, b] [(Str.ofString "key", .builtin kid)]) Q E s := by
  have hname : (toString "max" ++ toString ".loop" : String) = "max.loop" := by decide
  have hT : (s.heap.push { cls := .type "tuple", data := .seq #[a, b] }).IsTuple s.heap.objs.size #[a, b] := ⟨_, Heap.get?_push_size _ rfl, rfl, 0, rfl⟩
  have hsz : (s.heap.push { cls := .type "tuple", data := .seq #[a, b] }).objs.size = s.heap.objs.size + 1 := Heap.size_push ..
  have hs2 : ((s.heap.push { cls := .type "tuple", data := .seq #[a, b] }).push { cls := .type "tuple_iterator", data := .fields #[.ref s.heap.objs.size, .int 0 0] }).objs.size = s.heap.objs.size + 2 := by rw [Heap.size_push, hsz]
  refine kmb_tree PySem.F.kind_max PySem.F.plain_max PySem.F.entry_max (args2 _ _ _) ?_
  show wpAny _ A.in1 (Builtin.Builtins.bindParams "max" ["key", "default"] 0 ⟨[], [(Str.ofString "key", .builtin kid)]⟩ >>= _) _ _ s
  refine wpAny_bind (wpAny_of_eq (show Builtin.Builtins.bindParams "max" ["key", "default"] 0 ⟨[], [(Str.ofString "key", .builtin kid)]⟩ = pure [some (.builtin kid), none] from rfl) ?_)
  show wpAny _ A.in1 (newTuple [a, b] >>= _) _ _ s
  refine wpAny_bind (wpAny_newObj_type ?_)
  refine wpAny_bind (wpAny_pyIter_tuple hT ?_)
  refine wpAny_bind (wpAny_newObj_type ?_)
  rw [hname]
  have old : ∀ c o, s.heap.get? c = some o → c < s.heap.objs.size := fun c o e => Heap.lt_size e
  have W := Walks.tuple (prog := prog) (w := w) (A := A.in1) hh (s.heap.push { cls := .type "tuple", data := .seq #[a, b] }).objs.size s.heap.objs.size (by rw [hsz]; exact Nat.ne_of_lt (Nat.lt_succ_self _)) #[a, b]
  refine wpAny_pure ⟨plainId_quiet PySem.F.plain_max_loop _, first (K := fun h => ∀ c o, s.heap.get? c = some o → h.get? c = some o) (kf := fun i => if i = 0 then ka else kb) W ?_ _ ?_ ?_ (by simp) ⟨⟨_, Heap.get?_push_of_some _ (Heap.get?_push_size _ rfl), rfl, rfl⟩, (hT.push _).push _⟩ ?_ (Heap.get?_push_size _ rfl) fun v h' tk hP hk => ?_⟩
  · intro i v hP s' Q E hK hQ
    match i, hP with
    | 0, hP =>
      have e : v = a := by simpa using hP.symm
      subst e
      exact KA s' Q E hK hQ
    | 1, hP =>
      have e : v = b := by simpa using hP.symm
      subst e
      exact KB s' Q E hK hQ
    | i + 2, hP => simp at hP
  · rw [hs2, hsz]
    intro hm
    rcases List.mem_cons.mp hm with e | hm
    · exact absurd (show (s.heap.objs.size + 2 : Nat) = s.heap.objs.size + 1 from e) (by omega)
    · rcases List.mem_cons.mp hm with e | hm
      · exact absurd (show (s.heap.objs.size + 2 : Nat) = s.heap.objs.size from e) (by omega)
      · cases hm
  · intro h h' hK hk c o e
    have := old c o e
    refine hk c o (fun hm => ?_) (fun e2 => Nat.ne_of_lt (Nat.lt_succ_of_lt (Nat.lt_succ_of_lt (old c o e))) (e2.trans hs2)) (hK c o e)
    have e2 := List.mem_singleton.mp hm
    exact Nat.ne_of_lt (Nat.lt_succ_of_lt (old c o e)) (e2.trans hsz)
  · exact fun c o e => Heap.get?_push_of_some _ (Heap.get?_push_of_some _ (Heap.get?_push_of_some _ e))
  · have hold : ∀ c o, s.heap.get? c = some o → h'.get? c = some o := fun c o e => by
      have := old c o e
      refine hk c o (fun hm => ?_) (fun e2 => Nat.ne_of_lt (Nat.lt_succ_of_lt (Nat.lt_succ_of_lt (old c o e))) (e2.trans hs2)) (Heap.get?_push_of_some _ (Heap.get?_push_of_some _ (Heap.get?_push_of_some _ e)))
      have e2 := List.mem_singleton.mp hm
      exact Nat.ne_of_lt (Nat.lt_succ_of_lt (old c o e)) (e2.trans hsz)
    have hv : v = if kb > ka then b else a := by
      by_cases hba : kb > ka
      · have e : argBest (bt fun i => if i = 0 then ka else kb) ((#[a, b] : Array Value).size - 1) = 1 := by simp [argBest, bt, hba]
        rw [e] at hP
        simpa [hba] using hP.symm
      · have e : argBest (bt fun i => if i = 0 then ka else kb) ((#[a, b] : Array Value).size - 1) = 0 := by simp [argBest, bt, hba]
        rw [e] at hP
        simpa [hba] using hP.symm
    rw [hv]
    exact h h' tk hold
/-- max(xs, key=f), xs a list -/
theorem list {l : Addr} {vs : List Value} {kf : Nat → Int} (hh : A.handled = none) (hl : s.heap.IsList l vs.toArray) (hne : 0 < vs.length)
    (KF : ∀ (i : Nat) (v : Value), vs[i]? = some v → ∀ (s' : Shared) (Q : Value → Shared → Prop) (E : Value → Shared → Prop), (∀ b o, s.heap.get? b = some o → s'.heap.get? b = some o) → (∀ t tk, Q (.int (kf i) t) { s' with toks := tk }) → wpAny (model prog w) A.in1 (call (.builtin kid) [v]) Q E s')
    (h : ∀ v h' tk, vs[argBest (bt kf) (vs.length - 1)]? = some v → (∀ c o, s.heap.get? c = some o → h'.get? c = some o) → Q v { s with heap := h', toks := tk }) :
    wpAny (model prog w) A (call (.builtin "max") [.ref l] [(Str.ofString "key", .builtin kid)]) Q E s := by
  have hname : (toString "max" ++ toString ".loop" : String) = "max.loop" := by decide
  obtain ⟨ol, hol, _⟩ := id hl
  have hll : l < s.heap.objs.size := Heap.lt_size hol
  have hsz : (s.heap.push { cls := .type "list_iterator", data := .fields #[.ref l, .int 0 0] }).objs.size = s.heap.objs.size + 1 := Heap.size_push ..
  refine kmb_tree PySem.F.kind_max PySem.F.plain_max PySem.F.entry_max (kmb_max_key _ _) ?_
  show wpAny _ A.in1 (Builtin.Builtins.bindParams "max" ["key", "default"] 0 ⟨[], [(Str.ofString "key", .builtin kid)]⟩ >>= _) _ _ s
  refine wpAny_bind (wpAny_of_eq (show Builtin.Builtins.bindParams "max" ["key", "default"] 0 ⟨[], [(Str.ofString "key", .builtin kid)]⟩ = pure [some (.builtin kid), none] from rfl) ?_)
  refine wpAny_bind (wpAny_pure ?_)
  refine wpAny_bind (wpAny_pyIter_list hl ?_)
  refine wpAny_bind (wpAny_newObj_type ?_)
  rw [hname]
  have old : ∀ c o, s.heap.get? c = some o → c < s.heap.objs.size := fun c o e => Heap.lt_size e
  have W := Walks.list (prog := prog) (w := w) (A := A.in1) hh s.heap.objs.size l (Nat.ne_of_lt hll) vs.toArray
  have hn : vs.toArray.size = vs.length := List.size_toArray ..
  refine wpAny_pure ⟨plainId_quiet PySem.F.plain_max_loop _, first (K := fun h => ∀ c o, s.heap.get? c = some o → h.get? c = some o) (kf := kf) W ?_ _ ?_ ?_ (by rw [hn]; exact hne) ⟨⟨_, Heap.get?_push_of_some _ (Heap.get?_push_size _ rfl), rfl, rfl⟩, hl.at fun o e => Heap.get?_push_of_some _ (Heap.get?_push_of_some _ e)⟩ ?_ (Heap.get?_push_size _ rfl) fun v h' tk hP hk => ?_⟩
  · intro i v hP s' Q E hK hQ
    exact KF i v (by simpa using hP) s' Q E hK hQ
  · rw [hsz]
    intro hm
    rcases List.mem_cons.mp hm with e | hm
    · exact absurd (show (s.heap.objs.size + 1 : Nat) = s.heap.objs.size from e) (by omega)
    · rcases List.mem_cons.mp hm with e | hm
      · exact Nat.ne_of_lt (Nat.lt_succ_of_lt hll) (show l = s.heap.objs.size + 1 from e.symm)
      · cases hm
  · intro h h' hK hk c o e
    have := old c o e
    refine hk c o (fun hm => ?_) (fun e2 => Nat.ne_of_lt (Nat.lt_succ_of_lt (old c o e)) (e2.trans hsz)) (hK c o e)
    have e2 := List.mem_singleton.mp hm
    exact Nat.ne_of_lt (old c o e) e2
  · exact fun c o e => Heap.get?_push_of_some _ (Heap.get?_push_of_some _ e)
  · have hold : ∀ c o, s.heap.get? c = some o → h'.get? c = some o := fun c o e => by
      have := old c o e
      refine hk c o (fun hm => ?_) (fun e2 => Nat.ne_of_lt (Nat.lt_succ_of_lt (old c o e)) (e2.trans hsz)) (Heap.get?_push_of_some _ (Heap.get?_push_of_some _ e))
      have e2 := List.mem_singleton.mp hm
      exact Nat.ne_of_lt (old c o e) e2
    rw [hn] at hP
    exact h v h' tk (by simpa using hP) hold
end
end MaxK

namespace SL
open PySem PySem.Spec PyProof.Rows L2
section
variable {X : L2.Cx} {B : Bs}
/-- max(.., key=len) by values -/
def CallKey (X : L2.Cx) (r : List V → Hp → VK → Prop) : Prop :=
  ∀ (pins : List (Addr × Obj)) (s : Shared) (σ : L2.St) (H : Hp) (xs : List V) (us : List Value) (Q : VK), Inv X pins σ H s → Vals xs us → r xs H Q → wpAny (model X.prog X.w) X.A (PySem.call (.builtin "max") us [(Str.ofString "key", .builtin "len")]) (EP X pins σ Q) X.xe s
theorem pe_key {e : Expr} {es : List Expr} {p p2 pos kp : Pos} {t : TA} {r : List V → Hp → VK → Prop} (hc : CallKey X r) (hg : Gl X "max") (hm : X.mg "max" = none) (hg2 : Gl X "len") (hm2 : X.mg "len" = none) (ha : PA X (e :: es) t)
    (hs : starEach (e :: es) X.env = (false, eval e X.env) :: starEach es X.env) (hpl : (backTo pos (starEach es X.env)).any (·.1) = false) :
    PE X (.Call (.Name "max" p) (e :: es) [⟨some "key", .Name "len" p2, kp⟩] pos) fun σ H Q => t σ H fun vs H1 => r vs H1 Q := by
  refine ⟨fun pins s σ H Q I h => ?_⟩
  refine wpAny_Call_Name_kw (ld_blt I hg hm (show bootBuiltins "max" = some (.builtin "max") by decide +kernel) ?_ (by decide) (by decide))
  refine PyProof.Rows.callWith_kw (thn (ha.run pos pins s σ H _ I h) fun us s1 ⟨vs, H1, I1, r1, q1⟩ => ?_) (by rw [hs]; rfl) (by rw [hs]; show (false || (backTo pos (starEach es X.env)).any (·.1)) = false; rw [hpl]; rfl) rfl rfl
  show wpAny _ _ (evalAll ((do let v ← eval (.Name "len" p2) X.env; standAt pos; pure v) :: [])) _ _ s1
  refine wpAny_evalAll_cons (wpAny_bind (ld_blt I1 hg2 hm2 boot_len (wpAny_bind (wpAny_standAt (wpAny_pure ?_))) (by decide) (by decide)))
  refine wpAny_evalAll_nil ?_
  exact hc pins _ σ H1 vs us Q I1 r1 q1
theorem bestK_eq (f : Nat → Nat) : ∀ j, argBest (MaxK.bt fun i => (f i : Int)) j = bestK f j
  | 0 => rfl
  | j + 1 => by
    have ih := bestK_eq f j
    show (if decide ((f (j + 1) : Int) > (f (argBest (MaxK.bt fun i => (f i : Int)) j) : Int)) = true then j + 1 else argBest (MaxK.bt fun i => (f i : Int)) j) = if f (bestK f j) < f (j + 1) then j + 1 else bestK f j
    rw [ih]
    by_cases h : f (bestK f j) < f (j + 1)
    · rw [if_pos h, if_pos (by simpa using h)]
    · rw [if_neg h, if_neg (by simpa using h)]
end
end SL
namespace SL
open PySem PySem.Spec PyProof.Rows L2
section
variable {X : L2.Cx} {T : Tb} {B : Bs} {W : WX} {C : Cx} {e : Expr} {a : E} {es : Es}
theorem lenK {pins : List (Addr × Obj)} {s : Shared} {σ : L2.St} {H : Hp} {p : Addr} {ys : List V} (I : Inv X pins σ H s) (hq : SqL X.K H p ys ∨ SqT X.K H p ys) (A : Around) (s' : Shared) (Q : Value → Shared → Prop) (E : Value → Shared → Prop)
    (k : ∀ b o, s.heap.get? b = some o → s'.heap.get? b = some o) (h : ∀ t tk, Q (.int (ys.length : Int) t) { s' with toks := tk }) : wpAny (model X.prog X.w) A (PySem.call (.builtin "len") [.ref p]) Q E s' := by
  have hn := line63
  rcases hq with hq | hq
  · obtain ⟨its, r', pl, hz⟩ := I.list hq
    have hlen := r'.length
    refine Calls.call_len_list (pl.isList.at fun o e => k _ o e) (by simp only [List.size_toArray] <;> omega) ?_
    have := h (s'.toks + 1) (s'.toks + 1 + 1)
    rw [List.size_toArray, ← hlen]
    exact this
  · obtain ⟨its, r', pl, hz⟩ := I.tuple hq
    have hlen := r'.length
    obtain ⟨ob, e1, e2⟩ := pl
    refine len_tuple ⟨ob, k _ _ e1, e2⟩ (by simp only [List.size_toArray] <;> omega) ?_
    have := h (s'.toks + 1) (s'.toks + 1 + 1)
    rw [List.size_toArray, ← hlen]
    exact this
theorem key2_ok (hK : B.K = X.K) (hc : X.calm = true) (o : Bool) : CallKey X (rL B (doBi o .maxK2)) := by
  intro pins s τ H xs us Q I r hq
  obtain ⟨μ, F, S, ds, rl, q, h⟩ := hq
  cases q with
  | nil => exact h.elim
  | cons r1 q =>
    cases q with
    | nil => exact h.elim
    | cons r2 q =>
      cases q with
      | cons _ _ => exact h.elim
      | nil =>
        rename_i d1 v1 d2 v2
        simp only [doBi] at h
        cases h1 : seqOf S d1 with
        | none => rw [h1] at h; exact h.elim
        | some xs =>
          rw [h1] at h
          cases h2 : seqOf S d2 with
          | none => rw [h2] at h; exact h.elim
          | some ys =>
            rw [h2] at h
            dsimp only at h
            obtain ⟨p1, w1, rfl, s1, q1⟩ := seq_ok rl r1 h1
            obtain ⟨p2, w2, rfl, s2, q2⟩ := seq_ok rl r2 h2
            rw [hK] at s1 s2
            obtain ⟨u1, u2, rfl, e1, e2⟩ := vals2 r
            cases e1
            cases e2
            refine MaxK.two (I.ok.hd hc) (by decide) (lenK I s1 _) (lenK I s2 _) fun h' tk k => ?_
            rw [← q1.length, ← q2.length]
            by_cases c : (ys.length : Int) > (xs.length : Int)
            · rw [if_pos c]
              have c' : xs.length < ys.length := by omega
              rw [if_pos c'] at h
              exact ⟨.ref p2, H, I.kept k, rfl, h _ _ _ (Ext.refl _ _ _) rl _ r2⟩
            · rw [if_neg c]
              have c' : ¬ xs.length < ys.length := by omega
              rw [if_neg c'] at h
              exact ⟨.ref p1, H, I.kept k, rfl, h _ _ _ (Ext.refl _ _ _) rl _ r1⟩
theorem key1_ok (hK : B.K = X.K) (hc : X.calm = true) (o : Bool) : CallKey X (rL B (doBi o .maxK1)) := by
  intro pins s τ H xs us Q I r hq
  obtain ⟨μ, F, S, ds, rl, q, h⟩ := hq
  cases q with
  | nil => exact h.elim
  | cons r1 q =>
    cases q with
    | cons _ _ => exact h.elim
    | nil =>
      rename_i d1 v1
      simp only [doBi] at h
      cases h1 : items S d1 with
      | none => rw [h1] at h; exact h.elim
      | some ds =>
        rw [h1] at h
        simp only at h
        by_cases c : 0 < ds.length ∧ (ds.all fun d => (seqOf S d).isSome) = true
        · rw [if_pos c] at h
          obtain ⟨p1, w1, rfl, s1, q1⟩ := items_ok rl r1 h1
          rw [hK] at s1
          obtain ⟨u1, rfl, e1⟩ := vals1 r
          cases e1
          obtain ⟨its, rv, pl, hz⟩ := I.list s1
          have l1 := q1.length
          have l2 := rv.length
          have at_ : ∀ (i : Nat) (v : Value), its[i]? = some v → ∃ d p ys es, ds[i]? = some d ∧ v = .ref p ∧ Rep B μ F H d (.ref p) ∧ (SqL X.K H p ys ∨ SqT X.K H p ys) ∧ seqOf S d = some es ∧ es.length = ys.length := by
            intro i v hv
            have hi : i < its.length := (List.getElem?_eq_some_iff.mp hv).1
            have hd : i < ds.length := by omega
            obtain ⟨w, hw, rw'⟩ := q1.get (List.getElem?_eq_getElem hd)
            obtain ⟨u, hu, ru⟩ := rv.get hw
            rw [hv] at hu
            cases hu
            have hs := List.all_eq_true.mp c.2 _ (List.getElem_mem hd)
            obtain ⟨es, he⟩ := Option.isSome_iff_exists.mp hs
            obtain ⟨p, ys, rfl, hsq, qq⟩ := seq_ok rl rw' he
            rw [hK] at hsq
            exact ⟨_, p, ys, es, List.getElem?_eq_getElem hd, ru, rw', hsq, he, qq.length⟩
          refine MaxK.list (kf := fun i => (lenD S (ds.getD i .non) : Int)) (I.ok.hd hc) pl.isList (by omega) (fun i v hv s' Q' E' k hQ => ?_) fun v h' tk hv k => ?_
          · obtain ⟨d, p, ys, es, e1, rfl, _, hsq, he, hl⟩ := at_ i v hv
            refine lenK I hsq _ s' Q' E' k fun t tk => ?_
            have := hQ t tk
            simp only [List.getD_eq_getElem?_getD, e1, Option.getD_some, lenD, he, hl] at this
            exact this
          · rw [bestK_eq (fun i => lenD S (ds.getD i .non)), ← l2, ← l1] at hv
            obtain ⟨d, p, ys, es, e1, rfl, rp, _, _, _⟩ := at_ _ v hv
            rw [e1] at h
            exact ⟨.ref p, H, I.kept k, rfl, h _ _ _ (Ext.refl _ _ _) rl _ rp⟩
        · rw [if_neg c] at h; exact h.elim
theorem pe_key' (hK : B.K = X.K) (hot : C.hot = false) {o : Bool} {k : Bi} {p p2 pos kp : Pos} {xs : List Expr} (hc : CallKey X (rL B (doBi o k))) (hg : Gl X "max") (hm : X.mg "max" = none) (hg2 : Gl X "len") (hm2 : X.mg "len" = none)
    (ha : PA X (e :: xs) (tEs T B W C es)) (hs : starEach (e :: xs) X.env = (false, eval e X.env) :: starEach xs X.env) (hpl : (backTo pos (starEach xs X.env)).any (·.1) = false) :
    PE X (.Call (.Name "max" p) (e :: xs) [⟨some "key", .Name "len" p2, kp⟩] pos) (tE T B W C (.bi o k es)) := by
  refine PE.imp (pe_key hc hg hm hg2 hm2 ha hs hpl) fun τ H Q ⟨μ, F, S, σ, rl, sl, h⟩ => ?_
  simp only [evE, hot] at h
  refine tEs.go rl sl h.bind fun ds S1 μ1 F1 H1 vs rl1 sl1 e1 p1 rx => ?_
  exact rL_of (doBi_ne o k ds S1) rl1 rx p1
end
end SL
namespace SL
open PySem PySem.Spec PyProof.Rows L2
/-- a list grown by a tuple, whatever else the tuple bears -/
theorem ext_tup (l : Addr) (xs : Array Value) (n : Nat) (b : Addr) (ys : Array Value) (m : Nat) (dd : Option Addr) (sl : Array (Option Value))
    (h0 : ¬(!xs.isEmpty && Builtin.List.listTooLong (xs.size + ys.size)) = true) (h1 : xs.size ≤ sizeLine) (h2 : xs.size + ys.size ≤ sizeLine + 1) :
    Meets (Builtin.«list.extend» ⟨[.ref l, .ref b], []⟩) (fun _ R s => s.heap.get? l = some { cls := .type "list", dict := none, data := .seq xs n, slots := #[] } ∧
      s.heap.get? b = some { cls := .type "tuple", dict := dd, data := .seq ys m, slots := sl } ∧ R (.ok (.ret Value.none)) { s with heap := s.heap.update l (Obj.mapSeq fun x => x ++ ys), toks := s.toks }) := by
  refine .of_wp fun prog w A R s h => ?_
  obtain ⟨hp, g, d, tk, os⟩ := s
  obtain ⟨hl, hb, h⟩ := h
  have f1 := AutoSeq1.idx_int
  have f2 := AutoSeq1.sub_tuple_tuple
  have f3 := AutoSeq1.sub_list_list
  have f4 := AutoSeq1.sub_tuple_list
  have f5 := AutoSeq1.sub_list_tuple
  have hz' : (xs ++ ys).size ≤ sizeLine + 1 := by rw [Array.size_append]; exact h2
  wp_walk using (wpAny_updateSeq hl rfl (hz := h1) (_hz' := hz')), AutoSeq1.wpAny_loadPart' hl, AutoSeq1.wpAny_loadPart' hb
  exact ⟨_, rfl, h⟩

def rExt (K : PySem.W.Frag) : V → List V → Hp → VK → Prop := fun x vs H Q => ∃ l b xs zs, x = .ref l ∧ vs = [.ref b] ∧ H l = some (.lst xs) ∧ (H b = some (.lst zs) ∨ SqT K H b zs) ∧ xs.length + zs.length ≤ sizeLine ∧ Q .non (upd H l (.lst (xs ++ zs)))
section
variable {X : L2.Cx}
theorem mt_ext : MtR X "list.extend" (rExt X.K) := by
  intro pins s τ H x vs v us Q I rx rv h
  obtain ⟨l, b, xs, zs, rfl, rfl, hH, hB, hz, q⟩ := h
  rcases hB with hB | hB
  · exact mt_extend pins s τ H _ _ v us Q I rx rv ⟨l, b, xs, zs, rfl, rfl, hH, hB, hz, q⟩
  · cases rx
    obtain ⟨u, rfl, ru⟩ := rv.one
    cases ru
    obtain ⟨z, its, n, r, hl, e⟩ := I.lstM hH
    obtain ⟨its2, r2, ⟨ob, e2, c2, m, d2⟩, hz2⟩ := I.tuple hB
    obtain ⟨oc, od, odt, osl⟩ := ob
    simp only at c2 d2
    subst c2 d2
    have hl2 := r2.length
    have hsz : its.toArray.size + its2.toArray.size ≤ sizeLine := by
      rw [List.size_toArray, List.size_toArray]
      omega
    have hlong : ¬ (!its.toArray.isEmpty && Builtin.List.listTooLong (its.toArray.size + its2.toArray.size)) = true := by
      rw [notLongL hsz, Bool.and_false]
      decide
    refine call_meets PySem.F.slot_list_extend ⟨_, e, rfl⟩ PySem.F.entry_list_extend (PySem.F.args_list_extend_2 _ _)
      (ext_tup l its.toArray n b its2.toArray m od osl hlong (by rw [List.size_toArray]; omega) (by omega)) ⟨e, e2, ?_⟩
    refine ⟨.non, _, I.lset (its' := its ++ its2) hH e (by simp) (r.append r2) ?_, rfl, q⟩
    rw [List.length_append]
    omega
end
/-! ### methods of lists -/
section
variable {X : L2.Cx} {T : Tb} {B : Bs} {W : WX} {C : Cx} {e : Expr} {a : E} {es : Es}
/-- a method by values -/
theorem doMt_ne (o : Bool) (m : Mt) (x : D) (xs : List D) (S : Store) : ∀ c fs S', doMt o m x xs S ≠ .exc c fs S' := by
  intro c fs S' h
  unfold doMt at h
  repeat' split at h
  all_goals first | (cases h; done) | skip
theorem rM_of {f : D → List D → Store → Res D} {μ : List Ad} {F : Fz} {H : Hp} {S : Store} {x : D} {xs : List D} {v : V} {vs : List V} {Q : VK} {W : WG} (ne : ∀ c fs S', f x xs S ≠ .exc c fs S') (rl : Rl B μ F H S) (rx : Rep B μ F H x v) (ry : Reps B μ F H xs vs)
    (h : PostG B W μ F H (f x xs S) fun d _ μ' F' H' => ∀ v, Rep B μ' F' H' d v → Q v H') : rM B f v vs H Q := by
  refine ⟨μ, F, S, x, xs, rl, rx, ry, ?_⟩
  cases hf : f x xs S with
  | ok z S' => rw [hf] at h; exact h
  | exc c fs S' => exact absurd hf (ne c fs S')
  | stuck => rw [hf] at h; exact h
/-- each method of Core, as the library has it -/
def mtId : Mt → Option (Str × String)
  | .append => some ("append", "list.append") | .extend => some ("extend", "list.extend") | .insert => some ("insert", "list.insert")
  | .pop0 => some ("pop", "list.pop") | .pop1 => some ("pop", "list.pop")
  | .index => some ("index", "list.index")
  | _ => none

theorem mt_ok (hK : B.K = X.K) (o : Bool) {m : Mt} {nm : Str} {id : String} (hm : mtId m = some (nm, id)) : MtR X id (rM B (doMt o m)) := by
  intro pins s τ H x vs v us Q I rx rv h
  obtain ⟨μ, F, S, d, ds, rl, rd, rds, h⟩ := h
  have one : ∀ {r : Res D}, (match r with | .ok z S' => ∀ μ' F' H', Ext μ F H μ' F' H' → Rl B μ' F' H' S' → ∀ v, Rep B μ' F' H' z v → Q v H' | _ => False) → r ≠ .stuck := fun h e => by rw [e] at h; exact h
  cases m <;> first | (cases hm; done) | skip
  · -- append
    cases hm
    cases rds with
    | nil => exact h.elim
    | cons r1 t =>
      cases t with
      | cons _ _ => exact h.elim
      | nil =>
        simp only [doMt] at h
        cases hl : lstAt S d with
        | none => rw [hl] at h; exact h.elim
        | some pr =>
          obtain ⟨i, xs⟩ := pr
          rw [hl] at h
          simp only at h
          obtain ⟨ad, ws, rfl, hm, ha, hdd, q⟩ := lstAt_ok rl rd hl
          by_cases hz : xs.length < LINE
          · rw [if_pos hz] at h
            obtain ⟨ee, rr⟩ := put rl hm ha hdd (q.append (.cons r1 .nil))
            exact mt_append pins s τ H _ _ v us Q I rx rv ⟨ad, ws, _, rfl, rfl, ha, by rw [← q.length]; exact Nat.lt_of_lt_of_le hz (line_le (Nat.le_refl _)), h _ _ _ ee rr _ .non⟩
          · rw [if_neg hz] at h; exact h.elim
  · -- extend
    cases hm
    cases rds with
    | nil => exact h.elim
    | cons r1 t =>
      cases t with
      | cons _ _ => exact h.elim
      | nil =>
        rename_i y w
        simp only [doMt] at h
        cases hl : lstAt S d with
        | none => rw [hl] at h; exact h.elim
        | some pr =>
          obtain ⟨i, xs⟩ := pr
          rw [hl] at h
          cases hs : extOf S y with
          | none => rw [hs] at h; exact h.elim
          | some ys =>
            rw [hs] at h
            simp only at h
            obtain ⟨ad, ws, rfl, hm, ha, hdd, q⟩ := lstAt_ok rl rd hl
            have hsq : ∃ b zs, w = .ref b ∧ (H b = some (.lst zs) ∨ SqT X.K H b zs) ∧ Reps B μ F H ys zs := by
              cases r1 with
              | tup h1 q1 => simp only [extOf, Option.some.injEq] at hs; subst hs; exact ⟨_, _, rfl, .inr (hK ▸ h1), q1⟩
              | vl f h1 q1 => obtain ⟨b, zs, e1, e2, e3⟩ := itemsH_ok rl (Rep.vl f h1 q1) hs; exact ⟨b, zs, e1, .inl e2, e3⟩
              | ref h1 => obtain ⟨b, zs, e1, e2, e3⟩ := itemsH_ok rl (Rep.ref h1) hs; exact ⟨b, zs, e1, .inl e2, e3⟩
              | _ => simp [extOf, itemsH] at hs
            by_cases hz : xs.length + ys.length ≤ LINE
            · rw [if_pos hz] at h
              obtain ⟨b, zs, rfl, hb, q2⟩ := hsq
              obtain ⟨ee, rr⟩ := put rl hm ha hdd (q.append q2)
              exact mt_ext pins s τ H _ _ v us Q I rx rv ⟨ad, b, ws, zs, rfl, rfl, ha, hb, by rw [← q.length, ← q2.length]; exact line_le hz, h _ _ _ ee rr _ .non⟩
            · rw [if_neg hz] at h; exact h.elim
  · -- insert
    cases hm
    cases rds with
    | nil => exact h.elim
    | cons r1 t =>
      cases t with
      | nil => cases r1 <;> exact h.elim
      | cons r2 t =>
        cases r1 <;> first | exact h.elim | skip
        cases t with
        | cons _ _ => exact h.elim
        | nil =>
          rename_i k
          simp only [doMt] at h
          cases hl : lstAt S d with
          | none => rw [hl] at h; exact h.elim
          | some pr =>
            obtain ⟨i, xs⟩ := pr
            rw [hl] at h
            simp only at h
            obtain ⟨ad, ws, rfl, hm, ha, hdd, q⟩ := lstAt_ok rl rd hl
            by_cases hz : xs.length < LINE ∧ 0 ≤ k ∧ k < 1000000
            · rw [if_pos hz] at h
              obtain ⟨ee, rr⟩ := put rl hm ha hdd ((q.take k.toNat).append (.cons r2 (q.drop k.toNat)))
              refine mt_insert pins s τ H _ _ v us Q I rx rv ⟨ad, ws, k, _, rfl, rfl, ha, by rw [← q.length]; exact Nat.lt_of_lt_of_le hz.1 (line_le (Nat.le_refl _)), hz.2.1, by omega, ?_⟩
              have e := h _ _ _ ee rr _ .non
              simpa using e
            · rw [if_neg hz] at h; exact h.elim
  · -- pop()
    cases hm
    cases rds with
    | cons _ _ => exact h.elim
    | nil =>
      simp only [doMt] at h
      cases hl : lstAt S d with
      | none => rw [hl] at h; exact h.elim
      | some pr =>
        obtain ⟨i, xs⟩ := pr
        rw [hl] at h
        simp only at h
        obtain ⟨ad, ws, rfl, hm, ha, hdd, q⟩ := lstAt_ok rl rd hl
        cases hg : xs.getLast? with
        | none => rw [hg] at h; exact h.elim
        | some y =>
          rw [hg] at h
          simp only at h
          rw [List.getLast?_eq_getElem?] at hg
          obtain ⟨w, hw, rw'⟩ := q.get hg
          have hd := Reps.take (xs.length - 1) q
          rw [← List.dropLast_eq_take] at hd
          have e2 : ws.take (xs.length - 1) = ws.dropLast := by rw [q.length, List.dropLast_eq_take]
          rw [e2] at hd
          obtain ⟨ee, rr⟩ := put rl hm ha hdd hd
          exact mt_pop pins s τ H _ _ v us Q I rx rv ⟨ad, ws, w, rfl, rfl, ha, by rw [← q.length]; exact hw, h _ _ _ ee rr _ (rw'.mono ee)⟩
  · -- pop(k)
    cases hm
    cases rds with
    | nil => exact h.elim
    | cons r1 t =>
      cases r1 <;> first | (cases t <;> exact h.elim) | skip
      cases t with
      | cons _ _ => exact h.elim
      | nil =>
        rename_i k
        simp only [doMt] at h
        cases hl : lstAt S d with
        | none => rw [hl] at h; exact h.elim
        | some pr =>
          obtain ⟨i, xs⟩ := pr
          rw [hl] at h
          simp only at h
          obtain ⟨ad, ws, rfl, hm, ha, hdd, q⟩ := lstAt_ok rl rd hl
          cases hj : SL.ixN xs.length k with
          | none => rw [hj] at h; exact h.elim
          | some j =>
            rw [hj] at h
            simp only at h
            cases hg : xs[j]? with
            | none => rw [hg] at h; exact h.elim
            | some y =>
              rw [hg] at h
              simp only at h
              obtain ⟨w, hw, rw'⟩ := q.get hg
              obtain ⟨ee, rr⟩ := put rl hm ha hdd (q.eraseIdx j)
              rw [ixN_eq, q.length] at hj
              have hz := (I.lstM ha).1
              obtain ⟨g1, g2, g3, g4⟩ := ixN_seq hj
              have hn := line63
              exact mt_popAt pins s τ H _ _ v us Q I rx rv ⟨ad, ws, k, j, w, rfl, rfl, ha, by omega, by omega, g1, hw, h _ _ _ ee rr _ (rw'.mono ee)⟩
  · -- index
    cases hm
    cases rds with
    | nil => exact h.elim
    | cons r1 t =>
      cases t with
      | cons _ _ => exact h.elim
      | nil =>
        rename_i y w
        simp only [doMt] at h
        cases hl : itemsH S d with
        | none => rw [hl] at h; exact h.elim
        | some xs =>
          rw [hl] at h
          simp only at h
          obtain ⟨ad, ws, rfl, ha, q⟩ := itemsH_ok rl rd hl
          by_cases hf : (flat y && xs.all flat) = true
          · rw [if_pos hf] at h
            simp only [Bool.and_eq_true] at hf
            cases hj : xs.findIdx? (fun z => eqv z y) with
            | none => rw [hj] at h; exact h.elim
            | some j =>
              rw [hj] at h
              obtain ⟨h1, h2, h3⟩ := List.findIdx?_eq_some_iff_getElem.mp hj
              obtain ⟨f1, _⟩ := inV_flat r1 hf.1 q hf.2
              obtain ⟨z, hz, rz⟩ := q.get (List.getElem?_eq_getElem h1)
              have fl : ∀ k (hk : k < xs.length), flat xs[k] = true := fun k hk => List.all_eq_true.mp hf.2 _ (List.getElem_mem hk)
              refine mt_index pins s τ H _ _ v us Q I rx rv ⟨ad, ws, w, j, z, rfl, rfl, SqL.of ha, flatV_of r1 hf.1, f1, hz, (eqV_flat rz r1 (fl j h1) hf.1).trans h2, fun m z' hm hz' => ?_, h _ _ _ (Ext.refl _ _ _) rl _ (.int _)⟩
              have hm' : m < xs.length := Nat.lt_trans hm h1
              obtain ⟨z2, hz2, rz2⟩ := q.get (List.getElem?_eq_getElem hm')
              rw [hz2] at hz'
              cases hz'
              rw [eqV_flat rz2 r1 (fl m hm') hf.1]
              simpa using h3 m hm
          · rw [if_neg hf] at h; exact h.elim
def slotL (m : Mt) (nm : Str) (id : String) : Prop := Slot "list" nm id ∧ typeOf (.builtin id) = pure (.type "method_descriptor")
theorem slotL_ok {m : Mt} {nm : Str} {id : String} (hm : mtId m = some (nm, id)) : slotL m nm id := by
  cases m <;> cases hm
  · exact ⟨PySem.F.slot_list_append, PySem.F.type_list_append⟩
  · exact ⟨PySem.F.slot_list_extend, PySem.F.type_list_extend⟩
  · exact ⟨PySem.F.slot_list_insert, PySem.F.type_list_insert⟩
  · exact ⟨PySem.F.slot_list_pop, PySem.F.type_list_pop⟩
  · exact ⟨PySem.F.slot_list_pop, PySem.F.type_list_pop⟩
  · exact ⟨PySem.F.slot_list_index, PySem.F.type_list_index⟩
/-- the receiver is a list that may be asked -/
theorem recv_ty (hK : B.K = X.K) {m : Mt} {nm : Str} {id : String} (hm : mtId m = some (nm, id)) {μ : List Ad} {F : Fz} {H : Hp} {S : Store} {d : D} {v : V} (rl : Rl B μ F H S) (rd : Rep B μ F H d v) (h : recv m d = true) : tyV X.K "list" v H := by
  cases m <;> first | (cases hm; done) | skip
  all_goals (cases rd <;> first | (simp [recv] at h; done) | skip)
  all_goals first
    | (rename_i h1; exact let ⟨xs, hx⟩ := rl.trk h1; .inl ⟨rfl, xs, SqL.of hx⟩)
    | (rename_i h1 r1 f; exact .inl ⟨rfl, _, SqL.of h1⟩)
    | (rename_i f h1 r1; exact .inl ⟨rfl, _, SqL.of h1⟩)
    | (rename_i h1 r1; exact .inl ⟨rfl, _, SqL.of h1⟩)
theorem pe_mt' (hK : B.K = X.K) (hot : C.hot = false) {o : Bool} {m : Mt} {nm : Str} {id : String} {oe e1 : Expr} {rest : List Expr} {ap cp : Pos} (hm : mtId m = some (nm, id)) (ho : PE X oe (tE T B W C a)) (ha : PA X (e1 :: rest) (tEs T B W C es))
    (hbase : attributeBase oe nm X.env (eval oe X.env) = eval oe X.env) (hline : (ap.endLine == cp.line) = true) (hs : starEach (e1 :: rest) X.env = (false, eval e1 X.env) :: starEach rest X.env) (hpl : (backTo cp (starEach rest X.env)).any (·.1) = false)
    (hfew : ((backTo cp (starEach (e1 :: rest) X.env)).all (fun x => !x.1) && (backToKw cp (keywordEach [] X.env)).all (fun x => x.1.isSome)
      && decide ((e1 :: rest).length + ([] : List Keyword).length + (if ([] : List Keyword).isEmpty then 0 else 1) < 30)) = true) :
    PE X (.Call (.Attribute oe nm ap) (e1 :: rest) [] cp) (tE T B W C (.mt o m a es)) := by
  obtain ⟨s1, s2⟩ := slotL_ok hm
  refine PE.imp (pe_bm PySem.F.plainAttrs_list s1 s2 (mt_ok hK o hm) ho ha hbase hfew hline hs hpl) fun τ H Q ⟨μ, F, S, σ, rl, sl, h⟩ => ?_
  simp only [evE, hot] at h
  refine tE.go rl sl h.bind fun x S1 μ1 F1 H1 v rl1 sl1 e1 p1 rx => ?_
  by_cases hr : recv m x = true
  · rw [if_pos hr] at p1
    refine ⟨recv_ty hK hm rl1 rx hr, ?_⟩
    refine tEs.go rl1 sl1 p1.bind fun ds S2 μ2 F2 H2 vs rl2 sl2 e2 p2 rds => ?_
    exact rM_of (doMt_ne o m x ds S2) rl2 (rx.mono e2) rds p2
  · rw [if_neg hr] at p1; exact p1.elim
theorem pe_mt0' (hK : B.K = X.K) (hot : C.hot = false) {o : Bool} {m : Mt} {nm : Str} {id : String} {oe : Expr} {ap cp : Pos} (hm : mtId m = some (nm, id)) (ho : PE X oe (tE T B W C a))
    (hbase : attributeBase oe nm X.env (eval oe X.env) = eval oe X.env) (hline : (ap.endLine == cp.line) = true) :
    PE X (.Call (.Attribute oe nm ap) [] [] cp) (tE T B W C (.mt o m a .nil)) := by
  obtain ⟨s1, s2⟩ := slotL_ok hm
  refine PE.imp (pe_bm0 PySem.F.plainAttrs_list s1 s2 (mt_ok hK o hm) ho hbase hline) fun τ H Q ⟨μ, F, S, σ, rl, sl, h⟩ => ?_
  simp only [evE, evEs, hot] at h
  refine tE.go rl sl h.bind fun x S1 μ1 F1 H1 v rl1 sl1 e1 p1 rx => ?_
  by_cases hr : recv m x = true
  · rw [if_pos hr] at p1
    exact ⟨recv_ty hK hm rl1 rx hr, rM_of (doMt_ne o m x [] S1) rl1 rx .nil p1⟩
  · rw [if_neg hr] at p1; exact p1.elim
end
end SL
namespace SL
open PySem PySem.Spec PyProof.Rows L2
/-! ### zip, enumerate over what stands still: lists or tuples -/
def SqK (k : Bool) (K : PySem.W.Frag) (H : Hp) (a : Addr) (xs : List V) : Prop := if k then SqL K H a xs else SqT K H a xs
def ItAt (k : Bool) (h : Heap) (it l : Addr) (i : Nat) : Prop := if k then h.IsListIter it l i else h.IsTupleIter it l i
def IsSq (k : Bool) (h : Heap) (l : Addr) (its : Array Value) : Prop := if k then h.IsList l its else h.IsTuple l its
def itObj (k : Bool) (l : Addr) : Obj := if k then { cls := .type "list_iterator", data := .fields #[.ref l, .int 0 0] } else { cls := .type "tuple_iterator", data := .fields #[.ref l, .int 0 0] }
theorem begK (k : Bool) (l : Addr) (its : Array Value) : Begins (.ref l) (itObj k l) fun h => IsSq k h l its := by
  cases k
  · exact begins_tuple l its
  · exact begins_list l its
theorem drawsK (k : Bool) {P : Program} {w : World} {A : Around} (hh : A.handled = none) (it l : Addr) (hne : l ≠ it) (its : Array Value) :
    Draws P w A it [it, l] its.size (fun i v => its[i]? = some v) (fun i h => ItAt k h it l i ∧ IsSq k h l its) := by
  cases k
  · exact Draws.tuple hh it l hne its
  · exact Draws.list hh it l hne its
theorem ItAt.obj {k : Bool} {h : Heap} {it l : Addr} {i : Nat} (x : ItAt k h it l i) : ∃ o, h.get? it = some o ∧ ∀ v, o.data ≠ .cell v := by
  cases k
  · obtain ⟨o, ho, _, hd⟩ := (show h.IsTupleIter it l i from x)
    exact ⟨o, ho, fun v q => by rw [hd] at q; cases q⟩
  · obtain ⟨o, ho, _, hd⟩ := (show h.IsListIter it l i from x)
    exact ⟨o, ho, fun v q => by rw [hd] at q; cases q⟩
theorem ItAt.keep {k : Bool} {h h' : Heap} {it l : Addr} {i : Nat} (x : ItAt k h it l i) (e : ∀ o, h.get? it = some o → h'.get? it = some o) : ItAt k h' it l i := by
  cases k
  · obtain ⟨o, ho, r⟩ := (show h.IsTupleIter it l i from x)
    exact ⟨o, e o ho, r⟩
  · obtain ⟨o, ho, r⟩ := (show h.IsListIter it l i from x)
    exact ⟨o, e o ho, r⟩
theorem ItAt.new {k : Bool} {h : Heap} {it l : Addr} (e : h.get? it = some (itObj k l)) : ItAt k h it l 0 := by
  cases k
  · exact ⟨_, e, rfl, rfl⟩
  · exact ⟨_, e, rfl, rfl⟩
theorem Inv_sq {X : L2.Cx} {pins : List (Addr × Obj)} {σ : L2.St} {H : Hp} {s : Shared} {k : Bool} {a : Addr} {xs : List V} (I : Inv X pins σ H s) (h : SqK k X.K H a xs) : ∃ its : List Value, Vals xs its ∧ IsSq k s.heap a its.toArray ∧ a < s.heap.objs.size := by
  cases k
  · obtain ⟨its, r, p, _⟩ := I.tuple (show SqT X.K H a xs from h)
    obtain ⟨o, ho, _⟩ := id p
    exact ⟨its, r, p, Heap.lt_size ho⟩
  · obtain ⟨its, r, p, _⟩ := I.list (show SqL X.K H a xs from h)
    exact ⟨its, r, p.isList, p.lt⟩
/-- two rows side by side -/
def Jz (k1 k2 : Bool) (K : PySem.W.Frag) (a b : Addr) (xs ys : List V) : L2.It where
  go := fun i H => SqK k1 K H a xs ∧ SqK k2 K H b ys ∧ i < xs.length ∧ i < ys.length
  yld := fun i H v H' => ∃ p x y, v = .ref p ∧ H p = none ∧ H' = upd H p (.tup [x, y]) ∧ xs[i]? = some x ∧ ys[i]? = some y
  stop := fun i H => SqK k1 K H a xs ∧ SqK k2 K H b ys ∧ i ≤ xs.length ∧ i ≤ ys.length ∧ (i = xs.length ∨ i = ys.length)
theorem nad {x y : Nat} (h : ¬ x = y) : @Ne Addr x y := h
theorem nin2 {x p q : Nat} (h1 : ¬ x = p) (h2 : ¬ x = q) : ¬ @Membership.mem Addr (List Addr) _ [p, q] x := fun hm => by
  rcases List.mem_cons.mp hm with z | z
  · exact h1 z
  · exact h2 (List.mem_singleton.mp z)
theorem sep_z {N a b : Nat} (ha : a < N) (hb : b < N) : ZipSep2 (N + 4) (N + 2) (N + 3) N (N + 1) [N, a] [N + 1, b] where
  TIz := nad (by omega)
  TOz := nad (by omega)
  TITO := nad (by omega)
  TIi1 := nad (by omega)
  mem1 := by simp
  zf1 := nin2 (by omega) (by omega)
  Tf1 := nin2 (by omega) (by omega)
  TIi2 := nad (by omega)
  mem2 := by simp
  zf2 := nin2 (by omega) (by omega)
  Tf2 := nin2 (by omega) (by omega)
  sep1_2 := nin2 (by omega) (by omega)
  sep2_1 := nin2 (by omega) (by omega)
theorem lt5 {N c z : Nat} (h : N + 4 < z) (e : c = N + 4 ∨ c = N + 2 ∨ c = N + 3 ∨ c = N ∨ c = N + 1) : c < z := by omega
theorem lt2 {N c z : Nat} (h : N + 1 < z) (e : c = N + 1 ∨ c = N) : c < z := by omega
theorem turn_z {P : Program} {w : World} {K : PySem.W.Frag} {elts : List Expr} {kk : Nat} {tpos : Pos} (k1 k2 : Bool) {N a b : Nat} (xs ys : List V) (ha : a < N) (hb : b < N) :
    Turn P w K (.Tuple elts kk tpos) (Jz k1 k2 K a b xs ys) [N + 4, N + 2, N + 3, N, N + 1] (N + 4)
      (fun i h => IsZip h (N + 4) (N + 2) (N + 3) .none ∧ IsTupOf2 h (N + 2) (.ref N) (.ref (N + 1)) ∧ (∃ x y, IsTupOf2 h (N + 3) x y) ∧ ItAt k1 h N a i ∧ ItAt k2 h (N + 1) b i) where
  mem := by simp
  obj := fun i h st c hc => by
    obtain ⟨hz, hI, ⟨x, y, hO⟩, h1, h2⟩ := st
    have e' : c = N + 4 ∨ c = N + 2 ∨ c = N + 3 ∨ c = N ∨ c = N + 1 := by simpa using hc
    rcases e' with q | q | q | q | q
    · rw [q]; exact ⟨_, hz, fun v q => nomatch q⟩
    · rw [q]; exact ⟨_, hI, fun v q => nomatch q⟩
    · rw [q]; exact ⟨_, hO, fun v q => nomatch q⟩
    · rw [q]; exact h1.obj
    · rw [q]; exact h2.obj
  keep := fun i h h' st k => by
    obtain ⟨hz, hI, ⟨x, y, hO⟩, h1, h2⟩ := st
    exact ⟨k _ (by simp) _ hz, k _ (by simp) _ hI, ⟨x, y, k _ (by simp) _ hO⟩, h1.keep fun o q => k N (by simp) o q, h2.keep fun o q => k (N + 1) (by simp) o q⟩
  item := by
    intro X hP hw hK hc i pins s σ H E I hf st hg
    subst hP hw hK
    obtain ⟨hz, hI, ⟨x0, y0, hO⟩, h1, h2⟩ := st
    obtain ⟨q1, q2, l1, l2⟩ := hg
    obtain ⟨its, rv, p1, _⟩ := Inv_sq I q1
    obtain ⟨its2, rv2, p2, _⟩ := Inv_sq I q2
    have hx : xs[i]? = some xs[i] := List.getElem?_eq_getElem l1
    have hy : ys[i]? = some ys[i] := List.getElem?_eq_getElem l2
    obtain ⟨u, hu, ru⟩ := rv.get hx
    obtain ⟨u2, hu2, ru2⟩ := rv2.get hy
    have hh : X.A.in1.handled = none := I.ok.hd hc
    have n1 := rv.length
    have n2 := rv2.length
    refine wpAny_pyNext_zipD2_item (sep_z ha hb) (drawsK k1 hh N a (nad (by omega)) its.toArray) (drawsK k2 hh (N + 1) b (nad (by omega)) its2.toArray) hz hI hO ⟨h1, p1⟩ ⟨h2, p2⟩ (by simp; omega) (by simp; omega)
      fun x1 x2 h' tk y1 y2 z' O' s1 s2 hT hsz hk => ?_
    have eu : x1 = u := by simp at y1; rw [hu] at y1; exact (Option.some.inj y1).symm
    have eu2 : x2 = u2 := by simp at y2; rw [hu2] at y2; exact (Option.some.inj y2).symm
    subst eu eu2
    have lt : ∀ {c : Addr} {o : Obj}, s.heap.get? c = some o → c < s.heap.objs.size := fun e => Heap.lt_size e
    have hzl := lt hz
    refine ⟨_, rfl, wpAny_letOwnedTupleGo_zip (s := { s with heap := h', toks := tk }) z' fun h'' z'' sb => ?_⟩
    have hT2 : h''.get? s.heap.objs.size = some { cls := .type "tuple", data := .seq #[x1, x2] } := (sb.2 _ (Nat.ne_of_gt hzl)).trans hT
    have new : ObjOk X.prog X.w (upd H s.heap.objs.size (.tup [xs[i], ys[i]])) h'' s.heap.objs.size (.tup [xs[i], ys[i]]) :=
      ⟨by show 2 ≤ sizeLine; decide, [x1, x2], .cons ru (.cons ru2 .nil), ⟨_, hT2, rfl, _, rfl⟩⟩
    have hk2 : ∀ c o, c ≠ N + 4 → c ≠ N + 3 → c ≠ N → c ≠ N + 1 → s.heap.get? c = some o → h''.get? c = some o := fun c o e1 e2 e3 e4 e => (sb.2 c e1).trans (hk c o e1 e2 e3 e4 e)
    have I1 : Inv X pins σ (upd H s.heap.objs.size (.tup [xs[i], ys[i]])) { s with heap := h'', toks := tk } :=
      I.turnedNew (ch := [N + 4, N + 2, N + 3, N, N + 1]) (fun c o hn e => hk2 c o (fun z => hn (by simp [z])) (fun z => hn (by simp [z])) (fun z => hn (by simp [z])) (fun z => hn (by simp [z])) e) hf (Nat.le_refl _) new
    refine ⟨.ref s.heap.objs.size, _, I1, rfl, ⟨_, _, _, rfl, I.hok.fresh (Nat.le_refl _), rfl, hx, hy⟩, ⟨z'', hk2 _ _ (nad (by omega)) (nad (by omega)) (nad (by omega)) (nad (by omega)) hI, ⟨_, _, (sb.2 _ (nad (by omega))).trans O'⟩,
      s1.1.keep fun o q => (sb.2 _ (nad (by omega))).trans q, s2.1.keep fun o q => (sb.2 _ (nad (by omega))).trans q⟩, fun c hcm => ?_⟩
    have hlt : c < s.heap.objs.size := by
      have e' : c = N + 4 ∨ c = N + 2 ∨ c = N + 3 ∨ c = N ∨ c = N + 1 := by simpa using hcm
      have l0 : N + 4 < s.heap.objs.size := hzl
      exact lt5 l0 e'
    rw [upd_ne (Nat.ne_of_lt hlt)]
    exact (hf c hcm).1
  done := by
    intro X hP hw hK hc i pins s σ H E I hf st hg
    subst hP hw hK
    obtain ⟨hz, hI, ⟨x0, y0, hO⟩, h1, h2⟩ := st
    obtain ⟨q1, q2, l1, l2, l3⟩ := hg
    obtain ⟨its, rv, p1, _⟩ := Inv_sq I q1
    obtain ⟨its2, rv2, p2, _⟩ := Inv_sq I q2
    have hh : X.A.in1.handled = none := I.ok.hd hc
    have n1 := rv.length
    have n2 := rv2.length
    exact wpAny_pyNext_zipD2_end (sep_z ha hb) (drawsK k1 hh N a (nad (by omega)) its.toArray) (drawsK k2 hh (N + 1) b (nad (by omega)) its2.toArray) hz hI hO ⟨h1, p1⟩ ⟨h2, p2⟩ (by simp; omega) (by simp; omega) (by simp; omega)
      fun h' tk hk => ⟨rfl, I.turnedL (t' := tk) (ch := [N + 4, N + 2, N + 3, N, N + 1]) (fun c o hn e => hk c o (fun z => hn (by simp [z])) (fun z => hn (by simp [z])) (fun z => hn (by simp [z])) (fun z => hn (by simp [z])) e) hf⟩
  self := fun A i s Q E st h => wpAny_pyIter_zip st.1 h
/-- each item with its number -/
def Je (k : Bool) (K : PySem.W.Frag) (a : Addr) (xs : List V) : L2.It where
  go := fun i H => SqK k K H a xs ∧ i < xs.length
  yld := fun i H v H' => ∃ p x, v = .ref p ∧ H p = none ∧ H' = upd H p (.tup [.int (i : Nat), x]) ∧ xs[i]? = some x
  stop := fun i H => SqK k K H a xs ∧ i = xs.length
theorem turn_e {P : Program} {w : World} {K : PySem.W.Frag} {elts : List Expr} {kk : Nat} {tpos : Pos} (k : Bool) {N a : Nat} (xs : List V) (ha : a < N) :
    Turn P w K (.Tuple elts kk tpos) (Je k K a xs) [N + 1, N] (N + 1) (fun i h => (∃ old, IsEnum h (N + 1) N ((i : Nat) : Int) old) ∧ ItAt k h N a i) where
  mem := by simp
  obj := fun i h st c hc => by
    obtain ⟨⟨old, he⟩, h1⟩ := st
    have e' : c = N + 1 ∨ c = N := by simpa using hc
    rcases e' with q | q
    · rw [q]; exact ⟨_, he, fun v q => nomatch q⟩
    · rw [q]; exact h1.obj
  keep := fun i h h' st k => by
    obtain ⟨⟨old, he⟩, h1⟩ := st
    exact ⟨⟨old, k _ (by simp) _ he⟩, h1.keep fun o q => k N (by simp) o q⟩
  item := by
    intro X hP hw hK hc i pins s σ H E I hf st hg
    subst hP hw hK
    obtain ⟨⟨old, he⟩, h1⟩ := st
    obtain ⟨q1, l1⟩ := hg
    obtain ⟨its, rv, p1, _⟩ := Inv_sq I q1
    have hx : xs[i]? = some xs[i] := List.getElem?_eq_getElem l1
    obtain ⟨u, hu, ru⟩ := rv.get hx
    have hh : X.A.in1.handled = none := I.ok.hd hc
    have n1 := rv.length
    refine wpAny_pyNext_enum_itemD (drawsK k hh N a (nad (by omega)) its.toArray) he ⟨h1, p1⟩ (by simp; omega) (nad (by omega)) (nin2 (by omega) (by omega)) fun x h' tk y1 ho s1 hT hsz hk => ?_
    have eu : x = u := by simp at y1; rw [hu] at y1; exact (Option.some.inj y1).symm
    subst eu
    have hzl : N + 1 < s.heap.objs.size := Heap.lt_size he
    refine ⟨_, rfl, wpAny_letOwnedTupleGo_enum (s := { s with heap := h', toks := tk + 1 }) ho fun h'' he' sb => ?_⟩
    have hT2 : h''.get? s.heap.objs.size = some { cls := .type "tuple", data := .seq #[.int i tk, x] } := (sb.2 _ (Nat.ne_of_gt hzl)).trans hT
    have new : ObjOk X.prog X.w (upd H s.heap.objs.size (.tup [.int (i : Nat), xs[i]])) h'' s.heap.objs.size (.tup [.int (i : Nat), xs[i]]) :=
      ⟨by show 2 ≤ sizeLine; decide, [.int i tk, x], .cons ⟨_, rfl⟩ (.cons ru .nil), ⟨_, hT2, rfl, _, rfl⟩⟩
    have hk2 : ∀ c o, c ≠ N + 1 → c ≠ N → s.heap.get? c = some o → h''.get? c = some o := fun c o e1 e2 e => (sb.2 c e1).trans (hk c o e1 e2 e)
    have I1 : Inv X pins σ (upd H s.heap.objs.size (.tup [.int (i : Nat), xs[i]])) { s with heap := h'', toks := tk + 1 } :=
      I.turnedNew (ch := [N + 1, N]) (fun c o hn e => hk2 c o (fun z => hn (by simp [z])) (fun z => hn (by simp [z])) e) hf (Nat.le_refl _) new
    refine ⟨.ref s.heap.objs.size, _, I1, rfl, ⟨_, _, rfl, I.hok.fresh (Nat.le_refl _), rfl, hx⟩, ⟨⟨x, ?_⟩, s1.1.keep fun o q => (sb.2 _ (nad (by omega))).trans q⟩, fun c hcm => ?_⟩
    · have e1 : ((i + 1 : Nat) : Int) = (i : Int) + 1 := by omega
      rw [e1]; exact he'
    · have hlt : c < s.heap.objs.size := by
        have e' : c = N + 1 ∨ c = N := by simpa using hcm
        have l0 : N + 1 < s.heap.objs.size := hzl
        exact lt2 l0 e'
      rw [upd_ne (Nat.ne_of_lt hlt)]
      exact (hf c hcm).1
  done := by
    intro X hP hw hK hc i pins s σ H E I hf st hg
    subst hP hw hK
    obtain ⟨⟨old, he⟩, h1⟩ := st
    obtain ⟨q1, l1⟩ := hg
    obtain ⟨its, rv, p1, _⟩ := Inv_sq I q1
    have hh : X.A.in1.handled = none := I.ok.hd hc
    have n1 := rv.length
    subst l1
    refine wpAny_pyNext_enum_endD (drawsK k hh N a (nad (by omega)) its.toArray) he (by rw [List.size_toArray, ← n1]; exact ⟨h1, p1⟩) fun h' eb => ⟨rfl, ?_⟩
    exact I.turnedL (t' := s.toks) (ch := [N + 1, N]) (fun c o hn e => eb c o (fun z => hn (by simp [z])) e) hf
  self := fun A i s Q E st h => let ⟨⟨_, he⟩, _⟩ := st; wpAny_pyIter_enum he h
end SL
namespace SL
open PySem PySem.Spec PyProof.Rows L2
section
variable {X : L2.Cx} {e e2 : Expr} {ta : TA} {p pos tpos : Pos} {elts : List Expr} {kk : Nat}
theorem pi_z (hg : Gl X "zip") (hm : X.mg "zip" = none) (ha : PA X [e, e2] ta) (hs : starEach [e, e2] X.env = (false, eval e X.env) :: starEach [e2] X.env) (hpl : (backTo pos (starEach [e2] X.env)).any (·.1) = false) :
    PI X (.Tuple elts kk tpos) (.Call (.Name "zip" p) [e, e2] [] pos) (fun σ H R => ta σ H fun vs H1 => ∃ a b xs ys k1 k2, vs = [.ref a, .ref b] ∧ SqK k1 X.K H1 a xs ∧ SqK k2 X.K H1 b ys ∧ R (Jz k1 k2 X.K a b xs ys) H1) := by
  refine ⟨fun pins s σ H R I h => Call_ (ld_blt I hg hm PyProof.Rows.boot_zip (PyProof.Rows.callWith_type1 (thn (ha.run pos pins s σ H _ I h) fun us s1 q1 => ?_) hs hpl))⟩
  obtain ⟨vs, H1, I1, r1, a, b, xs, ys, k1, k2, rfl, hx, hy, q⟩ := q1
  obtain ⟨u1, u2, rfl, ra, rb⟩ := r1.two
  cases ra
  cases rb
  obtain ⟨its, rv, p1, l1⟩ := Inv_sq I1 hx
  obtain ⟨its2, rv2, p2, l2⟩ := Inv_sq I1 hy
  refine zip_begins2 (begK k1 a its.toArray) (begK k2 b its2.toArray) p1 p2 fun h' hz hI hO o1 o2 hsz hk => wpAny_pyIter_zip hz ?_
  have I2 : Inv X pins σ H1 { s1 with heap := h' } := I1.kept (t' := s1.toks) hk
  refine ⟨s1.heap.objs.size + 4, _, _, _, H1, rfl, I2, turn_z k1 k2 xs ys l1 l2, ⟨hz, hI, ⟨_, _, hO⟩, .new o1, .new o2⟩, fun c hc => ?_, q⟩
  have hle : s1.heap.objs.size ≤ c := by
    have e' : c = s1.heap.objs.size + 4 ∨ c = s1.heap.objs.size + 2 ∨ c = s1.heap.objs.size + 3 ∨ c = s1.heap.objs.size ∨ c = s1.heap.objs.size + 1 := by simpa using hc
    rcases e' with z | z | z | z | z
    · rw [z]; exact Nat.le_add_right _ _
    · rw [z]; exact Nat.le_add_right _ _
    · rw [z]; exact Nat.le_add_right _ _
    · rw [z]; exact Nat.le_refl _
    · rw [z]; exact Nat.le_add_right _ _
  exact I1.fpOk hle (I1.hok.fresh hle)
/-- enumerate, of one argument, over a list or a tuple -/
theorem mt_enew (k : Bool) (l : Addr) (its : Array Value) :
    Meets (Builtin.«enumerate.__new__» ⟨[.type "enumerate", .ref l], []⟩) (fun _ R s => IsSq k s.heap l its ∧
      R (.ok (.ret (.ref (s.heap.push (itObj k l)).objs.size))) { s with heap := (s.heap.push (itObj k l)).push { cls := .type "enumerate", data := .fields #[.none, .bool false, .ref s.heap.objs.size, rawInt 0, .none, .none] } }) := by
  refine .of_wp fun prog w A R s h => ?_
  obtain ⟨hp, g, d, tk, os⟩ := s
  obtain ⟨hl, h⟩ := h
  have hsub := sub_enumerate
  have q1 : ∀ {A' : Around} {E : Value → Shared → Prop} {Q : Value → Shared → Prop}, Q (.ref hp.objs.size) ⟨hp.push (itObj k l), g, d, tk, os⟩ → wpAny (model prog w) A' (pyIter (.ref l)) Q E ⟨hp, g, d, tk, os⟩ :=
    fun q => (begK k l its).iter prog w _ _ ⟨hp, g, d, tk, os⟩ _ hl q
  wp_walk using q1
  refine wpAny_stack_any fun st => wpAny_pure ?_
  split
  · rename_i c _ _ _ _ _
    cases (c == Value.type "enumerate") <;> (wp_walk using q1; exact ⟨_, rfl, h⟩)
  · wp_walk using q1
    exact ⟨_, rfl, h⟩
theorem call_enum {prog : Program} {w : World} {A : Around} {E : Value → Shared → Prop} {s : Shared} {k : Bool} {l : Addr} {its : Array Value} {Q : Value → Shared → Prop} (hL : IsSq k s.heap l its)
    (h : ∀ h', IsEnum h' (s.heap.objs.size + 1) s.heap.objs.size 0 .none → h'.get? s.heap.objs.size = some (itObj k l) → (∀ b o, s.heap.get? b = some o → h'.get? b = some o) → Q (.ref (s.heap.objs.size + 1)) { s with heap := h' }) :
    wpAny (model prog w) A (call (.type "enumerate") [.ref l]) Q E s := by
  refine callType_new F.called_enumerate (by decide) (F.typeCall_enumerate_1 _) (F.newCall_enumerate_1 _) (fun obj => F.args_object_init_2 obj _) F.entry_enumerate_new (mt_enew k l its) ⟨hL, ?_⟩
  have hz : (s.heap.push (itObj k l)).objs.size = s.heap.objs.size + 1 := Heap.size_push ..
  show _ ∧ _
  rw [hz]
  have he : IsEnum ((s.heap.push (itObj k l)).push { cls := .type "enumerate", data := .fields #[.none, .bool false, .ref s.heap.objs.size, rawInt 0, .none, .none] }) (s.heap.objs.size + 1) s.heap.objs.size 0 .none := by
    have q := Heap.get?_push_size (s.heap.push (itObj k l)) (o := { cls := .type "enumerate", data := .fields #[.none, .bool false, .ref s.heap.objs.size, rawInt 0, .none, .none] }) rfl
    rw [hz] at q
    exact q
  exact ⟨⟨_, he, rfl⟩, h _ he (Heap.get?_push_of_some _ (Heap.get?_push_size _ (begK k l its).free)) fun b o x => Heap.get?_push_of_some _ (Heap.get?_push_of_some _ x)⟩
theorem pi_en (hg : Gl X "enumerate") (hm : X.mg "enumerate" = none) (ha : PA X [e] ta) (hs : starEach [e] X.env = [(false, eval e X.env)]) :
    PI X (.Tuple elts kk tpos) (.Call (.Name "enumerate" p) [e] [] pos) (fun σ H R => ta σ H fun vs H1 => ∃ a xs k, vs = [.ref a] ∧ SqK k X.K H1 a xs ∧ R (Je k X.K a xs) H1) := by
  refine ⟨fun pins s σ H R I h => Call_ (ld_blt I hg hm boot_enumerate (PyProof.Rows.callWith_type1 (thn (ha.run pos pins s σ H _ I h) fun us s1 q1 => ?_) hs rfl))⟩
  obtain ⟨vs, H1, I1, r1, a, xs, k, rfl, hx, q⟩ := q1
  obtain ⟨u1, rfl, ra⟩ := r1.one
  cases ra
  obtain ⟨its, rv, p1, l1⟩ := Inv_sq I1 hx
  refine call_enum p1 fun h' he o1 hk => wpAny_pyIter_enum he ?_
  have I2 : Inv X pins σ H1 { s1 with heap := h' } := I1.kept (t' := s1.toks) hk
  refine ⟨s1.heap.objs.size + 1, _, _, _, H1, rfl, I2, turn_e k xs l1, ⟨⟨.none, he⟩, .new o1⟩, fun c hc => ?_, q⟩
  have hle : s1.heap.objs.size ≤ c := by
    have e' : c = s1.heap.objs.size + 1 ∨ c = s1.heap.objs.size := by simpa using hc
    rcases e' with z | z
    · rw [z]; exact Nat.le_add_right _ _
    · rw [z]; exact Nat.le_refl _
  exact I1.fpOk hle (I1.hok.fresh hle)
end
section
variable {X : L2.Cx} {T : Tb} {B : Bs} {W : WX} {C : Cx} {e l r e1 e2 e3 : Expr} {pos p2 : Pos} {a b c d : E} {es : Es}
/-- a row that stands still, in the heap -/
theorem fix_sq {μ : List Ad} {F : Fz} {H : Hp} {S : Store} {d : D} {v : V} {ds : List D} (rl : Rl B μ F H S) (rd : Rep B μ F H d v) (h : fixd d = some ds) :
    ∃ ad vs k, v = .ref ad ∧ SqK k B.K H ad vs ∧ Reps B μ F H ds vs ∧ ∀ μ' F' H', Ext μ F H μ' F' H' → SqK k B.K H' ad vs := by
  cases rd with
  | tup h1 q => simp [fixd] at h; subst h; exact ⟨_, _, false, rfl, h1, q, fun μ' F' H' e => e.sqt h1⟩
  | vl f h1 q => simp [fixd] at h; subst h; exact ⟨_, _, true, rfl, SqL.of h1, q, fun μ' F' H' e => SqL.of (e.lst _ _ f h1)⟩
  | vs h1 q => simp [fixd] at h; subst h; exact ⟨_, _, true, rfl, h1.sql, q, fun μ' F' H' e => (e.toWk.still h1).sql⟩
  | _ => simp [fixd] at h
theorem zipT_get {x y : List D} {i : Nat} {d1 d2 : D} (h1 : x[i]? = some d1) (h2 : y[i]? = some d2) : (zipT x y)[i]? = some (.tup [d1, d2]) := by
  have e : (x.zip y)[i]? = some (d1, d2) := List.getElem?_zip_eq_some.mpr ⟨h1, h2⟩
  simp [zipT, List.getElem?_map, e]
theorem zipT_len (x y : List D) : (zipT x y).length = min x.length y.length := by simp [zipT]
theorem pi_zip' (hK : B.K = X.K) {xs : List Expr} {kk : Nat} {tp p : Pos} (hg : Gl X "zip") (hm : X.mg "zip" = none) (ha : PE X e (tE T B W C a)) (hb : PE X r (tE T B W C b)) (hs : ∀ es, starEach (e :: es) X.env = (false, eval e X.env) :: starEach es X.env)
    (hs2 : ∀ es, starEach (r :: es) X.env = (false, eval r X.env) :: starEach es X.env) : PI X (.Tuple xs kk tp) (.Call (.Name "zip" p) [e, r] [] pos) (tIt T B W C (.zip a b)) := by
  refine pi_imp (pi_z hg hm (pa_cons ha (pa_cons hb pa_nil (hs2 _)) (hs _)) (hs _) (by rw [hs2]; rfl)) fun τ H R ⟨μ, F, S, σ, rl, sl, h⟩ => ?_
  simp only [evIt] at h
  refine tE.go rl sl h.bind fun x S1 μ1 F1 H1 v rl1 sl1 e1 p1 rx => ?_
  refine tE.go rl1 sl1 p1.bind fun y S2 μ2 F2 H2 u rl2 sl2 e2 p2 ry => ?_
  have rx2 := rx.mono e2
  unfold zipW at p2
  cases hx : fixd x with
  | none => rw [hx] at p2; exact p2.elim
  | some ds =>
    rw [hx] at p2
    cases hy : fixd y with
    | none => rw [hy] at p2; exact p2.elim
    | some ds2 =>
      rw [hy] at p2
      obtain ⟨ad, vs, k1, rfl, s1, q1, st1⟩ := fix_sq rl2 rx2 hx
      obtain ⟨ad2, vs2, k2, rfl, s2, q2, st2⟩ := fix_sq rl2 ry hy
      rw [hK] at s1 s2 st1 st2
      refine ⟨ad, ad2, vs, vs2, k1, k2, rfl, s1, s2, get2 p2 rfl _ _ _ (Ext.refl _ _ _) rl2 _ ?_⟩
      have n1 := q1.length
      have n2 := q2.length
      exact {
        go := fun i μ' F' H' S' e' r' k' hi => by
          rw [zipT_len] at hi
          exact ⟨st1 _ _ _ e', st2 _ _ _ e', by omega, by omega⟩
        stop := fun i μ' F' H' S' e' r' k' hi => by
          rw [zipT_len] at hi
          exact ⟨st1 _ _ _ e', st2 _ _ _ e', by omega, by omega, by omega⟩
        yld := fun i μ' F' H' S' z H2' e' r' k' hi ⟨pp, xx, yy, ez, np, eH, g1, g2⟩ => by
          subst ez eH
          obtain ⟨d1, f1, w1⟩ := q1.get' g1
          obtain ⟨d2, f2, w2⟩ := q2.get' g2
          have ee := Ext.upd (μ := μ') (F := F') (u := .tup [xx, yy]) np
          exact ⟨_, zipT_get f1 f2, ee, r'.new np, .tup (SqT.of upd_same) (.cons ((w1.mono e').mono ee) (.cons ((w2.mono e').mono ee) .nil))⟩ }
theorem enumT_get {x : List D} {i : Nat} {d : D} (h : x[i]? = some d) : (enumT x)[i]? = some (.tup [.int (i : Nat), d]) := by
  simp [enumT, List.getElem?_map, List.getElem?_zipIdx, h]
theorem pi_enum' (hK : B.K = X.K) {xs : List Expr} {kk : Nat} {tp p : Pos} (hg : Gl X "enumerate") (hm : X.mg "enumerate" = none) (ha : PE X e (tE T B W C a)) (hs : ∀ es, starEach (e :: es) X.env = (false, eval e X.env) :: starEach es X.env) :
    PI X (.Tuple xs kk tp) (.Call (.Name "enumerate" p) [e] [] pos) (tIt T B W C (.enum a)) := by
  refine pi_imp (pi_en hg hm (pa_cons ha pa_nil (hs _)) (hs _)) fun τ H R ⟨μ, F, S, σ, rl, sl, h⟩ => ?_
  simp only [evIt] at h
  refine tE.go rl sl h.bind fun x S1 μ1 F1 H1 v rl1 sl1 e1 p1 rx => ?_
  unfold enumW at p1
  cases hx : fixd x with
  | none => rw [hx] at p1; exact p1.elim
  | some ds =>
    rw [hx] at p1
    obtain ⟨ad, vs, k1, rfl, s1, q1, st1⟩ := fix_sq rl1 rx hx
    rw [hK] at s1 st1
    refine ⟨ad, vs, k1, rfl, s1, get2 p1 rfl _ _ _ (Ext.refl _ _ _) rl1 _ ?_⟩
    have n1 := q1.length
    have nl : (enumT ds).length = ds.length := by simp [enumT]
    exact {
      go := fun i μ' F' H' S' e' r' k' hi => by
        simp only [nl] at hi
        exact ⟨st1 _ _ _ e', by omega⟩
      stop := fun i μ' F' H' S' e' r' k' hi => by
        simp only [nl] at hi
        exact ⟨st1 _ _ _ e', by omega⟩
      yld := fun i μ' F' H' S' z H2' e' r' k' hi ⟨pp, xx, ez, np, eH, g1⟩ => by
        subst ez eH
        obtain ⟨d1, f1, w1⟩ := q1.get' g1
        have ee := Ext.upd (μ := μ') (F := F') (u := .tup [.int (i : Nat), xx]) np
        exact ⟨_, enumT_get f1, ee, r'.new np, .tup (SqT.of upd_same) (.cons (.int _) (.cons ((w1.mono e').mono ee) .nil))⟩ }
theorem rev_get {x : List D} {i : Nat} {d : D} (hi : i < x.length) (h : x[x.length - 1 - i]? = some d) : x.reverse[i]? = some d := by
  rw [List.getElem?_reverse hi]; exact h
theorem pi_rev' (hK : B.K = X.K) {tg : Expr} {p : Pos} (hg : Gl X "reversed") (hm : X.mg "reversed" = none) (ha : PE X e (tE T B W C a)) (hs : ∀ es, starEach (e :: es) X.env = (false, eval e X.env) :: starEach es X.env) :
    PI X tg (.Call (.Name "reversed" p) [e] [] pos) (tIt T B W C (.rev a)) := by
  refine pi_imp (RT.pi_revA hg hm ha (hs _)) fun τ H R ⟨μ, F, S, σ, rl, sl, h⟩ => ?_
  simp only [evIt] at h
  refine tE.go rl sl h.bind fun x S1 μ1 F1 H1 v rl1 sl1 e1 p1 rx => ?_
  unfold revW at p1
  cases hx : fixd x with
  | none => rw [hx] at p1; exact p1.elim
  | some ds =>
    rw [hx] at p1
    obtain ⟨ad, vs, k1, rfl, s1, q1, st1⟩ := fix_sq rl1 rx hx
    rw [hK] at s1 st1
    have n1 := q1.length
    have nl : ds.reverse.length = ds.length := by simp
    have fin := get2 p1 rfl _ _ _ (Ext.refl _ _ _) rl1
    cases k1 with
    | true =>
      refine ⟨ad, vs, rfl, .inl ⟨s1, fin _ {
        go := fun i μ' F' H' S' e' r' k' hi => ?_
        stop := fun i μ' F' H' S' e' r' k' hi => ?_
        yld := fun i μ' F' H' S' z H2' e' r' k' hi ⟨g1, g2⟩ => ?_ }⟩⟩
      · simp only [nl] at hi
        have hl : vs.length - 1 - i < vs.length := by omega
        exact ⟨by omega, vs, _, st1 _ _ _ e', List.getElem?_eq_getElem hl⟩
      · simp only [nl] at hi
        exact Nat.le_of_eq (by omega)
      · subst g1
        simp only [nl] at hi
        obtain ⟨d1, f1, w1⟩ := q1.get' (g2 _ (st1 _ _ _ e'))
        exact ⟨_, rev_get hi (by rw [n1]; exact f1), Ext.refl _ _ _, r', w1.mono e'⟩
    | false =>
      refine ⟨ad, vs, rfl, .inr ⟨s1, fin _ {
        go := fun i μ' F' H' S' e' r' k' hi => ?_
        stop := fun i μ' F' H' S' e' r' k' hi => ?_
        yld := fun i μ' F' H' S' z H2' e' r' k' hi ⟨g1, g2⟩ => ?_ }⟩⟩
      · simp only [nl] at hi
        have hl : vs.length - 1 - i < vs.length := by omega
        exact ⟨by omega, vs, _, st1 _ _ _ e', List.getElem?_eq_getElem hl⟩
      · simp only [nl] at hi
        exact Nat.le_of_eq (by omega)
      · subst g1
        simp only [nl] at hi
        obtain ⟨d1, f1, w1⟩ := q1.get' (g2 _ (st1 _ _ _ e'))
        exact ⟨_, rev_get hi (by rw [n1]; exact f1), Ext.refl _ _ _, r', w1.mono e'⟩
/-- a range by steps -/
theorem itc_ok {μ : List Ad} {F : Fz} {H : Hp} (lo c : Int) (n : Nat) : ItOk B μ F H ⟨rngL lo n c, none⟩ (Itc lo c n) where
  go := fun i μ' F' H' S' e r k hi => by rw [rng_len] at hi; exact hi
  stop := fun i μ' F' H' S' e r k hi => by rw [rng_len] at hi; exact Nat.le_of_eq hi.symm
  yld := fun i μ' F' H' S' y H2 e r k hi ⟨h1, h2⟩ => by
    subst h1
    subst h2
    rw [rng_len] at hi
    exact ⟨_, rng_get hi, Ext.refl _ _ _, r, .int _⟩
end
end SL
namespace SL
open PySem PySem.Spec PyProof.Rows L2
section
variable {X : L2.Cx} {T : Tb} {B : Bs} {W : WX} {C : Cx} {e l r e1 e2 e3 : Expr} {pos p2 : Pos} {a b c d : E} {es : Es}
theorem div_in {x y : Int} (h0 : 0 ≤ x) (hy : 0 < y) : 0 ≤ x / y ∧ x / y ≤ x := ⟨Int.ediv_nonneg h0 (Int.le_of_lt hy), Int.ediv_le_self y h0⟩
theorem rg_ok {i j k : Int} (hi : small62 i = true) (hj : small62 j = true) (h0 : k ≠ 0) (hk : k.natAbs < 1073741824) : RgC i j k (rngN i j k) := by
  obtain ⟨a1, a2⟩ := small62_ok hi
  obtain ⟨b1, b2⟩ := small62_ok hj
  have p62 : (2 : Int) ^ 62 = 4611686018427387904 := by decide
  have p63 : (2 : Int) ^ 63 = 9223372036854775808 := by decide
  rw [p62] at a1 a2 b1 b2
  have sz : 0 ≤ Builtin.Range.rangeSize i j k ∧ Builtin.Range.rangeSize i j k ≤ 9223372036854775807 ∧ Builtin.Range.rangeSize i j k = ((rngN i j k : Nat) : Int) := by
    unfold Builtin.Range.rangeSize rngN
    by_cases hp : 0 < k
    · rw [if_pos hp, if_pos hp]
      by_cases hl : i < j
      · rw [if_pos hl]
        have := div_in (x := j - i - 1) (y := k) (by omega) hp
        omega
      · rw [if_neg hl]; decide
    · rw [if_neg hp, if_neg hp]
      by_cases hl : j < i
      · rw [if_pos hl]
        have := div_in (x := i - j - 1) (y := -k) (by omega) (by omega)
        omega
      · rw [if_neg hl]; decide
  refine ⟨h0, hk, ?_, sz.2.2⟩
  have fit : ∀ x : Int, -9223372036854775808 ≤ x → x < 9223372036854775808 → Builtin.Range.rangeFitsLong x = true := by
    intro x h1 h2
    unfold Builtin.Range.rangeFitsLong
    simp
    omega
  show (Builtin.Range.rangeFitsLong i && Builtin.Range.rangeFitsLong j && Builtin.Range.rangeFitsLong k && Builtin.Range.rangeFitsLong (Builtin.Range.rangeSize i j k) && (Builtin.Range.rangeSize i j k == 0 || if k > 0 then Builtin.Range.rangeFitsLong (j + (k - 1)) else Builtin.Range.rangeFitsLong (j + (k + 1)))) = true
  rw [fit i (by omega) (by omega), fit j (by omega) (by omega), fit k (by omega) (by omega), fit (Builtin.Range.rangeSize i j k) (by omega) (by omega), fit (j + (k - 1)) (by omega) (by omega), fit (j + (k + 1)) (by omega) (by omega)]
  simp
theorem pi_r3' {tg : Expr} {p : Pos} (hg : Gl X "range") (hm : X.mg "range" = none) (ha : PE X e1 (tE T B W C a)) (hb : PE X e2 (tE T B W C b)) (hc : PE X e3 (tE T B W C c)) (hs : ∀ es, starEach (e1 :: es) X.env = (false, eval e1 X.env) :: starEach es X.env)
    (hs2 : ∀ es, starEach (e2 :: es) X.env = (false, eval e2 X.env) :: starEach es X.env) (hs3 : ∀ es, starEach (e3 :: es) X.env = (false, eval e3 X.env) :: starEach es X.env) : PI X tg (.Call (.Name "range" p) [e1, e2, e3] [] pos) (tIt T B W C (.range3 a b c)) := by
  refine pi_imp (pi_range3 hg hm (pa_cons ha (pa_cons hb (pa_cons hc pa_nil (hs3 _)) (hs2 _)) (hs _)) (hs _) (by rw [hs2, hs3]; rfl)) fun τ H R ⟨μ, F, S, σ, rl, sl, h⟩ => ?_
  simp only [evIt] at h
  refine tE.go rl sl h.asI fun x S1 μ1 F1 H1 v rl1 sl1 e1 ⟨i, hx, p1⟩ rx => ?_
  refine tE.go rl1 sl1 p1.asI fun y S2 μ2 F2 H2 u rl2 sl2 e2 ⟨j, hy, p2⟩ ry => ?_
  refine tE.go rl2 sl2 p2.asI fun z S3 μ3 F3 H3 w rl3 sl3 e3 ⟨k, hz, p3⟩ rz => ?_
  subst hx hy hz
  cases rx
  cases ry
  cases rz
  by_cases hh : (small62 i && small62 j && decide (k ≠ 0) && decide (k.natAbs < 1073741824)) = true
  · rw [if_pos hh] at p3
    simp only [Bool.and_eq_true, decide_eq_true_eq] at hh
    obtain ⟨⟨⟨h1, h2⟩, h3⟩, h4⟩ := hh
    exact ⟨i, j, k, _, rfl, rg_ok h1 h2 h3 h4, get2 p3 rfl _ _ _ (Ext.refl _ _ _) rl3 _ (itc_ok i k _)⟩
  · rw [if_neg hh] at p3; exact p3.elim
theorem pi_rr' {tg : Expr} {p pp q : Pos} (hg : Gl X "reversed") (hm : X.mg "reversed" = none) (hg2 : Gl X "range") (hm2 : X.mg "range" = none) (ha : PE X e (tE T B W C a)) (hs : ∀ es, starEach (e :: es) X.env = (false, eval e X.env) :: starEach es X.env) :
    PI X tg (.Call (.Name "reversed" p) [.Call (.Name "range" pp) [e] [] q] [] pos) (tIt T B W C (.revrange a)) := by
  refine pi_imp (pi_revR hg hm (prg_1 hg2 hm2 ha (hs _)) (by rfl)) fun τ H R ⟨μ, F, S, σ, rl, sl, h⟩ => ?_
  simp only [evIt] at h
  refine tE.go rl sl h.asI fun x S1 μ1 F1 H1 v rl1 sl1 e1 ⟨n, hx, p1⟩ rx => ?_
  subst hx
  cases rx
  by_cases hn : small62 n = true
  · rw [if_pos hn] at p1
    obtain ⟨n1, n2⟩ := small62_ok hn
    refine ⟨n, rfl, by decide, by decide, n1, n2, get2 p1 rfl _ _ _ (Ext.refl _ _ _) rl1 _ ?_⟩
    have ez : (n - 0).toNat = n.toNat := by rw [Int.sub_zero]
    rw [ez]
    have hl : (rngL 0 n.toNat 1).length = n.toNat := rng_len _ _ _
    exact {
      go := fun i μ' F' H' S' e' r' k' hi => by
        simp only [List.length_reverse, hl] at hi
        exact hi
      stop := fun i μ' F' H' S' e' r' k' hi => by
        simp only [List.length_reverse, hl] at hi
        exact Nat.le_of_eq hi.symm
      yld := fun i μ' F' H' S' z H2' e' r' k' hi ⟨g1, g2⟩ => by
        subst g1 g2
        simp only [List.length_reverse, hl] at hi
        refine ⟨_, rev_get (by rw [hl]; exact hi) (by rw [hl]; exact rng_get (by omega)), Ext.refl _ _ _, r', ?_⟩
        have e2 : (0 : Int) + ((n.toNat : Nat) : Int) - 1 + (i : Nat) * (-1) = 0 + ((n.toNat - 1 - i : Nat) : Int) * 1 := by omega
        rw [e2]
        exact .int _ }
  · rw [if_neg hn] at p1; exact p1.elim
end
end SL
namespace SL
open PySem PySem.Spec PyProof.Rows L2
theorem nolen_rt : typeLookup (.type "reversed") "__len__" = pure none := by
  rw [typeLookup_type, builtinLookup_eq_fast]; kernel_rfl
theorem slot_rt_hint : Slot "reversed" "__length_hint__" "reversed.__length_hint__" :=
  .of (owner := "reversed") (n := "__length_hint__") (by rw [typeLookup_type, builtinLookup_eq_fast]; kernel_rfl) (by decide +kernel) (by decide +kernel) (by decide +kernel) (by first | exact .inl (by decide +kernel) | exact .inr (by decide +kernel)) (by rw [isSubtype_type]; kernel_rfl)
theorem entry_rt_hint : entryFor table "reversed.__length_hint__" = some Builtin.«reversed.__length_hint__» := entryFor_of_tree (by kernel_rfl)
theorem args_rt_hint (a : Value) : argsOk "reversed.__length_hint__" ⟨[a], []⟩ := by
  unfold argsOk
  rw [signature?_of (id := "reversed.__length_hint__") (n := ['_', '_', 't', 'n', 'i', 'h', '_', 'h', 't', 'g', 'n', 'e', 'l', '_', '_']) (o := ['d', 'e', 's', 'r', 'e', 'v', 'e', 'r']) (by kernel_rfl) RT.owner_rt]
  kernel_rfl
section
variable {prog : Program} {w : World} {A : Around} {E : Value → Shared → Prop} {s : Shared}
theorem hint_rt {it t : Ad} {items : Array Value} {Q : Bool → Shared → Prop} (hit : RT.IsRt s.heap it t ((items.size : Int) - 1)) (ht : IsTup s.heap t items) (hn : items.size ≤ sizeLine)
    (hQ : ∀ tk b, s.toks ≤ tk → Q b { s with toks := tk }) : wpAny (model prog w) A (Builtin.List.listLengthHint (.ref it)) Q E s := by
  have hT : s.TypeIs (.ref it) "reversed" := hit.typeIs
  obtain ⟨o, ho, hc, hd⟩ := id hit
  rw [sizeLine_eq] at hn
  unfold Builtin.List.listLengthHint
  refine wpAny_bind (wpAny_specialOf hT nolen_rt ?_)
  show wpAny _ A (specialOf (Value.ref it) (Str.ofString "__length_hint__") >>= _) _ _ _
  refine wpAny_bind (wpAny_specialOf hT slot_rt_hint.lookup ?_)
  generalize hid : ("reversed.__length_hint__" : String) = id0
  wp_delta
  rw [show splitId id0 = some ("reversed", "__length_hint__") from by subst hid; decide +kernel]
  subst hid
  refine wpAny_bind (wpAny_isInstance (b := true) hT (by rw [isSubtype_type]; kernel_rfl) ?_)
  show wpAny _ _ (rule "list.length-hint.hint" >>= fun _ => bindSpecial (Value.builtin "reversed.__length_hint__") (Value.ref it) >>= _) _ _ _
  refine wpAny_bind (wpAny_rule ?_)
  rw [slot_rt_hint.bind]
  refine wpAny_bind (wpAny_pure ?_)
  refine wpAny_bind (wpAny_attempt (wpAny_call_entry slot_rt_hint hit.typeIs entry_rt_hint ?_ (args_rt_hint _)))
  unfold Builtin.«reversed.__length_hint__»
  refine wpAny_bind (wpAny_of_eq (a := Value.ref it) rfl ?_)
  refine wpAny_bind (wpAny_field ho hd (x := .ref t) rfl ?_)
  try dsimp only
  rw [if_neg (fun z => by simp at z)]
  refine wpAny_bind (len_tuple ht (by omega) ?_)
  refine wpAny_bind (wpAny_of_eq (a := some (items.size : Int)) rfl ?_)
  try dsimp only
  refine wpAny_bind (wpAny_field (s := { s with toks := _ }) ho hd (x := rawInt ((items.size : Int) - 1)) rfl ?_)
  show wpAny _ _ (if (items.size : Int) < (items.size : Int) - 1 + 1 then _ else _) _ _ _
  rw [if_neg (by omega)]
  refine wpAny_bind (wpAny_mkInt ?_)
  refine wpAny_pure ⟨_, rfl, ?_⟩
  show wpAny _ _ (asInt? (Value.int ((items.size : Int) - 1 + 1) (s.toks + 1 + 1)) >>= _) _ _ _
  refine wpAny_bind (wpAny_of_eq (a := some ((items.size : Int) - 1 + 1)) rfl ?_)
  try dsimp only
  rw [if_neg (by simp [Builtin.List.listFitsIndex]; omega), if_neg (by omega), if_neg (by simp only [Builtin.List.listTooLong, sizeLine_eq, decide_eq_true_eq]; omega)]
  exact wpAny_pure (hQ _ _ (by show s.toks ≤ s.toks + 1 + 1 + 1; omega))
/-- what reversed(a tuple) hands out -/
theorem walks_rt (hh : A.handled = none) (it t : Ad) (hne : t ≠ it) (items : Array Value) (hsz : items.size ≤ sizeLine) :
    Walks prog w A it [it, t] [it] items.size (fun i v => items[items.size - 1 - i]? = some v) (fun i h => i ≤ items.size ∧ RT.IsRt h it t ((items.size : Int) - 1 - (i : Int)) ∧ IsTup h t items) where
  sub := fun b hb => by simp at hb; simp [hb]
  frame := fun _ _ _ x hk => ⟨x.1, x.2.1.at fun o e => hk it (by simp) o e, let ⟨o, e, q⟩ := x.2.2; ⟨o, hk t (by simp) o e, q⟩⟩
  item := fun i s Q E hi x hQ => by
    have e : (items.size : Int) - 1 - (i : Int) = ((items.size - 1 - i : Nat) : Int) := by omega
    have hit := x.2.1; rw [e] at hit
    have hx : items[items.size - 1 - i]? = some (items[items.size - 1 - i]'(by omega)) := Array.getElem?_eq_getElem (by omega)
    refine RT.next_rt_item hit x.2.2 hx hsz fun h' hit' hs' => ?_
    have e2 : ((items.size - 1 - i : Nat) : Int) - 1 = (items.size : Int) - 1 - ((i + 1 : Nat) : Int) := by omega
    rw [e2] at hit'
    obtain ⟨ob, he, hq⟩ := x.2.2
    exact hQ _ h' _ hx ⟨hi, hit', ob, (hs'.2 t hne).trans he, hq⟩ fun b o hb eo => (hs'.2 b (fun h => hb (by simp [h]))).trans eo
  done := fun s Q E x hQ => by
    have e : (items.size : Int) - 1 - (items.size : Int) = -1 := by omega
    have hit := x.2.1; rw [e] at hit
    exact RT.next_rt_end hh hit fun h' he => hQ h' s.toks fun b o hb eo => he b o (fun h => hb (by simp [h])) eo
  self := fun i s Q E x hQ => RT.iter_rt x.2.1 hQ
theorem collect_rt {it t : Ad} {items : Array Value} {Q : List Value → Shared → Prop} (hh : A.handled = none) (hit : RT.IsRt s.heap it t ((items.size : Int) - 1)) (ht : IsTup s.heap t items) (hne : t ≠ it) (hn : items.size ≤ sizeLine)
    (hQ : ∀ (h' : Heap) (tk : Nat) (acc : Array Value), (∀ b o, b ≠ it → s.heap.get? b = some o → h'.get? b = some o) → ItemsOf (fun i v => items[items.size - 1 - i]? = some v) acc items.size → Q acc.toList { s with heap := h', toks := tk }) :
    wpAny (model prog w) A (collect (.ref it)) Q E s := by
  have W := (walks_rt (prog := prog) (w := w) (A := A.in1) hh it t hne items hn).toS
  obtain ⟨oi, hoi, _⟩ := id hit; obtain ⟨ot, hot, hqt⟩ := id ht
  have hSi : s.heap.objs.size ≠ it := Nat.ne_of_gt (Heap.lt_size hoi)
  have hSt : s.heap.objs.size ≠ t := Nat.ne_of_gt (Heap.lt_size hot)
  have hSf : s.heap.objs.size ∉ [it, t] := fun z => by rcases List.mem_cons.mp z with z | z; exact hSi z; exact hSt (List.mem_singleton.mp z)
  unfold collect
  refine wpAny_bind (wpAny_runValue (codeAny_builtin F.entry_proto_collect ?_)); rw [Around.under_plainId F.plain_proto_collect _]
  show wpAny _ A.in1 (newList [] >>= fun l' => again (.builtin "list.__iadd__" ⟨[l', .ref it], []⟩)) _ _ s; refine wpAny_bind (wpAny_newObj_type ?_)
  refine wpAny_pure ⟨plainId_quiet F.plain_list_iadd _, codeAny_builtin F.entry_list_iadd ?_⟩; rw [Around.under_plainId F.plain_list_iadd _]
  have hS1 : (s.heap.push { cls := .type "list", data := .seq ([] : List Value).toArray }).get? s.heap.objs.size = some { cls := .type "list", data := .seq ([] : List Value).toArray } := by exact Heap.get?_push_size _ rfl
  have hit1 : RT.IsRt (s.heap.push { cls := .type "list", data := .seq ([] : List Value).toArray }) it t ((items.size : Int) - 1) := hit.at fun o e => Heap.get?_push_of_some _ e
  have ht1 : IsTup (s.heap.push { cls := .type "list", data := .seq ([] : List Value).toArray }) t items := ⟨ot, Heap.get?_push_of_some _ hot, hqt⟩
  have hT : ({ s with heap := s.heap.push { cls := .type "list", data := .seq ([] : List Value).toArray } } : Shared).TypeIs (.ref it) "reversed" := RT.IsRt.typeIs (s := { s with heap := s.heap.push { cls := .type "list", data := .seq ([] : List Value).toArray } }) hit1
  have h1 : Builtin.List.listSameRef (.ref s.heap.objs.size) (.ref it) = false := by simp only [Builtin.List.listSameRef, beq_eq_false_iff_ne, ne_eq]; exact hSi
  show wpAny _ A.in1 (Builtin.List.listExtendWith (.ref s.heap.objs.size) (.ref it) (.ref s.heap.objs.size)) _ _ _; unfold Builtin.List.listExtendWith
  refine wpAny_bind (wpAny_typeOf hT ?_); rw [if_neg (by rw [h1]; decide)]
  refine wpAny_bind (RT.iter_rt (s := { s with heap := s.heap.push { cls := .type "list", data := .seq ([] : List Value).toArray } }) hit1 ?_)
  refine wpAny_bind (wpAny_holding (hint_rt (s := { s with heap := s.heap.push { cls := .type "list", data := .seq ([] : List Value).toArray } }) hit1 ht1 hn fun tk b htk => ?_))
  have e0 : ((items.size : Nat) : Int) - 1 - ((0 : Nat) : Int) = (items.size : Int) - 1 := by omega
  have tl : ∀ s' acc' c', Moved [s.heap.objs.size, it] (fun a b => b = a) s s' → s'.heap.get? s.heap.objs.size = some { cls := .type "list", data := .seq acc' c' } → ItemsOf (fun i v => items[items.size - 1 - i]? = some v) acc' items.size → Q acc'.toList s' := by
    intro s' acc' c' hm hS' hacc
    rw [Moved.eq_with hm]
    refine hQ s'.heap s'.toks acc' (fun b o hb e => hm.heap b o (fun hmem => ?_) e) hacc
    rcases List.mem_cons.mp hmem with e' | hmem
    · rw [e'] at e; exact absurd (Heap.lt_size e) (Nat.lt_irrefl _)
    · exact hb (List.mem_singleton.mp hmem)
  cases b with
  | false =>
    rw [if_neg (by decide)]
    refine wpAny_pure ⟨plainId_quiet F.plain_extend_loop _, codeAny_extend_loopS W hn _ hSf _ items.size 0 _ _ _ rfl (Nat.zero_le _) ⟨Nat.zero_le _, by rw [e0]; exact hit1, ht1⟩ hS1 (ItemsOf.nil _) fun s' acc' c' hm hS' hacc => ?_⟩
    show wpAny _ A (load s.heap.objs.size >>= _) _ _ s'; refine wpAny_bind (wpAny_load hS' ?_); refine wpAny_pure ?_
    exact tl s' acc' c' ⟨fun b o hb e => hm.heap b o hb (Heap.get?_push_of_some _ e), hm.gens, hm.drawn, hm.os, Nat.le_trans htk hm.toks⟩ hS' hacc
  | true =>
    rw [if_pos (by simp)]
    refine wpAny_bind (wpAny_rule ?_); refine wpAny_bind ?_
    show wpAny _ A.in1 (updateSeq s.heap.objs.size (·.push .none) >>= fun _ => updateSeq s.heap.objs.size (·.pop)) _ _ _
    refine wpAny_bind (wpAny_updateSeq hS1 rfl ?_)
    have hS3 := Heap.get?_update_self (Obj.mapSeq (·.push Value.none)) hS1 rfl
    refine wpAny_updateSeq hS3 rfl ?_
    have hS4 := Heap.get?_update_self (Obj.mapSeq (·.pop)) hS3 rfl
    have oth : ∀ b u, b ≠ s.heap.objs.size → (s.heap.push { cls := .type "list", data := .seq ([] : List Value).toArray }).get? b = some u → (((s.heap.push { cls := .type "list", data := .seq ([] : List Value).toArray }).update s.heap.objs.size (Obj.mapSeq (·.push Value.none))).update s.heap.objs.size (Obj.mapSeq (·.pop))).get? b = some u :=
      fun b u hb e => (Heap.get?_update_other _ _ (Ne.symm hb)).trans ((Heap.get?_update_other _ _ (Ne.symm hb)).trans e)
    refine wpAny_pure ⟨plainId_quiet F.plain_extend_loop _, codeAny_extend_loopS W hn _ hSf _ items.size 0 _ _ _ rfl (Nat.zero_le _) ⟨Nat.zero_le _, by rw [e0]; exact hit1.at fun o e => oth it o (Ne.symm hSi) e, let ⟨o, e, q⟩ := ht1; ⟨o, oth t o (Ne.symm hSt) e, q⟩⟩ hS4 (ItemsOf.nil _) fun s' acc' c' hm hS' hacc => ?_⟩
    show wpAny _ A (load s.heap.objs.size >>= _) _ _ s'; refine wpAny_bind (wpAny_load hS' ?_); refine wpAny_pure ?_
    refine tl s' acc' c' ⟨fun b o hb e => hm.heap b o hb (oth b o (fun z => hb (by rw [z]; exact List.mem_cons_self)) (Heap.get?_push_of_some _ e)), hm.gens, hm.drawn, hm.os, Nat.le_trans htk hm.toks⟩ hS' hacc
theorem call_tup_rt {it t : Ad} {items : Array Value} {Q : Value → Shared → Prop} (hh : A.handled = none) (hit : RT.IsRt s.heap it t ((items.size : Int) - 1)) (ht : IsTup s.heap t items) (hne : t ≠ it) (hn : items.size ≤ sizeLine)
    (hQ : ∀ (h' : Heap) (tk : Nat) (acc : Array Value), (∀ b o, b ≠ it → s.heap.get? b = some o → h'.get? b = some o) → ItemsOf (fun i v => items[items.size - 1 - i]? = some v) acc items.size →
      Q (.ref h'.objs.size) { s with heap := h'.push { cls := .type "tuple", data := .seq acc }, toks := tk }) : wpAny (model prog w) A (call (.type "tuple") [.ref it]) Q E s := by
  have key : codeAny (model prog w) A.in1 (.call (.builtin "tuple.__new__") ⟨[.type "tuple", .ref it], []⟩) (wants (fun obj s1 => s1.TypeIs obj "tuple" ∧ Q obj s1) E) s := by
    refine codeAny_of_tree ?_
    show wpAny _ A.in1.in1 (do checkBuiltinCall "tuple.__new__" ⟨[.type "tuple", .ref it], []⟩; again (.builtin "tuple.__new__" ⟨[.type "tuple", .ref it], []⟩)) _ _ s
    refine wpAny_bind (wpAny_of_eq (F.newCall_tuple_1 _) (wpAny_pure ⟨plainId_quiet F.plain_tuple_new _, codeAny_builtin F.entry_tuple_new ?_⟩)); rw [Around.under_plainId F.plain_tuple_new _]
    have hsub := sub_tuple_self; have hinit := init_tuple_lookup; have hmh := madeHere_tuple
    have hTI : s.TypeIs (.ref it) "reversed" := hit.typeIs
    have hh1 : A.in1.in1.handled = none := hh
    wp_walk using wpAny_typeOf hTI, collect_rt (A := A.in1.in1) hh1 hit ht hne hn
    intro h' tk acc hk hacc
    show wpAny _ _ (Builtin.Tuple.tupleExact acc.toList.toArray >>= fun v => ret v) _ _ _; unfold Builtin.Tuple.tupleExact
    refine wpAny_bind (wpAny_newObj_type ?_ (by show acc.toList.toArray.size ≤ sizeLine; simp only [Array.toArray_toList]; rw [hacc.1]; exact hn)); refine wpAny_pure ?_
    rw [show acc.toList.toArray = acc by simp]
    exact ⟨⟨_, Heap.get?_push_size _ rfl, rfl⟩, hQ h' tk acc hk hacc⟩
  refine callType_codes (Q₁ := fun obj s₁ => s₁.TypeIs obj "tuple" ∧ Q obj s₁) F.called_tuple (F.typeCall_tuple_1 _) F.entry_object_init key fun obj s₁ h₁ => ?_
  exact ⟨h₁.1, F.args_object_init_2 obj _, object_init_meets F.called_tuple.init.lookup F.called_tuple.made (by decide) prog w A.in1 _ s₁ ⟨h₁.1, rfl, h₁.2⟩⟩
end
/-- tuple(reversed(x)), x a list or a tuple -/
def tTR (K : PySem.W.Frag) (te : TE) : TE := fun σ H Q => te σ H fun v H1 => ∃ (a : Ad) (xs : List V), v = .ref a ∧ (SqL K H1 a xs ∨ SqT K H1 a xs) ∧ ∀ q, H1 q = none → Q (.ref q) (upd H1 q (.tup xs.reverse))
section
variable {X : L2.Cx}
theorem pe_TR {e : Expr} {te : TE} {p p2 pos pos2 : Pos} (hc : X.calm = true) (hg : Gl X "tuple") (hm : X.mg "tuple" = none) (hg2 : Gl X "reversed") (hm2 : X.mg "reversed" = none) (he : PE X e te)
    (hs : starEach [e] X.env = (false, eval e X.env) :: starEach [] X.env := by rfl)
    (hs2 : starEach [.Call (.Name "reversed" p2) [e] [] pos2] X.env = (false, eval (.Call (.Name "reversed" p2) [e] [] pos2) X.env) :: starEach [] X.env := by rfl) :
    PE X (.Call (.Name "tuple" p) [.Call (.Name "reversed" p2) [e] [] pos2] [] pos) (tTR X.K te) := by
  refine ⟨fun pins s σ H Q I h => ?_⟩
  refine Call_ (ld_blt I hg hm boot_tuple (PyProof.Rows.callWith_type1 (args_cons (Call_ (ld_blt I hg2 hm2 PyProof.Rows.boot_reversed (PyProof.Rows.callWith_type1 (args_cons (thn (he.run pins s σ H _ I h) fun u s1 ⟨v, H1, I1, r1, q1⟩ => args_nil ?_) hs) hs rfl))) hs2) hs2 rfl))
  obtain ⟨a, xs, ev, hq, q⟩ := q1; subst ev; obtain rfl : u = Value.ref a := r1
  rcases hq with hq | hq
  · obtain ⟨its, rv, p', hz⟩ := I1.list hq
    refine call_reversed_list p'.isList (args_nil ?_)
    have k0 : ∀ b o, s1.heap.get? b = some o → (s1.heap.push (revObj a ((its.toArray.size : Int) - 1))).get? b = some o := fun b o e => by exact Heap.get?_push_of_some _ e
    have I2 : Inv X pins σ H1 { s1 with heap := s1.heap.push (revObj a ((its.toArray.size : Int) - 1)) } := by exact I1.kept (t' := s1.toks) k0
    obtain ⟨f0, f1, f2, f3, f4, f5⟩ := I1.fpOk (H' := H1) (b := s1.heap.objs.size) (Nat.le_refl _) (I1.hok.fresh (Nat.le_refl _)); have hl := p'.isList
    obtain ⟨ol, hol, _⟩ := id hl; have hne : a ≠ s1.heap.objs.size := Nat.ne_of_lt (Heap.lt_size hol)
    have hn : its.toArray.size ≤ sizeLine := by rw [List.size_toArray, ← rv.length]; exact hz
    refine RT.call_tuple_rev (s := { s1 with heap := s1.heap.push (revObj a ((its.toArray.size : Int) - 1)) }) (I1.ok.hd hc) ⟨_, Heap.get?_push_size _ rfl, rfl, rfl⟩ (hl.push _) hne hn fun h' tk acc hk hi => ?_
    have I3 : Inv X pins σ H1 { s1 with heap := h', toks := tk } := I2.turned (t' := tk) (fun b o hb e => hk b o hb e) f0 f1 f3 f4 f5
    refine ⟨.ref h'.objs.size, upd H1 h'.objs.size (.tup xs.reverse), I3.laid (t' := tk) (fun c o e => Heap.get?_push_of_some _ e) (Nat.le_refl _) (show ObjOk X.prog X.w _ _ _ (.tup xs.reverse) from ⟨by rw [List.length_reverse]; exact hz, acc.toList, RT.vals_rev rv hi, ?_⟩), rfl, q _ (I3.hok.fresh (Nat.le_refl _))⟩
    rw [Array.toArray_toList]; exact IsTup.new _ _
  · obtain ⟨its, rv, p', hz⟩ := I1.tuple hq
    have hl := rv.length; have hn63 := line63
    refine RT.call_reversed_tup p' (fun A E Q k => len_tuple p' (by simp only [List.size_toArray] <;> omega) k) (args_nil ?_)
    have k0 : ∀ b o, s1.heap.get? b = some o → (s1.heap.push (RT.rtObj a ((its.toArray.size : Int) - 1))).get? b = some o := fun b o e => Heap.get?_push_of_some _ e
    have I2 : Inv X pins σ H1 { s1 with heap := s1.heap.push (RT.rtObj a ((its.toArray.size : Int) - 1)), toks := s1.toks + 1 + 1 } := I1.kept (t' := s1.toks + 1 + 1) k0
    obtain ⟨f0, f1, f2, f3, f4, f5⟩ := I1.fpOk (H' := H1) (b := s1.heap.objs.size) (Nat.le_refl _) (I1.hok.fresh (Nat.le_refl _))
    obtain ⟨ol, hol, hq'⟩ := id p'; have hne : a ≠ s1.heap.objs.size := Nat.ne_of_lt (Heap.lt_size hol)
    have hn : its.toArray.size ≤ sizeLine := by rw [List.size_toArray, ← rv.length]; exact hz
    refine call_tup_rt (s := { s1 with heap := s1.heap.push (RT.rtObj a ((its.toArray.size : Int) - 1)), toks := s1.toks + 1 + 1 }) (I1.ok.hd hc) ⟨_, Heap.get?_push_size _ rfl, rfl, rfl⟩ ⟨ol, k0 _ _ hol, hq'⟩ hne hn fun h' tk acc hk hi => ?_
    have I3 : Inv X pins σ H1 { s1 with heap := h', toks := tk } := I2.turned (t' := tk) (fun b o hb e => hk b o hb e) f0 f1 f3 f4 f5
    refine ⟨.ref h'.objs.size, upd H1 h'.objs.size (.tup xs.reverse), I3.laid (t' := tk) (fun c o e => Heap.get?_push_of_some _ e) (Nat.le_refl _) (show ObjOk X.prog X.w _ _ _ (.tup xs.reverse) from ⟨by rw [List.length_reverse]; exact hz, acc.toList, RT.vals_rev rv hi, ?_⟩), rfl, q _ (I3.hok.fresh (Nat.le_refl _))⟩
    rw [Array.toArray_toList]; exact IsTup.new _ _
end
end SL
namespace SL
open PySem PySem.Spec PyProof.Rows L2
section
variable {X : L2.Cx} {T : Tb} {B : Bs} {W : WX} {C : Cx} {e l r e1 e2 e3 : Expr} {pos p2 : Pos} {a b c d : E} {es : Es}
theorem bi1 (hot : C.hot = false) {o : Bool} {k : Bi} {τ : L2.St} {H : Hp} {Q : VK} (h : tE T B W C (.bi o k (.cons a .nil)) τ H Q) : ∃ μ F S σ, Rl B μ F H S ∧ Sl B μ F H σ τ ∧
    PostG B (wE T W τ) μ F H (evE C a σ S) fun d S μ' F' H' => PostG B (wE T W τ) μ' F' H' (doBi o k [d] S) fun d _ μ' F' H' => ∀ v, Rep B μ' F' H' d v → Q v H' := by
  obtain ⟨μ, F, S, σ, rl, sl, h⟩ := h
  simp only [evE, evEs, hot] at h
  refine ⟨μ, F, S, σ, rl, sl, ?_⟩
  cases hr : evE C a σ S with
  | ok d S' => rw [hr] at h; exact PostG.bind (r := Res.ok d S') (k := fun d S => doBi o k [d] S) h
  | exc c fs S' => rw [hr] at h; exact h
  | stuck => rw [hr] at h; exact h
theorem pe_tr' (hK : B.K = X.K) (hot : C.hot = false) {o : Bool} {p pp q : Pos} (hc : X.calm = true) (hg : Gl X "tuple") (hm : X.mg "tuple" = none) (hg2 : Gl X "reversed") (hm2 : X.mg "reversed" = none) (ha : PE X e (tE T B W C a))
    (hs : ∀ es, starEach (e :: es) X.env = (false, eval e X.env) :: starEach es X.env) : PE X (.Call (.Name "tuple" p) [.Call (.Name "reversed" pp) [e] [] q] [] pos) (tE T B W C (.bi o .tupRev (.cons a .nil))) := by
  refine PE.imp (pe_TR hc hg hm hg2 hm2 ha (hs _) (by rfl)) fun τ H Q h => ?_
  obtain ⟨μ, F, S, σ, rl, sl, h⟩ := bi1 hot h
  refine tE.go rl sl h fun x S1 μ1 F1 H1 v rl1 sl1 e1 p1 rx => ?_
  simp only [doBi] at p1
  cases hi : seqOf S1 x with
  | none => rw [hi] at p1; exact p1.elim
  | some ds =>
    rw [hi] at p1
    obtain ⟨ad, vs, rfl, hsq, q1⟩ := seq_ok rl1 rx hi
    rw [hK] at hsq
    exact ⟨ad, vs, rfl, hsq, tup_ok rl1 q1.reverse (get2 p1 rfl)⟩
theorem isort_eq {ns ms : List Int} (h1 : ms.Perm ns) (h2 : ms.Pairwise (· ≤ ·)) : ms = isort ns := by
  have p := List.mergeSort_perm ns (fun a b => decide (a ≤ b))
  have s : (ns.mergeSort (fun a b => decide (a ≤ b))).Pairwise (fun a b : Int => decide (a ≤ b) = true) := List.pairwise_mergeSort (by intro a b c; simp; omega) (by intro a b; simp; omega) ns
  have s2 : (isort ns).Pairwise (· ≤ ·) := by
    unfold isort
    exact s.imp (by simp)
  exact (h1.trans p.symm).eq_of_pairwise (le := (· ≤ ·)) (fun a b _ _ x y => Int.le_antisymm x y) h2 s2
theorem pe_so' (hK : B.K = X.K) (hot : C.hot = false) {o : Bool} {p : Pos} (hg : Gl X "sorted") (hm : X.mg "sorted" = none) (ha : PE X e (tE T B W C a)) (hs : ∀ es, starEach (e :: es) X.env = (false, eval e X.env) :: starEach es X.env) :
    PE X (.Call (.Name "sorted" p) [e] [] pos) (tE T B W C (.bi o .sorted (.cons a .nil))) := by
  refine PE.imp (pe_callB cr_sortedQ hg hm (by decide +kernel) (pa_cons ha pa_nil (hs _)) (by decide) (by decide) (hs _) (by rfl)) fun τ H Q h => ?_
  obtain ⟨μ, F, S, σ, rl, sl, h⟩ := bi1 hot h
  refine tE.go rl sl h fun x S1 μ1 F1 H1 v rl1 sl1 e1 p1 rx => ?_
  simp only [doBi] at p1
  cases hi : seqOf S1 x with
  | none => rw [hi] at p1; exact p1.elim
  | some ds =>
    rw [hi] at p1
    simp only [Option.bind_some] at p1
    cases hn : intsD ds with
    | none => rw [hn] at p1; exact p1.elim
    | some ns =>
      rw [hn] at p1
      obtain ⟨ad, vs, rfl, hsq, q1⟩ := seq_ok rl1 rx hi
      rw [hK] at hsq
      have e := intsD_ok q1 hn
      subst e
      refine ⟨ad, ns, rfl, hsq, fun ms pp hp hw np => ?_⟩
      rw [isort_eq hp hw]
      exact (mk_okG rl1 (Reps.of_ints (isort ns)) p1).2 pp np
theorem rgV_eq {n : Int} : rgV 0 n = ((List.range n.toNat).map fun k => (V.int ((k : Nat) : Int))) := by
  unfold rgV
  rw [Int.sub_zero]
  congr 1
  funext k
  rw [Int.zero_add]
theorem natsI_ok {μ : List Ad} {F : Fz} {H : Hp} (n : Nat) : Reps B μ F H (natsI n) ((List.range n).map fun k => (V.int ((k : Nat) : Int))) := by
  have := Reps.of_ints (B := B) (μ := μ) (F := F) (H := H) ((List.range n).map fun k => ((k : Nat) : Int))
  simpa [natsI, Function.comp_def] using this
theorem pe_lr' (hot : C.hot = false) {o : Bool} {p pp q : Pos} (hc : X.calm = true) (hg : Gl X "list") (hm : X.mg "list" = none) (hg2 : Gl X "range") (hm2 : X.mg "range" = none) (ha : PE X e (tE T B W C a))
    (hs : ∀ es, starEach (e :: es) X.env = (false, eval e X.env) :: starEach es X.env) : PE X (.Call (.Name "list" p) [.Call (.Name "range" pp) [e] [] q] [] pos) (tE T B W C (.bi o .listRange (.cons a .nil))) := by
  refine PE.imp (pe_listRg hc hg hm (prg_1 hg2 hm2 ha (hs _)) (by rfl)) fun τ H Q h => ?_
  obtain ⟨μ, F, S, σ, rl, sl, h⟩ := bi1 hot h
  refine tE.go rl sl h fun x S1 μ1 F1 H1 v rl1 sl1 e1 p1 rx => ?_
  cases rx <;> first | exact p1.elim | skip
  rename_i n
  simp only [doBi] at p1
  by_cases hn : -1000000 ≤ n ∧ n ≤ 1000000
  · rw [if_pos hn] at p1
    refine ⟨n, rfl, ⟨by decide, by decide, by omega, by omega, by omega⟩, ?_⟩
    rw [rgV_eq]
    exact (mk_okG rl1 (natsI_ok n.toNat) p1).2
  · rw [if_neg hn] at p1; exact p1.elim
theorem pe_tg' (hot : C.hot = false) {o : Bool} {p pp q : Pos} (hc : X.calm = true) (hg : Gl X "tuple") (hm : X.mg "tuple" = none) (hg2 : Gl X "range") (hm2 : X.mg "range" = none) (ha : PE X e (tE T B W C a))
    (hs : ∀ es, starEach (e :: es) X.env = (false, eval e X.env) :: starEach es X.env) : PE X (.Call (.Name "tuple" p) [.Call (.Name "range" pp) [e] [] q] [] pos) (tE T B W C (.bi o .tupRange (.cons a .nil))) := by
  refine PE.imp (pe_tupRg hc hg hm (prg_1 hg2 hm2 ha (hs _)) (by rfl)) fun τ H Q h => ?_
  obtain ⟨μ, F, S, σ, rl, sl, h⟩ := bi1 hot h
  refine tE.go rl sl h fun x S1 μ1 F1 H1 v rl1 sl1 e1 p1 rx => ?_
  cases rx <;> first | exact p1.elim | skip
  rename_i n
  simp only [doBi] at p1
  by_cases hn : -1000000 ≤ n ∧ n ≤ 1000000
  · rw [if_pos hn] at p1
    refine ⟨n, rfl, ⟨by decide, by decide, by omega, by omega, by omega⟩, ?_⟩
    rw [rgV_eq]
    exact tup_ok rl1 (natsI_ok n.toNat) (get2 p1 rfl)
  · rw [if_neg hn] at p1; exact p1.elim
end
end SL
namespace SL
open PySem PySem.Spec PyProof.Rows L2
/-- a class by its number, as a value -/
structure Tc (T : Tb) (clv : Nat → V) : Prop where
  rel : ∀ k u, RelV (clv k) u → u = T.cl k
/-- the value of a class -/
def clvOf (T : Tb) (k : Nat) : V := match T.cl k with
  | .ref a => .ref a
  | .type s => .ty s
  | _ => .non
/-- isinstance of the exception at a, of class c -/
def rIsx (T : Tb) (clv : Nat → V) (c : Nat) (a : Ad) : List V → Hp → VK → Prop := fun xs H Q =>
  (∃ k : Nat, k < T.na ∧ xs = [.ref a, clv k] ∧ Q (.bl (T.P.sub c k)) H) ∨
  (∃ (tp : Ad) (ks : List Nat), (∀ k ∈ ks, k < T.na) ∧ xs = [.ref a, .ref tp] ∧ H tp = some (.tup (ks.map clv)) ∧ Q (.bl (ks.any (T.P.sub c))) H)
theorem vals_cl {T : Tb} {clv : Nat → V} (tc : Tc T clv) : ∀ {ks : List Nat} {us : List Value}, Vals (ks.map clv) us → us = ks.map T.cl
  | [], _, h => by cases h; rfl
  | k :: ks, _, h => by
    cases h with
    | cons r t => rw [tc.rel _ _ r, vals_cl tc t]; rfl
theorem kit_any {T : Tb} {K : PySem.W.Frag} {c : Nat} (hk : ∀ k, k < T.na → PySem.W.kitOne K (T.cl c) (T.cl k) = some (T.P.sub c k)) : ∀ ks : List Nat, (∀ k ∈ ks, k < T.na) → PySem.W.kitAny K (T.cl c) (ks.map T.cl) = some (ks.any (T.P.sub c))
  | [], _ => kitAny_nil
  | k :: ks, h => by
    have e := hk k (h k List.mem_cons_self)
    refine kitAny_cons e (fun z => ?_) (fun z => ?_)
    · rw [kit_any hk ks fun j hj => h j (List.mem_cons_of_mem _ hj)]
      simp [z]
    · simp [z]
theorem call_isx {X : L2.Cx} {T : Tb} {clv : Nat → V} {a Da : Addr} {oe : Obj} {pn : List (Addr × Obj)} {c : Nat} (tc : Tc T clv) (hD : T.cl c = .ref Da) (E : ExcC X.K Da) (hz : Zc (.ref Da) none oe) (hf : ∃ vs, oe.data = .fields vs)
    (hk : ∀ k, k < T.na → PySem.W.kitOne X.K (T.cl c) (T.cl k) = some (T.P.sub c k)) : CallR (X.suite a ((a, oe) :: pn)) (.builtin "isinstance") (rIsx T clv c a) := by
  intro pins s τ H xs us Q I r h
  obtain ⟨hget, _⟩ := I.pin (a, oe) (List.mem_append.mpr (.inl List.mem_cons_self))
  have J : PySem.W.InstAt s.heap a oe Da none := by
    obtain ⟨ws, hv⟩ := hf
    obtain ⟨oc, od, oda, osl⟩ := oe
    obtain ⟨h1, h2⟩ := hz
    dsimp only at h1 h2 hv
    subst h1 h2 hv
    exact ⟨hget, rfl, rfl, trivial⟩
  have Z := PySem.W.handS_kitx_exc (x := a) (ox := oe) E.hg E.hk E.hs E.hd E.ha E.hn E.ht E.hm
  have nl : Value.ref a ≠ .builtin "__main__.__loader__#opaque" := fun z => nomatch z
  rcases h with ⟨k, hlt, rfl, q⟩ | ⟨tp, ks, hlt, rfl, hT, q⟩
  · obtain ⟨u1, u2, rfl, r1, r2⟩ := r.two
    cases r1
    have e2 := tc.rel k u2 r2
    subst e2
    exact PySem.W.kia_one Z I.kIn J (by rw [← hD]; exact hk k hlt) nl fun tk => ⟨.bl _, H, I.kept (t' := tk) fun _ _ z => z, rfl, q⟩
  · obtain ⟨u1, u2, rfl, r1, r2⟩ := r.two
    cases r1
    cases (show u2 = Value.ref tp from r2)
    obtain ⟨_, its, rv, o, g1, g2, n, g3⟩ := (show ObjOk X.prog X.w H s.heap tp (.tup (ks.map clv)) from I.hok tp _ hT)
    have e3 := vals_cl tc rv
    subst e3
    obtain ⟨oc, od, dt, sl⟩ := o
    simp only at g2 g3
    subst g2 g3
    exact PySem.W.kia_tup Z I.kIn J g1 (by rw [← hD]; exact kit_any hk ks hlt) nl fun tk => ⟨.bl _, H, I.kept (t' := tk) fun _ _ z => z, rfl, q⟩
section
variable {X : L2.Cx} {T : Tb} {B : Bs} {W : WX} {C : Cx} {e l r e1 e2 e3 : Expr} {pos p2 : Pos} {a b c d : E} {es : Es}
/-- isinstance of what a clause holds -/
def ExOk (X : L2.Cx) (T : Tb) (B : Bs) (clv : Nat → V) : Prop := ∀ i c fs v, B.Ex i c fs v → ∃ a, v = .ref a ∧ CallR X (.builtin "isinstance") (rIsx T clv c a)
def rEx (T : Tb) (B : Bs) (clv : Nat → V) : List V → Hp → VK → Prop := fun xs H Q => ∃ i c fs a, B.Ex i c fs (.ref a) ∧ rIsx T clv c a xs H Q
theorem ex_call {clv : Nat → V} (h : ExOk X T B clv) : CallR X (.builtin "isinstance") (rEx T B clv) := by
  intro pins s τ H xs us Q I r ⟨i, c, fs, a, he, q⟩
  obtain ⟨a', e, k⟩ := h i c fs _ he
  cases e
  exact k pins s τ H xs us Q I r q
theorem pe_isx1 {clv : Nat → V} (hsub : C.sub = T.P.sub) (hx : ExOk X T B clv) {i k : Nat} {x : Expr} {z : Expr} {p : Pos} (hg : Gl X "isinstance") (hm : X.mg "isinstance" = none) (hv : PE X x (tVar i)) (hz : PE X z (tC (clv k))) (hk : k < T.na)
    (hs : ∀ es, starEach (x :: es) X.env = (false, eval x X.env) :: starEach es X.env) (hs2 : ∀ es, starEach (z :: es) X.env = (false, eval z X.env) :: starEach es X.env) :
    PE X (.Call (.Name "isinstance" p) [x, z] [] pos) (tE T B W C (.isx i [k])) := by
  refine PE.imp (pe_callB (ex_call hx) hg hm (by decide +kernel) (pa_cons hv (pa_cons hz pa_nil (hs2 _)) (hs _)) (by decide) (by decide) (hs _) (by rw [hs2]; rfl)) fun τ H Q ⟨μ, F, S, σ, rl, sl, h⟩ => ?_
  simp only [evE] at h
  cases hi : σ[i]? with
  | none => rw [hi] at h; exact h.elim
  | some od =>
    cases od with
    | none => rw [hi] at h; exact h.elim
    | some d =>
      rw [hi] at h
      cases d <;> first | exact h.elim | skip
      rename_i c fs
      obtain ⟨v, hv, rv⟩ := sl.2 i _ hi
      have rv : B.Ex i c fs v := rv
      obtain ⟨a, rfl, _⟩ := hx i c fs v rv
      refine ⟨_, hv, i, c, fs, a, rv, .inl ⟨k, hk, rfl, ?_⟩⟩
      rw [hsub] at h
      have q := get2 h rfl _ _ _ (Ext.refl _ _ _) rl _ (.bl _)
      simpa using q
/-- names of classes in a row -/
inductive Clss (X : L2.Cx) (clv : Nat → V) (n : Nat) : List Expr → List Nat → Prop
  | nil : Clss X clv n [] []
  | cons {z : Expr} {zs : List Expr} {k : Nat} {ks : List Nat} (hz : PE X z (tC (clv k))) (hk : k < n) (hs : ∀ es, starEach (z :: es) X.env = (false, eval z X.env) :: starEach es X.env) (t : Clss X clv n zs ks) : Clss X clv n (z :: zs) (k :: ks)
def tVs : List V → TA
  | [] => tNil
  | v :: vs => tCons (tC v) (tVs vs)
theorem Clss.pa {clv : Nat → V} {n : Nat} : ∀ {zs : List Expr} {ks : List Nat}, Clss X clv n zs ks → PA X zs (tVs (ks.map clv))
  | _, _, .nil => pa_nil
  | _, _, .cons hz _ hs t => pa_cons hz (Clss.pa t) (hs _)
theorem Clss.lt {clv : Nat → V} {n : Nat} : ∀ {zs : List Expr} {ks : List Nat}, Clss X clv n zs ks → ∀ k ∈ ks, k < n
  | _, _, .nil => fun k h => by cases h
  | _, _, .cons _ hk _ t => fun k h => by
    rcases List.mem_cons.mp h with z | z
    · rw [z]; exact hk
    · exact Clss.lt t k z
theorem tVs_ok : ∀ (vs : List V) (σ : L2.St) (H : Hp) (Q : List V → Hp → Prop), Q vs H → tVs vs σ H Q
  | [], σ, H, Q, h => h
  | v :: vs, σ, H, Q, h => tVs_ok vs σ H _ h
theorem pe_isxT {clv : Nat → V} (hsub : C.sub = T.P.sub) (hx : ExOk X T B clv) {i : Nat} {ks : List Nat} {x : Expr} {zs : List Expr} {kk : Nat} {tp p : Pos} (hg : Gl X "isinstance") (hm : X.mg "isinstance" = none) (hv : PE X x (tVar i)) (hz : Clss X clv T.na zs ks) (hl : ks.length ≤ 1000)
    (hs : ∀ es, starEach (x :: es) X.env = (false, eval x X.env) :: starEach es X.env) :
    PE X (.Call (.Name "isinstance" p) [x, .Tuple zs kk tp] [] pos) (tE T B W C (.isx i ks)) := by
  refine PE.imp (pe_callB (ex_call hx) hg hm (by decide +kernel) (pa_cons hv (pa_cons (pe_tup hz.pa) pa_nil) (hs _)) (by decide) (by decide) (hs _) (by rfl)) fun τ H Q ⟨μ, F, S, σ, rl, sl, h⟩ => ?_
  simp only [evE] at h
  cases hi : σ[i]? with
  | none => rw [hi] at h; exact h.elim
  | some od =>
    cases od with
    | none => rw [hi] at h; exact h.elim
    | some d =>
      rw [hi] at h
      cases d <;> first | exact h.elim | skip
      rename_i c fs
      obtain ⟨v, hv, rv⟩ := sl.2 i _ hi
      have rv : B.Ex i c fs v := rv
      obtain ⟨a, rfl, _⟩ := hx i c fs v rv
      refine ⟨_, hv, tVs_ok _ _ _ _ ⟨by simp; exact Nat.le_of_lt (small1000 hl), fun tq nq => ⟨i, c, fs, a, rv, .inr ⟨tq, ks, hz.lt, rfl, upd_same, ?_⟩⟩⟩⟩
      rw [hsub] at h
      exact get2 h rfl _ _ _ (Ext.upd nq) (rl.new nq) _ (.bl _)
end
end SL
/-! Methods of texts. -/
namespace SL
open PySem PySem.Spec PyProof.Rows L2
section
variable {X : L2.Cx} {T : Tb} {B : Bs} {W : WX} {C : Cx} {e : Expr} {a : E} {es : Es}
def mtS : Mt → Option (Str × String)
  | .join => some ("join", "str.join") | .upper => some ("upper", "str.upper") | .find => some ("find", "str.find")
  | _ => none
theorem mtS_ok (hK : B.K = X.K) (o : Bool) {m : Mt} {nm : Str} {id : String} (hm : mtS m = some (nm, id)) : MtR X id (rM B (doMt o m)) := by
  intro pins s τ H x vs v us Q I rx rv h
  obtain ⟨μ, F, S, d, ds, rl, rd, rds, h⟩ := h
  cases m <;> first | (cases hm; done) | skip
  · -- join
    cases hm
    cases rds with
    | nil => exact h.elim
    | cons r1 t =>
      cases t with
      | cons _ _ => exact h.elim
      | nil =>
        rename_i y w
        cases rd <;> first | exact h.elim | skip
        rename_i b
        simp only [doMt] at h
        cases hs : seqOf S y with
        | none => rw [hs] at h; exact h.elim
        | some ys =>
          rw [hs] at h
          simp only [Option.bind_some] at h
          cases hx : strsD ys with
          | none => rw [hx] at h; exact h.elim
          | some xs =>
            rw [hx] at h
            simp only at h
            by_cases hz : (xs.map List.length).sum + xs.length * b.length ≤ LINE
            · rw [if_pos hz] at h
              obtain ⟨p, ws, rfl, hsq, q1⟩ := seq_ok rl r1 hs
              have e := strsD_ok q1 hx
              subst e
              rw [hK] at hsq
              refine mt_join pins s τ H _ _ v us Q I rx rv ⟨_, p, xs.map Sx, rfl, rfl, hsq, ?_, ?_⟩
              · have e1 : (xs.map Sx).map (fun s => s.length) = xs.map List.length := by
                  rw [List.map_map]
                  exact List.map_congr_left fun z _ => size_str z
                rw [e1, List.length_map, size_str]
                exact hz
              · rw [join_ok]
                exact h _ _ _ (Ext.refl _ _ _) rl _ (.str _)
            · rw [if_neg hz] at h; exact h.elim
  · -- upper
    cases hm
    cases rds with
    | cons _ _ => exact h.elim
    | nil =>
      cases rd <;> first | exact h.elim | skip
      rename_i b
      simp only [doMt] at h
      by_cases hz : b.length ≤ 1000000 ∧ (b.all fun c => decide (c < 128)) = true
      · rw [if_pos hz] at h
        refine mt_upper pins s τ H _ _ v us Q I rx rv ⟨_, rfl, rfl, by rw [size_str]; omega, ?_⟩
        rw [upper_ok b hz.2]
        exact h _ _ _ (Ext.refl _ _ _) rl _ (.str _)
      · rw [if_neg hz] at h; exact h.elim
  · -- find
    cases hm
    cases rds with
    | nil => exact h.elim
    | cons r1 t =>
      cases r1 <;> first | (cases t <;> exact h.elim) | skip
      rename_i z
      cases t with
      | cons _ _ => (cases z with | nil => exact h.elim | cons c z => cases z <;> exact h.elim)
      | nil =>
        cases z with
        | nil => exact h.elim
        | cons c z =>
          cases z with
          | cons _ _ => exact h.elim
          | nil =>
            cases rd <;> first | exact h.elim | skip
            rename_i b
            simp only [doMt] at h
            refine mt_find pins s τ H _ _ v us Q I rx rv ⟨_, _, rfl, rfl, ?_⟩
            rw [find_ok]
            exact h _ _ _ (Ext.refl _ _ _) rl _ (.int _)
def slotS (m : Mt) (nm : Str) (id : String) : Prop := Slot "str" nm id ∧ typeOf (.builtin id) = pure (.type "method_descriptor")
theorem slotS_ok {m : Mt} {nm : Str} {id : String} (hm : mtS m = some (nm, id)) : slotS m nm id := by
  cases m <;> cases hm
  · exact ⟨PySem.F.slot_str_join, PySem.F.type_str_join⟩
  · exact ⟨PySem.F.slot_str_upper, PySem.F.type_str_upper⟩
  · exact ⟨PySem.F.slot_str_find, PySem.F.type_str_find⟩
theorem recvS_ty {m : Mt} {nm : Str} {id : String} (hm : mtS m = some (nm, id)) {μ : List Ad} {F : Fz} {H : Hp} {d : D} {v : V} (rd : Rep B μ F H d v) (h : recv m d = true) : tyV X.K "str" v H := by
  cases m <;> first | (cases hm; done) | skip
  all_goals (cases rd <;> first | (simp [recv] at h; done) | exact rfl)
theorem pe_mtS' (hK : B.K = X.K) (hot : C.hot = false) {o : Bool} {m : Mt} {nm : Str} {id : String} {oe e1 : Expr} {rest : List Expr} {ap cp : Pos} (hm : mtS m = some (nm, id)) (ho : PE X oe (tE T B W C a)) (ha : PA X (e1 :: rest) (tEs T B W C es))
    (hbase : attributeBase oe nm X.env (eval oe X.env) = eval oe X.env) (hline : (ap.endLine == cp.line) = true) (hs : starEach (e1 :: rest) X.env = (false, eval e1 X.env) :: starEach rest X.env) (hpl : (backTo cp (starEach rest X.env)).any (·.1) = false)
    (hfew : ((backTo cp (starEach (e1 :: rest) X.env)).all (fun x => !x.1) && (backToKw cp (keywordEach [] X.env)).all (fun x => x.1.isSome)
      && decide ((e1 :: rest).length + ([] : List Keyword).length + (if ([] : List Keyword).isEmpty then 0 else 1) < 30)) = true) :
    PE X (.Call (.Attribute oe nm ap) (e1 :: rest) [] cp) (tE T B W C (.mt o m a es)) := by
  obtain ⟨s1, s2⟩ := slotS_ok hm
  refine PE.imp (pe_bm PySem.F.plainAttrs_str s1 s2 (mtS_ok hK o hm) ho ha hbase hfew hline hs hpl) fun τ H Q ⟨μ, F, S, σ, rl, sl, h⟩ => ?_
  simp only [evE, hot] at h
  refine tE.go rl sl h.bind fun x S1 μ1 F1 H1 v rl1 sl1 e1 p1 rx => ?_
  by_cases hr : recv m x = true
  · rw [if_pos hr] at p1
    refine ⟨recvS_ty hm rx hr, ?_⟩
    refine tEs.go rl1 sl1 p1.bind fun ds S2 μ2 F2 H2 vs rl2 sl2 e2 p2 rds => ?_
    exact rM_of (doMt_ne o m x ds S2) rl2 (rx.mono e2) rds p2
  · rw [if_neg hr] at p1; exact p1.elim
theorem pe_mtS0' (hK : B.K = X.K) (hot : C.hot = false) {o : Bool} {m : Mt} {nm : Str} {id : String} {oe : Expr} {ap cp : Pos} (hm : mtS m = some (nm, id)) (ho : PE X oe (tE T B W C a))
    (hbase : attributeBase oe nm X.env (eval oe X.env) = eval oe X.env) (hline : (ap.endLine == cp.line) = true) :
    PE X (.Call (.Attribute oe nm ap) [] [] cp) (tE T B W C (.mt o m a .nil)) := by
  obtain ⟨s1, s2⟩ := slotS_ok hm
  refine PE.imp (pe_bm0 PySem.F.plainAttrs_str s1 s2 (mtS_ok hK o hm) ho hbase hline) fun τ H Q ⟨μ, F, S, σ, rl, sl, h⟩ => ?_
  simp only [evE, evEs, hot] at h
  refine tE.go rl sl h.bind fun x S1 μ1 F1 H1 v rl1 sl1 e1 p1 rx => ?_
  by_cases hr : recv m x = true
  · rw [if_pos hr] at p1
    exact ⟨recvS_ty hm rx hr, rM_of (doMt_ne o m x [] S1) rl1 rx .nil p1⟩
  · rw [if_neg hr] at p1; exact p1.elim
end
end SL
/-! list(reversed(xs)), xs a list. -/
namespace SL
open PySem PySem.Spec PyProof.Rows L2
section
variable {prog : Program} {w : World} {A : Around} {E : Value → Shared → Prop} {s : Shared} {R : Result → Shared → Prop}
theorem lri_fill {it l S : Ad} {items : Array Value} {c0 : Nat} (hh : A.handled = none) (q1 : s.heap.IsRevIter it l ((items.size : Int) - 1)) (q2 : s.heap.IsList l items) (ne : l ≠ it) (le : items.size ≤ sizeLine)
    (f1 : S ≠ it) (f2 : S ≠ l) (q3 : s.heap.get? S = some { cls := .type "list", data := .seq #[] c0 })
    (fin : ∀ (h' : Heap) (tk : Nat) (acc : Array Value) (c' : Nat), (∀ b o, b ≠ it → b ≠ S → s.heap.get? b = some o → h'.get? b = some o) → h'.get? S = some { cls := .type "list", data := .seq acc c' } →
      ItemsOf (fun i v => items[items.size - 1 - i]? = some v) acc items.size → R (.ok (.ret .none)) { s with heap := h', toks := tk }) :
    wpAny (model prog w) A.in1 (Builtin.List.listExtendWith (.ref S) (.ref it) .none)
      (fun z s' => match z with | .done f => R (.ok f) s' | .again c' => c'.quiet = true ∧ codeAny (model prog w) A c' R s') (fun e s' => R (.error e) s') s := by
  have wk := (Walks.listRev (prog := prog) (w := w) (A := A.in1) hh it l ne items).toS
  have out : S ∉ [it, l] := fun z => by rcases List.mem_cons.mp z with z | z; exact f1 z; exact f2 (List.mem_singleton.mp z)
  have ty : s.TypeIs (.ref it) "list_reverseiterator" := q1.typeIs
  have same : Builtin.List.listSameRef (.ref S) (.ref it) = false := by simp only [Builtin.List.listSameRef, beq_eq_false_iff_ne, ne_eq]; exact f1
  unfold Builtin.List.listExtendWith; refine wpAny_bind (wpAny_typeOf ty ?_); rw [if_neg (by rw [same]; decide)]
  refine wpAny_bind (wpAny_pyIter_revIter q1 ?_); refine wpAny_bind (wpAny_holding ?_)
  unfold Builtin.List.listLengthHint; refine wpAny_bind (wpAny_specialOf ty RT.nolen_lri ?_)
  show wpAny _ A.in1 (specialOf (Value.ref it) (Str.ofString "__length_hint__") >>= _) _ _ s; refine wpAny_bind (wpAny_specialOf ty RT.hint_lri ?_)
  generalize hid : ("list_reverseiterator.__length_hint__" : String) = nm; wp_delta
  rw [show splitId nm = some ("list_reverseiterator", "__length_hint__") from by subst hid; decide +kernel]; subst hid
  refine wpAny_bind (wpAny_isInstance (b := true) ty (by rw [isSubtype_type]; kernel_rfl) ?_); refine wpAny_pure ?_; rw [if_neg (by decide)]
  have z0 : ((items.size : Nat) : Int) - 1 - ((0 : Nat) : Int) = (items.size : Int) - 1 := by omega
  refine wpAny_pure ⟨plainId_quiet F.plain_extend_loop _, codeAny_extend_loopS wk le _ out _ items.size 0 _ _ _ rfl (Nat.zero_le _) ⟨Nat.zero_le _, by rw [z0]; exact q1, q2⟩ q3 (ItemsOf.nil _) fun s' acc' c' mv lst itm => ?_⟩
  rw [Moved.eq_with mv]
  refine fin s'.heap s'.toks acc' c' (fun b o n1 n2 e => mv.heap b o (fun z => ?_) e) lst itm
  rcases List.mem_cons.mp z with z | z
  · exact n2 z
  · exact n1 (List.mem_singleton.mp z)
theorem lri_init {it l S : Ad} {items : Array Value} (hh : A.handled = none) (q1 : s.heap.IsRevIter it l ((items.size : Int) - 1)) (q2 : s.heap.IsList l items) (ne : l ≠ it) (le : items.size ≤ sizeLine)
    (f1 : S ≠ it) (f2 : S ≠ l) (q3 : s.heap.get? S = some { cls := .type "list", data := .seq #[] })
    (fin : ∀ (h' : Heap) (tk : Nat) (acc : Array Value) (c' : Nat), (∀ b o, b ≠ it → b ≠ S → s.heap.get? b = some o → h'.get? b = some o) → h'.get? S = some { cls := .type "list", data := .seq acc c' } →
      ItemsOf (fun i v => items[items.size - 1 - i]? = some v) acc items.size → R (.ok (.ret .none)) { s with heap := h', toks := tk }) :
    wpAny (model prog w) A.in1 (Builtin.«list.__init__» ⟨[.ref S, .ref it], []⟩)
      (fun z s' => match z with | .done f => R (.ok f) s' | .again c' => c'.quiet = true ∧ codeAny (model prog w) A c' R s') (fun e s' => R (.error e) s') s := by
  show wpAny _ A.in1 (Builtin.List.listItems (.ref S) >>= fun old => Builtin.List.listUpdate (.ref S) (fun _ => #[]) >>= fun _ => letGo old.toList.reverse >>= fun _ => Builtin.List.listExtendWith (.ref S) (.ref it) .none) _ _ s
  refine wpAny_bind ?_; unfold Builtin.List.listItems; refine wpAny_bind (wpAny_seqItems q3 rfl (wpAny_pure ?_))
  show wpAny _ A.in1 (updateSeq S (fun _ => #[]) >>= fun _ => letGo (#[] : Array Value).toList.reverse >>= fun _ => Builtin.List.listExtendWith (.ref S) (.ref it) .none) _ _ s; refine wpAny_bind (wpAny_updateSeq q3 rfl ?_)
  have q4 := Heap.get?_update_self (Obj.mapSeq (fun _ => (#[] : Array Value))) q3 rfl
  have oth : ∀ b o, b ≠ S → s.heap.get? b = some o → (s.heap.update S (Obj.mapSeq (fun _ => (#[] : Array Value)))).get? b = some o := fun b o n e => (Heap.get?_update_other _ _ (Ne.symm n)).trans e
  refine wpAny_bind (wpAny_letGo ?_)
  obtain ⟨ol, hol, hq⟩ := id q2
  exact lri_fill (s := { s with heap := s.heap.update S (Obj.mapSeq (fun _ => (#[] : Array Value))) }) hh (q1.at fun o e => oth it o (Ne.symm f1) e) ⟨ol, oth l ol (Ne.symm f2) hol, hq⟩ ne le f1 f2 q4
    fun h' tk acc c' k1 k2 k3 => fin h' tk acc c' (fun b o n1 n2 e => k1 b o n1 n2 (oth b o n2 e)) k2 k3
theorem call_list_lri {it l : Ad} {items : Array Value} {Q : Value → Shared → Prop} (hh : A.handled = none) (q1 : s.heap.IsRevIter it l ((items.size : Int) - 1)) (q2 : s.heap.IsList l items) (ne : l ≠ it) (le : items.size ≤ sizeLine)
    (fin : ∀ (h' : Heap) (tk : Nat) (acc : Array Value) (c' : Nat), (∀ b o, b ≠ it → s.heap.get? b = some o → h'.get? b = some o) → h'.get? s.heap.objs.size = some { cls := .type "list", data := .seq acc c' } →
      ItemsOf (fun i v => items[items.size - 1 - i]? = some v) acc items.size → Q (.ref s.heap.objs.size) { s with heap := h', toks := tk }) : wpAny (model prog w) A (call (.type "list") [.ref it]) Q E s := by
  obtain ⟨oi, hoi, _⟩ := id q1
  obtain ⟨ol, hol, hq⟩ := id q2
  refine callType_codes (Q₁ := fun obj s1 => obj = .ref s.heap.objs.size ∧ s1 = { s with heap := s.heap.push { cls := .type "list", data := .seq #[] } }) F.called_list (F.typeCall_list_1 _) F.entry_list_init (code_list_new _ ⟨rfl, rfl⟩) fun obj s1 h1 => ?_
  obtain ⟨rfl, rfl⟩ := h1
  have q3 : (s.heap.push { cls := .type "list", data := .seq #[] }).get? s.heap.objs.size = some { cls := .type "list", data := .seq #[] } := by exact Heap.get?_push_size _ rfl
  refine ⟨⟨_, q3, rfl⟩, F.args_list_init_2 _ _, ?_⟩
  refine lri_init (s := { s with heap := s.heap.push { cls := .type "list", data := .seq #[] } }) hh (q1.at fun o e => Heap.get?_push_of_some _ e) ⟨ol, Heap.get?_push_of_some _ hol, hq⟩ ne le (Nat.ne_of_gt (Heap.lt_size hoi)) (Nat.ne_of_gt (Heap.lt_size hol)) q3 fun h' tk acc c' k1 k2 k3 => ?_
  exact ⟨rfl, fin h' tk acc c' (fun b o n e => k1 b o n (Nat.ne_of_lt (Heap.lt_size e)) (Heap.get?_push_of_some _ e)) k2 k3⟩
end
def tLR (K : PySem.W.Frag) (te : TE) : TE := fun σ H Q => te σ H fun v H1 => ∃ (a : Ad) (xs : List V), v = .ref a ∧ SqL K H1 a xs ∧ ∀ q, H1 q = none → Q (.ref q) (upd H1 q (.lst xs.reverse))
section
variable {X : L2.Cx} {T : Tb} {B : Bs} {W : WX} {C : Cx} {a : E} {pos : Pos}
theorem pe_LR {e : Expr} {te : TE} {p p2 pos2 : Pos} (hc : X.calm = true) (hg : Gl X "list") (hm : X.mg "list" = none) (hg2 : Gl X "reversed") (hm2 : X.mg "reversed" = none) (he : PE X e te)
    (hs : starEach [e] X.env = (false, eval e X.env) :: starEach [] X.env := by rfl)
    (hs2 : starEach [.Call (.Name "reversed" p2) [e] [] pos2] X.env = (false, eval (.Call (.Name "reversed" p2) [e] [] pos2) X.env) :: starEach [] X.env := by rfl) :
    PE X (.Call (.Name "list" p) [.Call (.Name "reversed" p2) [e] [] pos2] [] pos) (tLR X.K te) := by
  refine ⟨fun pins s σ H Q I h => ?_⟩
  refine Call_ (ld_blt I hg hm boot_list (PyProof.Rows.callWith_type1 (args_cons (Call_ (ld_blt I hg2 hm2 PyProof.Rows.boot_reversed (PyProof.Rows.callWith_type1 (args_cons (thn (he.run pins s σ H _ I h) fun u s1 ⟨v, H1, I1, r1, q1⟩ => args_nil ?_) hs) hs rfl))) hs2) hs2 rfl))
  obtain ⟨a, xs, ev, hq, q⟩ := q1; subst ev; obtain rfl : u = Value.ref a := r1
  obtain ⟨its, rv, p', hz⟩ := I1.list hq
  refine call_reversed_list p'.isList (args_nil ?_)
  have k0 : ∀ b o, s1.heap.get? b = some o → (s1.heap.push (revObj a ((its.toArray.size : Int) - 1))).get? b = some o := fun b o e => by exact Heap.get?_push_of_some _ e
  have I2 : Inv X pins σ H1 { s1 with heap := s1.heap.push (revObj a ((its.toArray.size : Int) - 1)) } := by exact I1.kept (t' := s1.toks) k0
  have fp := I1.fpOk (H' := H1) (b := s1.heap.objs.size) (Nat.le_refl _) (I1.hok.fresh (Nat.le_refl _)); have hl := p'.isList
  obtain ⟨ol, hol, _⟩ := id hl; have hne : a ≠ s1.heap.objs.size := Nat.ne_of_lt (Heap.lt_size hol)
  have hn : its.toArray.size ≤ sizeLine := by rw [List.size_toArray, ← rv.length]; exact hz
  refine call_list_lri (s := { s1 with heap := s1.heap.push (revObj a ((its.toArray.size : Int) - 1)) }) (I1.ok.hd hc) ⟨_, Heap.get?_push_size _ rfl, rfl, rfl⟩ (hl.push _) hne hn fun h' tk acc c' hk hl' hi => ?_
  refine ⟨.ref _, upd H1 (s1.heap.push (revObj a ((its.toArray.size : Int) - 1))).objs.size (.lst xs.reverse), I2.turnedNew (t' := tk) (ch := [s1.heap.objs.size]) (fun b o hb e => hk b o (fun z => hb (by rw [z]; exact List.mem_cons_self)) e) (fun b hb => by
    rw [List.mem_singleton.mp hb]; exact fp) (Nat.le_refl _) ?_, rfl, q _ (I2.hok.fresh (Nat.le_refl _))⟩
  refine ⟨by rw [List.length_reverse]; exact hz, acc.toList, c', RT.vals_rev rv hi, ?_⟩
  rw [Array.toArray_toList]
  exact hl'
theorem pe_lrev' (hK : B.K = X.K) (hot : C.hot = false) {e : Expr} {o : Bool} {p pp q : Pos} (hc : X.calm = true) (hg : Gl X "list") (hm : X.mg "list" = none) (hg2 : Gl X "reversed") (hm2 : X.mg "reversed" = none) (ha : PE X e (tE T B W C a))
    (hs : ∀ es, starEach (e :: es) X.env = (false, eval e X.env) :: starEach es X.env) : PE X (.Call (.Name "list" p) [.Call (.Name "reversed" pp) [e] [] q] [] pos) (tE T B W C (.bi o .listRev (.cons a .nil))) := by
  refine PE.imp (pe_LR hc hg hm hg2 hm2 ha (hs _) (by rfl)) fun τ H Q h => ?_
  obtain ⟨μ, F, S, σ, rl, sl, h⟩ := bi1 hot h
  refine tE.go rl sl h fun x S1 μ1 F1 H1 v rl1 sl1 e1 p1 rx => ?_
  simp only [doBi] at p1
  cases hi : items S1 x with
  | none => rw [hi] at p1; exact p1.elim
  | some ds =>
    rw [hi] at p1
    obtain ⟨ad, vs, rfl, hsq, q1⟩ := items_ok rl1 rx hi
    rw [hK] at hsq
    exact ⟨ad, vs, rfl, hsq, (mk_okG rl1 q1.reverse p1).2⟩
end
end SL
/-! min, max of a list of ints with default= (printed by gen_so12m.py) -/
namespace SL
theorem getD_at (ns : List Int) (j : Nat) (h : j < ns.length) : ns.getD j 0 = ns[j] := by simp [h]
theorem getD_mem' (ns : List Int) (j : Nat) (h : j < ns.length) : ns.getD j 0 ∈ ns := by rw [getD_at ns j h]; exact List.getElem_mem h
end SL
open SL

namespace MinD
open PySem PyProof.Rows
section
variable {prog : Program} {w : World} {A : Around} {R : Result → Shared → Prop} {I : Addr} {fp wr : List Addr} {n : Nat} {P : Nat → Value → Prop} {St : Nat → Heap → Prop}
theorem loop (W : Walks prog w A.in1 I fp wr n P St) (bt : Nat → Nat → Bool) (hcmp : CmpOf prog w A.in1 .Lt P bt) (S : Addr) (hSf : S ∉ fp) (dd : Value) :
    ∀ (k j : Nat) (s : Shared) (vb : Value) (c : Nat), n - (j + 1) = k → j + 1 ≤ n → St (j + 1) s.heap → P (argBest bt j) vb →
    s.heap.get? S = some { cls := .type "list", dict := none, data := .seq #[vb, vb] c, slots := #[] } →
    (∀ v h' tk, P (argBest bt (n - 1)) v → (∀ b o, b ∉ wr → b ≠ S → s.heap.get? b = some o → h'.get? b = some o) → R (.ok (.ret v)) { s with heap := h', toks := tk }) →
    codeAny (model prog w) A (.builtin "min.loop" ⟨[.ref I, .none, .ref S], [(Str.ofString "default", dd)]⟩) R s := by
  have hSw : S ∉ wr := fun h => hSf (W.sub _ h)
  have hname : (toString "min" ++ toString ".loop" : String) = "min.loop" := by decide
  intro k
  induction k with
  | zero =>
    intro j s vb c hk hj hst hPb hS hR
    have hin : j + 1 = n := by omega
    refine codeAny_builtin PySem.F.entry_min_loop ?_
    rw [Around.under_plainId PySem.F.plain_min_loop _]
    show wpAny _ A.in1 (seqItems? (.ref S) >>= _) _ _ s
    refine wpAny_bind (wpAny_seqItems hS rfl ?_)
    show wpAny _ A.in1 (tryCatch (pyNext (.ref I)) _ >>= _) _ _ s
    refine wpAny_bind (wpAny_tryCatch (W.done s _ _ (hin ▸ hst) fun h' tk hk' => ?_))
    have hS' := hk' S _ hSw hS
    show wpAny _ A.in1 (updateSeq S (fun _ => #[]) >>= _) _ _ _
    refine wpAny_bind ?_
    refine wpAny_updateSeq hS' rfl (wpAny_bind (wpAny_letGo (wpAny_pure ?_)))
    exact hR vb _ tk (by rw [← hin]; exact hPb) fun b o hbw hbS e => (Heap.get?_update_other _ _ (Ne.symm hbS)).trans (hk' b o hbw e)
  | succ k ih =>
    intro j s vb c hk hj hst hPb hS hR
    have hlt : j + 1 < n := by omega
    refine codeAny_builtin PySem.F.entry_min_loop ?_
    rw [Around.under_plainId PySem.F.plain_min_loop _]
    show wpAny _ A.in1 (seqItems? (.ref S) >>= _) _ _ s
    refine wpAny_bind (wpAny_seqItems hS rfl ?_)
    show wpAny _ A.in1 (tryCatch (pyNext (.ref I)) _ >>= _) _ _ s
    refine wpAny_bind (wpAny_tryCatch (W.item (j + 1) s _ _ hlt hst fun v h' tk hP hst' hk' => ?_))
    have hS' := hk' S _ hSw hS
    show wpAny _ A.in1 (tryCatch (holding [v, v] (richCompare .Lt v vb >>= _)) _ >>= _) _ _ _
    refine wpAny_bind (wpAny_tryCatch (wpAny_holding (wpAny_bind (hcmp (j + 1) (argBest bt j) v vb _ _ _ hP hPb ?_))))
    refine wpAny_bind (wpAny_holding (wpAny_truthy_bool ?_))
    refine wpAny_bind (wpAny_letGo (wpAny_pure ?_))
    by_cases hb : bt (j + 1) (argBest bt j) = true
    · have eb : argBest bt (j + 1) = j + 1 := by simp only [argBest, hb, if_true]
      simp only [hb, if_true]
      refine wpAny_bind ?_
      refine wpAny_updateSeq hS' rfl (wpAny_bind (wpAny_letGo ?_))
      rw [hname]
      refine wpAny_pure ⟨plainId_quiet PySem.F.plain_min_loop _, ih (j + 1) _ v _ (by omega) hlt (W.frame _ _ _ hst' fun b hbf o e => ?_) (by rw [eb]; exact hP) (Heap.get?_update_self _ hS' rfl) fun v' h'' tk'' hP' hk'' => ?_⟩
      · exact (Heap.get?_update_other _ _ (fun h : S = b => hSf (by rw [h]; exact hbf))).trans e
      · exact hR v' h'' tk'' hP' fun b o hbw hbS e => hk'' b o hbw hbS ((Heap.get?_update_other _ _ (Ne.symm hbS)).trans (hk' b o hbw e))
    · have eb : argBest bt (j + 1) = argBest bt j := by simp only [argBest, hb, if_false, Bool.false_eq_true]
      have hb' : bt (j + 1) (argBest bt j) = false := by simpa using hb
      simp only [hb', Bool.false_eq_true, if_false]
      refine wpAny_bind (wpAny_letGo ?_)
      rw [hname]
      refine wpAny_pure ⟨plainId_quiet PySem.F.plain_min_loop _, ih (j + 1) _ vb c (by omega) hlt hst' (by rw [eb]; exact hPb) hS' fun v' h'' tk'' hP' hk'' => ?_⟩
      exact hR v' h'' tk'' hP' fun b o hbw hbS e => hk'' b o hbw hbS (hk' b o hbw e)
theorem first (W : Walks prog w A.in1 I fp wr n P St) (bt : Nat → Nat → Bool) (hcmp : CmpOf prog w A.in1 .Lt P bt) (S : Addr) (hSf : S ∉ fp) (dd : Value) {s : Shared} {c : Nat} (hst : St 0 s.heap)
    (hS : s.heap.get? S = some { cls := .type "list", dict := none, data := .seq #[] c, slots := #[] })
    (hR : 0 < n → ∀ v h' tk, P (argBest bt (n - 1)) v → (∀ b o, b ∉ wr → b ≠ S → s.heap.get? b = some o → h'.get? b = some o) → R (.ok (.ret v)) { s with heap := h', toks := tk })
    (hD : n = 0 → ∀ h' tk, (∀ b o, b ∉ wr → b ≠ S → s.heap.get? b = some o → h'.get? b = some o) → R (.ok (.ret dd)) { s with heap := h', toks := tk }) :
    codeAny (model prog w) A (.builtin "min.loop" ⟨[.ref I, .none, .ref S], [(Str.ofString "default", dd)]⟩) R s := by
  have hSw : S ∉ wr := fun h => hSf (W.sub _ h)
  have hname : (toString "min" ++ toString ".loop" : String) = "min.loop" := by decide
  refine codeAny_builtin PySem.F.entry_min_loop ?_
  rw [Around.under_plainId PySem.F.plain_min_loop _]
  show wpAny _ A.in1 (seqItems? (.ref S) >>= _) _ _ s
  refine wpAny_bind (wpAny_seqItems hS rfl ?_)
  show wpAny _ A.in1 (tryCatch (pyNext (.ref I)) _ >>= _) _ _ s
  by_cases hn : 0 < n
  · refine wpAny_bind (wpAny_tryCatch (W.item 0 s _ _ hn hst fun v h' tk hP hst' hk' => ?_))
    have hS' := hk' S _ hSw hS
    show wpAny _ A.in1 (updateSeq S (fun _ => #[v, v]) >>= _) _ _ _
    refine wpAny_bind ?_
    refine wpAny_updateSeq hS' rfl ?_
    rw [hname]
    refine wpAny_pure ⟨plainId_quiet PySem.F.plain_min_loop _, loop W bt hcmp S hSf dd _ 0 _ v _ rfl hn (W.frame _ _ _ hst' fun b hbf o e => ?_) hP (Heap.get?_update_self _ hS' rfl) fun v' h'' tk'' hP' hk'' => ?_⟩
    · exact (Heap.get?_update_other _ _ (fun h : S = b => hSf (by rw [h]; exact hbf))).trans e
    · exact hR hn v' h'' tk'' hP' fun b o hbw hbS e => hk'' b o hbw hbS ((Heap.get?_update_other _ _ (Ne.symm hbS)).trans (hk' b o hbw e))
  · have h0 : n = 0 := by omega
    refine wpAny_bind (wpAny_tryCatch (W.done s _ _ (h0 ▸ hst) fun h' tk hk' => ?_))
    show wpAny _ A.in1 (rule _ >>= _) _ _ _
    refine wpAny_bind (wpAny_rule (wpAny_pure ?_))
    exact hD h0 h' tk fun b o hbw _ e => hk' b o hbw e
end
theorem args (a v : Value) : argsOk "min" ⟨[a], [(Str.ofString "default", v)]⟩ := by unfold argsOk; kernel_rfl
section
variable {prog : Program} {w : World} {A : Around} {E : Value → Shared → Prop} {s : Shared} {Q : Value → Shared → Prop}
theorem list {l : Addr} {vs : List Value} {ns : List Int} {dd : Value} (hh : A.handled = none) (hl : s.heap.IsList l vs.toArray) (hi : ∀ i v, vs[i]? = some v → ∃ t, v = Value.int (ns.getD i 0) t) (hln : vs.length = ns.length)
    (h : 0 < ns.length → ∀ M h' tk t, M ∈ ns → (∀ a ∈ ns, M ≤ a) → (∀ c o, s.heap.get? c = some o → h'.get? c = some o) → Q (Value.int M t) { s with heap := h', toks := tk })
    (hd : ns = [] → ∀ h' tk, (∀ c o, s.heap.get? c = some o → h'.get? c = some o) → Q dd { s with heap := h', toks := tk }) :
    wpAny (model prog w) A (call (.builtin "min") [.ref l] [(Str.ofString "default", dd)]) Q E s := by
  have hname : (toString "min" ++ toString ".loop" : String) = "min.loop" := by decide
  obtain ⟨ol, hol, _⟩ := id hl
  have hll : l < s.heap.objs.size := Heap.lt_size hol
  have hsz : (s.heap.push { cls := .type "list_iterator", data := .fields #[.ref l, .int 0 0] }).objs.size = s.heap.objs.size + 1 := Heap.size_push ..
  refine kmb_tree PySem.F.kind_min PySem.F.plain_min PySem.F.entry_min (args _ _) ?_
  show wpAny _ A.in1 (Builtin.Builtins.bindParams "min" ["key", "default"] 0 ⟨[], [(Str.ofString "default", dd)]⟩ >>= _) _ _ s
  refine wpAny_bind (wpAny_of_eq (show Builtin.Builtins.bindParams "min" ["key", "default"] 0 ⟨[], [(Str.ofString "default", dd)]⟩ = pure [none, some dd] from rfl) ?_)
  refine wpAny_bind (wpAny_pure ?_)
  refine wpAny_bind (wpAny_pyIter_list hl ?_)
  refine wpAny_bind (wpAny_newObj_type ?_)
  rw [hname]
  have old : ∀ c o, s.heap.get? c = some o → c < s.heap.objs.size := fun c o e => Heap.lt_size e
  have W := Walks.list (prog := prog) (w := w) (A := A.in1) hh s.heap.objs.size l (Nat.ne_of_lt hll) vs.toArray
  have hn : vs.toArray.size = ns.length := by rw [List.size_toArray, hln]
  have keep : ∀ h' : Heap, (∀ b o, b ∉ [s.heap.objs.size] → b ≠ (s.heap.push { cls := .type "list_iterator", data := .fields #[.ref l, .int 0 0] }).objs.size → ((s.heap.push { cls := .type "list_iterator", data := .fields #[.ref l, .int 0 0] }).push { cls := .type "list", data := .seq #[] }).get? b = some o → h'.get? b = some o) →
      ∀ c o, s.heap.get? c = some o → h'.get? c = some o := fun h' hk c o e => by
    refine hk c o (fun hm => ?_) (fun e2 => Nat.ne_of_lt (Nat.lt_succ_of_lt (old c o e)) (e2.trans hsz)) (Heap.get?_push_of_some _ (Heap.get?_push_of_some _ e))
    have e2 := List.mem_singleton.mp hm
    exact Nat.ne_of_lt (old c o e) e2
  refine wpAny_pure ⟨plainId_quiet PySem.F.plain_min_loop _, first W (fun i j => decide (ns.getD i 0 < ns.getD j 0)) (CmpOf.ints_lt (fun i => ns.getD i 0) fun i v hv => hi i v (by simpa using hv)) _ ?_ dd ⟨⟨_, Heap.get?_push_of_some _ (Heap.get?_push_size _ rfl), rfl, rfl⟩, hl.at fun o e => Heap.get?_push_of_some _ (Heap.get?_push_of_some _ e)⟩ (Heap.get?_push_size _ rfl) (fun hp v h' tk hP hk => ?_) fun h0 h' tk hk => ?_⟩
  · rw [hsz]
    intro hm
    rcases List.mem_cons.mp hm with e | hm
    · exact absurd (show (s.heap.objs.size + 1 : Nat) = s.heap.objs.size from e) (by omega)
    · rcases List.mem_cons.mp hm with e | hm
      · exact Nat.ne_of_lt (Nat.lt_succ_of_lt hll) (show l = s.heap.objs.size + 1 from e.symm)
      · cases hm
  · rw [hn] at hp hP
    obtain ⟨t, rfl⟩ := hi _ v (by simpa using hP)
    obtain ⟨g1, g2⟩ := argBest_lt (fun i => ns.getD i 0) (ns.length - 1)
    refine h hp _ h' tk t ?_ (fun a ha => ?_) (keep h' hk)
    · exact getD_mem' ns _ (Nat.lt_of_le_of_lt g1 (by omega))
    · obtain ⟨j, hj, rfl⟩ := List.getElem_of_mem ha
      have := g2 j (by omega)
      rw [getD_at ns j hj] at this
      exact this
  · rw [hn] at h0
    exact hd (List.length_eq_zero_iff.mp h0) h' tk (keep h' hk)
end
end MinD


namespace MaxD
open PySem PyProof.Rows
section
variable {prog : Program} {w : World} {A : Around} {R : Result → Shared → Prop} {I : Addr} {fp wr : List Addr} {n : Nat} {P : Nat → Value → Prop} {St : Nat → Heap → Prop}
theorem loop (W : Walks prog w A.in1 I fp wr n P St) (bt : Nat → Nat → Bool) (hcmp : CmpOf prog w A.in1 .Gt P bt) (S : Addr) (hSf : S ∉ fp) (dd : Value) :
    ∀ (k j : Nat) (s : Shared) (vb : Value) (c : Nat), n - (j + 1) = k → j + 1 ≤ n → St (j + 1) s.heap → P (argBest bt j) vb →
    s.heap.get? S = some { cls := .type "list", dict := none, data := .seq #[vb, vb] c, slots := #[] } →
    (∀ v h' tk, P (argBest bt (n - 1)) v → (∀ b o, b ∉ wr → b ≠ S → s.heap.get? b = some o → h'.get? b = some o) → R (.ok (.ret v)) { s with heap := h', toks := tk }) →
    codeAny (model prog w) A (.builtin "max.loop" ⟨[.ref I, .none, .ref S], [(Str.ofString "default", dd)]⟩) R s := by
  have hSw : S ∉ wr := fun h => hSf (W.sub _ h)
  have hname : (toString "max" ++ toString ".loop" : String) = "max.loop" := by decide
  intro k
  induction k with
  | zero =>
    intro j s vb c hk hj hst hPb hS hR
    have hin : j + 1 = n := by omega
    refine codeAny_builtin PySem.F.entry_max_loop ?_
    rw [Around.under_plainId PySem.F.plain_max_loop _]
    show wpAny _ A.in1 (seqItems? (.ref S) >>= _) _ _ s
    refine wpAny_bind (wpAny_seqItems hS rfl ?_)
    show wpAny _ A.in1 (tryCatch (pyNext (.ref I)) _ >>= _) _ _ s
    refine wpAny_bind (wpAny_tryCatch (W.done s _ _ (hin ▸ hst) fun h' tk hk' => ?_))
    have hS' := hk' S _ hSw hS
    show wpAny _ A.in1 (updateSeq S (fun _ => #[]) >>= _) _ _ _
    refine wpAny_bind ?_
    refine wpAny_updateSeq hS' rfl (wpAny_bind (wpAny_letGo (wpAny_pure ?_)))
    exact hR vb _ tk (by rw [← hin]; exact hPb) fun b o hbw hbS e => (Heap.get?_update_other _ _ (Ne.symm hbS)).trans (hk' b o hbw e)
  | succ k ih =>
    intro j s vb c hk hj hst hPb hS hR
    have hlt : j + 1 < n := by omega
    refine codeAny_builtin PySem.F.entry_max_loop ?_
    rw [Around.under_plainId PySem.F.plain_max_loop _]
    show wpAny _ A.in1 (seqItems? (.ref S) >>= _) _ _ s
    refine wpAny_bind (wpAny_seqItems hS rfl ?_)
    show wpAny _ A.in1 (tryCatch (pyNext (.ref I)) _ >>= _) _ _ s
    refine wpAny_bind (wpAny_tryCatch (W.item (j + 1) s _ _ hlt hst fun v h' tk hP hst' hk' => ?_))
    have hS' := hk' S _ hSw hS
    show wpAny _ A.in1 (tryCatch (holding [v, v] (richCompare .Gt v vb >>= _)) _ >>= _) _ _ _
    refine wpAny_bind (wpAny_tryCatch (wpAny_holding (wpAny_bind (hcmp (j + 1) (argBest bt j) v vb _ _ _ hP hPb ?_))))
    refine wpAny_bind (wpAny_holding (wpAny_truthy_bool ?_))
    refine wpAny_bind (wpAny_letGo (wpAny_pure ?_))
    by_cases hb : bt (j + 1) (argBest bt j) = true
    · have eb : argBest bt (j + 1) = j + 1 := by simp only [argBest, hb, if_true]
      simp only [hb, if_true]
      refine wpAny_bind ?_
      refine wpAny_updateSeq hS' rfl (wpAny_bind (wpAny_letGo ?_))
      rw [hname]
      refine wpAny_pure ⟨plainId_quiet PySem.F.plain_max_loop _, ih (j + 1) _ v _ (by omega) hlt (W.frame _ _ _ hst' fun b hbf o e => ?_) (by rw [eb]; exact hP) (Heap.get?_update_self _ hS' rfl) fun v' h'' tk'' hP' hk'' => ?_⟩
      · exact (Heap.get?_update_other _ _ (fun h : S = b => hSf (by rw [h]; exact hbf))).trans e
      · exact hR v' h'' tk'' hP' fun b o hbw hbS e => hk'' b o hbw hbS ((Heap.get?_update_other _ _ (Ne.symm hbS)).trans (hk' b o hbw e))
    · have eb : argBest bt (j + 1) = argBest bt j := by simp only [argBest, hb, if_false, Bool.false_eq_true]
      have hb' : bt (j + 1) (argBest bt j) = false := by simpa using hb
      simp only [hb', Bool.false_eq_true, if_false]
      refine wpAny_bind (wpAny_letGo ?_)
      rw [hname]
      refine wpAny_pure ⟨plainId_quiet PySem.F.plain_max_loop _, ih (j + 1) _ vb c (by omega) hlt hst' (by rw [eb]; exact hPb) hS' fun v' h'' tk'' hP' hk'' => ?_⟩
      exact hR v' h'' tk'' hP' fun b o hbw hbS e => hk'' b o hbw hbS (hk' b o hbw e)
theorem first (W : Walks prog w A.in1 I fp wr n P St) (bt : Nat → Nat → Bool) (hcmp : CmpOf prog w A.in1 .Gt P bt) (S : Addr) (hSf : S ∉ fp) (dd : Value) {s : Shared} {c : Nat} (hst : St 0 s.heap)
    (hS : s.heap.get? S = some { cls := .type "list", dict := none, data := .seq #[] c, slots := #[] })
    (hR : 0 < n → ∀ v h' tk, P (argBest bt (n - 1)) v → (∀ b o, b ∉ wr → b ≠ S → s.heap.get? b = some o → h'.get? b = some o) → R (.ok (.ret v)) { s with heap := h', toks := tk })
    (hD : n = 0 → ∀ h' tk, (∀ b o, b ∉ wr → b ≠ S → s.heap.get? b = some o → h'.get? b = some o) → R (.ok (.ret dd)) { s with heap := h', toks := tk }) :
    codeAny (model prog w) A (.builtin "max.loop" ⟨[.ref I, .none, .ref S], [(Str.ofString "default", dd)]⟩) R s := by
  have hSw : S ∉ wr := fun h => hSf (W.sub _ h)
  have hname : (toString "max" ++ toString ".loop" : String) = "max.loop" := by decide
  refine codeAny_builtin PySem.F.entry_max_loop ?_
  rw [Around.under_plainId PySem.F.plain_max_loop _]
  show wpAny _ A.in1 (seqItems? (.ref S) >>= _) _ _ s
  refine wpAny_bind (wpAny_seqItems hS rfl ?_)
  show wpAny _ A.in1 (tryCatch (pyNext (.ref I)) _ >>= _) _ _ s
  by_cases hn : 0 < n
  · refine wpAny_bind (wpAny_tryCatch (W.item 0 s _ _ hn hst fun v h' tk hP hst' hk' => ?_))
    have hS' := hk' S _ hSw hS
    show wpAny _ A.in1 (updateSeq S (fun _ => #[v, v]) >>= _) _ _ _
    refine wpAny_bind ?_
    refine wpAny_updateSeq hS' rfl ?_
    rw [hname]
    refine wpAny_pure ⟨plainId_quiet PySem.F.plain_max_loop _, loop W bt hcmp S hSf dd _ 0 _ v _ rfl hn (W.frame _ _ _ hst' fun b hbf o e => ?_) hP (Heap.get?_update_self _ hS' rfl) fun v' h'' tk'' hP' hk'' => ?_⟩
    · exact (Heap.get?_update_other _ _ (fun h : S = b => hSf (by rw [h]; exact hbf))).trans e
    · exact hR hn v' h'' tk'' hP' fun b o hbw hbS e => hk'' b o hbw hbS ((Heap.get?_update_other _ _ (Ne.symm hbS)).trans (hk' b o hbw e))
  · have h0 : n = 0 := by omega
    refine wpAny_bind (wpAny_tryCatch (W.done s _ _ (h0 ▸ hst) fun h' tk hk' => ?_))
    show wpAny _ A.in1 (rule _ >>= _) _ _ _
    refine wpAny_bind (wpAny_rule (wpAny_pure ?_))
    exact hD h0 h' tk fun b o hbw _ e => hk' b o hbw e
end
theorem args (a v : Value) : argsOk "max" ⟨[a], [(Str.ofString "default", v)]⟩ := by unfold argsOk; kernel_rfl
section
variable {prog : Program} {w : World} {A : Around} {E : Value → Shared → Prop} {s : Shared} {Q : Value → Shared → Prop}
theorem list {l : Addr} {vs : List Value} {ns : List Int} {dd : Value} (hh : A.handled = none) (hl : s.heap.IsList l vs.toArray) (hi : ∀ i v, vs[i]? = some v → ∃ t, v = Value.int (ns.getD i 0) t) (hln : vs.length = ns.length)
    (h : 0 < ns.length → ∀ M h' tk t, M ∈ ns → (∀ a ∈ ns, a ≤ M) → (∀ c o, s.heap.get? c = some o → h'.get? c = some o) → Q (Value.int M t) { s with heap := h', toks := tk })
    (hd : ns = [] → ∀ h' tk, (∀ c o, s.heap.get? c = some o → h'.get? c = some o) → Q dd { s with heap := h', toks := tk }) :
    wpAny (model prog w) A (call (.builtin "max") [.ref l] [(Str.ofString "default", dd)]) Q E s := by
  have hname : (toString "max" ++ toString ".loop" : String) = "max.loop" := by decide
  obtain ⟨ol, hol, _⟩ := id hl
  have hll : l < s.heap.objs.size := Heap.lt_size hol
  have hsz : (s.heap.push { cls := .type "list_iterator", data := .fields #[.ref l, .int 0 0] }).objs.size = s.heap.objs.size + 1 := Heap.size_push ..
  refine kmb_tree PySem.F.kind_max PySem.F.plain_max PySem.F.entry_max (args _ _) ?_
  show wpAny _ A.in1 (Builtin.Builtins.bindParams "max" ["key", "default"] 0 ⟨[], [(Str.ofString "default", dd)]⟩ >>= _) _ _ s
  refine wpAny_bind (wpAny_of_eq (show Builtin.Builtins.bindParams "max" ["key", "default"] 0 ⟨[], [(Str.ofString "default", dd)]⟩ = pure [none, some dd] from rfl) ?_)
  refine wpAny_bind (wpAny_pure ?_)
  refine wpAny_bind (wpAny_pyIter_list hl ?_)
  refine wpAny_bind (wpAny_newObj_type ?_)
  rw [hname]
  have old : ∀ c o, s.heap.get? c = some o → c < s.heap.objs.size := fun c o e => Heap.lt_size e
  have W := Walks.list (prog := prog) (w := w) (A := A.in1) hh s.heap.objs.size l (Nat.ne_of_lt hll) vs.toArray
  have hn : vs.toArray.size = ns.length := by rw [List.size_toArray, hln]
  have keep : ∀ h' : Heap, (∀ b o, b ∉ [s.heap.objs.size] → b ≠ (s.heap.push { cls := .type "list_iterator", data := .fields #[.ref l, .int 0 0] }).objs.size → ((s.heap.push { cls := .type "list_iterator", data := .fields #[.ref l, .int 0 0] }).push { cls := .type "list", data := .seq #[] }).get? b = some o → h'.get? b = some o) →
      ∀ c o, s.heap.get? c = some o → h'.get? c = some o := fun h' hk c o e => by
    refine hk c o (fun hm => ?_) (fun e2 => Nat.ne_of_lt (Nat.lt_succ_of_lt (old c o e)) (e2.trans hsz)) (Heap.get?_push_of_some _ (Heap.get?_push_of_some _ e))
    have e2 := List.mem_singleton.mp hm
    exact Nat.ne_of_lt (old c o e) e2
  refine wpAny_pure ⟨plainId_quiet PySem.F.plain_max_loop _, first W (fun i j => decide (ns.getD i 0 > ns.getD j 0)) (CmpOf.ints_gt (fun i => ns.getD i 0) fun i v hv => hi i v (by simpa using hv)) _ ?_ dd ⟨⟨_, Heap.get?_push_of_some _ (Heap.get?_push_size _ rfl), rfl, rfl⟩, hl.at fun o e => Heap.get?_push_of_some _ (Heap.get?_push_of_some _ e)⟩ (Heap.get?_push_size _ rfl) (fun hp v h' tk hP hk => ?_) fun h0 h' tk hk => ?_⟩
  · rw [hsz]
    intro hm
    rcases List.mem_cons.mp hm with e | hm
    · exact absurd (show (s.heap.objs.size + 1 : Nat) = s.heap.objs.size from e) (by omega)
    · rcases List.mem_cons.mp hm with e | hm
      · exact Nat.ne_of_lt (Nat.lt_succ_of_lt hll) (show l = s.heap.objs.size + 1 from e.symm)
      · cases hm
  · rw [hn] at hp hP
    obtain ⟨t, rfl⟩ := hi _ v (by simpa using hP)
    obtain ⟨g1, g2⟩ := argBest_gt (fun i => ns.getD i 0) (ns.length - 1)
    refine h hp _ h' tk t ?_ (fun a ha => ?_) (keep h' hk)
    · exact getD_mem' ns _ (Nat.lt_of_le_of_lt g1 (by omega))
    · obtain ⟨j, hj, rfl⟩ := List.getElem_of_mem ha
      have := g2 j (by omega)
      rw [getD_at ns j hj] at this
      exact this
  · rw [hn] at h0
    exact hd (List.length_eq_zero_iff.mp h0) h' tk (keep h' hk)
end
end MaxD
namespace SL
open PySem PySem.Spec PyProof.Rows L2
/-! ### the core code against the text -/
inductive GK where
  | fn (i : Nat) | cls (i : Nat) | con (d : D) | bc (i : Nat)
structure Nv where
  N : List Str
  sc : Scope
  G : List (Str × GK)
  own : Bool
  hot : Bool := false
def visB (sc : Scope) (x : Str) : Bool := match sc.names.lookup x with | some .local | some .cell | some .free => true | _ => false
def locB (nv : Nv) (x : Str) : Bool := match nv.sc.names.lookup x with | some .local => true | some .cell => nv.own | _ => false
def glB (sc : Scope) (x : Str) : Bool := match sc.names.lookup x with | some .globalImplicit => true | _ => false
def okN (x : Str) : Bool := !(x == ("__debug__" : Str)) && !(x == ("__classdict__" : Str)) && !decide (x = ("__name__" : Str))
def constD : Const → Option D
  | .none => some .non
  | .bool b => some (.bl b)
  | .int i => some (.int i)
  | .str s => some (.str s.cps.toList)
  | _ => none
def isTupE : Expr → Bool | .Tuple .. => true | _ => false
def baseOk : Expr → Bool | .Name .. => true | .Subscript .. => true | .List .. => true | .Constant .. => true | .BinOp .. => true | _ => false
def plainE : Expr → Bool | .Starred .. => false | _ => true
def plainIx : Expr → Bool | .Slice .. => false | _ => true
def tstOk : Expr → Bool | .IfExp .. => false | _ => true
def noSet : Expr → Bool | .Set .. => false | _ => true
def noComp : Expr → Bool | .ListComp .. | .SetComp .. | .DictComp .. => false | _ => true
def noTup : Expr → Bool | .Tuple .. => false | _ => true
theorem star_cons {e : Expr} (h : plainE e = true) (es : List Expr) (env : Env) : starEach (e :: es) env = (false, eval e env) :: starEach es env := by cases e <;> first | rfl | cases h
theorem back_any : ∀ {es : List Expr} {pos : Pos} {env : Env}, es.all plainE = true → (backTo pos (starEach es env)).any (·.1) = false
  | [], _, _, _ => rfl
  | e :: es, pos, env, h => by
    simp only [List.all_cons, Bool.and_eq_true] at h
    rw [star_cons h.1]
    show (false || (backTo pos (starEach es env)).any (·.1)) = false
    rw [back_any h.2]
    rfl
theorem plain_ix {e : Expr} (h : plainIx e = true) : PlainIx e := by intro o i; cases e <;> first | rfl | cases h
theorem noSet_ok {e : Expr} {env : Env} (h : noSet e = true) (x : Value) : foldedSetIterable e env x = pure x := by cases e <;> first | rfl | cases h
theorem noComp_none {e : Expr} {l : Nat} {env : Env} (h : noComp e = true) (t : Option Expr) : swapsWith e t l env = pure false := by cases e <;> first | rfl | cases h
theorem noTup_name {e : Expr} {env : Env} {x : Str} {p : Pos} : swappedStores [.Name x p] e env = pure none := by cases e <;> rfl
theorem noTup_tup {e : Expr} {env : Env} {xs : List Expr} {k : Nat} {p : Pos} (h : noTup e = true) : swappedStores [.Tuple xs k p] e env = pure none := by cases e <;> first | rfl | cases h
def biN : Bi → Option (Str × Value)
  | .len => some ("len", .builtin "len") | .abs => some ("abs", .builtin "abs") | .max2 => some ("max", .builtin "max") | .min2 => some ("min", .builtin "min") | .sum => some ("sum", .builtin "sum") | .min1 => some ("min", .builtin "min") | .max1 => some ("max", .builtin "max")
  | .int => some ("int", .type "int") | .str => some ("str", .type "str") | .tuple => some ("tuple", .type "tuple") | .list => some ("list", .type "list")
  | _ => none
def tyN : Bi → Option (Str × String)
  | .isint => some ("int", "int") | .isbool => some ("bool", "bool") | .istup => some ("tuple", "tuple") | .islist => some ("list", "list") | .isstr => some ("str", "str") | _ => none
theorem biN_ok {b : Bi} {x : Str} {v : Value} (h : biN b = some (x, v)) : BiV b x v ∧ bootBuiltins x = some v ∧ x ≠ "__name__" ∧ (x == ("__debug__" : Str)) = false := by
  cases b <;> cases h
  · exact ⟨.len, by decide +kernel, by decide, by decide⟩
  · exact ⟨.abs, by decide +kernel, by decide, by decide⟩
  · exact ⟨.max2, by decide +kernel, by decide, by decide⟩
  · exact ⟨.min2, by decide +kernel, by decide, by decide⟩
  · exact ⟨.max1, by decide +kernel, by decide, by decide⟩
  · exact ⟨.min1, by decide +kernel, by decide, by decide⟩
  · exact ⟨.sum, by decide +kernel, by decide, by decide⟩
  · exact ⟨.int, by decide +kernel, by decide, by decide⟩
  · exact ⟨.str, by decide +kernel, by decide, by decide⟩
  · exact ⟨.tuple, by decide +kernel, by decide, by decide⟩
  · exact ⟨.list, by decide +kernel, by decide, by decide⟩
theorem tyN_ok {b : Bi} {x : Str} {t : String} (h : tyN b = some (x, t)) : isTy b = some t ∧ bootBuiltins x = some (.type t) ∧ x ≠ "__name__" ∧ (x == ("__debug__" : Str)) = false := by
  cases b <;> cases h <;> exact ⟨rfl, by decide +kernel, by decide, by decide⟩
/-- the built-in names that are met -/
def bltL : List Str := ["len", "abs", "max", "min", "sum", "int", "tuple", "list", "range", "isinstance", "bool", "str", "reversed", "zip", "enumerate", "sorted", "set"]
def isTgs (nv : Nv) : List Nat → List Expr → Bool
  | [], [] => true
  | i :: is, .Name x _ :: xs => decide (nv.N[i]? = some x) && locB nv x && isTgs nv is xs
  | _, _ => false
def isTg (nv : Nv) : Tg → Expr → Bool
  | .name i, .Name x _ => decide (nv.N[i]? = some x) && locB nv x
  | .tup is, .Tuple xs _ _ => !nv.hot && isTgs nv is xs
  | _, _ => false
def ownOf (nv : Nv) (tg : Tg) : List (Str × Nat) := (tgIx tg).map fun i => (nv.N.getD i "", i)
def blkNv (nv : Nv) (scope : Scope) : Nv := { nv with sc := relS scope nv.sc, own := false }
def isFn (nv : Nv) (x : Str) (i : Nat) : Bool := match nv.G.lookup x with | some (.fn j) => decide (i = j) | _ => false
/-- a class by its name -/
def isC (nv : Nv) (k : Nat) (z : Expr) : Bool := match z with
  | .Name y _ => glB nv.sc y && okN y && (match nv.G.lookup y with | some (.cls j) => decide (k = j) | some (.bc j) => decide (k = j) | _ => false)
  | _ => false
def isCs (nv : Nv) : List Nat → List Expr → Bool
  | [], [] => true
  | k :: ks, z :: zs => isC nv k z && isCs nv ks zs
  | _, _ => false
def isBl (nv : Nv) (x : Str) : Bool := glB nv.sc x && decide (x ∈ bltL) && (nv.G.lookup x).isNone
def isKey : Bi → Bool | .maxK1 => true | .maxK2 => true | _ => false
mutual
def isE : E → Nv → Expr → Bool
  | .var i, nv, e => match e with | .Name x _ => decide (nv.N[i]? = some x) && visB nv.sc x && okN x | _ => false
  | .fz i, nv, e => match e with | .Name x _ => decide (nv.N[i]? = some x) && visB nv.sc x && okN x | _ => false
  | .con d, nv, e => match e with
    | .Constant c _ _ => decide (constD c = some d)
    | .Name x _ => glB nv.sc x && okN x && (match nv.G.lookup x with | some (.con d') => decide (d = d') | _ => false)
    | _ => false
  | .op _ p a b, nv, e => match e with | .BinOp l o r _ => decide (o = opP p) && isE a nv l && isE b nv r | _ => false
  | .neg a, nv, e => match e with | .UnaryOp .USub x _ => isE a nv x | _ => false
  | .cmp k a b, nv, e => match e with | .Compare l [o] [r] _ => decide (o = cmpP k) && isE a nv l && isE b nv r && !behindInMarks (cmpP k) r | _ => false
  | .cmp2 k k' a b d, nv, e => match e with | .Compare l [o, o'] [m, r] _ => decide (o = cmpP k) && decide (o' = cmpP k') && isE a nv l && isE b nv m && isE d nv r && !lastMarks [cmpP k, cmpP k'] [m, r] | _ => false
  | .and a b, nv, e => match e with
    | .BoolOp .And (x :: y :: ys) pos => isE a nv x && tstOk x && tstOk y && (match ys with | [] => isE b nv y | _ => isE b nv (.BoolOp .And (y :: ys) pos))
    | _ => false
  | .or a b, nv, e => match e with
    | .BoolOp .Or (x :: y :: ys) pos => isE a nv x && tstOk x && tstOk y && (match ys with | [] => isE b nv y | _ => isE b nv (.BoolOp .Or (y :: ys) pos))
    | _ => false
  | .not a, nv, e => match e with | .UnaryOp .Not x _ => isE a nv x && tstOk x | _ => false
  | .ite c a b, nv, e => match e with | .IfExp t x y _ => isE c nv t && tstOk t && isE a nv x && isE b nv y | _ => false
  | .tup es, nv, e => match e with | .Tuple xs _ _ => isEs es nv xs | _ => false
  | .lst _ es, nv, e => match e with | .List xs _ => isEs es nv xs | _ => false
  | .ix a b, nv, e => match e with | .Subscript x y _ => isE a nv x && isE b nv y && plainIx y | _ => false
  | .sl _ a lo hi, nv, e => match e with | .Subscript x (.Slice l h none _) _ => isE a nv x && isEO lo nv l && isEO hi nv h | _ => false
  | .call f es, nv, e => match e with
    | .Call (.Name x _) (y :: ys) [] _ => !nv.hot && (glB nv.sc x && okN x && isFn nv x f && isEs es nv (y :: ys))
    | .Call (.Name x _) [] [] _ => !nv.hot && (glB nv.sc x && okN x && isFn nv x f && (match es with | .nil => true | _ => false))
    | _ => false
  | .bi _ b es, nv, e => match e with
    | .Call (.Name x _) (y :: ys) [] _ => !nv.hot && isBl nv x && (match tyN b with
      | some (t, _) => decide (x = "isinstance") && (match ys, es with
        | [.Name z _], .cons a .nil => isE a nv y && plainE y && isBl nv t && decide (z = t)
        | _, _ => false)
      | none => (match biN b with
        | some (n, _) => decide (x = n) && isEs es nv (y :: ys)
        | none => (match b, ys, es with
          | .sorted, [], .cons a .nil => decide (x = "sorted") && isE a nv y && plainE y
          | .tupRev, [], .cons a .nil => decide (x = "tuple") && (match y with | .Call (.Name g _) [z] [] _ => decide (g = "reversed") && isBl nv g && isE a nv z && plainE z | _ => false)
          | .listRev, [], .cons a .nil => decide (x = "list") && (match y with | .Call (.Name g _) [z] [] _ => decide (g = "reversed") && isBl nv g && isE a nv z && plainE z | _ => false)
          | .listRange, [], .cons a .nil => decide (x = "list") && (match y with | .Call (.Name g _) [z] [] _ => decide (g = "range") && isBl nv g && isE a nv z && plainE z | _ => false)
          | .tupRange, [], .cons a .nil => decide (x = "tuple") && (match y with | .Call (.Name g _) [z] [] _ => decide (g = "range") && isBl nv g && isE a nv z && plainE z | _ => false)
          | _, _, _ => false)))
    | .Call (.Name x _) (y :: ys) [⟨k, .Name z _, _⟩] _ => !nv.hot && isBl nv x && decide (x = "max") && decide (k = some "key") && isBl nv z && decide (z = "len") && isKey b && isEs es nv (y :: ys)
    | .Call (.Name x _) [y] [⟨k, .Constant c _ _, _⟩] _ => !nv.hot && isBl nv x && decide (k = some "default") && plainE y && (match b, es with
      | .minD d, .cons a .nil => decide (x = "min") && decide (constD c = some (.int d)) && isE a nv y
      | .maxD d, .cons a .nil => decide (x = "max") && decide (constD c = some (.int d)) && isE a nv y
      | _, _ => false)
    | _ => false
  | .mt _ m a es, nv, e => match e with
    | .Call (.Attribute oe x ap) ys [] cp => !nv.hot && isE a nv oe && baseOk oe && (ap.endLine == cp.line) && (match mtId m with | some (nm, _) => decide (x = nm) | none => (match mtS m with | some (nm, _) => decide (x = nm) | none => false)) && (match ys, es with
      | [], .nil => true
      | [y], es => isEs es nv [y]
      | [y, z], es => isEs es nv [y, z]
      | _, _ => false)
    | _ => false
  | .lc _ elt tg it c, nv, e => match e with
    | .ListComp x [⟨t, i, ifs, 0⟩] scope _ => !nv.hot && nv.own && blkC nv.N nv.sc scope (ownOf nv tg) && isTg (blkNv nv scope) tg t && isIt it nv t i && noSet i && isE elt (blkNv nv scope) x && (match c, ifs with
        | .none, [] => true
        | .some c, [y] => isE c (blkNv nv scope) y && tstOk y
        | _, _ => false)
    | _ => false
  | .fld _ _, _, _ => false
  | .isx i cs, nv, e => match e with
    | .Call (.Name f _) [.Name x _, z] [] _ => nv.hot && isBl nv f && decide (f = "isinstance") && decide (nv.N[i]? = some x) && visB nv.sc x && okN x && (match z with
      | .Tuple zs _ _ => isCs nv cs zs && decide (cs.length ≤ 1000)
      | z => (match cs with | [k] => isC nv k z | _ => false))
    | _ => false
def isEs : Es → Nv → List Expr → Bool
  | .nil, _, xs => xs.isEmpty
  | .cons e es, nv, xs => match xs with | y :: ys => isE e nv y && plainE y && isEs es nv ys | [] => false
def isEO : EO → Nv → Option Expr → Bool
  | .none, _, x => x.isNone
  | .some e, nv, x => match x with | some y => isE e nv y | none => false
def isIt : It → Nv → Expr → Expr → Bool
  | .val e, nv, t, x => isE e nv x
  | .range1 a, nv, t, x => match x with | .Call (.Name f _) [y] [] _ => decide (f = "range") && isBl nv f && isE a nv y && plainE y | _ => false
  | .range2 a b, nv, t, x => match x with | .Call (.Name f _) [y, z] [] _ => decide (f = "range") && isBl nv f && isE a nv y && plainE y && isE b nv z && plainE z | _ => false
  | .range3 a b c, nv, t, x => match x with | .Call (.Name f _) [y, z, u] [] _ => decide (f = "range") && isBl nv f && isE a nv y && plainE y && isE b nv z && plainE z && isE c nv u && plainE u | _ => false
  | .zip a b, nv, t, x => isTupE t && match x with | .Call (.Name f _) [y, z] [] _ => decide (f = "zip") && isBl nv f && isE a nv y && plainE y && isE b nv z && plainE z | _ => false
  | .enum a, nv, t, x => isTupE t && match x with | .Call (.Name f _) [y] [] _ => decide (f = "enumerate") && isBl nv f && isE a nv y && plainE y | _ => false
  | .rev a, nv, t, x => match x with | .Call (.Name f _) [y] [] _ => decide (f = "reversed") && isBl nv f && isE a nv y && plainE y | _ => false
  | .revrange a, nv, t, x => match x with | .Call (.Name f _) [.Call (.Name g _) [y] [] _] [] _ => decide (f = "reversed") && isBl nv f && decide (g = "range") && isBl nv g && isE a nv y && plainE y | _ => false
end
/-- what holds where code runs -/
structure Ct (T : Tb) (B : Bs) (X : L2.Cx) (nv : Nv) (n : Nat) (C : Cx) (W : WX) : Prop where
  hN : X.N = nv.N
  nd : X.N.Nodup
  sc : X.env.scope = nv.sc
  K : B.K = X.K
  hot : C.hot = nv.hot
  calm : nv.hot = false → X.calm = true
  hu : X.A.units + 64 < cLine
  room : nv.hot = false → Room n X.A
  call : C.call = evCall T.P n
  con : ∀ x d, nv.G.lookup x = some (.con d) → ∃ v u, X.mg x = some u ∧ RelV v u ∧ ∀ μ F H, Rep B μ F H d v
  blt : ∀ x, x ∈ bltL → nv.G.lookup x = none → X.mg x = none
  fns : ∀ x i, nv.G.lookup x = some (.fn i) → ∃ f fd ps, X.mg x = some (.ref f) ∧ PySem.W.keepIn X.K (.ref f) = true ∧ Binds X.K fd ps [] ∧ FnOk X.prog X.w X.K X.mg X.base (L2.CX X.prog X.w) n f fd ps (spF T B n i)
  cls : ∀ x i, nv.G.lookup x = some (.cls i) → i < T.na ∧ ∃ Ca, X.mg x = some (.ref Ca) ∧ T.cl i = .ref Ca
  own : nv.own = true → ∀ x, X.fn x = true
  tk : Takes X W
  sub : C.sub = T.P.sub
  ex : nv.hot = true → ExOk X T B (clvOf T)
  exn : nv.hot = false → ∀ i c fs v, ¬ B.Ex i c fs v
  tc : Tc T (clvOf T)
  bcl : ∀ x i, nv.G.lookup x = some (.bc i) → i < T.na ∧ ((X.mg x = none ∧ ∃ s, bootBuiltins x = some (.type s) ∧ T.cl i = .type s) ∨ ∃ Ca, X.mg x = some (.ref Ca) ∧ T.cl i = .ref Ca)
section
variable {X : L2.Cx} {T : Tb} {B : Bs} {W : WX} {C : Cx} {nv : Nv} {n : Nat}
theorem vis_ok {sc : Scope} {x : Str} (h : visB sc x = true) : Vis sc x := by
  unfold visB at h
  split at h
  · exact .inl (by assumption)
  · exact .inr (.inl (by assumption))
  · exact .inr (.inr (by assumption))
  · cases h
theorem Ct.gl (k : Ct T B X nv n C W) {x : Str} (h : glB nv.sc x = true) : Gl X x := by
  unfold glB at h
  split at h
  · show X.env.scope.names.lookup x = _
    rw [k.sc]
    assumption
  · cases h
theorem Ct.bl (k : Ct T B X nv n C W) {x : Str} (h : isBl nv x = true) : Gl X x ∧ X.mg x = none := by
  unfold isBl at h
  simp only [Bool.and_eq_true, decide_eq_true_eq] at h
  exact ⟨k.gl h.1.1, k.blt x h.1.2 (by simpa using h.2)⟩
theorem Ct.loc (k : Ct T B X nv n C W) {x : Str} (h : locB nv x = true) : Loc X.env.scope x ∧ (X.fn x = true ∨ X.env.scope.names.lookup x = some .local) := by
  unfold locB at h
  rw [k.sc]
  split at h
  · exact ⟨.inl (by assumption), .inr (by assumption)⟩
  · exact ⟨.inr (by assumption), .inl (k.own h x)⟩
  · cases h
theorem okN_ok {x : Str} (h : okN x = true) : (x == ("__debug__" : Str)) = false ∧ (x == ("__classdict__" : Str)) = false ∧ x ≠ "__name__" := by
  unfold okN at h
  simp only [Bool.and_eq_true, Bool.not_eq_true', decide_eq_false_iff_not] at h
  exact ⟨h.1.1, h.1.2, h.2⟩
theorem Ct.tgs (k : Ct T B X nv n C W) : ∀ {is : List Nat} {xs : List Expr}, isTgs nv is xs = true → TgNs X xs is
  | [], [], _ => .nil
  | i :: is, .Name x p :: xs, h => by
    simp only [isTgs, Bool.and_eq_true, decide_eq_true_eq] at h
    obtain ⟨h1, h2⟩ := k.loc h.1.2
    exact .cons (by rw [k.hN]; exact h.1.1) h1 h2 (k.tgs h.2)
  | [], _ :: _, h => by simp [isTgs] at h
  | _ :: _, [], h => by simp [isTgs] at h
theorem Ct.tg (k : Ct T B X nv n C W) {g : Tg} {t : Expr} (h : isTg nv g t = true) : PG X t (tTg B g) := by
  unfold isTg at h
  split at h
  · simp only [Bool.and_eq_true, decide_eq_true_eq] at h
    obtain ⟨h1, h2⟩ := k.loc h.2
    exact pg_name' k.nd (by rw [k.hN]; exact h.1) h1 h2
  · simp only [Bool.and_eq_true, Bool.not_eq_true'] at h
    exact pg_tup' k.K k.nd (k.calm h.1) (k.tgs h.2)
  · cases h
/-- a comprehension's block -/
theorem Ct.blk (k : Ct T B X nv n C W) (hh : nv.hot = false) {scope : Scope} (s : Shared) (H : Hp) (Ce : Addr) (cl : List (Str × Addr)) (fp : List Addr) : Ct T B (X.blk s H scope (compEnvC scope cl Ce X.env) fp) (blkNv nv scope) n C W0 where
  hN := k.hN
  nd := k.nd
  sc := by
    show relS scope X.env.scope = relS scope nv.sc
    rw [k.sc]
  K := k.K
  hot := k.hot
  calm := k.calm
  hu := k.hu
  room := k.room
  call := k.call
  con := k.con
  blt := k.blt
  fns := k.fns
  cls := k.cls
  own := fun h => by cases h
  tk := takes0
  sub := k.sub
  ex := fun h => absurd (hh.symm.trans h) (by decide)
  exn := k.exn
  tc := k.tc
  bcl := k.bcl
/-- a class by its name, read -/
theorem Ct.cname (k : Ct T B X nv n C W) {y : Str} {i : Nat} {py : Pos} (hg : Gl X y) (o1 : (y == ("__debug__" : Str)) = false) (o3 : y ≠ "__name__") (h : nv.G.lookup y = some (.cls i) ∨ nv.G.lookup y = some (.bc i)) : i < T.na ∧ PE X (.Name y py) (tC (clvOf T i)) := by
  rcases h with h | h
  · obtain ⟨h1, Ca, h2, h3⟩ := k.cls y i h
    refine ⟨h1, pe_glob hg h2 ?_ o1⟩
    show RelV (match T.cl i with | .ref a => V.ref a | .type s => .ty s | _ => .non) _
    rw [h3]
    rfl
  · obtain ⟨h1, ⟨h2, s, h3, h4⟩ | ⟨Ca, h2, h3⟩⟩ := k.bcl y i h
    · refine ⟨h1, pe_bltn hg h2 h3 ?_ o3 o1⟩
      show RelV (match T.cl i with | .ref a => V.ref a | .type s => .ty s | _ => .non) _
      rw [h4]
      rfl
    · refine ⟨h1, pe_glob hg h2 ?_ o1⟩
      show RelV (match T.cl i with | .ref a => V.ref a | .type s => .ty s | _ => .non) _
      rw [h3]
      rfl
end
end SL
/-! min, max with default=, by values (printed by gen_so14b.py) -/
namespace SL
open PySem PySem.Spec PyProof.Rows L2
section
variable {X : L2.Cx} {T : Tb} {B : Bs} {W : WX} {C : Cx} {e : Expr} {a : E}
theorem its_ints {ns : List Int} {its : List Value} (rv : Vals (ns.map V.int) its) : ∀ i v, its[i]? = some v → ∃ t, v = Value.int (ns.getD i 0) t := by
  intro i v hv
  have hl := rv.length
  rw [List.length_map] at hl
  have hi : i < its.length := (List.getElem?_eq_some_iff.mp hv).1
  have hn : i < ns.length := by omega
  obtain ⟨u, hu, t, ht⟩ := rv.get (i := i) (x := .int ns[i]) (by simp [hn])
  rw [hv] at hu
  cases hu
  exact ⟨t, by rw [ht, getD_at ns i hn]⟩

theorem keyMinD (hK : B.K = X.K) (hc : X.calm = true) (o : Bool) (d : Int) : CallRK X (.builtin "min") [Str.ofString "default"] fun vs zs H Q => zs = [.int d] ∧ rL B (doBi o (.minD d)) vs H Q := by
  intro pins s τ H xs zs us ws Q I r rz hq
  obtain ⟨rfl, μ, F, S, ds, rl, q, h⟩ := hq
  obtain ⟨w1, rfl, tk, rfl⟩ := vals1 rz
  cases q with
  | nil => exact h.elim
  | cons r1 q =>
    cases q with
    | cons _ _ => exact h.elim
    | nil =>
      rename_i d1 v1
      simp only [doBi] at h
      cases h1 : items S d1 with
      | none => rw [h1] at h; exact h.elim
      | some es =>
        rw [h1] at h
        simp only [Option.bind_some] at h
        cases hn : intsD es with
        | none => rw [hn] at h; exact h.elim
        | some ns =>
          rw [hn] at h
          obtain ⟨p1, vs, rfl, s1, q1⟩ := items_ok rl r1 h1
          rw [hK] at s1
          have e := intsD_ok q1 hn
          subst e
          obtain ⟨u1, rfl, e1⟩ := vals1 r
          cases e1
          obtain ⟨its, rv, pl, hz⟩ := I.list s1
          have hl := rv.length
          rw [List.length_map] at hl
          have fin := h _ _ _ (Ext.refl _ _ _) rl _ (.int _)
          refine MinD.list (I.ok.hd hc) pl.isList (its_ints rv) hl.symm (fun hp M h' tk' t g1 g2 k => ⟨.int M, H, I.kept k, ⟨t, rfl⟩, ?_⟩) fun he h' tk' k => ⟨.int d, H, I.kept k, ⟨_, rfl⟩, ?_⟩
          · obtain ⟨m, hm⟩ : ∃ m, minL ns = some m := by cases ns with | nil => simp at hp | cons n ns => exact ⟨_, rfl⟩
            rw [minL_eq hm g1 g2]
            rw [hm] at fin
            exact fin
          · subst he
            exact fin
theorem pe_minD (hK : B.K = X.K) (hot : C.hot = false) (hc : X.calm = true) {o : Bool} {d : Int} {cc : Const} {j : Nat} {p pos kp cp : Pos} (hd : constD cc = some (.int d)) (hg : Gl X "min") (hm : X.mg "min" = none) (ha : PE X e (tE T B W C a))
    (hs : starEach [e] X.env = (false, eval e X.env) :: starEach [] X.env) : PE X (.Call (.Name "min" p) [e] [⟨some "default", .Constant cc j cp, kp⟩] pos) (tE T B W C (.bi o (.minD d) (.cons a .nil))) := by
  have hcc : PE X (.Constant cc j cp) (tC (.int d)) := by
    cases cc <;> first | (simp [constD] at hd; done) | skip
    simp only [constD, Option.some.injEq, D.int.injEq] at hd
    subst hd
    exact pe_int
  refine PE.imp (pe_callBK (keyMinD hK hc o d) hg hm (show bootBuiltins "min" = some (.builtin "min") by decide +kernel) (pa_cons ha pa_nil hs) (pk_cons hcc pk_nil) (by decide) (by decide) (by rw [hs]; rfl) (by rw [hs]; rfl) rfl rfl rfl) fun τ H Q h => ?_
  obtain ⟨μ, F, S, σ, rl, sl, h⟩ := bi1 hot h
  refine tE.go rl sl h fun x S1 μ1 F1 H1 v rl1 sl1 e1 p1 rx => ?_
  exact ⟨rfl, rL_of (doBi_ne o (.minD d) [x] S1) rl1 (.cons rx .nil) p1⟩

theorem keyMaxD (hK : B.K = X.K) (hc : X.calm = true) (o : Bool) (d : Int) : CallRK X (.builtin "max") [Str.ofString "default"] fun vs zs H Q => zs = [.int d] ∧ rL B (doBi o (.maxD d)) vs H Q := by
  intro pins s τ H xs zs us ws Q I r rz hq
  obtain ⟨rfl, μ, F, S, ds, rl, q, h⟩ := hq
  obtain ⟨w1, rfl, tk, rfl⟩ := vals1 rz
  cases q with
  | nil => exact h.elim
  | cons r1 q =>
    cases q with
    | cons _ _ => exact h.elim
    | nil =>
      rename_i d1 v1
      simp only [doBi] at h
      cases h1 : items S d1 with
      | none => rw [h1] at h; exact h.elim
      | some es =>
        rw [h1] at h
        simp only [Option.bind_some] at h
        cases hn : intsD es with
        | none => rw [hn] at h; exact h.elim
        | some ns =>
          rw [hn] at h
          obtain ⟨p1, vs, rfl, s1, q1⟩ := items_ok rl r1 h1
          rw [hK] at s1
          have e := intsD_ok q1 hn
          subst e
          obtain ⟨u1, rfl, e1⟩ := vals1 r
          cases e1
          obtain ⟨its, rv, pl, hz⟩ := I.list s1
          have hl := rv.length
          rw [List.length_map] at hl
          have fin := h _ _ _ (Ext.refl _ _ _) rl _ (.int _)
          refine MaxD.list (I.ok.hd hc) pl.isList (its_ints rv) hl.symm (fun hp M h' tk' t g1 g2 k => ⟨.int M, H, I.kept k, ⟨t, rfl⟩, ?_⟩) fun he h' tk' k => ⟨.int d, H, I.kept k, ⟨_, rfl⟩, ?_⟩
          · obtain ⟨m, hm⟩ : ∃ m, maxL ns = some m := by cases ns with | nil => simp at hp | cons n ns => exact ⟨_, rfl⟩
            rw [maxL_eq hm g1 g2]
            rw [hm] at fin
            exact fin
          · subst he
            exact fin
theorem pe_maxD (hK : B.K = X.K) (hot : C.hot = false) (hc : X.calm = true) {o : Bool} {d : Int} {cc : Const} {j : Nat} {p pos kp cp : Pos} (hd : constD cc = some (.int d)) (hg : Gl X "max") (hm : X.mg "max" = none) (ha : PE X e (tE T B W C a))
    (hs : starEach [e] X.env = (false, eval e X.env) :: starEach [] X.env) : PE X (.Call (.Name "max" p) [e] [⟨some "default", .Constant cc j cp, kp⟩] pos) (tE T B W C (.bi o (.maxD d) (.cons a .nil))) := by
  have hcc : PE X (.Constant cc j cp) (tC (.int d)) := by
    cases cc <;> first | (simp [constD] at hd; done) | skip
    simp only [constD, Option.some.injEq, D.int.injEq] at hd
    subst hd
    exact pe_int
  refine PE.imp (pe_callBK (keyMaxD hK hc o d) hg hm (show bootBuiltins "max" = some (.builtin "max") by decide +kernel) (pa_cons ha pa_nil hs) (pk_cons hcc pk_nil) (by decide) (by decide) (by rw [hs]; rfl) (by rw [hs]; rfl) rfl rfl rfl) fun τ H Q h => ?_
  obtain ⟨μ, F, S, σ, rl, sl, h⟩ := bi1 hot h
  refine tE.go rl sl h fun x S1 μ1 F1 H1 v rl1 sl1 e1 p1 rx => ?_
  exact ⟨rfl, rL_of (doBi_ne o (.maxD d) [x] S1) rl1 (.cons rx .nil) p1⟩
end
end SL
namespace SL
open PySem PySem.Spec PyProof.Rows L2
/-- what the check gives of an expression -/
structure Go (T : Tb) (B : Bs) (X : L2.Cx) (C : Cx) (W : WX) (c : E) (e : Expr) : Prop where
  pe : PE X e (tE T B W C c)
  pt : tstOk e = true → PT X e (tT T B W C c)
  pw : ∀ op xs pos, e = .BoolOp op xs pos → PW X e (tT T B W C c)
section
variable {T : Tb} {B : Bs}
theorem Go.plain {X : L2.Cx} {C : Cx} {W : WX} {c : E} {e : Expr} (h : PE X e (tE T B W C c)) (he : ∀ whole, isTrue e X.env whole = (do let v ← whole; standAt e.pos; holding [v] (truthy v))) (hn : ∀ op xs pos, e ≠ .BoolOp op xs pos) : Go T B X C W c e :=
  ⟨h, fun _ => pt_of h he, fun op xs pos z => absurd z (hn op xs pos)⟩
theorem pe_const {X : L2.Cx} {C : Cx} {W : WX} {cc : Const} {d : D} {j : Nat} {p : Pos} (h : constD cc = some d) : PE X (.Constant cc j p) (tE T B W C (.con d)) := by
  cases cc with
  | none => cases h; exact pe_con' pe_non fun _ _ _ => .non
  | bool b => cases h; exact pe_con' pe_bl fun _ _ _ => .bl _
  | int i => cases h; exact pe_con' pe_int fun _ _ _ => .int _
  | str s =>
    cases h
    refine pe_con' pe_str fun μ F H => ?_
    have := Rep.str (B := B) (μ := μ) (F := F) (H := H) s.cps.toList
    simpa using this
  | _ => cases h
mutual
theorem sE : ∀ (c : E) (nv : Nv) (e : Expr) (X : L2.Cx) (n : Nat) (C : Cx) (W : WX), Ct T B X nv n C W → isE c nv e = true → Go T B X C W c e
  | .var i, nv, e, X, n, C, W, k, h => by
    simp only [isE] at h
    split at h
    · rename_i x p
      simp only [Bool.and_eq_true, decide_eq_true_eq] at h
      obtain ⟨h1, h2, h3⟩ := okN_ok h.2
      exact Go.plain (pe_var' (pe_var (by rw [k.hN]; exact h.1.1) (by rw [k.sc]; exact vis_ok h.1.2) h1 h2)) (fun _ => rfl) (fun _ _ _ z => nomatch z)
    · cases h
  | .fz i, nv, e, X, n, C, W, k, h => by
    simp only [isE] at h
    split at h
    · rename_i x p
      simp only [Bool.and_eq_true, decide_eq_true_eq] at h
      obtain ⟨h1, h2, h3⟩ := okN_ok h.2
      exact Go.plain (pe_fz' (pe_var (by rw [k.hN]; exact h.1.1) (by rw [k.sc]; exact vis_ok h.1.2) h1 h2)) (fun _ => rfl) (fun _ _ _ z => nomatch z)
    · cases h
  | .con d, nv, e, X, n, C, W, k, h => by
    simp only [isE] at h
    split at h
    · rename_i cc j p
      refine Go.plain ?_ (fun _ => rfl) (fun _ _ _ z => nomatch z)
      exact pe_const (of_decide_eq_true h)
    · rename_i x p
      simp only [Bool.and_eq_true] at h
      obtain ⟨h1, h2, h3⟩ := okN_ok h.1.2
      refine Go.plain ?_ (fun _ => rfl) (fun _ _ _ z => nomatch z)
      split at h
      · rename_i d' hG
        have e := of_decide_eq_true h.2
        subst e
        obtain ⟨v, u, g1, g2, g3⟩ := k.con x d hG
        exact pe_con' (pe_glob (k.gl h.1.1) g1 g2 h1) g3
      · exact absurd h.2 (by decide)
    · cases h
  | .op o p a b, nv, e, X, n, C, W, k, h => by
    simp only [isE] at h
    split at h
    · rename_i l o' r pos
      simp only [Bool.and_eq_true, decide_eq_true_eq] at h
      obtain ⟨⟨h1, h2⟩, h3⟩ := h
      subst h1
      exact Go.plain (pe_op' k.K (sE a nv l X n C W k h2).pe (sE b nv r X n C W k h3).pe) (fun _ => rfl) (fun _ _ _ z => nomatch z)
    · cases h
  | .neg a, nv, e, X, n, C, W, k, h => by
    simp only [isE] at h
    split at h
    · exact Go.plain (pe_neg' (sE a nv _ X n C W k h).pe) (fun _ => rfl) (fun _ _ _ z => nomatch z)
    · cases h
  | .cmp c a b, nv, e, X, n, C, W, k, h => by
    simp only [isE] at h
    split at h
    · rename_i l o' r pos
      simp only [Bool.and_eq_true, decide_eq_true_eq, Bool.not_eq_true'] at h
      obtain ⟨⟨⟨h1, h2⟩, h3⟩, h4⟩ := h
      subst h1
      have ha := (sE a nv l X n C W k h2).pe
      have hb := (sE b nv r X n C W k h3).pe
      exact ⟨pe_cmp' k.K k.hu ha hb h4, fun _ => pt_cmp' k.K k.hu ha hb h4, fun _ _ _ z => nomatch z⟩
    · cases h
  | .cmp2 c c' a b d, nv, e, X, n, C, W, k, h => by
    simp only [isE] at h
    split at h
    · rename_i l o o' m r pos
      simp only [Bool.and_eq_true, decide_eq_true_eq, Bool.not_eq_true'] at h
      obtain ⟨⟨⟨⟨⟨h1, h2⟩, h3⟩, h4⟩, h5⟩, h6⟩ := h
      subst h1 h2
      have ha := (sE a nv l X n C W k h3).pe
      have hb := (sE b nv m X n C W k h4).pe
      have hd := (sE d nv r X n C W k h5).pe
      exact ⟨pe_chain' k.K k.hu ha hb hd h6, fun _ => pt_chain' k.K k.hu ha hb hd h6, fun _ _ _ z => nomatch z⟩
    · cases h
  | .and a b, nv, e, X, n, C, W, k, h => by
    simp only [isE] at h
    split at h
    · rename_i x y ys pos
      simp only [Bool.and_eq_true] at h
      obtain ⟨⟨⟨h1, h2⟩, h3⟩, h4⟩ := h
      have ha := sE a nv x X n C W k h1
      have hb : PE X (.BoolOp .And (y :: ys) pos) (tE T B W C b) ∧ PW X (.BoolOp .And (y :: ys) pos) (tT T B W C b) := by
        cases ys with
        | nil =>
          have q := sE b nv y X n C W k h4
          exact ⟨pe_one q.pe, pw_and1 (q.pt h3)⟩
        | cons z zs =>
          have q := sE b nv (.BoolOp .And (y :: z :: zs) pos) X n C W k h4
          exact ⟨q.pe, q.pw _ _ _ rfl⟩
      have w := pw_and' (ha.pt h2) hb.2
      exact ⟨pe_and' ha.pe hb.1, fun _ => w.pt, fun _ _ _ _ => w⟩
    · cases h
  | .or a b, nv, e, X, n, C, W, k, h => by
    simp only [isE] at h
    split at h
    · rename_i x y ys pos
      simp only [Bool.and_eq_true] at h
      obtain ⟨⟨⟨h1, h2⟩, h3⟩, h4⟩ := h
      have ha := sE a nv x X n C W k h1
      have hb : PE X (.BoolOp .Or (y :: ys) pos) (tE T B W C b) ∧ PW X (.BoolOp .Or (y :: ys) pos) (tT T B W C b) := by
        cases ys with
        | nil =>
          have q := sE b nv y X n C W k h4
          exact ⟨pe_one q.pe, pw_or1 (q.pt h3)⟩
        | cons z zs =>
          have q := sE b nv (.BoolOp .Or (y :: z :: zs) pos) X n C W k h4
          exact ⟨q.pe, q.pw _ _ _ rfl⟩
      have w := pw_or' (ha.pt h2) hb.2
      exact ⟨pe_or' ha.pe hb.1, fun _ => w.pt, fun _ _ _ _ => w⟩
    · cases h
  | .not a, nv, e, X, n, C, W, k, h => by
    simp only [isE] at h
    split at h
    · simp only [Bool.and_eq_true] at h
      have ha := sE a nv _ X n C W k h.1
      exact ⟨pe_not' ha.pe, fun _ => pt_not' (ha.pt h.2), fun _ _ _ z => nomatch z⟩
    · cases h
  | .ite c a b, nv, e, X, n, C, W, k, h => by
    simp only [isE] at h
    split at h
    · simp only [Bool.and_eq_true] at h
      obtain ⟨⟨⟨h1, h2⟩, h3⟩, h4⟩ := h
      exact ⟨pe_ite' ((sE c nv _ X n C W k h1).pt h2) (sE a nv _ X n C W k h3).pe (sE b nv _ X n C W k h4).pe, fun z => (Bool.false_ne_true z).elim, fun _ _ _ z => nomatch z⟩
    · cases h
  | .tup es, nv, e, X, n, C, W, k, h => by
    simp only [isE] at h
    split at h
    · exact Go.plain (pe_tup' (sEs es nv _ X n C W k h)) (fun _ => rfl) (fun _ _ _ z => nomatch z)
    · cases h
  | .lst o es, nv, e, X, n, C, W, k, h => by
    simp only [isE] at h
    split at h
    · exact Go.plain (pe_lst' (sEs es nv _ X n C W k h)) (fun _ => rfl) (fun _ _ _ z => nomatch z)
    · cases h
  | .ix a b, nv, e, X, n, C, W, k, h => by
    simp only [isE] at h
    split at h
    · simp only [Bool.and_eq_true] at h
      exact Go.plain (pe_ix' k.K (sE a nv _ X n C W k h.1.1).pe (sE b nv _ X n C W k h.1.2).pe (plain_ix h.2)) (fun _ => rfl) (fun _ _ _ z => nomatch z)
    · cases h
  | .sl o a lo hi, nv, e, X, n, C, W, k, h => by
    simp only [isE] at h
    split at h
    · simp only [Bool.and_eq_true] at h
      exact Go.plain (pe_sl' k.K (sE a nv _ X n C W k h.1.1).pe (sEO lo nv _ X n C W k h.1.2) (sEO hi nv _ X n C W k h.2)) (fun _ => rfl) (fun _ _ _ z => nomatch z)
    · cases h
  | .call f es, nv, e, X, n, C, W, k, h => by
    simp only [isE] at h
    split at h
    · rename_i x p y ys pos
      simp only [Bool.and_eq_true] at h
      obtain ⟨h0, ⟨⟨h1, h2⟩, h3⟩, h4⟩ := h
      have h0 := Bool.not_eq_true' _ ▸ h0
      obtain ⟨o1, o2, o3⟩ := okN_ok h2
      have hf : nv.G.lookup x = some (.fn f) := by
        unfold isFn at h3
        split at h3
        · rename_i j hj; rw [hj, of_decide_eq_true h3]
        · cases h3
      obtain ⟨fa, fd, ps, g1, g2, g3, g4⟩ := k.fns x f hf
      obtain ⟨q1, q2⟩ := sEs' es nv (y :: ys) X n C W k h4
      simp only [List.all_cons, Bool.and_eq_true] at q2
      exact Go.plain (pe_call' (k.hot.trans h0) k.call g4 (k.room h0) (k.gl h1) g1 g2 g3 k.tk q1 o1 (star_cons q2.1 _ _) (back_any q2.2)) (fun _ => rfl) (fun _ _ _ z => nomatch z)
    · rename_i x p pos
      simp only [Bool.and_eq_true] at h
      obtain ⟨h0, ⟨⟨h1, h2⟩, h3⟩, h4⟩ := h
      have h0 := Bool.not_eq_true' _ ▸ h0
      obtain ⟨o1, o2, o3⟩ := okN_ok h2
      have hf : nv.G.lookup x = some (.fn f) := by
        unfold isFn at h3
        split at h3
        · rename_i j hj; rw [hj, of_decide_eq_true h3]
        · cases h3
      obtain ⟨fa, fd, ps, g1, g2, g3, g4⟩ := k.fns x f hf
      cases es with
      | cons _ _ => cases h4
      | nil => exact Go.plain (pe_call0' (k.hot.trans h0) k.call g4 (k.room h0) (k.gl h1) g1 g2 g3 k.tk o1) (fun _ => rfl) (fun _ _ _ z => nomatch z)
    · cases h
  | .bi o b es, nv, e, X, n, C, W, k, h => by
    unfold isE at h
    split at h
    · rename_i x p y ys pos
      simp only [Bool.and_eq_true] at h
      obtain ⟨⟨h0, h1⟩, h2⟩ := h
      have h0 := Bool.not_eq_true' _ ▸ h0
      obtain ⟨g1, g2⟩ := k.bl h1
      refine Go.plain ?_ (fun _ => rfl) (fun _ _ _ z => nomatch z)
      split at h2
      · rename_i t ty ht
        obtain ⟨t1, t2, t3, t4⟩ := tyN_ok ht
        simp only [Bool.and_eq_true, decide_eq_true_eq] at h2
        obtain ⟨h2, h3⟩ := h2
        split at h3
        · rename_i z pz a
          simp only [Bool.and_eq_true, decide_eq_true_eq] at h3
          obtain ⟨⟨⟨h4, h5⟩, h6⟩, h7⟩ := h3
          subst h7 h2
          obtain ⟨b1, b2⟩ := k.bl h6
          exact pe_is' k.K (k.hot.trans h0) t1 g1 g2 b1 b2 t2 t3 t4 (sE a nv y X n C W k h4).pe (fun es => star_cons h5 es _)
        · cases h3
      · split at h2
        · rename_i nm v hb
          simp only [Bool.and_eq_true, decide_eq_true_eq] at h2
          obtain ⟨h2, h3⟩ := h2
          subst h2
          obtain ⟨b1, b2, b3, b4⟩ := biN_ok hb
          obtain ⟨q1, q2⟩ := sEs' es nv (y :: ys) X n C W k h3
          simp only [List.all_cons, Bool.and_eq_true] at q2
          cases v with
          | builtin id => exact pe_bi' k.K (k.hot.trans h0) (k.calm h0) b1 g1 g2 b2 q1 b3 b4 (star_cons q2.1 _ _) (back_any q2.2)
          | type id => exact pe_biT' k.K (k.hot.trans h0) (k.calm h0) b1 g1 g2 b2 q1 b3 b4 (star_cons q2.1 _ _) (back_any q2.2)
          | _ => nomatch b1
        · split at h2
          · simp only [Bool.and_eq_true, decide_eq_true_eq] at h2
            obtain ⟨⟨h2, h3⟩, h4⟩ := h2
            subst h2
            exact pe_so' k.K (k.hot.trans h0) g1 g2 (sE _ nv y X n C W k h3).pe (fun es => star_cons h4 es _)
          · simp only [Bool.and_eq_true, decide_eq_true_eq] at h2
            obtain ⟨h2, h3⟩ := h2
            subst h2
            split at h3
            · simp only [Bool.and_eq_true, decide_eq_true_eq] at h3
              obtain ⟨⟨⟨h3, h4⟩, h5⟩, h6⟩ := h3
              subst h3
              obtain ⟨w1, w2⟩ := k.bl h4
              exact pe_tr' k.K (k.hot.trans h0) (k.calm h0) g1 g2 w1 w2 (sE _ nv _ X n C W k h5).pe (fun es => star_cons h6 es _)
            · cases h3
          · simp only [Bool.and_eq_true, decide_eq_true_eq] at h2
            obtain ⟨h2, h3⟩ := h2
            subst h2
            split at h3
            · simp only [Bool.and_eq_true, decide_eq_true_eq] at h3
              obtain ⟨⟨⟨h3, h4⟩, h5⟩, h6⟩ := h3
              subst h3
              obtain ⟨w1, w2⟩ := k.bl h4
              exact pe_lrev' k.K (k.hot.trans h0) (k.calm h0) g1 g2 w1 w2 (sE _ nv _ X n C W k h5).pe (fun es => star_cons h6 es _)
            · cases h3
          · simp only [Bool.and_eq_true, decide_eq_true_eq] at h2
            obtain ⟨h2, h3⟩ := h2
            subst h2
            split at h3
            · simp only [Bool.and_eq_true, decide_eq_true_eq] at h3
              obtain ⟨⟨⟨h3, h4⟩, h5⟩, h6⟩ := h3
              subst h3
              obtain ⟨w1, w2⟩ := k.bl h4
              exact pe_lr' (k.hot.trans h0) (k.calm h0) g1 g2 w1 w2 (sE _ nv _ X n C W k h5).pe (fun es => star_cons h6 es _)
            · cases h3
          · simp only [Bool.and_eq_true, decide_eq_true_eq] at h2
            obtain ⟨h2, h3⟩ := h2
            subst h2
            split at h3
            · simp only [Bool.and_eq_true, decide_eq_true_eq] at h3
              obtain ⟨⟨⟨h3, h4⟩, h5⟩, h6⟩ := h3
              subst h3
              obtain ⟨w1, w2⟩ := k.bl h4
              exact pe_tg' (k.hot.trans h0) (k.calm h0) g1 g2 w1 w2 (sE _ nv _ X n C W k h5).pe (fun es => star_cons h6 es _)
            · cases h3
          · cases h2
    · rename_i x p y ys kk z pz kp pos
      simp only [Bool.and_eq_true, decide_eq_true_eq, Bool.not_eq_true'] at h
      obtain ⟨⟨⟨⟨⟨⟨⟨h0, h1⟩, h2⟩, h3⟩, h4⟩, h5⟩, h6⟩, h7⟩ := h
      subst h2 h3 h5
      obtain ⟨g1, g2⟩ := k.bl h1
      obtain ⟨g3, g4⟩ := k.bl h4
      obtain ⟨q1, q2⟩ := sEs' es nv (y :: ys) X n C W k h7
      simp only [List.all_cons, Bool.and_eq_true] at q2
      refine Go.plain ?_ (fun _ => rfl) (fun _ _ _ z => nomatch z)
      have hk : CallKey X (rL B (doBi o b)) := by
        cases b <;> first | (cases h6; done) | exact key1_ok k.K (k.calm h0) o | exact key2_ok k.K (k.calm h0) o
      exact pe_key' k.K (k.hot.trans h0) hk g1 g2 g3 g4 q1 (star_cons q2.1 _ _) (back_any q2.2)
    · rename_i x p y kk c q1 q2 kp pos
      simp only [Bool.and_eq_true, decide_eq_true_eq, Bool.not_eq_true'] at h
      obtain ⟨⟨⟨⟨h0, h1⟩, h2⟩, h3⟩, h4⟩ := h
      subst h2
      obtain ⟨g1, g2⟩ := k.bl h1
      refine Go.plain ?_ (fun _ => rfl) (fun _ _ _ z => nomatch z)
      split at h4
      · simp only [Bool.and_eq_true, decide_eq_true_eq] at h4
        obtain ⟨⟨h5, h6⟩, h7⟩ := h4
        subst h5
        exact pe_minD k.K (k.hot.trans h0) (k.calm h0) h6 g1 g2 (sE _ nv y X n C W k h7).pe (star_cons h3 _ _)
      · simp only [Bool.and_eq_true, decide_eq_true_eq] at h4
        obtain ⟨⟨h5, h6⟩, h7⟩ := h4
        subst h5
        exact pe_maxD k.K (k.hot.trans h0) (k.calm h0) h6 g1 g2 (sE _ nv y X n C W k h7).pe (star_cons h3 _ _)
      · cases h4
    · cases h
  | .mt o m a es, nv, e, X, n, C, W, k, h => by
    unfold isE at h
    split at h
    · rename_i oe x ap ys cp
      simp only [Bool.and_eq_true, Bool.not_eq_true'] at h
      obtain ⟨⟨⟨⟨⟨h0, h1⟩, h2⟩, h3⟩, h4⟩, h5⟩ := h
      have ha := (sE a nv oe X n C W k h1).pe
      split at h4
      · rename_i nm id hm
        have hx : x = nm := of_decide_eq_true h4
        subst hx
        have hb : attributeBase oe x X.env (eval oe X.env) = eval oe X.env := by cases oe <;> first | rfl | cases h2
        refine Go.plain ?_ (fun _ => rfl) (fun _ _ _ z => nomatch z)
        split at h5
        · exact pe_mt0' k.K (k.hot.trans h0) hm ha hb h3
        · rename_i es' y
          obtain ⟨q1, q2⟩ := sEs' _ nv [y] X n C W k h5
          simp only [List.all_cons, List.all_nil, Bool.and_true] at q2
          exact pe_mt' k.K (k.hot.trans h0) hm ha q1 hb h3 (star_cons q2 _ _) (by rfl) (by rw [star_cons q2]; rfl)
        · rename_i es' y z
          obtain ⟨q1, q2⟩ := sEs' _ nv [y, z] X n C W k h5
          simp only [List.all_cons, List.all_nil, Bool.and_true, Bool.and_eq_true] at q2
          exact pe_mt' k.K (k.hot.trans h0) hm ha q1 hb h3 (star_cons q2.1 _ _) (by rw [star_cons q2.2]; rfl) (by rw [star_cons q2.1, star_cons q2.2]; rfl)
        · cases h5
      · rename_i hm0
        split at h4
        · rename_i nm id hm
          have hx : x = nm := of_decide_eq_true h4
          subst hx
          have hb : attributeBase oe x X.env (eval oe X.env) = eval oe X.env := by cases oe <;> first | rfl | cases h2
          refine Go.plain ?_ (fun _ => rfl) (fun _ _ _ z => nomatch z)
          split at h5
          · exact pe_mtS0' k.K (k.hot.trans h0) hm ha hb h3
          · rename_i es' y
            obtain ⟨q1, q2⟩ := sEs' _ nv [y] X n C W k h5
            simp only [List.all_cons, List.all_nil, Bool.and_true] at q2
            exact pe_mtS' k.K (k.hot.trans h0) hm ha q1 hb h3 (star_cons q2 _ _) (by rfl) (by rw [star_cons q2]; rfl)
          · rename_i es' y z
            obtain ⟨q1, q2⟩ := sEs' _ nv [y, z] X n C W k h5
            simp only [List.all_cons, List.all_nil, Bool.and_true, Bool.and_eq_true] at q2
            exact pe_mtS' k.K (k.hot.trans h0) hm ha q1 hb h3 (star_cons q2.1 _ _) (by rw [star_cons q2.2]; rfl) (by rw [star_cons q2.1, star_cons q2.2]; rfl)
          · cases h5
        · cases h4
    · cases h
  | .lc o elt tg it c, nv, e, X, n, C, W, k, h => by
    unfold isE at h
    split at h
    · rename_i x t i ifs scope pos
      simp only [Bool.and_eq_true] at h
      obtain ⟨⟨⟨⟨⟨⟨⟨hh, h0⟩, h1⟩, h2⟩, h3⟩, h4⟩, h5⟩, h6⟩ := h
      have hh := Bool.not_eq_true' _ ▸ hh
      refine Go.plain (pe_lc' (own := ownOf nv tg) (k.hot.trans hh) (k.calm hh) k.nd (sIt it nv i t X n C W k h3) (by rw [k.hN, k.sc]; exact blkOk_by h1) (by simp [ownOf, Function.comp_def]) (fun s H Ce cl fp => (k.blk hh s H Ce cl fp).tg h2)
        (fun s H Ce cl fp => ?_) (fun s H Ce cl fp => (sE elt (blkNv nv scope) x _ n C W0 (k.blk hh s H Ce cl fp) h5).pe) (noSet_ok h4)) (fun _ => rfl) (fun _ _ _ z => nomatch z)
      split at h6
      · exact pts_none'
      · rename_i c y
        simp only [Bool.and_eq_true] at h6
        exact pts_some' ((sE c (blkNv nv scope) y _ n C W0 (k.blk hh s H Ce cl fp) h6.1).pt h6.2)
      · cases h6
    · cases h
  | .fld _ _, nv, e, X, n, C, W, k, h => by unfold isE at h; cases h
  | .isx i cs, nv, e, X, n, C, W, k, h => by
    unfold isE at h
    split at h
    · rename_i f pf x px z pos
      simp only [Bool.and_eq_true, decide_eq_true_eq] at h
      obtain ⟨⟨⟨⟨⟨⟨h0, h1⟩, h2⟩, h3⟩, h4⟩, h5⟩, h6⟩ := h
      subst h2
      obtain ⟨g1, g2⟩ := k.bl h1
      obtain ⟨o1, o2, o3⟩ := okN_ok h5
      have ex := k.ex h0
      have hv : PE X (.Name x px) (tVar i) := pe_var (by rw [k.hN]; exact h3) (by rw [k.sc]; exact vis_ok h4) o1 o2
      have one : ∀ (kk : Nat) (z : Expr), isC nv kk z = true → PE X z (tC (clvOf T kk)) ∧ kk < T.na ∧ ∀ es, starEach (z :: es) X.env = (false, eval z X.env) :: starEach es X.env := by
        intro kk z hz
        unfold isC at hz
        split at hz
        · rename_i y py
          simp only [Bool.and_eq_true] at hz
          obtain ⟨⟨z1, z2⟩, z3⟩ := hz
          obtain ⟨w1, w2, w3⟩ := okN_ok z2
          have hl : nv.G.lookup y = some (.cls kk) ∨ nv.G.lookup y = some (.bc kk) := by
            split at z3
            · rename_i j hj; rw [of_decide_eq_true z3]; exact .inl hj
            · rename_i j hj; rw [of_decide_eq_true z3]; exact .inr hj
            · cases z3
          obtain ⟨v1, v2⟩ := k.cname (py := py) (k.gl z1) w1 w3 hl
          exact ⟨v2, v1, fun es => rfl⟩
        · cases hz
      refine Go.plain ?_ (fun _ => rfl) (fun _ _ _ z => nomatch z)
      split at h6
      · rename_i zs kk2 tp
        simp only [Bool.and_eq_true, decide_eq_true_eq] at h6
        have cl : ∀ (ks : List Nat) (zs : List Expr), isCs nv ks zs = true → Clss X (clvOf T) T.na zs ks := by
          intro ks
          induction ks with
          | nil => intro zs hz; cases zs with
            | nil => exact .nil
            | cons _ _ => simp [isCs] at hz
          | cons q qs ih => intro zs hz; cases zs with
            | nil => simp [isCs] at hz
            | cons y ys =>
              simp only [isCs, Bool.and_eq_true] at hz
              obtain ⟨v1, v2, v3⟩ := one q y hz.1
              exact .cons v1 v2 v3 (ih ys hz.2)
        exact pe_isxT k.sub ex g1 g2 hv (cl _ _ h6.1) h6.2 (fun es => rfl)
      · split at h6
        · obtain ⟨v1, v2, v3⟩ := one _ _ h6
          exact pe_isx1 k.sub ex g1 g2 hv v1 v2 (fun es => rfl) v3
        · cases h6
    · cases h
theorem sEs : ∀ (c : Es) (nv : Nv) (e : List Expr) (X : L2.Cx) (n : Nat) (C : Cx) (W : WX), Ct T B X nv n C W → isEs c nv e = true → PA X e (tEs T B W C c)
  | c, nv, e, X, n, C, W, k, h => (sEs' c nv e X n C W k h).1
theorem sEs' : ∀ (c : Es) (nv : Nv) (e : List Expr) (X : L2.Cx) (n : Nat) (C : Cx) (W : WX), Ct T B X nv n C W → isEs c nv e = true → PA X e (tEs T B W C c) ∧ e.all plainE = true
  | .nil, nv, e, X, n, C, W, k, h => by
    simp only [isEs, List.isEmpty_iff] at h
    subst h
    exact ⟨pa_nil', rfl⟩
  | .cons a es, nv, e, X, n, C, W, k, h => by
    simp only [isEs] at h
    split at h
    · rename_i y ys
      simp only [Bool.and_eq_true] at h
      obtain ⟨⟨h1, h2⟩, h3⟩ := h
      obtain ⟨q1, q2⟩ := sEs' es nv ys X n C W k h3
      exact ⟨pa_cons' (sE a nv y X n C W k h1).pe q1 (star_cons h2 _ _), by simp [h2, q2]⟩
    · cases h
theorem sEO : ∀ (c : EO) (nv : Nv) (e : Option Expr) (X : L2.Cx) (n : Nat) (C : Cx) (W : WX), Ct T B X nv n C W → isEO c nv e = true → PO X e (tEO T B W C c)
  | .none, nv, e, X, n, C, W, k, h => by
    simp only [isEO, Option.isNone_iff_eq_none] at h
    subst h
    exact po_none'
  | .some a, nv, e, X, n, C, W, k, h => by
    simp only [isEO] at h
    split at h
    · exact po_some' (sE a nv _ X n C W k h).pe
    · cases h
theorem sIt : ∀ (c : It) (nv : Nv) (e tg : Expr) (X : L2.Cx) (n : Nat) (C : Cx) (W : WX), Ct T B X nv n C W → isIt c nv tg e = true → PI X tg e (tIt T B W C c)
  | .val a, nv, e, tg, X, n, C, W, k, h => by
    simp only [isIt] at h
    exact pi_val' k.K (sE a nv e X n C W k h).pe
  | .range1 a, nv, e, tg, X, n, C, W, k, h => by
    simp only [isIt] at h
    split at h
    · simp only [Bool.and_eq_true, decide_eq_true_eq] at h
      obtain ⟨⟨⟨h1, h2⟩, h3⟩, h4⟩ := h
      subst h1
      obtain ⟨g1, g2⟩ := k.bl h2
      exact pi_r1' g1 g2 (sE a nv _ X n C W k h3).pe (fun es => star_cons h4 es _)
    · cases h
  | .range2 a b, nv, e, tg, X, n, C, W, k, h => by
    simp only [isIt] at h
    split at h
    · simp only [Bool.and_eq_true, decide_eq_true_eq] at h
      obtain ⟨⟨⟨⟨⟨h1, h2⟩, h3⟩, h4⟩, h5⟩, h6⟩ := h
      subst h1
      obtain ⟨g1, g2⟩ := k.bl h2
      exact pi_r2' g1 g2 (sE a nv _ X n C W k h3).pe (sE b nv _ X n C W k h5).pe (fun es => star_cons h4 es _) (fun es => star_cons h6 es _)
    · cases h
  | .range3 a b c, nv, e, tg, X, n, C, W, k, h => by
    simp only [isIt] at h
    split at h
    · simp only [Bool.and_eq_true, decide_eq_true_eq] at h
      obtain ⟨⟨⟨⟨⟨⟨⟨h1, h2⟩, h3⟩, h4⟩, h5⟩, h6⟩, h7⟩, h8⟩ := h
      subst h1
      obtain ⟨g1, g2⟩ := k.bl h2
      exact pi_r3' g1 g2 (sE a nv _ X n C W k h3).pe (sE b nv _ X n C W k h5).pe (sE c nv _ X n C W k h7).pe (fun es => star_cons h4 es _) (fun es => star_cons h6 es _) (fun es => star_cons h8 es _)
    · cases h
  | .rev a, nv, e, tg, X, n, C, W, k, h => by
    simp only [isIt] at h
    split at h
    · simp only [Bool.and_eq_true, decide_eq_true_eq] at h
      obtain ⟨⟨⟨h1, h2⟩, h3⟩, h4⟩ := h
      subst h1
      obtain ⟨g1, g2⟩ := k.bl h2
      exact pi_rev' k.K g1 g2 (sE a nv _ X n C W k h3).pe (fun es => star_cons h4 es _)
    · cases h
  | .revrange a, nv, e, tg, X, n, C, W, k, h => by
    simp only [isIt] at h
    split at h
    · simp only [Bool.and_eq_true, decide_eq_true_eq] at h
      obtain ⟨⟨⟨⟨⟨h1, h2⟩, h3⟩, h4⟩, h5⟩, h6⟩ := h
      subst h1 h3
      obtain ⟨g1, g2⟩ := k.bl h2
      obtain ⟨w1, w2⟩ := k.bl h4
      exact pi_rr' g1 g2 w1 w2 (sE a nv _ X n C W k h5).pe (fun es => star_cons h6 es _)
    · cases h
  | .zip a b, nv, e, tg, X, n, C, W, k, h => by
    simp only [isIt, Bool.and_eq_true] at h
    obtain ⟨ht, h⟩ := h
    cases tg <;> first | (simp [isTupE] at ht; done) | skip
    · split at h
      · simp only [Bool.and_eq_true, decide_eq_true_eq] at h
        obtain ⟨⟨⟨⟨⟨h1, h2⟩, h3⟩, h4⟩, h5⟩, h6⟩ := h
        subst h1
        obtain ⟨g1, g2⟩ := k.bl h2
        exact pi_zip' k.K g1 g2 (sE a nv _ X n C W k h3).pe (sE b nv _ X n C W k h5).pe (fun es => star_cons h4 es _) (fun es => star_cons h6 es _)
      · cases h
  | .enum a, nv, e, tg, X, n, C, W, k, h => by
    simp only [isIt, Bool.and_eq_true] at h
    obtain ⟨ht, h⟩ := h
    cases tg <;> first | (simp [isTupE] at ht; done) | skip
    · split at h
      · simp only [Bool.and_eq_true, decide_eq_true_eq] at h
        obtain ⟨⟨⟨h1, h2⟩, h3⟩, h4⟩ := h
        subst h1
        obtain ⟨g1, g2⟩ := k.bl h2
        exact pi_enum' k.K g1 g2 (sE a nv _ X n C W k h3).pe (fun es => star_cons h4 es _)
      · cases h
end
end
end SL
namespace SL
open PySem PySem.Spec PyProof.Rows L2
section
variable {T : Tb} {B : Bs} {X : L2.Cx} {W : WX} {C : Cx} {nv : Nv} {n : Nat} {pos p2 : Pos} {e : Expr} {a b d : E}
def swB (sc scope : Scope) (y : Str) (py pv : Pos) : Bool :=
  decide (sc.names.lookup y = some .local) && (py.line == pv.line) && !(scope.names.any fun q => q.1 == y && (q.2 == .local || q.2 == .cell))
theorem sw_eq {elt : Expr} {gs : List Comprehension} {scope : Scope} {pv py : Pos} {y : Str} {l : Nat} {env : Env} (hk : env.scope.kind = .function) :
    swapsWith (.ListComp elt gs scope pv) (some (.Name y py)) l env = pure (swB env.scope scope y py pv) := by
  have hb : env.blockKind = .function := by unfold Env.blockKind; rw [hk]; rfl
  have h1 : (env.kindOf y == some NameKind.local) = decide (env.scope.names.lookup y = some .local) := by
    show (env.scope.names.lookup y == some NameKind.local) = _
    cases env.scope.names.lookup y with
    | none => rfl
    | some k => cases k <;> rfl
  unfold swapsWith swB
  simp only [hb, Expr.pos, h1]
  rfl
theorem lcs_ok (k : Ct T B X nv n C W) {i : Nat} {y : Str} {py : Pos} {o : Bool} {elt : E} {tg : Tg} {it : It} {c : EO} {x t ie : Expr} {ifs : List Expr} {scope : Scope} (h : isE (.lc o elt tg it c) nv (.ListComp x [⟨t, ie, ifs, 0⟩] scope p2) = true)
    (hy : X.N[i]? = some y) (hyl : X.env.scope.names.lookup y = some .local) (hsw : swapsWith (.ListComp x [⟨t, ie, ifs, 0⟩] scope p2) (some (.Name y py)) pos.line X.env = pure true) :
    PS X (.Assign [.Name y py] (.ListComp x [⟨t, ie, ifs, 0⟩] scope p2) pos) (tS T B W C (.asg (.name i) (.lc o elt tg it c))) := by
  unfold isE at h
  simp only [Bool.and_eq_true] at h
  obtain ⟨⟨⟨⟨⟨⟨⟨hh, h0⟩, h1⟩, h2⟩, h3⟩, h4⟩, h5⟩, h6⟩ := h
  have hh := Bool.not_eq_true' _ ▸ hh
  refine ps_lcset' (own := ownOf nv tg) (k.hot.trans hh) (k.calm hh) k.nd hy hyl hsw (sIt it nv ie t X n C W k h3) (by rw [k.hN, k.sc]; exact blkOk_by h1) (by simp [ownOf, Function.comp_def]) (fun s H Ce cl fp => (k.blk hh s H Ce cl fp).tg h2)
    (fun s H Ce cl fp => ?_) (fun s H Ce cl fp => (sE elt (blkNv nv scope) x _ n C W0 (k.blk hh s H Ce cl fp) h5).pe) (noSet_ok h4)
  split at h6
  · exact pts_none'
  · rename_i c y'
    simp only [Bool.and_eq_true] at h6
    exact pts_some' ((sE c (blkNv nv scope) y' _ n C W0 (k.blk hh s H Ce cl fp) h6.1).pt h6.2)
  · cases h6
/-- o[i] = e -/
theorem ps_set' {o ie : Expr} {p3 : Pos} (hpi : SL.plainIx ie = true) (he : PE X e (tE T B W C a)) (ho : PE X o (tE T B W C b)) (hi : PE X ie (tE T B W C d)) (hs : swapsWithSole [.Subscript o ie p3] e pos.line X.env = pure false) (hw : swappedStores [.Subscript o ie p3] e X.env = pure none) :
    PS X (.Assign [.Subscript o ie p3] e pos) (tS T B W C (.set b d a)) := by
  refine PS.imp (ps_asg he (pg_sub ho hi set_list (fun v => by cases ie <;> first | rfl | cases hpi)) hs hw) fun D τ H ⟨μ, F, S, σ, rl, sl, h⟩ => ?_
  simp only [evS] at h
  refine tE.go rl sl (lift_post sl h) fun x S1 μ1 F1 H1 v rl1 sl1 e1 p1 rd => ?_
  refine tE.go rl1 sl1 (lift_post sl1 p1) fun y S2 μ2 F2 H2 u rl2 sl2 e2 p2 ro => ?_
  refine tE.go rl2 sl2 (lift_post sl2 p2) fun z S3 μ3 F3 H3 w rl3 sl3 e3 p3 ri => ?_
  have ro3 := ro.mono e3
  have rd3 := (rd.mono e2).mono e3
  split at p3
  · rename_i j ds kk hl
    cases ri
    obtain ⟨ad, vs, rfl, hm, ha, hdd, q⟩ := lstAt_ok rl3 ro3 hl
    split at p3
    · rename_i m hm2
      obtain ⟨ee, rr⟩ := put rl3 hm ha hdd (q.set rd3 m)
      exact ⟨ad, vs, kk, m, rfl, rfl, ha, by rw [← q.length]; exact hm2, get2 p3 rfl _ _ _ ee rr _ (sl3.mono ee)⟩
    · exact p3.elim
  · exact p3.elim
/-- x += e, x -= e -/
theorem ps_aug' {i : Nat} {x : Str} {px : Pos} {p : Op} (hp : p = .add ∨ p = .sub) (hN : X.N.Nodup) (hi : X.N[i]? = some x) (hx : Loc X.env.scope x) (hf : X.fn x = true ∨ X.env.scope.names.lookup x = some .local) (he : PE X e (tE T B W C a)) :
    PS X (.AugAssign (.Name x px) (opP p) e pos) (tS T B W C (.aug i p a)) := by
  have main : ∀ {ti : TIp}, PIp X (opP p) ti → (∀ (a b : Int) (z : Int) H Q, intOp p a b = some z → Q (V.int z) H → ti (.int a) (.int b) H Q) → PS X (.AugAssign (.Name x px) (opP p) e pos) (tS T B W C (.aug i p a)) := by
    intro ti hti hq
    refine PS.imp (ps_aug hN hi hx he hti hf) fun D τ H ⟨μ, F, S, σ, rl, sl, h⟩ => ?_
    simp only [evS] at h
    cases hs : σ[i]? with
    | none => rw [hs] at h; exact h.elim
    | some ov =>
      cases ov with
      | none => rw [hs] at h; exact h.elim
      | some dv =>
        rw [hs] at h
        obtain ⟨v, hv, rv⟩ := sl.2 i dv hs
        refine ⟨v, hv, ?_⟩
        refine tE.go rl sl (lift_post sl h) fun y S1 μ1 F1 H1 w rl1 sl1 e1 p1 ry => ?_
        cases dv <;> first | exact p1.elim | skip
        cases ry <;> first | exact p1.elim | skip
        rename_i ia ib
        cases (show Rep B μ F H (.int ia) v from rv)
        simp only at p1
        cases ho : intOp p ia ib with
        | none => rw [ho] at p1; exact p1.elim
        | some z =>
          rw [ho] at p1
          simp only [okO, Res.bind_ok, if_pos hp] at p1
          exact hq ia ib z H1 _ ho (get2 p1 rfl _ _ _ (Ext.refl _ _ _) rl1 _ (sl1.set (.int z) i))
  rcases hp with rfl | rfl
  · exact main ip_add fun a b z H Q h q => by cases h; exact ⟨a, b, rfl, rfl, q⟩
  · exact main ip_sub fun a b z H Q h q => by cases h; exact ⟨a, b, rfl, rfl, q⟩

/-- the statements' check -/
structure Cs (T : Tb) (X : L2.Cx) (nv : Nv) : Prop where
  kind : nv.hot = false → X.env.scope.kind = .function
  hs : nv.hot = false → X.stack = X.env :: X.outer
  hf : nv.hot = false → X.env.frame = some X.env.locals
  rz : nv.hot = false → ∀ x i, nv.G.lookup x = some (.cls i) → i < T.nc ∧ ∃ Ca, X.mg x = some (.ref Ca) ∧ T.cl i = .ref Ca ∧ PySem.W.keepIn X.K (.ref Ca) = true ∧ Raises X (.ref Ca) ∧ PySem.W.excIn X.K Ca He.veBase "ValueError.__new__" = true
  exm : ∀ i j, i < T.nc → j < T.nc → PySem.W.exmOne X.K (T.cl i) (T.cl j) = some (T.P.sub i j)
  kit : ∀ i j, i < T.nc → j < T.na → PySem.W.kitOne X.K (T.cl i) (T.cl j) = some (T.P.sub i j)
  ecl : ∀ i, i < T.nc → ∃ Da, T.cl i = .ref Da ∧ ExcC X.K Da
theorem Cs.tr {X : L2.Cx} {nv : Nv} (s : Cs T X nv) (pn : List (Addr × Obj)) (xe : Value → Shared → Prop) : Cs T (X.tr pn xe) nv := ⟨s.kind, s.hs, s.hf, s.rz, s.exm, s.kit, s.ecl⟩
end
end SL
namespace SL
open PySem PySem.Spec PyProof.Rows L2
/-! ### the statements' check -/
def ssN : Ss → Bool | .nil => true | _ => false
def isCls (nv : Nv) (x : Str) (i : Nat) : Bool := match nv.G.lookup x with | some (.cls j) => decide (i = j) | _ => false
def kindF (sc : Scope) : Bool := match sc.kind with | .function => true | _ => false
def hd1 : Hs → Option (Nat × Nat)
  | .cons k (some i) _ .nil => some (k, i)
  | _ => none
mutual
def isS : St → Nv → Stmt → Bool
  | .asg tg e, nv, s => match s with
    | .Assign [t] v pos => isTg nv tg t && isE e nv v && (match v with
        | .ListComp _ [⟨_, _, _, 0⟩] scope pv => kindF nv.sc && !nv.hot && (match t, tg with
            | .Name y py, .name i => (match e with | .lc .. => true | _ => !swB nv.sc scope y py pv)
            | _, _ => false)
        | v => noComp v && (match t with | .Name _ _ => true | _ => noTup v))
    | _ => false
  | .set a i e, nv, s => match s with
    | .Assign [.Subscript o ix _] v _ => isE e nv v && isE a nv o && isE i nv ix && plainIx ix && noComp v
    | _ => false
  | .aug i p e, nv, s => match s with
    | .AugAssign (.Name x _) o v _ => decide (o = opP p) && decide (p = .add ∨ p = .sub) && decide (nv.N[i]? = some x) && locB nv x && isE e nv v
    | _ => false
  | .expr e, nv, s => match s with | .Expr v _ => isE e nv v && noComp v | _ => false
  | .ret e, nv, s => match s with | .Return (some v) _ => isE e nv v | _ => false
  | .retN, nv, s => match s with | .Return none _ => true | _ => false
  | .ite c a b, nv, s => match s with | .If t x y _ => isE c nv t && tstOk t && isSs a nv x && isSs b nv y | _ => false
  | .for_ tg it b, nv, s => match s with | .For t x body [] _ => !nv.hot && isTg nv tg t && isIt it nv t x && noSet x && isSs b nv body | _ => false
  | .while_ c b, nv, s => match s with | .While t body [] _ => !nv.hot && isE c nv t && tstOk t && isSs b nv body | _ => false
  | .raise_ c fs, nv, s => match s with
    | .Raise (some (.Call (.Name x _) [.Constant (.str _) _ _] [] _)) none _ => !nv.hot && glB nv.sc x && okN x && isCls nv x c && (match fs with | .nil => true | _ => false)
    | _ => false
  | .try_ b hs o, nv, s => match s with
    | .Try body [.ExceptHandler (some (.Name x _)) (some nm) (s0 :: ss) _] [] [] _ => !nv.hot && ssN o && isSs b nv body && (match hd1 hs with
      | some (k, i) => decide (nv.N[i]? = some nm) && decide (nv.sc.names.lookup nm = some .local) && glB nv.sc x && okN x && isCls nv x k && isHb hs { nv with hot := true } (s0 :: ss)
      | none => false)
    | .Try body (h :: hds) [] [] _ => !nv.hot && ssN o && isSs b nv body && isHs hs nv (h :: hds)
    | _ => false
  | .pass, nv, s => match s with | .Pass _ => true | _ => false
  | .brk, nv, s => match s with | .Break _ => true | _ => false
  | .cont, nv, s => match s with | .Continue _ => true | _ => false
  | .never, _, _ => true
def isSs : Ss → Nv → List Stmt → Bool
  | .nil, _, l => l.isEmpty
  | .cons s ss, nv, l => match l with | x :: xs => isS s nv x && isSs ss nv xs | [] => false
def isHb : Hs → Nv → List Stmt → Bool
  | .nil, _, _ => false
  | .cons _ _ b _, nv, l => isSs b nv l
def isHs : Hs → Nv → List ExceptHandler → Bool
  | .nil, _, l => l.isEmpty
  | .cons k nm b hs, nv, l => match l with
    | .ExceptHandler (some (.Name x _)) none (s :: ss) _ :: r => nm.isNone && glB nv.sc x && okN x && isCls nv x k && isSs b { nv with hot := true } (s :: ss) && isHs hs nv r
    | _ => false
end
def hb : Hs → Ss | .nil => .nil | .cons _ _ b _ => b
theorem hd1_ok {hs : Hs} {k i : Nat} (h : hd1 hs = some (k, i)) : ∃ cb, hs = .cons k (some i) cb .nil := by
  unfold hd1 at h
  split at h
  · cases h; exact ⟨_, rfl⟩
  · cases h
theorem isS_try {b : Ss} {hs : Hs} {o : Ss} {nv : Nv} {st : Stmt} (h : isS (.try_ b hs o) nv st = true) : nv.hot = false ∧ o = .nil ∧
    ((∃ body x np nm s0 ss pos' pos kc i cb, st = .Try body [.ExceptHandler (some (.Name x np)) (some nm) (s0 :: ss) pos'] [] [] pos ∧ hs = .cons kc (some i) cb .nil ∧ isSs b nv body = true ∧ nv.N[i]? = some nm ∧ nv.sc.names.lookup nm = some .local ∧ glB nv.sc x = true ∧ okN x = true ∧ isCls nv x kc = true ∧ isSs cb { nv with hot := true } (s0 :: ss) = true) ∨
      ∃ body h0 hds pos, st = .Try body (h0 :: hds) [] [] pos ∧ isSs b nv body = true ∧ isHs hs nv (h0 :: hds) = true) := by
  simp only [isS] at h
  split at h
  · rename_i body x np nm s0 ss pos' pos
    simp only [Bool.and_eq_true, Bool.not_eq_true'] at h
    obtain ⟨⟨⟨h0, h1⟩, h2⟩, h3⟩ := h
    refine ⟨h0, (by cases o <;> first | rfl | cases h1), .inl ?_⟩
    split at h3
    · rename_i kc i hq
      simp only [Bool.and_eq_true, decide_eq_true_eq] at h3
      obtain ⟨⟨⟨⟨⟨g1, g2⟩, g3⟩, g4⟩, g5⟩, g6⟩ := h3
      obtain ⟨cb, rfl⟩ := hd1_ok hq
      have g6 : isSs cb { nv with hot := true } (s0 :: ss) = true := by simpa only [isHb] using g6
      exact ⟨body, x, np, nm, s0, ss, pos', pos, kc, i, cb, rfl, rfl, h2, g1, g2, g3, g4, g5, g6⟩
    · cases h3
  · rename_i body h0' hds pos _
    simp only [Bool.and_eq_true, Bool.not_eq_true'] at h
    obtain ⟨⟨⟨h0, h1⟩, h2⟩, h3⟩ := h
    exact ⟨h0, (by cases o <;> first | rfl | cases h1), .inr ⟨body, _, hds, pos, rfl, h2, h3⟩⟩
  · cases h
theorem sole_eq (t v : Expr) (l : Nat) (env : Env) : swapsWithSole [t] v l env = swapsWith v (some t) l env := rfl
/-! ### casts -/
section
variable {B B' : Bs} {μ : List Ad} {F : Fz} {H : Hp}
mutual
theorem Rep.cast (e : B.K = B'.K) : ∀ {d : D} {v : V}, Rep B μ F H d v → Rep B' μ F H d v
  | _, _, .non => .non
  | _, _, .bl b => .bl b
  | _, _, .int i => .int i
  | _, _, .str x => .str x
  | _, _, .tup h r => .tup (e ▸ h) (Reps.cast e r)
  | _, _, .vl f h r => .vl f h (Reps.cast e r)
  | _, _, .vs h r => .vs (e ▸ h) (Reps.cast e r)
  | _, _, .ref h => .ref h
theorem Reps.cast (e : B.K = B'.K) : ∀ {ds : List D} {vs : List V}, Reps B μ F H ds vs → Reps B' μ F H ds vs
  | _, _, .nil => .nil
  | _, _, .cons r t => .cons (Rep.cast e r) (Reps.cast e t)
end
theorem Rl.cast (e : B.K = B'.K) {S : Store} (r : Rl B μ F H S) : Rl B' μ F H S :=
  ⟨r.len, r.nd, r.nf, r.fl, fun i a c h1 h2 => by
    have h := r.cell i a c h1 h2
    cases c with
    | lst ds => obtain ⟨vs, h3, h4⟩ := h; exact ⟨vs, h3, h4.cast e⟩
    | dic _ => exact h
    | dead => exact h⟩
theorem PostG.cast {α : Type} {W : WG} {r : Res α} {G : α → Store → List Ad → Fz → Hp → Prop} (e : B.K = B'.K) (h : PostG B W μ F H r G) : PostG B' W μ F H r G := by
  cases r with
  | ok a S => exact fun μ' F' H' ee rr => h μ' F' H' ee (rr.cast e.symm)
  | exc c fs S => exact fun μ' F' H' ee rr => h μ' F' H' ee (rr.cast e.symm)
  | stuck => exact h
theorem spF_cast {T : Tb} {n i : Nat} {vs : List V} {Q : VK} {E : XK} (e : B'.K = B.K) (h : spF T B' n i vs H Q E) : spF T B n i vs H Q E := by
  obtain ⟨μ, F, S, ds, rl, q, z⟩ := h
  refine ⟨μ, F, S, ds, rl.cast e, q.cast e, (PostG.cast e z).imp fun d S1 μ1 F1 H1 _ _ _ k v rv => k v (rv.cast e.symm)⟩
/-- what a clause holds -/
def Bs.put (B : Bs) (i c : Nat) (fs : List D) (a : Ad) : Bs := ⟨B.K, fun j c' fs' v => j = i ∧ c' = c ∧ fs' = fs ∧ v = .ref a⟩
theorem RepX.cast {i j c : Nat} {fs : List D} {a : Ad} {d : D} {v : V} (ne : j ≠ i) (h : RepX (B.put i c fs a) μ F H j d v) : RepX B μ F H j d v := by
  cases d with
  | exn c' fs' => exact absurd h.1 ne
  | non => exact RepX.of (Rep.cast (B := B.put i c fs a) (B' := B) (d := .non) rfl h)
  | bl b => exact RepX.of (Rep.cast (B := B.put i c fs a) (B' := B) (d := .bl b) rfl h)
  | int b => exact RepX.of (Rep.cast (B := B.put i c fs a) (B' := B) (d := .int b) rfl h)
  | str b => exact RepX.of (Rep.cast (B := B.put i c fs a) (B' := B) (d := .str b) rfl h)
  | tup b => exact RepX.of (Rep.cast (B := B.put i c fs a) (B' := B) (d := .tup b) rfl h)
  | vl b => exact RepX.of (Rep.cast (B := B.put i c fs a) (B' := B) (d := .vl b) rfl h)
  | sc b => exact RepX.of (Rep.cast (B := B.put i c fs a) (B' := B) (d := .sc b) rfl h)
  | ref b => exact RepX.of (Rep.cast (B := B.put i c fs a) (B' := B) (d := .ref b) rfl h)
theorem Rl.putC {i c : Nat} {fs : List D} {a : Ad} {S : Store} (r : Rl B μ F H S) : Rl (B.put i c fs a) μ F H S := Rl.cast (B := B) (B' := B.put i c fs a) rfl r
theorem Rl.unputC {i c : Nat} {fs : List D} {a : Ad} {S : Store} (r : Rl (B.put i c fs a) μ F H S) : Rl B μ F H S := Rl.cast (B := B.put i c fs a) (B' := B) rfl r
theorem Rep.putC {i c : Nat} {fs : List D} {a : Ad} {d : D} {v : V} (r : Rep B μ F H d v) : Rep (B.put i c fs a) μ F H d v := Rep.cast (B := B) (B' := B.put i c fs a) rfl r
theorem Rep.unputC {i c : Nat} {fs : List D} {a : Ad} {d : D} {v : V} (r : Rep (B.put i c fs a) μ F H d v) : Rep B μ F H d v := Rep.cast (B := B.put i c fs a) (B' := B) rfl r
theorem Sl.unput {i c : Nat} {fs : List D} {a : Ad} {σ : Slots} {τ : L2.St} (h : Sl (B.put i c fs a) μ F H σ τ) : Sl B μ F H (σ.set i none) (τ.set i none) := by
  refine ⟨by simp [h.1], fun j d q => ?_⟩
  by_cases hj : j = i
  · subst hj
    rw [List.getElem?_set] at q
    simp only [if_true] at q
    split at q <;> cases q
  · rw [List.getElem?_set_ne (Ne.symm hj)] at q
    obtain ⟨v, h1, h2⟩ := h.2 j d q
    exact ⟨v, by rw [List.getElem?_set_ne (Ne.symm hj)]; exact h1, h2.cast hj⟩
theorem Sl.put {i c : Nat} {fs : List D} {a : Ad} {σ : Slots} {τ : L2.St} (nx : ∀ i c fs v, ¬ B.Ex i c fs v) (h : Sl B μ F H σ τ) : Sl (B.put i c fs a) μ F H (σ.set i (some (.exn c fs))) (τ.set i (some (.ref a))) := by
  refine ⟨by simp [h.1], fun j d q => ?_⟩
  by_cases hj : j = i
  · subst hj
    have hl : j < σ.length := by
      have := (List.getElem?_eq_some_iff.mp q).1
      simpa using this
    rw [List.getElem?_set_self hl] at q
    cases q
    exact ⟨.ref a, by rw [List.getElem?_set_self (by rw [← h.1]; exact hl)], rfl, rfl, rfl, rfl⟩
  · rw [List.getElem?_set_ne (Ne.symm hj)] at q
    obtain ⟨v, h1, h2⟩ := h.2 j d q
    refine ⟨v, by rw [List.getElem?_set_ne (Ne.symm hj)]; exact h1, ?_⟩
    cases d with
    | exn c' fs' => exact absurd h2 (nx _ _ _ _)
    | non => exact RepX.of (Rep.cast (B := B) (B' := B.put i c fs a) (d := .non) rfl h2)
    | bl b => exact RepX.of (Rep.cast (B := B) (B' := B.put i c fs a) (d := .bl b) rfl h2)
    | int b => exact RepX.of (Rep.cast (B := B) (B' := B.put i c fs a) (d := .int b) rfl h2)
    | str b => exact RepX.of (Rep.cast (B := B) (B' := B.put i c fs a) (d := .str b) rfl h2)
    | tup b => exact RepX.of (Rep.cast (B := B) (B' := B.put i c fs a) (d := .tup b) rfl h2)
    | vl b => exact RepX.of (Rep.cast (B := B) (B' := B.put i c fs a) (d := .vl b) rfl h2)
    | sc b => exact RepX.of (Rep.cast (B := B) (B' := B.put i c fs a) (d := .sc b) rfl h2)
    | ref b => exact RepX.of (Rep.cast (B := B) (B' := B.put i c fs a) (d := .ref b) rfl h2)
theorem kindF_ok {sc : Scope} (h : kindF sc = true) : sc.kind = .function := by
  unfold kindF at h
  split at h
  · assumption
  · cases h
end
section
variable {T : Tb} {B : Bs} {X : L2.Cx} {W : WX} {C : Cx} {nv : Nv} {n : Nat}
/-- what else a statement leans on -/
structure Cw (T : Tb) (X : L2.Cx) (nv : Nv) : Prop extends Cs T X nv where
  pown : nv.hot = false → PassesOwn (model X.prog X.w) X.A X.env X.xe
theorem Cw.tr (s : Cw T X nv) (pn : List (Addr × Obj)) (xe : Value → Shared → Prop) (h : PassesOwn (model X.prog X.w) X.A X.env xe) : Cw T (X.tr pn xe) nv := ⟨s.toCs.tr pn xe, fun _ => h⟩
theorem Cw.suite (s : Cw T X nv) (a : Addr) (pn : List (Addr × Obj)) : Cw T (X.suite a pn) { nv with hot := true } :=
  ⟨⟨fun h => (nomatch h), fun h => (nomatch h), fun h => (nomatch h), fun h => (nomatch h), s.exm, s.kit, s.ecl⟩, fun h => (nomatch h)⟩
theorem Ct.tr {W' : WX} (hn : nv.hot = false) (k : Ct T B X nv n C W) (pn : List (Addr × Obj)) (xe : Value → Shared → Prop) (h : Takes (X.tr pn xe) W') : Ct T B (X.tr pn xe) nv n C W' where
  hN := k.hN
  nd := k.nd
  sc := k.sc
  K := k.K
  hot := k.hot
  calm := k.calm
  hu := k.hu
  room := k.room
  call := k.call
  con := k.con
  blt := k.blt
  fns := k.fns
  cls := k.cls
  own := k.own
  tk := h
  sub := k.sub
  ex := fun z => by rw [hn] at z; cases z
  exn := k.exn
  tc := k.tc
  bcl := k.bcl
/-- within a clause; B' may hold the exception -/
theorem Ct.suite {B' : Bs} (k : Ct T B X nv n C W) (hK : B'.K = B.K) (a : Addr) (pn : List (Addr × Obj)) (hx : ExOk (X.suite a pn) T B' (clvOf T)) : Ct T B' (X.suite a pn) { nv with hot := true } n { C with hot := true } W0 where
  hN := k.hN
  nd := k.nd
  sc := k.sc
  K := hK.trans k.K
  hot := rfl
  calm := fun h => nomatch h
  hu := k.hu
  room := fun h => nomatch h
  call := k.call
  con := fun x d h => by
    obtain ⟨v, u, h1, h2, h3⟩ := k.con x d h
    exact ⟨v, u, h1, h2, fun μ F H => (h3 μ F H).cast hK.symm⟩
  blt := k.blt
  fns := fun x i h => by
    obtain ⟨f, fd, ps, h1, h2, h3, h4⟩ := k.fns x i h
    exact ⟨f, fd, ps, h1, h2, h3, h4.imp fun vs H Q E z => spF_cast hK z⟩
  cls := k.cls
  own := k.own
  tk := takes0
  sub := k.sub
  ex := fun _ => hx
  exn := fun h => nomatch h
  tc := k.tc
  bcl := k.bcl
theorem takes_wide {W' : WX} (tk : Takes X W) (h : ∀ c d σ H, W' c d σ H → W c d σ H) : Takes X W' := tk.imp h
theorem noX_post {r : Res Out} {μ : List Ad} {F : Fz} {H : Hp} {D : Ends} (h : PostG B WF μ F H (noX r) fun o _ μ' F' H' => OutOk T B W D o μ' F' H') :
    PostG B WF μ F H r fun o _ μ' F' H' => OutOk T B W0 D o μ' F' H' := by
  cases r with
  | stuck => exact h
  | exc c fs S => exact h
  | ok o S =>
    cases o with
    | ex c fs σ => exact h.elim
    | nx σ => exact fun μ' F' H' e r => get2 h rfl _ _ _ e r
    | rt d => exact fun μ' F' H' e r => get2 h rfl _ _ _ e r
    | bk σ => exact fun μ' F' H' e r => get2 h rfl _ _ _ e r
    | ct σ => exact fun μ' F' H' e r => get2 h rfl _ _ _ e r
/-- the clauses' readings -/
def hdL (T : Tb) (B : Bs) (C : Cx) : Hs → List (Value × (Addr → Value → Option Addr → TS))
  | .nil => []
  | .cons k _ b hs => (T.cl k, fun _ _ _ => tSs T B W0 { C with hot := true } b) :: hdL T B C hs


theorem hd_go (s : Cw T X nv) {E : Ends} {c : Nat} {fs : List D} {S : Store} {σ : Slots} (hc : c < T.nc) : ∀ (hs : Hs) (l : List ExceptHandler), isHs hs nv l = true → (∀ x i, nv.G.lookup x = some (.cls i) → i < T.nc) → ∀ {μ : List Ad} {F : Fz} {H : Hp} {τ : L2.St}, Rl B μ F H S → Sl B μ F H σ τ → C.sub = T.P.sub →
    PostG B WF μ F H (evHs C hs c fs σ S) (fun o _ μ' F' H' => OutOk T B W E o μ' F' H') → (∀ d, XR T c fs d H → wMany X.K W E (hdL T B C hs) (T.cl c) d τ H)
  | .nil, l, h, kn, μ, F, H, τ, rl, sl, hsub, p, d, x => by
    simp only [evHs] at p
    exact get2 p rfl _ _ _ (Ext.refl _ _ _) rl τ sl d x
  | .cons k nm b hs, l, h, kn, μ, F, H, τ, rl, sl, hsub, p, d, x => by
    simp only [isHs] at h
    split at h
    · rename_i xn np s0 ss pos' r
      simp only [Bool.and_eq_true] at h
      obtain ⟨⟨⟨⟨⟨h1, h2⟩, h3⟩, h4⟩, h5⟩, h6⟩ := h
      have hk : k < T.nc := by
        unfold isCls at h4
        split at h4
        · rename_i j hj; rw [of_decide_eq_true h4]; exact kn _ _ hj
        · cases h4
      obtain rfl : nm = none := by simpa using h1
      have hx := s.exm c k hc hk
      simp only [evHs] at p
      refine ⟨C.sub c k, by rw [hsub]; exact hx, fun e a na => ?_, fun e => ?_⟩
      · rw [if_pos e] at p
        exact ⟨μ, F, S, σ, rl, sl, noX_post p⟩
      · rw [if_neg (fun z => Bool.false_ne_true (e.symm.trans z))] at p
        exact hd_go s hc hs r h6 kn rl sl hsub p d x
    · cases h

theorem try_ok {b : Ss} {hs : Hs} {o : Ss} {st : Stmt} (k : Ct T B X nv n C W) (s : Cw T X nv) (hsub : C.sub = T.P.sub) (kn : ∀ x i, nv.G.lookup x = some (.cls i) → i < T.nc) (h : isS (.try_ b hs o) nv st = true)
    (hA : ∀ (nv' : Nv) (e' : List Stmt) (X' : L2.Cx) (C' : Cx) (W' : WX) (B' : Bs), Ct T B' X' nv' n C' W' → Cw T X' nv' → C'.sub = T.P.sub → (∀ x i, nv'.G.lookup x = some (.cls i) → i < T.nc) → isSs b nv' e' = true → PSs X' e' (tSs T B' W' C' b))
    (hB : ∀ (nv' : Nv) (e' : List Stmt) (X' : L2.Cx) (C' : Cx) (W' : WX) (B' : Bs), Ct T B' X' nv' n C' W' → Cw T X' nv' → C'.sub = T.P.sub → (∀ x i, nv'.G.lookup x = some (.cls i) → i < T.nc) → isSs (hb hs) nv' e' = true → PSs X' e' (tSs T B' W' C' (hb hs)))
    (hH : ∀ (nv' : Nv) (e' : List ExceptHandler) (X' : L2.Cx) (C' : Cx) (W' : WX) (B' : Bs), nv'.hot = false → Ct T B' X' nv' n C' W' → Cw T X' nv' → C'.sub = T.P.sub → (∀ x i, nv'.G.lookup x = some (.cls i) → i < T.nc) → isHs hs nv' e' = true → HdsOk X' e' (hdL T B' C' hs)) :
    PS X st (tS T B W C (.try_ b hs o)) := by
  obtain ⟨h0, rfl, ⟨body, x, np, nm, s0, ss, pos', pos, kc, i, cb, rfl, rfl, h2, g1, g2, g3, g4, g5, g6⟩ | ⟨body, h0', hds, pos, rfl, h2, h3⟩⟩ := isS_try h
  · obtain ⟨o1, o2, o3⟩ := okN_ok g4
    have hl : nv.G.lookup x = some (.cls kc) := by
      unfold isCls at g5
      split at g5
      · rename_i j hj; rw [hj, of_decide_eq_true g5]
      · cases g5
    obtain ⟨_, Ca, e1, e2⟩ := k.cls x kc hl
    have hh : C.hot = false := k.hot.trans h0
    refine PS.imp (ps_try_as (i := i) (c := T.cl kc) (tb := fun W' => tSs T B W' C b) (ts := fun a cls d D τ H => ∃ c fs, cls = T.cl c ∧ XR T c fs d H ∧ tSs T (B.put i c fs a) W0 { C with hot := true } cb D τ H) (s.hs h0) (s.hf h0) k.nd (by rw [k.hN]; exact g1)
      (by show X.env.scope.names.lookup nm = _; rw [k.sc]; exact g2) ⟨k.gl g3, o1, .inl (by rw [e1, e2])⟩ k.tk (fun W' pn xe ht hp => hA nv body (X.tr pn xe) C W' _ (k.tr h0 pn xe ht) (s.tr pn xe hp) hsub kn h2) (fun a oe cls d pn hz hf => ?_)) fun E τ H ⟨μ, F, S, σ, rl, sl, p⟩ => ?_
    · refine ⟨fun pins st τ H D I ⟨c, fs, ec, x, z⟩ => ?_⟩
      obtain ⟨Da, d1, d2⟩ := s.ecl c x.1
      have hz2 : Zc (.ref Da) none oe := by rw [← d1, ← ec]; have e : d = none := x.2.2; rw [← e]; exact hz
      have ex : ExOk (X.suite a ((a, oe) :: pn)) T (B.put i c fs a) (clvOf T) := by
        intro j c' fs' v ⟨z1, z2, z3, z4⟩
        subst z1 z2 z3 z4
        exact ⟨a, rfl, call_isx k.tc d1 d2 hz2 hf fun q hq => s.kit _ q x.1 hq⟩
      exact (hB { nv with hot := true } (s0 :: ss) (X.suite a ((a, oe) :: pn)) { C with hot := true } W0 _ (k.suite (B' := B.put i c fs a) rfl a _ ex) (s.suite a _) hsub kn g6).run pins st τ H D I z
    · simp only [evS, hh] at p
      refine ⟨μ, F, S, σ, rl, sl, (PostG.bind p).imp fun q S1 μ1 F1 H1 _ _ rl1 p1 => ?_⟩
      cases q with
      | nx σ' =>
        simp only [evSs] at p1
        exact get2 p1 rfl _ _ _ (Ext.refl _ _ _) rl1
      | rt d => exact get2 p1 rfl _ _ _ (Ext.refl _ _ _) rl1
      | bk σ' => exact get2 p1 rfl _ _ _ (Ext.refl _ _ _) rl1
      | ct σ' => exact get2 p1 rfl _ _ _ (Ext.refl _ _ _) rl1
      | ex c fs σ' =>
        intro τ' sl' d x
        refine ⟨C.sub c kc, by rw [hsub]; exact s.exm c kc x.1 (kn _ _ hl), fun e a na => ?_, fun e => ?_⟩
        · simp only [evHs, e, if_true] at p1
          refine ⟨c, fs, rfl, x, μ1, F1, S1, _, rl1.putC, sl'.put (k.exn h0), ?_⟩
          have p2 := PostG.bind p1
          cases hr : evSs { C with hot := true } cb (σ'.set i (some (.exn c fs))) S1 with
          | stuck => rw [hr] at p2; exact p2
          | exc c2 f2 S2 => rw [hr] at p2; exact fun μ2 F2 H2 ee rr => (p2 μ2 F2 H2 ee rr.unputC).elim
          | ok o S2 =>
            rw [hr] at p2
            cases o with
            | ex c2 f2 σ2 => exact p2.elim
            | nx σ2 => exact fun μ2 F2 H2 ee rr τ2 sl2 => get2 (get2 p2 rfl _ _ _ ee rr.unputC) rfl _ _ _ (Ext.refl _ _ _) rr.unputC _ sl2.unput
            | bk σ2 => exact fun μ2 F2 H2 ee rr τ2 sl2 => get2 (get2 p2 rfl _ _ _ ee rr.unputC) rfl _ _ _ (Ext.refl _ _ _) rr.unputC _ sl2.unput
            | ct σ2 => exact fun μ2 F2 H2 ee rr τ2 sl2 => get2 (get2 p2 rfl _ _ _ ee rr.unputC) rfl _ _ _ (Ext.refl _ _ _) rr.unputC _ sl2.unput
            | rt d2 => exact fun μ2 F2 H2 ee rr v rv => get2 (get2 p2 rfl _ _ _ ee rr.unputC) rfl _ _ _ (Ext.refl _ _ _) rr.unputC _ rv.unputC
        · simp only [evHs, e] at p1
          exact get2 p1 rfl _ _ _ (Ext.refl _ _ _) rl1 τ' sl' d x
  · refine PS.imp (ps_try_many (tb := fun W' => tSs T B W' C b) (s.hs h0) (s.hf h0) k.tk (fun W' pn xe ht hp => hA nv body (X.tr pn xe) C W' _ (k.tr h0 pn xe ht) (s.tr pn xe hp) hsub kn h2) (hH nv _ X C W _ h0 k s hsub kn h3)) fun E τ H ⟨μ, F, S, σ, rl, sl, p⟩ => ?_
    have hh : C.hot = false := k.hot.trans h0
    simp only [evS, hh] at p
    refine ⟨μ, F, S, σ, rl, sl, (PostG.bind p).imp fun q S1 μ1 F1 H1 _ e1 rl1 p1 => ?_⟩
    cases q with
    | nx σ' =>
      simp only [evSs] at p1
      exact get2 p1 rfl _ _ _ (Ext.refl _ _ _) rl1
    | rt d => exact get2 p1 rfl _ _ _ (Ext.refl _ _ _) rl1
    | bk σ' => exact get2 p1 rfl _ _ _ (Ext.refl _ _ _) rl1
    | ct σ' => exact get2 p1 rfl _ _ _ (Ext.refl _ _ _) rl1
    | ex c fs σ' => exact fun τ' sl' d x => hd_go s x.1 hs _ h3 kn rl1 sl' hsub p1 d x
mutual
theorem sS : ∀ (c : St) (nv : Nv) (e : Stmt) (X : L2.Cx) (C : Cx) (W : WX) {B : Bs}, Ct T B X nv n C W → Cw T X nv → C.sub = T.P.sub → (∀ x i, nv.G.lookup x = some (.cls i) → i < T.nc) → isS c nv e = true → PS X e (tS T B W C c)
  | .asg tg e, nv, st, X, C, W, B, k, s, hsub, kn, h => by
    simp only [isS] at h
    split at h
    · rename_i t v pos
      simp only [Bool.and_eq_true] at h
      obtain ⟨⟨h1, h2⟩, h3⟩ := h
      have hg := k.tg h1
      have he := (sE e nv v X n C W k h2).pe
      split at h3
      · rename_i x t' ie ifs scope pv
        simp only [Bool.and_eq_true, Bool.not_eq_true'] at h3
        obtain ⟨⟨g1, g2⟩, g3⟩ := h3
        split at g3
        · rename_i y py i
          have hkind : X.env.scope.kind = .function := s.kind g2
          have hy : X.N[i]? = some y := by
            simp only [isTg, Bool.and_eq_true, decide_eq_true_eq] at h1
            rw [k.hN]; exact h1.1
          have plain : swB nv.sc scope y py pv = false → PS X (.Assign [.Name y py] (.ListComp x [⟨t', ie, ifs, 0⟩] scope pv) pos) (tS T B W C (.asg (.name i) e)) := fun hsw => by
            refine ps_asg' he hg ?_ noTup_name (by rfl)
            rw [sole_eq, sw_eq hkind, k.sc, hsw]
          by_cases hsw : swB nv.sc scope y py pv = true
          · cases e with
            | lc o elt tg' it c =>
              have hyl : X.env.scope.names.lookup y = some .local := by
                rw [k.sc]
                unfold swB at hsw
                simp only [Bool.and_eq_true, decide_eq_true_eq] at hsw
                exact hsw.1.1
              exact lcs_ok k h2 hy hyl (by rw [sw_eq hkind, k.sc, hsw])
            | _ => simp [hsw] at g3
          · exact plain (by simpa using hsw)
        · cases g3
      · simp only [Bool.and_eq_true] at h3
        obtain ⟨g1, g2⟩ := h3
        have h0 : swapsWithSole [t] v pos.line X.env = pure false := (sole_eq _ _ _ _).trans (noComp_none g1 _)
        split at g2
        · exact ps_asg' he hg h0 noTup_name (by rfl)
        · cases t with
          | Tuple xs kk p => exact ps_asg' he hg h0 (noTup_tup g2) (by rfl)
          | Name y py => exact ps_asg' he hg h0 noTup_name (by rfl)
          | _ => simp [isTg] at h1
    · cases h
  | .set a i e, nv, st, X, C, W, B, k, s, hsub, kn, h => by
    simp only [isS] at h
    split at h
    · rename_i o ix ps v pos
      simp only [Bool.and_eq_true] at h
      obtain ⟨⟨⟨⟨h1, h2⟩, h3⟩, h4⟩, h5⟩ := h
      exact ps_set' h4 (sE e nv v X n C W k h1).pe (sE a nv o X n C W k h2).pe (sE i nv ix X n C W k h3).pe ((sole_eq _ _ _ _).trans (noComp_none h5 _)) (by cases v <;> rfl)
    · cases h
  | .aug i p e, nv, st, X, C, W, B, k, s, hsub, kn, h => by
    simp only [isS] at h
    split at h
    · rename_i x px o v pos
      simp only [Bool.and_eq_true, decide_eq_true_eq] at h
      obtain ⟨⟨⟨⟨h1, h2⟩, h3⟩, h4⟩, h5⟩ := h
      subst h1
      obtain ⟨g1, g2⟩ := k.loc h4
      exact ps_aug' h2 k.nd (by rw [k.hN]; exact h3) g1 g2 (sE e nv v X n C W k h5).pe
    · cases h
  | .expr e, nv, st, X, C, W, B, k, s, hsub, kn, h => by
    simp only [isS] at h
    split at h
    · simp only [Bool.and_eq_true] at h
      exact ps_expr' (sE e nv _ X n C W k h.1).pe (noComp_none h.2 _)
    · cases h
  | .ret e, nv, st, X, C, W, B, k, s, hsub, kn, h => by
    simp only [isS] at h
    split at h
    · exact ps_ret' (sE e nv _ X n C W k h).pe
    · cases h
  | .retN, nv, st, X, C, W, B, k, s, hsub, kn, h => by
    simp only [isS] at h
    split at h
    · exact ps_retN'
    · cases h
  | .ite c a b, nv, st, X, C, W, B, k, s, hsub, kn, h => by
    simp only [isS] at h
    split at h
    · simp only [Bool.and_eq_true] at h
      obtain ⟨⟨⟨h1, h2⟩, h3⟩, h4⟩ := h
      exact ps_ite' ((sE c nv _ X n C W k h1).pt h2) (sSs a nv _ X C W k s hsub kn h3) (sSs b nv _ X C W k s hsub kn h4)
    · cases h
  | .for_ tg it b, nv, st, X, C, W, B, k, s, hsub, kn, h => by
    simp only [isS] at h
    split at h
    · simp only [Bool.and_eq_true, Bool.not_eq_true'] at h
      obtain ⟨⟨⟨⟨h0, h1⟩, h2⟩, h3⟩, h4⟩ := h
      exact ps_for' (k.hot.trans h0) (s.pown h0) (k.calm h0) (sIt it nv _ _ X n C W k h2) (k.tg h1) (sSs b nv _ X C W k s hsub kn h4) (noSet_ok h3)
    · cases h
  | .while_ c b, nv, st, X, C, W, B, k, s, hsub, kn, h => by
    simp only [isS] at h
    split at h
    · simp only [Bool.and_eq_true, Bool.not_eq_true'] at h
      obtain ⟨⟨⟨h0, h1⟩, h2⟩, h3⟩ := h
      exact ps_while' (k.hot.trans h0) (s.pown h0) ((sE c nv _ X n C W k h1).pt h2) (sSs b nv _ X C W k s hsub kn h3)
    · cases h
  | .never, nv, st, X, C, W, B, k, s, hsub, kn, h => PS.imp ps_never fun E τ H ⟨μ, F, S, σ, rl, sl, p⟩ => by
    simp only [evS] at p
    exact p
  | .raise_ c fs, nv, st, X, C, W, B, k, s, hsub, kn, h => by
    simp only [isS] at h
    split at h
    · rename_i x px m j p2 p3 pos
      simp only [Bool.and_eq_true, Bool.not_eq_true'] at h
      obtain ⟨⟨⟨⟨h0, h1⟩, h2⟩, h3⟩, h4⟩ := h
      obtain ⟨o1, o2, o3⟩ := okN_ok h2
      have hl : nv.G.lookup x = some (.cls c) := by
        unfold isCls at h3
        split at h3
        · rename_i j hj; rw [hj, of_decide_eq_true h3]
        · cases h3
      obtain ⟨r1, Ca, r2, r3, r4, r5, r6⟩ := s.rz h0 x c hl
      cases fs with
      | cons _ _ => cases h4
      | nil =>
        refine PS.imp (ps_raise (k.calm h0) k.tk (pmk_own PySem.F.excBase_ValueError r6 r2 r4 r5 (k.gl h1) o1)) fun E τ H ⟨μ, F, S, σ, rl, sl, p⟩ => ?_
        have hh : C.hot = false := k.hot.trans h0
        simp only [evS, hh, evEs] at p
        have q := get2 p rfl _ _ _ (Ext.refl _ _ _) rl τ sl none ⟨r1, rfl, rfl⟩
        rw [r3] at q
        exact q
    · cases h
  | .try_ b hs o, nv, st, X, C, W, B, k, s, hsub, kn, h => by
    have hB : ∀ (nv' : Nv) (e' : List Stmt) (X' : L2.Cx) (C' : Cx) (W' : WX) (B' : Bs), Ct T B' X' nv' n C' W' → Cw T X' nv' → C'.sub = T.P.sub → (∀ x i, nv'.G.lookup x = some (.cls i) → i < T.nc) → isSs (hb hs) nv' e' = true → PSs X' e' (tSs T B' W' C' (hb hs)) :=
      fun nv' e' X' C' W' B' a1 a2 a3 a4 a5 => sHb hs nv' e' X' C' W' a1 a2 a3 a4 a5
    have hA : ∀ (nv' : Nv) (e' : List Stmt) (X' : L2.Cx) (C' : Cx) (W' : WX) (B' : Bs), Ct T B' X' nv' n C' W' → Cw T X' nv' → C'.sub = T.P.sub → (∀ x i, nv'.G.lookup x = some (.cls i) → i < T.nc) → isSs b nv' e' = true → PSs X' e' (tSs T B' W' C' b) :=
      fun nv' e' X' C' W' B' a1 a2 a3 a4 a5 => sSs b nv' e' X' C' W' a1 a2 a3 a4 a5
    have hH : ∀ (nv' : Nv) (e' : List ExceptHandler) (X' : L2.Cx) (C' : Cx) (W' : WX) (B' : Bs), nv'.hot = false → Ct T B' X' nv' n C' W' → Cw T X' nv' → C'.sub = T.P.sub → (∀ x i, nv'.G.lookup x = some (.cls i) → i < T.nc) → isHs hs nv' e' = true → HdsOk X' e' (hdL T B' C' hs) :=
      fun nv' e' X' C' W' B' a0 a1 a2 a3 a4 a5 => sHs hs nv' e' X' C' W' a0 a1 a2 a3 a4 a5
    exact try_ok k s hsub kn h hA hB hH
  | .pass, nv, st, X, C, W, B, k, s, hsub, kn, h => by
    simp only [isS] at h
    split at h
    · exact ps_pass'
    · cases h
  | .brk, nv, st, X, C, W, B, k, s, hsub, kn, h => by
    simp only [isS] at h
    split at h
    · exact ps_brk'
    · cases h
  | .cont, nv, st, X, C, W, B, k, s, hsub, kn, h => by
    simp only [isS] at h
    split at h
    · exact ps_cont'
    · cases h
theorem sSs : ∀ (c : Ss) (nv : Nv) (e : List Stmt) (X : L2.Cx) (C : Cx) (W : WX) {B : Bs}, Ct T B X nv n C W → Cw T X nv → C.sub = T.P.sub → (∀ x i, nv.G.lookup x = some (.cls i) → i < T.nc) → isSs c nv e = true → PSs X e (tSs T B W C c)
  | .nil, nv, e, X, C, W, B, k, s, hsub, kn, h => by
    simp only [isSs, List.isEmpty_iff] at h
    subst h
    exact pss_nil'
  | .cons a ss, nv, e, X, C, W, B, k, s, hsub, kn, h => by
    simp only [isSs] at h
    split at h
    · simp only [Bool.and_eq_true] at h
      exact pss_cons' (sS a nv _ X C W k s hsub kn h.1) (sSs ss nv _ X C W k s hsub kn h.2)
    · cases h
theorem sHb : ∀ (c : Hs) (nv : Nv) (e : List Stmt) (X : L2.Cx) (C : Cx) (W : WX) {B : Bs}, Ct T B X nv n C W → Cw T X nv → C.sub = T.P.sub → (∀ x i, nv.G.lookup x = some (.cls i) → i < T.nc) → isSs (hb c) nv e = true → PSs X e (tSs T B W C (hb c))
  | .nil, nv, e, X, C, W, B, k, s, hsub, kn, h => by
    simp only [hb, isSs, List.isEmpty_iff] at h
    subst h
    exact pss_nil'
  | .cons i nm b hs, nv, e, X, C, W, B, k, s, hsub, kn, h => sSs b nv e X C W k s hsub kn h
theorem sHs : ∀ (c : Hs) (nv : Nv) (e : List ExceptHandler) (X : L2.Cx) (C : Cx) (W : WX) {B : Bs}, nv.hot = false → Ct T B X nv n C W → Cw T X nv → C.sub = T.P.sub → (∀ x i, nv.G.lookup x = some (.cls i) → i < T.nc) → isHs c nv e = true → HdsOk X e (hdL T B C c)
  | .nil, nv, e, X, C, W, B, hnh, k, s, hsub, kn, h => by
    simp only [isHs, List.isEmpty_iff] at h
    subst h
    exact .nil
  | .cons i nm b hs, nv, e, X, C, W, B, hnh, k, s, hsub, kn, h => by
    simp only [isHs] at h
    split at h
    · rename_i xn np s0 ss pos' r
      simp only [Bool.and_eq_true] at h
      obtain ⟨⟨⟨⟨⟨h1, h2⟩, h3⟩, h4⟩, h5⟩, h6⟩ := h
      obtain ⟨o1, o2, o3⟩ := okN_ok h3
      have hl : nv.G.lookup xn = some (.cls i) := by
        unfold isCls at h4
        split at h4
        · rename_i j hj; rw [hj, of_decide_eq_true h4]
        · cases h4
      refine .cons ⟨k.gl h2, o1, .inl ?_⟩ (fun a oe cls d pn hz hf => sSs b { nv with hot := true } (s0 :: ss) (X.suite a ((a, oe) :: pn)) { C with hot := true } W0 (k.suite rfl a _ fun i c fs v z => absurd z (k.exn hnh i c fs v)) (s.suite a _) hsub kn h5) (sHs hs nv r X C W hnh k s hsub kn h6)
      obtain ⟨_, Ca, g1, g2⟩ := k.cls xn i hl
      rw [g1, g2]
    · cases h
end
end
end SL
namespace SL
open PySem PySem.Spec PyProof.Rows L2
/-! ### a whole program -/
structure FnS where
  name : Str
  st : Stmt
  N : List Str
  ps : List Str
structure Pk where
  P : Prog
  fs : List FnS
  cs : List Str
  ks : List (Str × D)
  bs : List (Str × String) := []
  xs : List Str := []
def Pk.G (p : Pk) : List (Str × GK) := p.fs.zipIdx.map (fun q => (q.1.name, .fn q.2)) ++ (p.cs.zipIdx.map (fun q => (q.1, .cls q.2)) ++ (p.ks.map (fun q => (q.1, .con q.2)) ++ (p.bs.zipIdx.map (fun q => (q.1.1, .bc (p.cs.length + q.2))) ++ p.xs.zipIdx.map fun q => (q.1, .bc (p.cs.length + p.bs.length + q.2)))))
def scB (N ps : List Str) (sc : Scope) : Bool :=
  kindF sc && (!sc.isCoroutine && (!sc.isGenerator && (decide N.Nodup && (decide (N.take ps.length = ps) &&
    (ps.all (fun x => visB sc x && (match sc.names.lookup x with | some .free => false | _ => true)) && sc.names.all (fun y => match y.2 with | .free => false | _ => true))))))
theorem scB_ok {N ps : List Str} {sc : Scope} (h : scB N ps sc = true) : FnScope N ps sc := by
  unfold scB at h
  simp only [Bool.and_eq_true, Bool.not_eq_true', decide_eq_true_eq, List.all_eq_true] at h
  obtain ⟨h1, h2, h3, h4, h5, h6, h7⟩ := h
  refine ⟨kindF_ok h1, h2, h3, h4, h5, fun x hx => ?_, fun y hy e => ?_⟩
  · obtain ⟨g1, g2⟩ := h6 x hx
    rcases vis_ok g1 with z | z | z
    · exact .inl z
    · exact .inr z
    · rw [z] at g2; cases g2
  · have := h7 y hy
    rw [e] at this
    cases this
def nvOf (G : List (Str × GK)) (d : FnS) : Nv := { N := d.N, sc := defScope d.st, G := G, own := true }
def chkF (G : List (Str × GK)) (fn : Fn) (d : FnS) : Bool :=
  scB d.N d.ps (defScope d.st) && (isSs fn.body (nvOf G d) (defBody d.st) && (decide (fn.np = d.ps.length) && (decide (fn.ns = d.N.length) && decide (d.ps.length ≤ d.N.length))))
def chkFs (G : List (Str × GK)) : List Fn → List FnS → Bool
  | [], [] => true
  | f :: fs, d :: ds => chkF G f d && chkFs G fs ds
  | _, _ => false
def Pk.chk (p : Pk) : Bool := chkFs p.G p.P.fns p.fs
/-- facts that the head tells -/
def conF : Str × D → List He.Fa
  | (x, .int i) => [.int x i]
  | (x, .str s) => [.str x ⟨s.toArray⟩]
  | _ => []
def Pk.fa (p : Pk) : List He.Fa := (p.bs.map (fun q => .free q.1) ++ p.xs.map (.glo ·)) ++ (p.fs.map (fun d => .glo d.name) ++ (p.cs.flatMap (fun x => [.glo x, .exc x]) ++ (p.ks.flatMap conF ++
  (p.cs.zipIdx.flatMap (fun a => p.cs.zipIdx.map fun b => .exm a.1 b.1 (p.P.sub a.2 b.2)) ++ (bltL.filter fun x => (p.G.lookup x).isNone).map .free))))
def Pk.fn (p : Pk) : List He.DefD := p.fs.map fun d => ⟨(d.name, none), d.name, d.name, defArgs d.st, defBody d.st, defScope d.st, [], []⟩
def Pk.T (p : Pk) (K : PySem.W.Frag) : Tb := ⟨p.P, fun i => if i < p.cs.length then .ref (He.ga K (p.cs.getD i "")) else if i < p.cs.length + p.bs.length then .type (p.bs.getD (i - p.cs.length) ("", "")).2 else .ref (He.ga K (p.xs.getD (i - (p.cs.length + p.bs.length)) "")), p.cs.length, p.cs.length + p.bs.length + p.xs.length⟩
/-- what a class of exceptions says of its instances -/
def exB (K : PySem.W.Frag) (D : Addr) : Bool :=
  decide (PySem.W.findIn K (.ref D) "__getattribute__" = some (some (.builtin "BaseException.__getattribute__"))) && (decide (PySem.W.findIn K (.ref D) "__getattr__" = some none) &&
  (decide (PySem.W.subIn K (.ref D) (.type "BaseException") = some true) && (PySem.W.hasDictIn K D && (decide (PySem.W.findIn K (.ref D) "__class__" = some (some (.builtin "object.__class__"))) &&
  (decide (PySem.W.specialIn K (.builtin "object.__class__") "__get__" = some (some (.builtin "getset_descriptor.__get__"))) && (decide (PySem.W.takesIn K (.builtin "object.__class__") = some true) && decide (PySem.W.mroIn K D (.type "object") = some true)))))))
theorem exB_ok {K : PySem.W.Frag} {D : Addr} (h : exB K D = true) : ExcC K D := by
  unfold exB at h
  simp only [Bool.and_eq_true, decide_eq_true_eq] at h
  obtain ⟨h1, h2, h3, h4, h5, h6, h7, h8⟩ := h
  exact ⟨h1, h2, h3, h4, h5, h6, h7, h8⟩
def Pk.exA (p : Pk) (K : PySem.W.Frag) : Bool := (p.cs.all fun x => exB K (He.ga K x)) && (List.range p.cs.length).all fun i => (List.range (p.cs.length + p.bs.length + p.xs.length)).all fun j => decide (PySem.W.kitOne K ((p.T K).cl i) ((p.T K).cl j) = some (p.P.sub i j))
def Pk.bsB (p : Pk) : Bool := p.bs.all fun q => decide (bootBuiltins q.1 = some (.type q.2))
def bsOf (K : PySem.W.Frag) : Bs := ⟨K, fun _ _ _ _ => False⟩
/-- calls bind what is handed in -/
def Bd (d : FnS) : Prop := ∀ (kV doc pm : Value) (an : Option Addr) (cdv ct : Value) (us : List Value), us.length = d.ps.length → bindArgs (PySem.W.fnOf d.name d.name (defArgs d.st) (defBody d.st) (defScope d.st) .none kV doc pm an cdv ct) ⟨us, []⟩ = pure (d.ps.zip us)
theorem lookup_mem {α β : Type} [BEq α] [LawfulBEq α] {x : α} {v : β} : ∀ {l : List (α × β)}, l.lookup x = some v → (x, v) ∈ l
  | [], h => by simp at h
  | (y, u) :: l, h => by
    rw [List.lookup_cons] at h
    split at h
    · rename_i e
      cases h
      rw [eq_of_beq e]
      exact List.mem_cons_self
    · exact List.mem_cons_of_mem _ (lookup_mem h)
section
variable {p : Pk} {K : PySem.W.Frag} {mg : Str → Option Value} {h : Heap}
theorem Pk.of_fn {x : Str} {i : Nat} (q : p.G.lookup x = some (.fn i)) : ∃ d : FnS, p.fs[i]? = some d ∧ d.name = x := by
  have m := lookup_mem q
  simp only [Pk.G, List.mem_append, List.mem_map] at m
  rcases m with ⟨⟨d, j⟩, h1, h2⟩ | ⟨⟨d, j⟩, h1, h2⟩ | ⟨d, h1, h2⟩ | ⟨⟨d, j⟩, h1, h2⟩ | ⟨⟨d, j⟩, h1, h2⟩
  · cases h2
    exact ⟨d, (List.mem_zipIdx_iff_getElem?.mp h1), rfl⟩
  · cases h2
  · cases h2
  · cases h2
  · cases h2
theorem Pk.of_cls {x : Str} {i : Nat} (q : p.G.lookup x = some (.cls i)) : p.cs[i]? = some x := by
  have m := lookup_mem q
  simp only [Pk.G, List.mem_append, List.mem_map] at m
  rcases m with ⟨⟨d, j⟩, h1, h2⟩ | ⟨⟨d, j⟩, h1, h2⟩ | ⟨d, h1, h2⟩ | ⟨⟨d, j⟩, h1, h2⟩ | ⟨⟨d, j⟩, h1, h2⟩
  · cases h2
  · cases h2
    exact List.mem_zipIdx_iff_getElem?.mp h1
  · cases h2
  · cases h2
  · cases h2
theorem Pk.of_con {x : Str} {d : D} (q : p.G.lookup x = some (.con d)) : (x, d) ∈ p.ks := by
  have m := lookup_mem q
  simp only [Pk.G, List.mem_append, List.mem_map] at m
  rcases m with ⟨⟨d, j⟩, h1, h2⟩ | ⟨⟨d, j⟩, h1, h2⟩ | ⟨d, h1, h2⟩ | ⟨⟨d, j⟩, h1, h2⟩ | ⟨⟨d, j⟩, h1, h2⟩
  · cases h2
  · cases h2
  · cases h2
    exact h1
  · cases h2
  · cases h2
theorem Pk.of_bc {x : Str} {i : Nat} (q : p.G.lookup x = some (.bc i)) : (∃ j s, i = p.cs.length + j ∧ p.bs[j]? = some (x, s)) ∨ ∃ j, i = p.cs.length + p.bs.length + j ∧ p.xs[j]? = some x := by
  have m := lookup_mem q
  simp only [Pk.G, List.mem_append, List.mem_map] at m
  rcases m with ⟨⟨d, j⟩, h1, h2⟩ | ⟨⟨d, j⟩, h1, h2⟩ | ⟨d, h1, h2⟩ | ⟨⟨⟨d, s⟩, j⟩, h1, h2⟩ | ⟨⟨d, j⟩, h1, h2⟩
  · cases h2
  · cases h2
  · cases h2
  · cases h2
    exact .inl ⟨j, s, rfl, List.mem_zipIdx_iff_getElem?.mp h1⟩
  · cases h2
    exact .inr ⟨j, rfl, List.mem_zipIdx_iff_getElem?.mp h1⟩
theorem Pk.clT {j : Nat} {x : Str} (hj : p.cs[j]? = some x) : (p.T K).cl j = .ref (He.ga K x) := by
  have hl := (List.getElem?_eq_some_iff.mp hj).1
  show (if j < p.cs.length then _ else _) = _
  rw [if_pos hl, List.getD_eq_getElem?_getD, hj]
  rfl
theorem Pk.bcT {j : Nat} {x : Str} {s : String} (hj : p.bs[j]? = some (x, s)) : (p.T K).cl (p.cs.length + j) = .type s := by
  show (if p.cs.length + j < p.cs.length then _ else _) = _
  have hl := (List.getElem?_eq_some_iff.mp hj).1
  rw [if_neg (by omega), if_pos (by omega), Nat.add_sub_cancel_left, List.getD_eq_getElem?_getD, hj]
  rfl
theorem Pk.xcT {j : Nat} {x : Str} (hj : p.xs[j]? = some x) : (p.T K).cl (p.cs.length + p.bs.length + j) = .ref (He.ga K x) := by
  show (if p.cs.length + p.bs.length + j < p.cs.length then _ else _) = _
  rw [if_neg (by omega), if_neg (by omega), Nat.add_sub_cancel_left, List.getD_eq_getElem?_getD, hj]
  rfl
theorem Pk.tc : Tc (p.T K) (clvOf (p.T K)) where
  rel := fun k u h => by
    by_cases hk : k < p.cs.length
    · have e : (p.T K).cl k = .ref (He.ga K (p.cs.getD k "")) := if_pos hk
      unfold clvOf at h
      rw [e] at h ⊢
      cases h
      rfl
    · by_cases hk2 : k < p.cs.length + p.bs.length
      · have e : (p.T K).cl k = .type (p.bs.getD (k - p.cs.length) ("", "")).2 := (if_neg hk).trans (if_pos hk2)
        unfold clvOf at h
        rw [e] at h ⊢
        cases h
        rfl
      · have e : (p.T K).cl k = .ref (He.ga K (p.xs.getD (k - (p.cs.length + p.bs.length)) "")) := (if_neg hk).trans (if_neg hk2)
        unfold clvOf at h
        rw [e] at h ⊢
        cases h
        rfl
/-- what the head's facts are worth -/
structure Fcts (p : Pk) (K : PySem.W.Frag) : Prop where
  ex : p.exA K = true
  fa : ∀ f ∈ p.fa, f.ok K = true
  fn : ∀ (i : Nat) (d : FnS), p.fs[i]? = some d → ∃ fd, FunD K d.name d.name (defArgs d.st) (defBody d.st) (defScope d.st) [] [] (He.ga K d.name) fd
theorem Fcts.glo (c : Fcts p K) (X : K.In h) (G : h.Ns mainGlobals mg) {d : FnS} (hd : d ∈ p.fs) : mg d.name = some (.ref (He.ga K d.name)) :=
  He.glo_ok X G (c.fa (He.Fa.glo d.name) (by simp only [Pk.fa, List.mem_append, List.mem_map]; exact .inr (.inl ⟨d, hd, rfl⟩)))
theorem Fcts.gloC (c : Fcts p K) (X : K.In h) (G : h.Ns mainGlobals mg) {x : Str} (hd : x ∈ p.cs) : mg x = some (.ref (He.ga K x)) :=
  He.glo_ok X G (c.fa (He.Fa.glo x) (by simp only [Pk.fa, List.mem_append, List.mem_flatMap]; exact .inr (.inr (.inl ⟨x, hd, by simp⟩))))
theorem Fcts.exc (c : Fcts p K) {x : Str} (hd : x ∈ p.cs) : (He.Fa.exc x).ok K = true :=
  c.fa (He.Fa.exc x) (by simp only [Pk.fa, List.mem_append, List.mem_flatMap]; exact .inr (.inr (.inl ⟨x, hd, by simp⟩)))
theorem Fcts.exm (c : Fcts p K) {i j : Nat} {x y : Str} (hi : p.cs[i]? = some x) (hj : p.cs[j]? = some y) : (He.Fa.exm x y (p.P.sub i j)).ok K = true :=
  c.fa _ (by
    simp only [Pk.fa, List.mem_append, List.mem_flatMap, List.mem_map]
    exact .inr (.inr (.inr (.inr (.inl ⟨(x, i), List.mem_zipIdx_iff_getElem?.mpr hi, (y, j), List.mem_zipIdx_iff_getElem?.mpr hj, rfl⟩)))))
theorem Fcts.free (c : Fcts p K) (X : K.In h) (G : h.Ns mainGlobals mg) {x : Str} (h1 : x ∈ bltL) (h2 : p.G.lookup x = none) : mg x = none :=
  He.free_ok X G (c.fa (He.Fa.free x) (by
    simp only [Pk.fa, List.mem_append, List.mem_map, List.mem_filter]
    exact .inr (.inr (.inr (.inr (.inr ⟨x, ⟨h1, by simp [h2]⟩, rfl⟩))))))
theorem Fcts.freeB (c : Fcts p K) (X : K.In h) (G : h.Ns mainGlobals mg) {q : Str × String} (h1 : q ∈ p.bs) : mg q.1 = none :=
  He.free_ok X G (c.fa (He.Fa.free q.1) (by
    simp only [Pk.fa, List.mem_append, List.mem_map]
    exact .inl (.inl ⟨q, h1, rfl⟩)))
theorem Fcts.gloX (c : Fcts p K) (X : K.In h) (G : h.Ns mainGlobals mg) {x : Str} (hd : x ∈ p.xs) : mg x = some (.ref (He.ga K x)) :=
  He.glo_ok X G (c.fa (He.Fa.glo x) (by simp only [Pk.fa, List.mem_append, List.mem_map]; exact .inl (.inr ⟨x, hd, rfl⟩)))
theorem Fcts.con (c : Fcts p K) (X : K.In h) (G : h.Ns mainGlobals mg) (hk : ∀ q ∈ p.ks, (conF q).length = 1) {x : Str} {d : D} (h1 : (x, d) ∈ p.ks) : ∃ v u, mg x = some u ∧ RelV v u ∧ ∀ (B : Bs) μ F H, Rep B μ F H d v := by
  have h2 := hk _ h1
  have h3 : ∀ f ∈ conF (x, d), f.ok K = true := fun f hf => c.fa f (by
    simp only [Pk.fa, List.mem_append, List.mem_flatMap]
    exact .inr (.inr (.inr (.inl ⟨_, h1, hf⟩))))
  unfold conF at h2 h3
  split at h2
  · rename_i y i e
    cases e
    obtain ⟨t, ht⟩ := He.int_ok X G (h3 (He.Fa.int x i) List.mem_cons_self)
    exact ⟨.int i, _, ht, ⟨t, rfl⟩, fun B μ F H => .int i⟩
  · rename_i y s e
    cases e
    obtain ⟨t, ht⟩ := He.str_ok X G (h3 (He.Fa.str x ⟨s.toArray⟩) List.mem_cons_self)
    exact ⟨.str ⟨s.toArray⟩, _, ht, ⟨t, rfl⟩, fun B μ F H => .str s⟩
  · cases h2

theorem chkFs_at {G : List (Str × GK)} : ∀ {l : List Fn} {ds : List FnS}, chkFs G l ds = true → ∀ {i : Nat} {d : FnS}, ds[i]? = some d → ∃ fn, l[i]? = some fn ∧ chkF G fn d = true
  | [], [], _, i, d, h => by simp at h
  | f :: fs, e :: ds, c, 0, d, h => by
    simp only [chkFs, Bool.and_eq_true] at c
    simp at h
    subst h
    exact ⟨f, rfl, c.1⟩
  | f :: fs, e :: ds, c, i + 1, d, h => by
    simp only [chkFs, Bool.and_eq_true] at c
    obtain ⟨fn, h1, h2⟩ := chkFs_at c.2 (i := i) (d := d) (by simpa using h)
    exact ⟨fn, by simpa using h1, h2⟩
  | [], _ :: _, c, _, _, _ => by simp [chkFs] at c
  | _ :: _, [], c, _, _, _ => by simp [chkFs] at c
/-- every def keeps the promise that the evaluator tells -/
theorem all_ok {P : Program} {w : World} {base : Heap} (c : Fcts p K) (hc : p.chk = true) (hk : ∀ q ∈ p.ks, (conF q).length = 1) (hbs : p.bsB = true) (hb : ∀ d ∈ p.fs, Bd d) (X : K.In h) (G : h.Ns mainGlobals mg) :
    ∀ (n i : Nat) (d : FnS) (fd : FuncData), p.fs[i]? = some d → FunD K d.name d.name (defArgs d.st) (defBody d.st) (defScope d.st) [] [] (He.ga K d.name) fd →
      FnOk P w K mg base (L2.CX P w) n (He.ga K d.name) fd d.ps (spF (p.T K) (bsOf K) n i)
  | 0, i, d, fd, hi, F => ⟨fun vs H Q E ⟨_, _, _, _, _, _, z⟩ => z.elim, fun _ _ _ _ _ _ _ _ _ _ _ _ _ ⟨_, _, _, _, _, _, z⟩ => z.elim⟩
  | n + 1, i, d, fd, hi, F => by
    obtain ⟨fn, hf, hch⟩ := chkFs_at hc hi
    unfold chkF at hch
    simp only [Bool.and_eq_true, decide_eq_true_eq] at hch
    obtain ⟨g1, g2, g3, g4, g5⟩ := hch
    have S := scB_ok g1
    have evc : ∀ (ds : List D) (St : Store), evCall p.P (n + 1) i ds St = if ds.length = fn.np then fin fn.keep St (evSs { call := evCall p.P n, sub := p.P.sub } fn.body (ds.map some ++ List.replicate (fn.ns - fn.np) none) St) else .stuck := fun ds St => by
      simp only [evCall, hf]
    refine F.ok S (fun vs H Q E hsp => ?_) (fun cdv A outer s H vs Q E hr hsp => ?_)
    · obtain ⟨μ, Fz', St, ds, rl, q, z⟩ := hsp
      have z' : PostG (bsOf K) (wC (p.T K) E) μ Fz' H (evCall p.P (n + 1) i ds St) (fun d _ μ' F' H' => ∀ v, Rep (bsOf K) μ' F' H' d v → Q v H') := z
      rw [evc] at z'
      by_cases hl : ds.length = fn.np
      · rw [← q.length, hl, g3]
      · rw [if_neg hl] at z'; exact z'.elim
    · obtain ⟨μ, Fz', St, ds, rl, q, z⟩ := hsp
      have z' : PostG (bsOf K) (wC (p.T K) E) μ Fz' H (evCall p.P (n + 1) i ds St) (fun d _ μ' F' H' => ∀ v, Rep (bsOf K) μ' F' H' d v → Q v H') := z
      rw [evc] at z'
      by_cases hl : ds.length = fn.np
      · rw [if_pos hl] at z'
        have kn : ∀ x j, (nvOf p.G d).G.lookup x = some (.cls j) → j < (p.T K).nc := fun x j hj => (List.getElem?_eq_some_iff.mp (Pk.of_cls hj)).1
        have clE : ∀ {x j}, p.cs[j]? = some x → (p.T K).cl j = .ref (He.ga K x) := fun {x j} hj => Pk.clT hj
        have ca : (∀ x ∈ p.cs, exB K (He.ga K x) = true) ∧ ∀ i < p.cs.length, ∀ j < p.cs.length + p.bs.length + p.xs.length, PySem.W.kitOne K ((p.T K).cl i) ((p.T K).cl j) = some (p.P.sub i j) := by
          have := c.ex
          unfold Pk.exA at this
          simpa only [Bool.and_eq_true, List.all_eq_true, List.mem_range, decide_eq_true_eq] using this
        refine ⟨_, sSs fn.body (nvOf p.G d) (defBody d.st) _ { call := evCall p.P n, sub := p.P.sub } (fun c d _ H => E c d H) (T := p.T K) (B := bsOf K) (n := n) ?_ ?_ rfl kn g2, μ, Fz', St, _, rl, start_ok q (k := fn.ns - fn.np) (by omega), fin_ok rl z'⟩
        · exact {
            hN := rfl
            nd := S.nd
            sc := rfl
            K := rfl
            hot := rfl
            calm := fun _ => rfl
            hu := hr.units
            room := fun _ => hr
            call := rfl
            con := fun x dd hx => by
              obtain ⟨v, u, a1, a2, a3⟩ := c.con X G hk (Pk.of_con hx)
              exact ⟨v, u, a1, a2, a3 _⟩
            blt := fun x h1 h2 => c.free X G h1 h2
            fns := fun x j hj => by
              obtain ⟨d', e1, e2⟩ := Pk.of_fn hj
              obtain ⟨fd', F'⟩ := c.fn j d' e1
              have m := List.mem_of_getElem? e1
              refine ⟨_, fd', d'.ps, by rw [← e2]; exact c.glo X G m, F'.kp, F'.bindsN (hb d' m), all_ok c hc hk hbs hb X G n j d' fd' e1 F'⟩
            cls := fun x j hj => ⟨Nat.lt_of_lt_of_le (kn x j hj) (by show p.cs.length ≤ p.cs.length + p.bs.length + p.xs.length; omega), _, c.gloC X G (List.mem_of_getElem? (Pk.of_cls hj)), clE (Pk.of_cls hj)⟩
            own := fun _ _ => rfl
            tk := takes_of rfl rfl rfl rfl
            sub := rfl
            ex := fun z => nomatch z
            exn := fun _ i c fs v z => z
            tc := Pk.tc
            bcl := fun x i hx => by
              rcases Pk.of_bc hx with ⟨j, s, rfl, h2⟩ | ⟨j, rfl, h2⟩
              · have m := List.mem_of_getElem? h2
                have hl := (List.getElem?_eq_some_iff.mp h2).1
                exact ⟨by show p.cs.length + j < p.cs.length + p.bs.length + p.xs.length; omega, .inl ⟨c.freeB X G m, s, by
                  unfold Pk.bsB at hbs
                  simpa only [decide_eq_true_eq] using List.all_eq_true.mp hbs _ m, Pk.bcT h2⟩⟩
              · have m := List.mem_of_getElem? h2
                have hl := (List.getElem?_eq_some_iff.mp h2).1
                exact ⟨by show p.cs.length + p.bs.length + j < p.cs.length + p.bs.length + p.xs.length; omega, .inr ⟨_, c.gloX X G m, Pk.xcT h2⟩⟩ }
        · refine ⟨⟨fun _ => S.kind, fun _ => rfl, fun _ => rfl, fun _ x j hj => ?_, fun a b ha hb' => ?_, fun a b ha hb' => ca.2 a ha b hb', fun a ha => ?_⟩, fun _ => passes_of rfl⟩
          · have m := List.mem_of_getElem? (Pk.of_cls hj)
            obtain ⟨e1, e2, e3, e4⟩ := He.exc_ok (c.exc m)
            exact ⟨kn x j hj, _, c.gloC X G m, clE (Pk.of_cls hj), e2, raises_own e3 e4, e1⟩
          · have ha' : p.cs[a]? = some p.cs[a] := List.getElem?_eq_getElem ha
            have hb'' : p.cs[b]? = some p.cs[b] := List.getElem?_eq_getElem hb'
            rw [clE ha', clE hb'']
            exact He.exm_ok (c.exm ha' hb'')
          · have ha' : p.cs[a]? = some p.cs[a] := List.getElem?_eq_getElem ha
            exact ⟨_, clE ha', exB_ok (ca.1 _ (List.mem_of_getElem? ha'))⟩
      · rw [if_neg hl] at z'; exact z'.elim
end
/-! ### a law's end -/
section
variable {p : Pk}
def Pk.obK (p : Pk) (K : PySem.W.Frag) : He.AlD × Bool := (He.obsD p.fa p.fn K, p.exA K)
def Pk.Says (p : Pk) (K : PySem.W.Frag) : Prop := p.obK K = (He.valD p.fn, true)
def Pk.obG (p : Pk) (g : Addr → Option Obj) : He.AlD × Bool := p.obK (He.frG g (He.asD g 4))
def Pk.hk (p : Pk) : PySem.W.Hook where
  α := He.AlD × Bool
  obs := fun s => p.obG s.heap.get?
  val := fun _ => (He.valD p.fn, true)
  says := fun _ h => ∃ K : PySem.W.Frag, K.In h ∧ p.Says K
  of := fun _ _ e => ⟨_, He.frG_in, e⟩
  keeps := fun _ _ _ ⟨K, hK, c⟩ k => ⟨K, PySem.W.Frag.In.keeps hK k, c⟩
def Pk.ob (p : Pk) (s : PySem.W.SharedT) : He.AlD × Bool := p.obG (HandSHeadRun.getT s)
theorem Pk.ob_eq (p : Pk) (s : PySem.W.SharedT) : p.ob s = p.hk.obs s.abs := by
  have e : HandSHeadRun.getT s = s.abs.heap.get? := funext (HandSHeadRun.getT_eq s)
  show p.obG _ = p.obG _
  rw [e]
theorem fcts_of {K : PySem.W.Frag} (cc : p.Says K) : Fcts p K := by
  have c : He.SaysD p.fa p.fn K := (Prod.mk.inj cc).1
  refine ⟨(Prod.mk.inj cc).2, fun f hf => ?_, fun i d hi => ?_⟩
  · obtain ⟨i, hi⟩ := List.getElem?_of_mem hf
    exact c.fact i hi
  · obtain ⟨fd, F⟩ := c.def_ i (d := ⟨(d.name, none), d.name, d.name, defArgs d.st, defBody d.st, defScope d.st, [], []⟩) (by
      show (p.fs.map _)[i]? = _
      rw [List.getElem?_map, hi]
      rfl)
    exact ⟨fd, F⟩
/-- the law's def keeps its promise -/
theorem end_ok {l : PySem.W.OpenLaw} {w : World} {mg : Str → Option Value} {fa : Addr} {h : Heap} {n : Nat} {d : FnS} (i m : Nat) (hi : p.fs[i]? = some d) (hd : d.name = "law") (hps : d.ps = [("script" : Str)]) (hc : p.chk = true) (hk : ∀ q ∈ p.ks, (conF q).length = 1) (hbs : p.bsB = true) (hb : ∀ d ∈ p.fs, Bd d)
    (law : ∀ ns : List Int, ns.length ≤ n → (∀ z ∈ ns, z.natAbs.log2 ≤ 1048576) → ∃ S', evCall p.P m i [.sc (ns.map .int)] [] = .ok (.bl true) S')
    (Y : ∃ K : PySem.W.Frag, K.In h ∧ p.Says K) (G : h.Ns mainGlobals mg) (hmg : mg ("law" : Str) = some (.ref fa)) :
    ∃ (K : PySem.W.Frag) (fd : FuncData) (sp : Sp), K.In h ∧ (∀ (s : Shared) (u : Value), BindsTo s fd ⟨[u], []⟩ [(("script" : Str), u)]) ∧
      (∀ (H : Hp) (a : Addr) (ns : List Int), ns.length ≤ n → (∀ z ∈ ns, z.natAbs.log2 ≤ 1048576) → Only H → SqL K H a (ns.map V.int) → sp [.ref a] H (fun v _ => v = .bl true) fun _ _ _ => False) ∧
      ∀ base : Heap, K.In base → base.Ns mainGlobals mg → FnOk l.prog w K mg base (L2.CX l.prog w) m fa fd [("script" : Str)] sp := by
  obtain ⟨K, KX, c0⟩ := Y
  have c := fcts_of c0
  obtain ⟨fd, F⟩ := c.fn i d hi
  have m1 := List.mem_of_getElem? hi
  have e : fa = He.ga K d.name := by
    have := (c.glo KX G m1).symm
    rw [hd, hmg] at this
    rw [hd]
    exact (Value.ref.inj (Option.some.inj this)).symm
  subst e
  refine ⟨K, fd, spF (p.T K) (bsOf K) m i, KX, fun s u => ?_, fun H a ns hn hbits hO hS => ?_, fun base _ _ => ?_⟩
  · have := F.bindsA (ps := d.ps) (hb d m1) s [u] (by rw [hps]; rfl)
    rw [hps] at this
    exact this
  · obtain ⟨S', hl⟩ := law ns hn hbits
    have st : Still K H a (ns.map V.int) := by
      rcases hS with (h1 | h1) | h1
      · rcases hO a with z | ⟨o, xs, z⟩
        · rw [z] at h1; cases h1
        · rw [z] at h1; cases h1
      · exact .inl h1
      · exact .inr h1
    have rl : Rl (bsOf K) [] (fun _ => False) H [] := ⟨rfl, fun i _ _ z => by simp at z, fun i _ z => by simp at z, fun _ z => z.elim, fun i _ _ z => by simp at z⟩
    refine ⟨[], fun _ => False, [], _, rl, .cons (.vs st (Reps.of_ints ns)) .nil, ?_⟩
    show PostG _ _ _ _ _ (evCall p.P m i _ _) _
    rw [hl]
    intro μ' F' H' _ _ v rv
    cases rv
    rfl
  · rw [← hps]
    exact all_ok c hc hk hbs hb KX G m i d fd hi F
/-- a law's walk: what is let out may lean on the world -/
theorem walk_w {l : PySem.W.OpenLaw} {n k : Nat} {q : Program} {lo : List Str} {XP : (Str → Option Value) → Heap → Prop} {YP : World → Heap → Prop} {d : DefRec} {CX : World → CXT} {x : Str}
    (hn : l.most = some n) (hz : n ≤ sizeLine) (hdf : d.params.defaults = []) (hr : Room k callerA)
    (hF : ∀ (w : World) (mg : Str → Option Value) (fa : Addr) (h : Heap), YP w h → h.Ns mainGlobals mg → mg d.name = some (.ref fa) →
      ∃ (K : PySem.W.Frag) (fd : FuncData) (sp : Sp), K.In h ∧ (∀ (s : Shared) (u : Value), BindsTo s fd ⟨[u], []⟩ [(x, u)]) ∧
        (∀ (H : Hp) (a : Addr) (ns : List Int), ns.length ≤ n → (∀ z ∈ ns, z.natAbs.log2 ≤ 1048576) → Only H → SqL K H a (ns.map V.int) → sp [.ref a] H (fun v _ => v = .bl true) fun _ _ _ => False) ∧
        (∀ base : Heap, K.In base → base.Ns mainGlobals mg → FnOk l.prog w K mg base (CX w) k fa fd [x] sp))
    (hE : ∀ (w : World) (H : Hp) (s : Shared) (e : Value) (s' : Shared), CX w [] H s (fun _ _ _ => False) e s' → False) :
    PySem.W.WalkO q lo XP YP l.row.toRowW d [] (fun f vs => PySem.call f vs) := by
  refine Att.attach_callB hn hdf fun w t0 t1 mg mb fa ob pv cv dv a vs ns gr y _ _ _ em eo ei el ebits eg => ?_
  have elog : ∀ z ∈ ns, z.natAbs.log2 ≤ 1048576 := fun z hz => by
    have q := ebits z hz
    simp only [Builtin.Int.intBits] at q
    split at q
    · rename_i e
      have : z.natAbs.log2 = 0 := by simp_all
      omega
    · omega
  obtain ⟨K, fd, sp, kx, hb, hs, hf⟩ := hF w mg fa _ y gr.T.g em
  exact law_call kx gr.T.g gr.T.b gr.T.builtins gr.T.nolimit eg eo ei (Nat.le_trans el hz) hr hf hb (fun H ho hq => hs H a ns el elog ho hq) fun H e s' => hE w H t1 e s'
end
end SL
/-! The evaluator's laws for simp; loops. -/
namespace SL
theorem le_L {n : Nat} (h : n ≤ 1000000) : n ≤ LINE := Nat.le_trans h (by decide)
theorem lt_L {n : Nat} (h : n < 1000000) : n < LINE := Nat.lt_of_lt_of_le h (by decide)
@[simp] theorem le_L0 : 0 ≤ LINE := by decide
@[simp] theorem le_L1 : 1 ≤ LINE := by decide
@[simp] theorem le_L2 : 2 ≤ LINE := by decide
@[simp] theorem le_L3 : 3 ≤ LINE := by decide
@[simp] theorem le_L4 : 4 ≤ LINE := by decide
@[simp] theorem le_L5 : 5 ≤ LINE := by decide
@[simp] theorem le_L6 : 6 ≤ LINE := by decide
@[simp] theorem le_L7 : 7 ≤ LINE := by decide
@[simp] theorem le_L8 : 8 ≤ LINE := by decide
@[simp] theorem le_L9 : 9 ≤ LINE := by decide
@[simp] theorem le_L10 : 10 ≤ LINE := by decide
@[simp] theorem le_L11 : 11 ≤ LINE := by decide
@[simp] theorem le_L12 : 12 ≤ LINE := by decide
@[simp] theorem le_L13 : 13 ≤ LINE := by decide
@[simp] theorem le_L14 : 14 ≤ LINE := by decide
@[simp] theorem le_L15 : 15 ≤ LINE := by decide
@[simp] theorem le_L16 : 16 ≤ LINE := by decide
@[simp] theorem le_L17 : 17 ≤ LINE := by decide
@[simp] theorem le_L18 : 18 ≤ LINE := by decide
@[simp] theorem le_L19 : 19 ≤ LINE := by decide
@[simp] theorem le_L20 : 20 ≤ LINE := by decide
@[simp] theorem le_L21 : 21 ≤ LINE := by decide
@[simp] theorem le_L22 : 22 ≤ LINE := by decide
@[simp] theorem le_L23 : 23 ≤ LINE := by decide
@[simp] theorem le_L24 : 24 ≤ LINE := by decide
@[simp] theorem le_L25 : 25 ≤ LINE := by decide
@[simp] theorem le_L26 : 26 ≤ LINE := by decide
@[simp] theorem le_L27 : 27 ≤ LINE := by decide
@[simp] theorem le_L28 : 28 ≤ LINE := by decide
@[simp] theorem le_L29 : 29 ≤ LINE := by decide
@[simp] theorem le_L30 : 30 ≤ LINE := by decide
@[simp] theorem lt_L0 : 0 < LINE := by decide
@[simp] theorem lt_L1 : 1 < LINE := by decide
@[simp] theorem lt_L2 : 2 < LINE := by decide
@[simp] theorem lt_L3 : 3 < LINE := by decide
@[simp] theorem lt_L4 : 4 < LINE := by decide
@[simp] theorem lt_L5 : 5 < LINE := by decide
@[simp] theorem lt_L6 : 6 < LINE := by decide
@[simp] theorem lt_L7 : 7 < LINE := by decide
@[simp] theorem lt_L8 : 8 < LINE := by decide
@[simp] theorem lt_L9 : 9 < LINE := by decide
@[simp] theorem lt_L10 : 10 < LINE := by decide
@[simp] theorem lt_L11 : 11 < LINE := by decide
@[simp] theorem lt_L12 : 12 < LINE := by decide
@[simp] theorem lt_L13 : 13 < LINE := by decide
@[simp] theorem lt_L14 : 14 < LINE := by decide
@[simp] theorem lt_L15 : 15 < LINE := by decide
@[simp] theorem lt_L16 : 16 < LINE := by decide
@[simp] theorem lt_L17 : 17 < LINE := by decide
@[simp] theorem lt_L18 : 18 < LINE := by decide
@[simp] theorem lt_L19 : 19 < LINE := by decide
@[simp] theorem lt_L20 : 20 < LINE := by decide
@[simp] theorem lt_L21 : 21 < LINE := by decide
@[simp] theorem lt_L22 : 22 < LINE := by decide
@[simp] theorem lt_L23 : 23 < LINE := by decide
@[simp] theorem lt_L24 : 24 < LINE := by decide
@[simp] theorem lt_L25 : 25 < LINE := by decide
@[simp] theorem lt_L26 : 26 < LINE := by decide
@[simp] theorem lt_L27 : 27 < LINE := by decide
@[simp] theorem lt_L28 : 28 < LINE := by decide
@[simp] theorem lt_L29 : 29 < LINE := by decide
@[simp] theorem lt_L30 : 30 < LINE := by decide
def mkC (P : Prog) (n : Nat) : Cx := { call := evCall P n, sub := P.sub }
@[simp] theorem mkC_hot {P : Prog} {n : Nat} : (mkC P n).hot = false := (rfl)
@[simp] theorem mkC_call {P : Prog} {n : Nat} : (mkC P n).call = evCall P n := (rfl)
@[simp] theorem mkC_sub {P : Prog} {n : Nat} : (mkC P n).sub = P.sub := (rfl)
/-! ### one step at a time -/
def kOp1 (C : Cx) (o : Bool) (p : Op) (b : E) (σ : Slots) (r : Res D) : Res D := r.bind fun x S1 => (evE C b σ S1).bind fun y S2 => doOp o p x y S2
def kOp2 (o : Bool) (p : Op) (x : D) (r : Res D) : Res D := r.bind fun y S2 => doOp o p x y S2
def kNeg (r : Res D) : Res D := asI r fun i S1 => .ok (.int (-i)) S1
def kCmp1 (C : Cx) (c : Cmp) (b : E) (σ : Slots) (r : Res D) : Res D := r.bind fun x S1 => (evE C b σ S1).bind fun y S2 => doCmp c x y S2
def kCmp2 (c : Cmp) (x : D) (r : Res D) : Res D := r.bind fun y S2 => doCmp c x y S2
def kCh1 (C : Cx) (c c' : Cmp) (b d : E) (σ : Slots) (r : Res D) : Res D := r.bind fun x S1 => (evE C b σ S1).bind fun y S2 =>
      asB (doCmp c x y S2) fun t S3 => if t then (evE C d σ S3).bind fun z S4 => doCmp c' y z S4 else .ok (.bl false) S3
def kCh2 (C : Cx) (c c' : Cmp) (d : E) (σ : Slots) (x : D) (r : Res D) : Res D := r.bind fun y S2 =>
      asB (doCmp c x y S2) fun t S3 => if t then (evE C d σ S3).bind fun z S4 => doCmp c' y z S4 else .ok (.bl false) S3
def kCh3 (C : Cx) (c' : Cmp) (d : E) (σ : Slots) (y : D) (r : Res D) : Res D :=
      asB r fun t S3 => if t then (evE C d σ S3).bind fun z S4 => doCmp c' y z S4 else .ok (.bl false) S3
def kAnd (C : Cx) (b : E) (σ : Slots) (r : Res D) : Res D := asB r fun t S1 => if t then asB (evE C b σ S1) fun u S2 => .ok (.bl u) S2 else .ok (.bl false) S1
def kOr (C : Cx) (b : E) (σ : Slots) (r : Res D) : Res D := asB r fun t S1 => if t then .ok (.bl true) S1 else asB (evE C b σ S1) fun u S2 => .ok (.bl u) S2
def kBl (r : Res D) : Res D := asB r fun u S2 => .ok (.bl u) S2
def kNot (r : Res D) : Res D := asB r fun t S1 => .ok (.bl !t) S1
def kIf (C : Cx) (a b : E) (σ : Slots) (r : Res D) : Res D := asB r fun t S1 => if t then evE C a σ S1 else evE C b σ S1
def kTup (r : Res (List D)) : Res D := r.bind fun ds S1 => if ds.length ≤ LINE then .ok (.tup ds) S1 else .stuck
def kLst (o : Bool) (r : Res (List D)) : Res D := r.bind fun ds S1 => mk o ds S1
def kIx1 (C : Cx) (b : E) (σ : Slots) (r : Res D) : Res D := r.bind fun x S1 => (evE C b σ S1).bind fun y S2 => doIx x y S2
def kIx2 (x : D) (r : Res D) : Res D := r.bind fun y S2 => doIx x y S2
def kSl1 (C : Cx) (o : Bool) (lo hi : EO) (σ : Slots) (r : Res D) : Res D := r.bind fun x S1 => (evEO C lo σ S1).bind fun l S2 => (evEO C hi σ S2).bind fun h S3 => doSl o x l h S3
def kSl2 (C : Cx) (o : Bool) (hi : EO) (σ : Slots) (x : D) (r : Res (Option Int)) : Res D := r.bind fun l S2 => (evEO C hi σ S2).bind fun h S3 => doSl o x l h S3
def kSl3 (o : Bool) (x : D) (l : Option Int) (r : Res (Option Int)) : Res D := r.bind fun h S3 => doSl o x l h S3
def kCall (C : Cx) (f : Nat) (r : Res (List D)) : Res D := r.bind fun ds S1 => C.call f ds S1
def kBi (C : Cx) (o : Bool) (b : Bi) (r : Res (List D)) : Res D := r.bind fun ds S1 => doBi o b ds S1
def kMt1 (C : Cx) (o : Bool) (m : Mt) (es : Es) (σ : Slots) (r : Res D) : Res D := r.bind fun x S1 => if recv m x then (evEs C es σ S1).bind fun ds S2 => doMt o m x ds S2 else .stuck
def kMt2 (C : Cx) (o : Bool) (m : Mt) (x : D) (r : Res (List D)) : Res D := r.bind fun ds S2 => doMt o m x ds S2
def lstep (C : Cx) (elt : E) (tg : Tg) (c : EO) (σ : Slots) (d : D) (S : Store) : Res (Option D) := calm ((tgSet tg d (wipeS σ (tgIx tg)) S).bind fun σ1 S2 => (evC C c σ1 S2).bind fun t S3 =>
        if t then (evE C elt σ1 S3).bind fun y S4 => .ok (some y) S4 else .ok none S3)
def kLc (C : Cx) (o : Bool) (elt : E) (tg : Tg) (c : EO) (σ : Slots) (r : Res Walk) : Res D := r.bind fun w S1 => (lcLoop (lstep C elt tg c σ) w.gd w.ds [] S1).bind fun ds S2 => mk o ds S2
def kMk (o : Bool) (r : Res (List D)) : Res D := r.bind fun ds S2 => mk o ds S2
def kCons1 (C : Cx) (es : Es) (σ : Slots) (r : Res D) : Res (List D) := r.bind fun d S1 => (evEs C es σ S1).bind fun ds S2 => .ok (d :: ds) S2
def kCons2 (d : D) (r : Res (List D)) : Res (List D) := r.bind fun ds S2 => .ok (d :: ds) S2
def kEO (r : Res D) : Res (Option Int) := asI r fun i S1 => .ok (some i) S1
def kC (r : Res D) : Res Bool := r.bind fun d S1 => match d with | .bl b => .ok b S1 | _ => .stuck
def kVal (r : Res D) : Res Walk := r.bind fun d S1 => okO S1 (walkOf S1 d)
def kR1 (r : Res D) : Res Walk := asI r fun n S1 => if small62 n then .ok ⟨rngL 0 n.toNat 1, none⟩ S1 else .stuck
def kR2a (C : Cx) (b : E) (σ : Slots) (r : Res D) : Res Walk := asI r fun i S1 => asI (evE C b σ S1) fun j S2 =>
      if small62 i && small62 j then .ok ⟨rngL i (j - i).toNat 1, none⟩ S2 else .stuck
def kR2b (i : Int) (r : Res D) : Res Walk := asI r fun j S2 => if small62 i && small62 j then .ok ⟨rngL i (j - i).toNat 1, none⟩ S2 else .stuck
def kR3a (C : Cx) (b c : E) (σ : Slots) (r : Res D) : Res Walk := asI r fun i S1 => asI (evE C b σ S1) fun j S2 => asI (evE C c σ S2) fun k S3 =>
      if small62 i && small62 j && decide (k ≠ 0) && decide (k.natAbs < 1073741824) then .ok ⟨rngL i (rngN i j k) k, none⟩ S3 else .stuck
def kR3b (C : Cx) (c : E) (σ : Slots) (i : Int) (r : Res D) : Res Walk := asI r fun j S2 => asI (evE C c σ S2) fun k S3 =>
      if small62 i && small62 j && decide (k ≠ 0) && decide (k.natAbs < 1073741824) then .ok ⟨rngL i (rngN i j k) k, none⟩ S3 else .stuck
def kR3c (i j : Int) (r : Res D) : Res Walk := asI r fun k S3 =>
      if small62 i && small62 j && decide (k ≠ 0) && decide (k.natAbs < 1073741824) then .ok ⟨rngL i (rngN i j k) k, none⟩ S3 else .stuck
def kZ1 (C : Cx) (b : E) (σ : Slots) (r : Res D) : Res Walk := r.bind fun x S1 => (evE C b σ S1).bind fun y S2 => zipW x y S2
def kZ2 (x : D) (r : Res D) : Res Walk := r.bind fun y S2 => zipW x y S2
def kEn (r : Res D) : Res Walk := r.bind fun x S1 => enumW x S1
def kRv (r : Res D) : Res Walk := r.bind fun x S1 => revW x S1
def kRR (r : Res D) : Res Walk := asI r fun n S1 => if small62 n then .ok ⟨(rngL 0 n.toNat 1).reverse, none⟩ S1 else .stuck

section
variable {C : Cx} {σ : Slots} {S : Store} {o : Bool} {p : Op} {a b d e x y z : E} {c c' : Cmp} {es : Es} {t : Bool} {v u : D} {ds vs : List D} {i j k : Int} {w : Walk} {c0 : Nat} {fs0 : List D} {lo hi : EO} {tg : Tg} {it : It} {cd : EO} {f : Nat} {m : Mt} {bi : Bi} {cs : List Nat} {q : Nat}
@[simp] theorem eE_var : evE C (.var q) σ S = (match σ[q]? with | some (some (.exn _ _)) => Res.stuck | some (some d) => Res.ok d S | _ => .stuck) := by simp only [evE] <;> rfl
@[simp] theorem eE_con : evE C (.con v) σ S = .ok v S := by simp only [evE]
@[simp] theorem eE_op : evE C (.op o p a b) σ S = kOp1 C o p b σ (evE C a σ S) := by simp only [evE] <;> rfl
@[simp] theorem kOp1_ok : kOp1 C o p b σ (.ok v S) = kOp2 o p v (evE C b σ S) := (rfl)
@[simp] theorem kOp2_ok : kOp2 o p v (.ok u S) = doOp o p v u S := (rfl)
@[simp] theorem eE_neg : evE C (.neg a) σ S = kNeg (evE C a σ S) := by simp only [evE] <;> rfl
@[simp] theorem kNeg_ok : kNeg (.ok (.int i) S) = .ok (.int (-i)) S := (rfl)
@[simp] theorem eE_cmp : evE C (.cmp c a b) σ S = kCmp1 C c b σ (evE C a σ S) := by simp only [evE] <;> rfl
@[simp] theorem kCmp1_ok : kCmp1 C c b σ (.ok v S) = kCmp2 c v (evE C b σ S) := (rfl)
@[simp] theorem kCmp2_ok : kCmp2 c v (.ok u S) = doCmp c v u S := (rfl)
@[simp] theorem eE_cmp2 : evE C (.cmp2 c c' a b d) σ S = kCh1 C c c' b d σ (evE C a σ S) := by simp only [evE] <;> rfl
@[simp] theorem kCh1_ok : kCh1 C c c' b d σ (.ok v S) = kCh2 C c c' d σ v (evE C b σ S) := (rfl)
@[simp] theorem kCh2_ok : kCh2 C c c' d σ v (.ok u S) = kCh3 C c' d σ u (doCmp c v u S) := (rfl)
@[simp] theorem kCh3_ok : kCh3 C c' d σ v (.ok (.bl t) S) = if t = true then kCmp2 c' v (evE C d σ S) else .ok (.bl false) S := (rfl)
@[simp] theorem eE_and : evE C (.and a b) σ S = kAnd C b σ (evE C a σ S) := by simp only [evE] <;> rfl
@[simp] theorem kAnd_ok : kAnd C b σ (.ok (.bl t) S) = if t = true then kBl (evE C b σ S) else .ok (.bl false) S := (rfl)
@[simp] theorem eE_or : evE C (.or a b) σ S = kOr C b σ (evE C a σ S) := by simp only [evE] <;> rfl
@[simp] theorem kOr_ok : kOr C b σ (.ok (.bl t) S) = if t = true then .ok (.bl true) S else kBl (evE C b σ S) := (rfl)
@[simp] theorem kBl_ok : kBl (.ok (.bl t) S) = .ok (.bl t) S := (rfl)
@[simp] theorem eE_not : evE C (.not a) σ S = kNot (evE C a σ S) := by simp only [evE] <;> rfl
@[simp] theorem kNot_ok : kNot (.ok (.bl t) S) = .ok (.bl !t) S := (rfl)
@[simp] theorem eE_ite : evE C (.ite e a b) σ S = kIf C a b σ (evE C e σ S) := by simp only [evE] <;> rfl
@[simp] theorem kIf_ok : kIf C a b σ (.ok (.bl t) S) = if t = true then evE C a σ S else evE C b σ S := (rfl)
@[simp] theorem eE_tup : evE C (.tup es) σ S = kTup (evEs C es σ S) := by simp only [evE] <;> rfl
@[simp] theorem kTup_ok : kTup (.ok ds S) = if ds.length ≤ LINE then .ok (.tup ds) S else .stuck := (rfl)
@[simp] theorem eE_lst : evE C (.lst o es) σ S = kLst o (evEs C es σ S) := by simp only [evE] <;> rfl
@[simp] theorem kLst_ok : kLst o (.ok ds S) = mk o ds S := (rfl)
@[simp] theorem eE_ix : evE C (.ix a b) σ S = kIx1 C b σ (evE C a σ S) := by simp only [evE] <;> rfl
@[simp] theorem kIx1_ok : kIx1 C b σ (.ok v S) = kIx2 v (evE C b σ S) := (rfl)
@[simp] theorem kIx2_ok : kIx2 v (.ok u S) = doIx v u S := (rfl)
@[simp] theorem eE_sl : evE C (.sl o a lo hi) σ S = kSl1 C o lo hi σ (evE C a σ S) := by simp only [evE] <;> rfl
@[simp] theorem kSl1_ok : kSl1 C o lo hi σ (.ok v S) = kSl2 C o hi σ v (evEO C lo σ S) := (rfl)
@[simp] theorem kSl2_ok {l : Option Int} : kSl2 C o hi σ v (.ok l S) = kSl3 o v l (evEO C hi σ S) := (rfl)
@[simp] theorem kSl3_ok {l h : Option Int} : kSl3 o v l (.ok h S) = doSl o v l h S := (rfl)
@[simp] theorem eE_call {P : Prog} {n : Nat} : evE (mkC P n) (.call f es) σ S = kCall (mkC P n) f (evEs (mkC P n) es σ S) := by simp only [evE] <;> rfl
@[simp] theorem kCall_ok {P : Prog} {n : Nat} : kCall (mkC P n) f (.ok ds S) = evCall P n f ds S := (rfl)
@[simp] theorem eE_bi {P : Prog} {n : Nat} : evE (mkC P n) (.bi o bi es) σ S = kBi (mkC P n) o bi (evEs (mkC P n) es σ S) := by simp only [evE] <;> rfl
@[simp] theorem kBi_ok {P : Prog} {n : Nat} : kBi (mkC P n) o bi (.ok ds S) = doBi o bi ds S := (rfl)
@[simp] theorem eE_mt {P : Prog} {n : Nat} : evE (mkC P n) (.mt o m a es) σ S = kMt1 (mkC P n) o m es σ (evE (mkC P n) a σ S) := by simp only [evE] <;> rfl
@[simp] theorem kMt1_ok : kMt1 C o m es σ (.ok v S) = if recv m v = true then kMt2 C o m v (evEs C es σ S) else .stuck := (rfl)
@[simp] theorem kMt2_ok {P : Prog} {n : Nat} : kMt2 (mkC P n) o m v (.ok ds S) = doMt o m v ds S := (rfl)
@[simp] theorem eE_lc {P : Prog} {n : Nat} : evE (mkC P n) (.lc o e tg it cd) σ S = kLc (mkC P n) o e tg cd σ (evIt (mkC P n) it σ S) := by simp only [evE] <;> rfl
@[simp] theorem kLc_ok : kLc C o e tg cd σ (.ok w S) = kMk o (lcLoop (lstep C e tg cd σ) w.gd w.ds [] S) := (rfl)
@[simp] theorem kMk_ok : kMk o (.ok ds S) = mk o ds S := (rfl)
@[simp] theorem eE_fld {q2 : Nat} : evE C (.fld q q2) σ S = (match σ[q]? with | some (some (.exn _ fs)) => (match fs[q2]? with | some d => Res.ok d S | none => .stuck) | _ => .stuck) := by simp only [evE] <;> rfl
@[simp] theorem eE_fz : evE C (.fz q) σ S = (match σ[q]? with | some (some (.ref j0)) => (match S[j0]? with | some (.lst ds) => .ok (.vl ds) (S.set j0 .dead) | _ => .stuck) | _ => .stuck) := by simp only [evE] <;> rfl
@[simp] theorem eE_isx : evE C (.isx q cs) σ S = (match σ[q]? with | some (some (.exn c _)) => .ok (.bl (cs.any (C.sub c))) S | _ => .stuck) := by simp only [evE] <;> rfl
@[simp] theorem eEs_nil : evEs C .nil σ S = .ok [] S := by simp only [evEs]
@[simp] theorem eEs_cons : evEs C (.cons e es) σ S = kCons1 C es σ (evE C e σ S) := by simp only [evEs] <;> rfl
@[simp] theorem kCons1_ok : kCons1 C es σ (.ok v S) = kCons2 v (evEs C es σ S) := (rfl)
@[simp] theorem kCons2_ok : kCons2 v (.ok ds S) = .ok (v :: ds) S := (rfl)
@[simp] theorem eEO_none : evEO C .none σ S = .ok none S := by simp only [evEO]
@[simp] theorem eEO_some : evEO C (.some e) σ S = kEO (evE C e σ S) := by simp only [evEO] <;> rfl
@[simp] theorem kEO_ok : kEO (.ok (.int i) S) = .ok (some i) S := (rfl)
@[simp] theorem eC_none : evC C .none σ S = .ok true S := by simp only [evC]
@[simp] theorem eC_some : evC C (.some e) σ S = kC (evE C e σ S) := by simp only [evC] <;> rfl
@[simp] theorem kC_ok : kC (.ok (.bl t) S) = .ok t S := (rfl)
@[simp] theorem eI_val : evIt C (.val e) σ S = kVal (evE C e σ S) := by simp only [evIt] <;> rfl
@[simp] theorem kVal_tup : kVal (.ok (.tup ds) S) = .ok ⟨ds, none⟩ S := (rfl)
@[simp] theorem kVal_vl : kVal (.ok (.vl ds) S) = .ok ⟨ds, none⟩ S := (rfl)
@[simp] theorem kVal_sc : kVal (.ok (.sc ds) S) = .ok ⟨ds, none⟩ S := (rfl)
@[simp] theorem kVal_ref : kVal (.ok (.ref q) S) = (match S[q]? with | some (.lst ds) => .ok ⟨ds, some (q, ds)⟩ S | _ => .stuck) := by unfold kVal walkOf; cases h : S[q]? with | none => simp [h, okO] | some cc => cases cc <;> simp [h, okO]
@[simp] theorem eI_r1 : evIt C (.range1 a) σ S = kR1 (evE C a σ S) := by simp only [evIt] <;> rfl
@[simp] theorem kR1_ok : kR1 (.ok (.int i) S) = if small62 i = true then .ok ⟨rngL 0 i.toNat 1, none⟩ S else .stuck := (rfl)
@[simp] theorem eI_r2 : evIt C (.range2 a b) σ S = kR2a C b σ (evE C a σ S) := by simp only [evIt] <;> rfl
@[simp] theorem kR2a_ok : kR2a C b σ (.ok (.int i) S) = kR2b i (evE C b σ S) := (rfl)
@[simp] theorem kR2b_ok : kR2b i (.ok (.int j) S) = if (small62 i && small62 j) = true then .ok ⟨rngL i (j - i).toNat 1, none⟩ S else .stuck := (rfl)
@[simp] theorem eI_r3 : evIt C (.range3 a b d) σ S = kR3a C b d σ (evE C a σ S) := by simp only [evIt] <;> rfl
@[simp] theorem kR3a_ok : kR3a C b d σ (.ok (.int i) S) = kR3b C d σ i (evE C b σ S) := (rfl)
@[simp] theorem kR3b_ok : kR3b C d σ i (.ok (.int j) S) = kR3c i j (evE C d σ S) := (rfl)
@[simp] theorem kR3c_ok : kR3c i j (.ok (.int k) S) = if (small62 i && small62 j && decide (k ≠ 0) && decide (k.natAbs < 1073741824)) = true then .ok ⟨rngL i (rngN i j k) k, none⟩ S else .stuck := (rfl)
@[simp] theorem eI_zip : evIt C (.zip a b) σ S = kZ1 C b σ (evE C a σ S) := by simp only [evIt] <;> rfl
@[simp] theorem kZ1_ok : kZ1 C b σ (.ok v S) = kZ2 v (evE C b σ S) := (rfl)
@[simp] theorem kZ2_ok : kZ2 v (.ok u S) = zipW v u S := (rfl)
@[simp] theorem zipW_tt : zipW (.tup ds) (.tup vs) S = .ok ⟨zipT ds vs, none⟩ S := (rfl)
@[simp] theorem zipW_vt : zipW (.vl ds) (.tup vs) S = .ok ⟨zipT ds vs, none⟩ S := (rfl)
@[simp] theorem zipW_tv : zipW (.tup ds) (.vl vs) S = .ok ⟨zipT ds vs, none⟩ S := (rfl)
@[simp] theorem zipW_vv : zipW (.vl ds) (.vl vs) S = .ok ⟨zipT ds vs, none⟩ S := (rfl)
@[simp] theorem zipW_sv : zipW (.sc ds) (.vl vs) S = .ok ⟨zipT ds vs, none⟩ S := (rfl)
@[simp] theorem eI_enum : evIt C (.enum a) σ S = kEn (evE C a σ S) := by simp only [evIt] <;> rfl
@[simp] theorem kEn_t : kEn (.ok (.tup ds) S) = .ok ⟨enumT ds, none⟩ S := (rfl)
@[simp] theorem kEn_v : kEn (.ok (.vl ds) S) = .ok ⟨enumT ds, none⟩ S := (rfl)
@[simp] theorem eI_rev : evIt C (.rev a) σ S = kRv (evE C a σ S) := by simp only [evIt] <;> rfl
@[simp] theorem kRv_t : kRv (.ok (.tup ds) S) = .ok ⟨ds.reverse, none⟩ S := (rfl)
@[simp] theorem kRv_v : kRv (.ok (.vl ds) S) = .ok ⟨ds.reverse, none⟩ S := (rfl)
@[simp] theorem eI_rr : evIt C (.revrange a) σ S = kRR (evE C a σ S) := by simp only [evIt] <;> rfl
@[simp] theorem kRR_ok : kRR (.ok (.int i) S) = if small62 i = true then .ok ⟨(rngL 0 i.toNat 1).reverse, none⟩ S else .stuck := (rfl)
@[simp] theorem kOp1_ex : kOp1 C o p b σ (.exc c0 fs0 S) = .exc c0 fs0 S := (rfl)
@[simp] theorem kOp2_ex : kOp2 o p v (.exc c0 fs0 S) = .exc c0 fs0 S := (rfl)
@[simp] theorem kNeg_ex : kNeg  (.exc c0 fs0 S) = .exc c0 fs0 S := (rfl)
@[simp] theorem kCmp1_ex : kCmp1 C c b σ (.exc c0 fs0 S) = .exc c0 fs0 S := (rfl)
@[simp] theorem kCmp2_ex : kCmp2 c v (.exc c0 fs0 S) = .exc c0 fs0 S := (rfl)
@[simp] theorem kCh1_ex : kCh1 C c c' b d σ (.exc c0 fs0 S) = .exc c0 fs0 S := (rfl)
@[simp] theorem kCh2_ex : kCh2 C c c' d σ v (.exc c0 fs0 S) = .exc c0 fs0 S := (rfl)
@[simp] theorem kCh3_ex : kCh3 C c' d σ v (.exc c0 fs0 S) = .exc c0 fs0 S := (rfl)
@[simp] theorem kAnd_ex : kAnd C b σ (.exc c0 fs0 S) = .exc c0 fs0 S := (rfl)
@[simp] theorem kOr_ex : kOr C b σ (.exc c0 fs0 S) = .exc c0 fs0 S := (rfl)
@[simp] theorem kBl_ex : kBl  (.exc c0 fs0 S) = .exc c0 fs0 S := (rfl)
@[simp] theorem kNot_ex : kNot  (.exc c0 fs0 S) = .exc c0 fs0 S := (rfl)
@[simp] theorem kIf_ex : kIf C a b σ (.exc c0 fs0 S) = .exc c0 fs0 S := (rfl)
@[simp] theorem kTup_ex : kTup  (.exc c0 fs0 S) = .exc c0 fs0 S := (rfl)
@[simp] theorem kLst_ex : kLst o (.exc c0 fs0 S) = .exc c0 fs0 S := (rfl)
@[simp] theorem kIx1_ex : kIx1 C b σ (.exc c0 fs0 S) = .exc c0 fs0 S := (rfl)
@[simp] theorem kIx2_ex : kIx2 v (.exc c0 fs0 S) = .exc c0 fs0 S := (rfl)
@[simp] theorem kSl1_ex : kSl1 C o lo hi σ (.exc c0 fs0 S) = .exc c0 fs0 S := (rfl)
@[simp] theorem kCall_ex : kCall C f (.exc c0 fs0 S) = .exc c0 fs0 S := (rfl)
@[simp] theorem kBi_ex : kBi C o bi (.exc c0 fs0 S) = .exc c0 fs0 S := (rfl)
@[simp] theorem kMt1_ex : kMt1 C o m es σ (.exc c0 fs0 S) = .exc c0 fs0 S := (rfl)
@[simp] theorem kMt2_ex : kMt2 C o m v (.exc c0 fs0 S) = .exc c0 fs0 S := (rfl)
@[simp] theorem kLc_ex : kLc C o e tg cd σ (.exc c0 fs0 S) = .exc c0 fs0 S := (rfl)
@[simp] theorem kMk_ex : kMk o (.exc c0 fs0 S) = .exc c0 fs0 S := (rfl)
@[simp] theorem kCons1_ex : kCons1 C es σ (.exc c0 fs0 S) = .exc c0 fs0 S := (rfl)
@[simp] theorem kCons2_ex : kCons2 v (.exc c0 fs0 S) = .exc c0 fs0 S := (rfl)
@[simp] theorem kEO_ex : kEO  (.exc c0 fs0 S) = .exc c0 fs0 S := (rfl)
@[simp] theorem kVal_ex : kVal  (.exc c0 fs0 S) = .exc c0 fs0 S := (rfl)
@[simp] theorem kR1_ex : kR1  (.exc c0 fs0 S) = .exc c0 fs0 S := (rfl)
@[simp] theorem kR2a_ex : kR2a C b σ (.exc c0 fs0 S) = .exc c0 fs0 S := (rfl)
@[simp] theorem kZ1_ex : kZ1 C b σ (.exc c0 fs0 S) = .exc c0 fs0 S := (rfl)
@[simp] theorem kZ2_ex : kZ2 v (.exc c0 fs0 S) = .exc c0 fs0 S := (rfl)
@[simp] theorem kEn_ex : kEn  (.exc c0 fs0 S) = .exc c0 fs0 S := (rfl)
@[simp] theorem kRv_ex : kRv  (.exc c0 fs0 S) = .exc c0 fs0 S := (rfl)
@[simp] theorem kBl_if {pp : Prop} [Decidable pp] {r1 r2 : Res D} : kBl  (if pp then r1 else r2) = if pp then kBl  r1 else kBl  r2 := by split <;> rfl
@[simp] theorem kAnd_if {pp : Prop} [Decidable pp] {r1 r2 : Res D} : kAnd C b σ (if pp then r1 else r2) = if pp then kAnd C b σ r1 else kAnd C b σ r2 := by split <;> rfl
@[simp] theorem kOr_if {pp : Prop} [Decidable pp] {r1 r2 : Res D} : kOr C b σ (if pp then r1 else r2) = if pp then kOr C b σ r1 else kOr C b σ r2 := by split <;> rfl
@[simp] theorem kOp1_if {pp : Prop} [Decidable pp] {r1 r2 : Res D} : kOp1 C o p b σ (if pp then r1 else r2) = if pp then kOp1 C o p b σ r1 else kOp1 C o p b σ r2 := by split <;> rfl
@[simp] theorem kOp2_if {pp : Prop} [Decidable pp] {r1 r2 : Res D} : kOp2 o p v (if pp then r1 else r2) = if pp then kOp2 o p v r1 else kOp2 o p v r2 := by split <;> rfl
@[simp] theorem kNeg_if {pp : Prop} [Decidable pp] {r1 r2 : Res D} : kNeg  (if pp then r1 else r2) = if pp then kNeg  r1 else kNeg  r2 := by split <;> rfl
@[simp] theorem kCmp1_if {pp : Prop} [Decidable pp] {r1 r2 : Res D} : kCmp1 C c b σ (if pp then r1 else r2) = if pp then kCmp1 C c b σ r1 else kCmp1 C c b σ r2 := by split <;> rfl
@[simp] theorem kCmp2_if {pp : Prop} [Decidable pp] {r1 r2 : Res D} : kCmp2 c v (if pp then r1 else r2) = if pp then kCmp2 c v r1 else kCmp2 c v r2 := by split <;> rfl
@[simp] theorem kNot_if {pp : Prop} [Decidable pp] {r1 r2 : Res D} : kNot  (if pp then r1 else r2) = if pp then kNot  r1 else kNot  r2 := by split <;> rfl
@[simp] theorem kTup_if {pp : Prop} [Decidable pp] {r1 r2 : Res (List D)} : kTup  (if pp then r1 else r2) = if pp then kTup  r1 else kTup  r2 := by split <;> rfl
@[simp] theorem kLst_if {pp : Prop} [Decidable pp] {r1 r2 : Res (List D)} : kLst o (if pp then r1 else r2) = if pp then kLst o r1 else kLst o r2 := by split <;> rfl
@[simp] theorem kIx1_if {pp : Prop} [Decidable pp] {r1 r2 : Res D} : kIx1 C b σ (if pp then r1 else r2) = if pp then kIx1 C b σ r1 else kIx1 C b σ r2 := by split <;> rfl
@[simp] theorem kIx2_if {pp : Prop} [Decidable pp] {r1 r2 : Res D} : kIx2 v (if pp then r1 else r2) = if pp then kIx2 v r1 else kIx2 v r2 := by split <;> rfl
@[simp] theorem kCall_if {pp : Prop} [Decidable pp] {r1 r2 : Res (List D)} : kCall C f (if pp then r1 else r2) = if pp then kCall C f r1 else kCall C f r2 := by split <;> rfl
@[simp] theorem kBi_if {pp : Prop} [Decidable pp] {r1 r2 : Res (List D)} : kBi C o bi (if pp then r1 else r2) = if pp then kBi C o bi r1 else kBi C o bi r2 := by split <;> rfl
@[simp] theorem kMt1_if {pp : Prop} [Decidable pp] {r1 r2 : Res D} : kMt1 C o m es σ (if pp then r1 else r2) = if pp then kMt1 C o m es σ r1 else kMt1 C o m es σ r2 := by split <;> rfl
@[simp] theorem kMt2_if {pp : Prop} [Decidable pp] {r1 r2 : Res (List D)} : kMt2 C o m v (if pp then r1 else r2) = if pp then kMt2 C o m v r1 else kMt2 C o m v r2 := by split <;> rfl
@[simp] theorem kCons1_if {pp : Prop} [Decidable pp] {r1 r2 : Res D} : kCons1 C es σ (if pp then r1 else r2) = if pp then kCons1 C es σ r1 else kCons1 C es σ r2 := by split <;> rfl
@[simp] theorem kCons2_if {pp : Prop} [Decidable pp] {r1 r2 : Res (List D)} : kCons2 v (if pp then r1 else r2) = if pp then kCons2 v r1 else kCons2 v r2 := by split <;> rfl
@[simp] theorem kEO_if {pp : Prop} [Decidable pp] {r1 r2 : Res D} : kEO  (if pp then r1 else r2) = if pp then kEO  r1 else kEO  r2 := by split <;> rfl
end
/-! ### statements -/
def kRt (σ : Slots) (r : Res D) : Res Out := lift σ r fun d S1 => .ok (.rt d) S1
def kExp (σ : Slots) (r : Res D) : Res Out := lift σ r fun _ S1 => .ok (.nx σ) S1
def kAsg (tg : Tg) (σ : Slots) (r : Res D) : Res Out := lift σ r fun d S1 => (tgSet tg d σ S1).bind fun σ' S2 => .ok (.nx σ') S2
def kNx (r : Res Slots) : Res Out := r.bind fun σ' S2 => .ok (.nx σ') S2
def kIt (C : Cx) (a b : Ss) (σ : Slots) (r : Res D) : Res Out := lift σ r fun d S1 => match d with
      | .bl true => evSs C a σ S1
      | .bl false => evSs C b σ S1
      | _ => .stuck
def fstep (C : Cx) (tg : Tg) (b : Ss) (d : D) (σ : Slots) (S : Store) : Res Out := (tgSet tg d σ S).bind fun σ1 S2 => evSs C b σ1 S2
def kFst (C : Cx) (b : Ss) (r : Res Slots) : Res Out := r.bind fun σ1 S2 => evSs C b σ1 S2
def kFor (C : Cx) (tg : Tg) (b : Ss) (σ : Slots) (r : Res Walk) : Res Out := lift σ r fun w S1 => forLoop (fstep C tg b) w.gd w.ds σ S1
def wcond (C : Cx) (c : E) (σ : Slots) (S : Store) : Res D := evE C c σ S
def wbody (C : Cx) (b : Ss) (σ : Slots) (S : Store) : Res Out := evSs C b σ S
def kRs (c : Nat) (σ : Slots) (r : Res (List D)) : Res Out := lift σ r fun ds S1 => .ok (.ex c ds σ) S1
def kTry (C : Cx) (hs : Hs) (o : Ss) (r : Res Out) : Res Out := r.bind fun q S1 => match q with
      | .nx σ' => evSs C o σ' S1
      | .ex c fs σ' => evHs C hs c fs σ' S1
      | q => .ok q S1
def kSs (C : Cx) (ss : Ss) (r : Res Out) : Res Out := r.bind fun o S1 => match o with
      | .nx σ' => evSs C ss σ' S1
      | o => .ok o S1
def kHs (i : Nat) (r : Res Out) : Res Out := r.bind fun o S1 => match o with
          | .nx σ' => .ok (.nx (σ'.set i none)) S1
          | .bk σ' => .ok (.bk (σ'.set i none)) S1
          | .ct σ' => .ok (.ct (σ'.set i none)) S1
          | o => .ok o S1
def kAug (σ : Slots) (i : Nat) (p : Op) (x : D) (r : Res D) : Res Out := lift σ r fun y S1 => match x, y with
        | .int a, .int b => (okO S1 (intOp p a b)).bind fun z S2 => if p = .add ∨ p = .sub then .ok (.nx (σ.set i (some (.int z)))) S2 else .stuck
        | _, _ => .stuck
def kSet1 (C : Cx) (a i : E) (σ : Slots) (r : Res D) : Res Out := lift σ r fun d S1 => lift σ (evE C a σ S1) fun x S2 => lift σ (evE C i σ S2) fun y S3 =>
      match lstAt S3 x, y with
      | some (j, ds), .int k => match ixN ds.length k with
        | some n => .ok (.nx σ) (S3.set j (.lst (ds.set n d)))
        | none => .stuck
      | _, _ => .stuck
def kSet2 (C : Cx) (i : E) (σ : Slots) (d : D) (r : Res D) : Res Out := lift σ r fun x S2 => lift σ (evE C i σ S2) fun y S3 =>
      match lstAt S3 x, y with
      | some (j, ds), .int k => match ixN ds.length k with
        | some n => .ok (.nx σ) (S3.set j (.lst (ds.set n d)))
        | none => .stuck
      | _, _ => .stuck
def kSet3 (σ : Slots) (d x : D) (r : Res D) : Res Out := lift σ r fun y S3 =>
      match lstAt S3 x, y with
      | some (j, ds), .int k => match ixN ds.length k with
        | some n => .ok (.nx σ) (S3.set j (.lst (ds.set n d)))
        | none => .stuck
      | _, _ => .stuck
section
variable {C : Cx} {σ σ' : Slots} {S : Store} {p : Op} {a b d e x y z : E} {ss sa sb : Ss} {s : St} {es : Es} {t : Bool} {v u : D} {ds vs : List D} {i j k : Int} {w : Walk} {c0 : Nat} {fs0 : List D} {tg : Tg} {it : It} {f q : Nat} {hs : Hs} {ou : Out}
@[simp] theorem eS_asg : evS C (.asg tg e) σ S = kAsg tg σ (evE C e σ S) := by simp only [evS] <;> rfl
@[simp] theorem kAsg_ok : kAsg tg σ (.ok v S) = kNx (tgSet tg v σ S) := (rfl)
@[simp] theorem kNx_ok : kNx (.ok σ S) = .ok (.nx σ) S := (rfl)
@[simp] theorem tgSet_name : tgSet (.name q) v σ S = .ok (σ.set q (some v)) S := (rfl)
@[simp] theorem tgSet_tup {is : List Nat} : tgSet (.tup is) (.tup ds) σ S = if ds.length = is.length then .ok ((is.zip ds).foldl (fun σ p => σ.set p.1 (some p.2)) σ) S else .stuck := (rfl)
@[simp] theorem eS_set : evS C (.set a d e) σ S = kSet1 C a d σ (evE C e σ S) := by simp only [evS] <;> rfl
@[simp] theorem kSet1_ok : kSet1 C a d σ (.ok v S) = kSet2 C d σ v (evE C a σ S) := (rfl)
@[simp] theorem kSet2_ok : kSet2 C d σ v (.ok u S) = kSet3 σ v u (evE C d σ S) := (rfl)
@[simp] theorem kSet3_ok : kSet3 σ v u (.ok (.int k) S) = (match lstAt S u with
      | some (j, ds) => match ixN ds.length k with
        | some n => .ok (.nx σ) (S.set j (.lst (ds.set n v)))
        | none => .stuck
      | _ => .stuck) := by
  unfold kSet3
  simp only [lift_ok]
  cases lstAt S u <;> rfl
@[simp] theorem eS_aug : evS C (.aug q p e) σ S = (match σ[q]? with | some (some x) => kAug σ q p x (evE C e σ S) | _ => .stuck) := by simp only [evS] <;> rfl
@[simp] theorem kAug_add : kAug σ q .add (.int i) (.ok (.int j) S) = .ok (.nx (σ.set q (some (.int (i + j))))) S := (rfl)
@[simp] theorem kAug_sub : kAug σ q .sub (.int i) (.ok (.int j) S) = .ok (.nx (σ.set q (some (.int (i - j))))) S := (rfl)
@[simp] theorem eS_expr : evS C (.expr e) σ S = kExp σ (evE C e σ S) := by simp only [evS] <;> rfl
@[simp] theorem kExp_ok : kExp σ (.ok v S) = .ok (.nx σ) S := (rfl)
@[simp] theorem eS_ret : evS C (.ret e) σ S = kRt σ (evE C e σ S) := by simp only [evS] <;> rfl
@[simp] theorem kRt_ok : kRt σ (.ok v S) = .ok (.rt v) S := (rfl)
@[simp] theorem eS_retN : evS C .retN σ S = .ok (.rt .non) S := by simp only [evS]
@[simp] theorem eS_pass : evS C .pass σ S = .ok (.nx σ) S := by simp only [evS]
@[simp] theorem eS_brk : evS C .brk σ S = .ok (.bk σ) S := by simp only [evS]
@[simp] theorem eS_cont : evS C .cont σ S = .ok (.ct σ) S := by simp only [evS]
@[simp] theorem eS_ite : evS C (.ite e sa sb) σ S = kIt C sa sb σ (evE C e σ S) := by simp only [evS] <;> rfl
@[simp] theorem kIt_ok : kIt C sa sb σ (.ok (.bl t) S) = if t = true then evSs C sa σ S else evSs C sb σ S := by cases t <;> rfl
@[simp] theorem eS_for {P : Prog} {n : Nat} : evS (mkC P n) (.for_ tg it ss) σ S = kFor (mkC P n) tg ss σ (evIt (mkC P n) it σ S) := by simp only [evS] <;> rfl
@[simp] theorem kFor_ok : kFor C tg ss σ (.ok w S) = forLoop (fstep C tg ss) w.gd w.ds σ S := (rfl)
theorem fstep_eq : fstep C tg ss v σ S = kFst C ss (tgSet tg v σ S) := (rfl)
@[simp] theorem kFst_ok : kFst C ss (.ok σ S) = evSs C ss σ S := (rfl)
@[simp] theorem eS_while {P : Prog} {n : Nat} : evS (mkC P n) (.while_ e ss) σ S = whileLoop (wcond (mkC P n) e) (wbody (mkC P n) ss) FUEL σ S := by
  simp only [evS, mkC_hot, Bool.false_eq_true, if_false]
  exact congrArg (fun k : (Slots → Store → Res D) × (Slots → Store → Res Out) => whileLoop k.1 k.2 FUEL σ S) (show (_, _) = (wcond (mkC P n) e, wbody (mkC P n) ss) from rfl)
@[simp] theorem eS_raise {P : Prog} {n : Nat} : evS (mkC P n) (.raise_ f es) σ S = kRs f σ (evEs (mkC P n) es σ S) := by simp only [evS] <;> rfl
@[simp] theorem kRs_ok : kRs f σ (.ok ds S) = .ok (.ex f ds σ) S := (rfl)
@[simp] theorem eS_try {P : Prog} {n : Nat} : evS (mkC P n) (.try_ sa hs sb) σ S = kTry (mkC P n) hs sb (evSs (mkC P n) sa σ S) := by simp only [evS] <;> rfl
@[simp] theorem kTry_nx : kTry C hs sb (.ok (.nx σ) S) = evSs C sb σ S := (rfl)
@[simp] theorem kTry_ex : kTry C hs sb (.ok (.ex c0 fs0 σ) S) = evHs C hs c0 fs0 σ S := (rfl)
@[simp] theorem kTry_rt : kTry C hs sb (.ok (.rt v) S) = .ok (.rt v) S := (rfl)
@[simp] theorem eSs_nil : evSs C .nil σ S = .ok (.nx σ) S := by simp only [evSs]
@[simp] theorem eSs_cons : evSs C (.cons s ss) σ S = kSs C ss (evS C s σ S) := by simp only [evSs] <;> rfl
@[simp] theorem kSs_nx : kSs C ss (.ok (.nx σ) S) = evSs C ss σ S := (rfl)
@[simp] theorem kSs_rt : kSs C ss (.ok (.rt v) S) = .ok (.rt v) S := (rfl)
@[simp] theorem kSs_bk : kSs C ss (.ok (.bk σ) S) = .ok (.bk σ) S := (rfl)
@[simp] theorem kSs_ct : kSs C ss (.ok (.ct σ) S) = .ok (.ct σ) S := (rfl)
@[simp] theorem kSs_ex : kSs C ss (.ok (.ex c0 fs0 σ) S) = .ok (.ex c0 fs0 σ) S := (rfl)
@[simp] theorem eHs_nil : evHs C .nil c0 fs0 σ S = .ok (.ex c0 fs0 σ) S := by simp only [evHs]
@[simp] theorem eHs_none {hs : Hs} : evHs C (.cons q none ss hs) c0 fs0 σ S = if C.sub c0 q = true then noX (evSs { C with hot := true } ss σ S) else evHs C hs c0 fs0 σ S := by simp only [evHs]
@[simp] theorem eHs_some {n : Nat} : evHs C (.cons q (some n) ss hs) c0 fs0 σ S = if C.sub c0 q = true then kHs n (noX (evSs { C with hot := true } ss (σ.set n (some (.exn c0 fs0))) S)) else evHs C hs c0 fs0 σ S := by simp only [evHs] <;> rfl
@[simp] theorem kHs_nx {n : Nat} : kHs n (.ok (.nx σ) S) = .ok (.nx (σ.set n none)) S := (rfl)
@[simp] theorem kHs_rt {n : Nat} : kHs n (.ok (.rt v) S) = .ok (.rt v) S := (rfl)
@[simp] theorem kRt_ex : kRt σ (.exc c0 fs0 S) = .ok (.ex c0 fs0 σ) S := (rfl)
@[simp] theorem kExp_ex : kExp σ (.exc c0 fs0 S) = .ok (.ex c0 fs0 σ) S := (rfl)
@[simp] theorem kAsg_ex : kAsg tg σ (.exc c0 fs0 S) = .ok (.ex c0 fs0 σ) S := (rfl)
@[simp] theorem kIt_ex : kIt C sa sb σ (.exc c0 fs0 S) = .ok (.ex c0 fs0 σ) S := (rfl)
@[simp] theorem kFor_ex : kFor C tg ss σ (.exc c0 fs0 S) = .ok (.ex c0 fs0 σ) S := (rfl)
@[simp] theorem kRs_ex : kRs q σ (.exc c0 fs0 S) = .ok (.ex c0 fs0 σ) S := (rfl)
@[simp] theorem kAug_ex : kAug σ q p v (.exc c0 fs0 S) = .ok (.ex c0 fs0 σ) S := (rfl)
@[simp] theorem kSet1_ex : kSet1 C a b σ (.exc c0 fs0 S) = .ok (.ex c0 fs0 σ) S := (rfl)
@[simp] theorem kRt_if {pp : Prop} [Decidable pp] {r1 r2 : Res D} : kRt σ (if pp then r1 else r2) = if pp then kRt σ r1 else kRt σ r2 := by split <;> rfl
@[simp] theorem kExp_if {pp : Prop} [Decidable pp] {r1 r2 : Res D} : kExp σ (if pp then r1 else r2) = if pp then kExp σ r1 else kExp σ r2 := by split <;> rfl
@[simp] theorem kAsg_if {pp : Prop} [Decidable pp] {r1 r2 : Res D} : kAsg tg σ (if pp then r1 else r2) = if pp then kAsg tg σ r1 else kAsg tg σ r2 := by split <;> rfl
@[simp] theorem kIt_if {pp : Prop} [Decidable pp] {r1 r2 : Res D} : kIt C sa sb σ (if pp then r1 else r2) = if pp then kIt C sa sb σ r1 else kIt C sa sb σ r2 := by split <;> rfl
@[simp] theorem kSs_if {pp : Prop} [Decidable pp] {r1 r2 : Res Out} : kSs C ss (if pp then r1 else r2) = if pp then kSs C ss r1 else kSs C ss r2 := by split <;> rfl
@[simp] theorem kTry_if {pp : Prop} [Decidable pp] {r1 r2 : Res Out} : kTry C hs sb (if pp then r1 else r2) = if pp then kTry C hs sb r1 else kTry C hs sb r2 := by split <;> rfl
@[simp] theorem kHs_if {pp : Prop} [Decidable pp] {r1 r2 : Res Out} : kHs q (if pp then r1 else r2) = if pp then kHs q r1 else kHs q r2 := by split <;> rfl
end
/-! ### calls -/
theorem evCall_eq {P : Prog} {n f : Nat} {ds : List D} {S : Store} {fn : Fn} (h : P.fns[f]? = some fn) (hl : ds.length = fn.np) :
    evCall P (n + 1) f ds S = fin fn.keep S (evSs (mkC P n) fn.body (ds.map some ++ List.replicate (fn.ns - fn.np) none) S) := by
  simp [evCall, h, hl, mkC]
theorem fz_pure {k n : Nat} {S : Store} {d : D} (h : pureD d = true) : fz (k + 1) n S d = some d := by unfold fz; rw [if_pos h]
theorem fzs_pure {k n : Nat} {S : Store} : ∀ {ds : List D}, pureDs ds = true → fzs (k + 2) n S ds = some ds
  | [], _ => by simp [fzs]
  | d :: ds, h => by
    simp only [pureDs, Bool.and_eq_true] at h
    rw [fzs, fz_pure h.1, fzs_pure h.2]
    rfl
theorem fz_fix {k n : Nat} {S : Store} {d d' : D} (h : pureD d = true) (q : fz k n S d = some d') : d' = d := by
  cases k with
  | zero => simp [fz] at q
  | succ k => rw [fz_pure h] at q; cases q; rfl
@[simp] theorem pureDs_all (ds : List D) : pureDs ds = ds.all pureD := by
  induction ds with
  | nil => simp [pureDs]
  | cons d ds ih => simp [pureDs, ih]
@[simp] theorem pureD_tup (ds : List D) : pureD (.tup ds) = ds.all pureD := by simp [pureD]
@[simp] theorem pureD_vl (ds : List D) : pureD (.vl ds) = ds.all pureD := by simp [pureD]
@[simp] theorem pureD_int (i : Int) : pureD (.int i) = true := by simp [pureD]
@[simp] theorem pureD_bl (i : Bool) : pureD (.bl i) = true := by simp [pureD]
@[simp] theorem pureD_str (i : Txt) : pureD (.str i) = true := by simp [pureD]
@[simp] theorem pureD_non : pureD .non = true := by simp [pureD]
@[simp] theorem fin_rt {S T : Store} {d : D} (h : pureD d = true) : fin false S (.ok (.rt d) (S ++ T)) = .ok d S := by
  simp [fin, fz_pure (k := 63) h]
@[simp] theorem fin_rt0 {S : Store} {d : D} (h : pureD d = true) : fin false S (.ok (.rt d) S) = .ok d S := by
  simp [fin, fz_pure (k := 63) h]
@[simp] theorem fin_nx {S T : Store} {σ : Slots} : fin false S (.ok (.nx σ) (S ++ T)) = .ok .non S := by
  simp [fin, fz_pure (k := 63) (d := .non)]
@[simp] theorem fin_nx0 {S : Store} {σ : Slots} : fin false S (.ok (.nx σ) S) = .ok .non S := by
  simp [fin, fz_pure (k := 63) (d := .non)]
@[simp] theorem fin_ex {k : Bool} {S T : Store} {σ : Slots} {c : Nat} {fs : List D} : fin k S (.ok (.ex c fs σ) (S ++ T)) = .exc c fs S := by
  simp [fin]
@[simp] theorem fin_ex0 {k : Bool} {S : Store} {σ : Slots} {c : Nat} {fs : List D} : fin k S (.ok (.ex c fs σ) S) = .exc c fs S := by
  simp [fin]
/-- a list of the store handed out -/
theorem fin_ref {S T : Store} {i : Nat} {ds : List D} (hi : S.length ≤ i) (hT : (S ++ T)[i]? = some (.lst ds)) (h : pureDs ds = true) : fin false S (.ok (.rt (.ref i)) (S ++ T)) = .ok (.vl ds) S := by
  have h2 := fzs_pure (k := 61) (n := S.length) (S := S ++ T) h
  have h3 : fz 64 S.length (S ++ T) (.ref i) = some (.vl ds) := by
    rw [fz, if_neg (by simp [pureD]), if_neg (Nat.not_lt.mpr hi), hT]
    simp only [h2, Option.map_some]
  simp [fin, h3]
@[simp] theorem fin_ref0 {S T : Store} {ds : List D} (h : pureDs ds = true) : fin false S (.ok (.rt (.ref S.length)) (S ++ (.lst ds :: T))) = .ok (.vl ds) S :=
  fin_ref (Nat.le_refl _) (by simp) h
/-! ### the store -/
@[simp] theorem app_get0 {S T : Store} : (S ++ T)[S.length]? = T[0]? := by
  rw [List.getElem?_append_right (by omega)]; congr 1; omega
@[simp] theorem app_get1 {S T : Store} : (S ++ T)[S.length + 1]? = T[1]? := by
  rw [List.getElem?_append_right (by omega)]; congr 1; omega
@[simp] theorem app_get2 {S T : Store} : (S ++ T)[S.length + 2]? = T[2]? := by
  rw [List.getElem?_append_right (by omega)]; congr 1; omega
@[simp] theorem app_get3 {S T : Store} : (S ++ T)[S.length + 3]? = T[3]? := by
  rw [List.getElem?_append_right (by omega)]; congr 1; omega
@[simp] theorem app_set0 {S T : Store} {c : Cell} : (S ++ T).set S.length c = S ++ T.set 0 c := by
  rw [List.set_append_right _ _ (Nat.le_refl _)]; simp
@[simp] theorem app_set1 {S T : Store} {c : Cell} : (S ++ T).set (S.length + 1) c = S ++ T.set 1 c := by
  rw [List.set_append_right _ _ (by omega)]; congr 2; omega
@[simp] theorem app_set2 {S T : Store} {c : Cell} : (S ++ T).set (S.length + 2) c = S ++ T.set 2 c := by
  rw [List.set_append_right _ _ (by omega)]; congr 2; omega
/-! ### tests -/
@[simp] theorem ite_bl {b : Bool} {x y : Res Out} : (match (D.bl b) with | .bl true => x | .bl false => y | _ => .stuck) = if b = true then x else y := by cases b <;> rfl
@[simp] theorem asB_ok {b : Bool} {S : Store} {k : Bool → Store → Res D} : asB (.ok (.bl b) S) k = k b S := (rfl)
@[simp] theorem asI_ok {α : Type} {i : Int} {S : Store} {k : Int → Store → Res α} : asI (.ok (.int i) S) k = k i S := (rfl)
@[simp] theorem asB_stuck {k : Bool → Store → Res D} : asB .stuck k = .stuck := (rfl)
@[simp] theorem asI_stuck {α : Type} {k : Int → Store → Res α} : asI .stuck k = .stuck := (rfl)
@[simp] theorem asB_exc {c : Nat} {fs : List D} {S : Store} {k : Bool → Store → Res D} : asB (.exc c fs S) k = .exc c fs S := (rfl)
@[simp] theorem asI_exc {α : Type} {c : Nat} {fs : List D} {S : Store} {k : Int → Store → Res α} : asI (.exc c fs S) k = .exc c fs S := (rfl)
@[simp] theorem ite_and {p : Prop} [Decidable p] {b : Bool} {S : Store} : (if p then (.ok (.bl b) S : Res D) else .ok (.bl false) S) = .ok (.bl (decide p && b)) S := by by_cases h : p <;> simp [h]
@[simp] theorem ite_or {p : Prop} [Decidable p] {b : Bool} {S : Store} : (if p then (.ok (.bl true) S : Res D) else .ok (.bl b) S) = .ok (.bl (decide p || b)) S := by by_cases h : p <;> simp [h]
@[simp] theorem ite_andn {p : Prop} [Decidable p] {b : Bool} {S : Store} : (if p then (.ok (.bl false) S : Res D) else .ok (.bl b) S) = .ok (.bl (!decide p && b)) S := by by_cases h : p <;> simp [h]
@[simp] theorem ite_orn {p : Prop} [Decidable p] {b : Bool} {S : Store} : (if p then (.ok (.bl b) S : Res D) else .ok (.bl true) S) = .ok (.bl (!decide p || b)) S := by by_cases h : p <;> simp [h]
@[simp] theorem okO_some {α : Type} {S : Store} {a : α} : okO S (some a) = .ok a S := (rfl)
@[simp] theorem okO_none {α : Type} {S : Store} : okO S (none : Option α) = .stuck := (rfl)
/-! ### loops -/
theorem for_fold {α β : Type} {step : D → Slots → Store → Res Out} {gd : Option (Nat × List D)} (enc : α → Slots) (st : α → Store) (g : β → D) (f : α → β → α)
    (ok : ∀ a, Walk.ok gd (st a) = true) : ∀ (xs : List β) (a : α), (∀ a, ∀ b ∈ xs, step (g b) (enc a) (st a) = .ok (.nx (enc (f a b))) (st (f a b))) → forLoop step gd (xs.map g) (enc a) (st a) = .ok (.nx (enc (xs.foldl f a))) (st (xs.foldl f a))
  | [], a, h => by simp [forLoop, ok]
  | b :: xs, a, h => by
    have h1 := h a b List.mem_cons_self
    simp only [List.map_cons, forLoop, ok, if_true, h1, Res.bind_ok, List.foldl_cons]
    exact for_fold enc st g f ok xs (f a b) fun a b hb => h a b (List.mem_cons_of_mem _ hb)
/-- an invariant over what is done -/
theorem for_inv {β : Type} {step : D → Slots → Store → Res Out} {gd : Option (Nat × List D)} (I : List β → Slots → Store → Prop) (g : β → D) (xs : List β)
    (ok : ∀ ys σ S, I ys σ S → Walk.ok gd S = true)
    (h : ∀ ys b zs σ S, xs = ys ++ b :: zs → I ys σ S → ∃ σ' S', step (g b) σ S = .ok (.nx σ') S' ∧ I (ys ++ [b]) σ' S') :
    ∀ (zs ys : List β) (σ : Slots) (S : Store), xs = ys ++ zs → I ys σ S → ∃ σ' S', forLoop step gd (zs.map g) σ S = .ok (.nx σ') S' ∧ I xs σ' S'
  | [], ys, σ, S, e, i => ⟨σ, S, by simp [forLoop, ok ys σ S i], by rw [e]; simpa using i⟩
  | b :: zs, ys, σ, S, e, i => by
    obtain ⟨σ', S', h1, h2⟩ := h ys b zs σ S e i
    obtain ⟨σ2, S2, h3, h4⟩ := for_inv I g xs ok h zs (ys ++ [b]) σ' S' (by simp [e]) h2
    exact ⟨σ2, S2, by simp only [List.map_cons, forLoop, ok ys σ S i, if_true, h1, Res.bind_ok]; exact h3, h4⟩
/-- a comprehension -/
theorem lc_map {β : Type} {step : D → Store → Res (Option D)} {gd : Option (Nat × List D)} (g : β → D) (f : β → D) {S : Store} (ok : Walk.ok gd S = true) :
    ∀ (xs : List β) (acc : List D), acc.length + xs.length ≤ LINE → (∀ b ∈ xs, step (g b) S = .ok (some (f b)) S) → lcLoop step gd (xs.map g) acc S = .ok (acc ++ xs.map f) S
  | [], acc, _, h => by simp [lcLoop, ok]
  | b :: xs, acc, hl, h => by
    have h1 := h b List.mem_cons_self
    have hz : acc.length < LINE := by simp only [List.length_cons] at hl; omega
    simp only [List.map_cons, lcLoop, ok, if_true, h1, Res.bind_ok, hz]
    rw [lc_map g f ok xs (acc ++ [f b]) (by simp only [List.length_cons, List.length_append, List.length_nil] at hl ⊢; omega) fun b hb => h b (List.mem_cons_of_mem _ hb)]
    simp
@[simp] theorem mk_false {ds : List D} {S : Store} (h : ds.length ≤ LINE) : mk false ds S = .ok (.vl ds) S := by simp [mk, h]
@[simp] theorem mk_true {ds : List D} {S : Store} (h : ds.length ≤ LINE) : mk true ds S = .ok (.ref S.length) (S ++ [.lst ds]) := by simp [mk, h]
@[simp] theorem ok_none {S : Store} : Walk.ok none S = true := (rfl)
end SL
namespace SL
/-! ### operators at ints -/
section
variable {o : Bool} {i j : Int} {S : Store} {a b : List D} {x y : Txt} {d e : D}
@[simp] theorem op_add : doOp o .add (.int i) (.int j) S = .ok (.int (i + j)) S := (rfl)
@[simp] theorem op_sub : doOp o .sub (.int i) (.int j) S = .ok (.int (i - j)) S := (rfl)
@[simp] theorem op_band : doOp o .band (.int i) (.int j) S = .ok (.int (band i j)) S := (rfl)
@[simp] theorem op_bor : doOp o .bor (.int i) (.int j) S = .ok (.int (bor i j)) S := (rfl)
@[simp] theorem op_bxor : doOp o .bxor (.int i) (.int j) S = .ok (.int (bxor i j)) S := (rfl)
theorem op_shr (h : 0 ≤ j) : doOp o .shr (.int i) (.int j) S = .ok (.int (i / 2 ^ j.toNat)) S := by simp [doOp, intOp, h]
theorem mulOk_r (h : j.natAbs < 18446744073709551616) : mulOk i j = true := by
  have : (18446744073709551616 : Nat) = 2 ^ 64 := by decide
  simp [mulOk, ← this, h]
theorem mulOk_l (h : i.natAbs < 18446744073709551616) : mulOk i j = true := by
  have : (18446744073709551616 : Nat) = 2 ^ 64 := by decide
  simp [mulOk, ← this, h]
@[simp] theorem op_mul_r (h : j.natAbs < 18446744073709551616) : doOp o .mul (.int i) (.int j) S = .ok (.int (i * j)) S := by
  simp [doOp, intOp, mulOk_r h]
@[simp] theorem op_mul_l (h : i.natAbs < 18446744073709551616) : doOp o .mul (.int i) (.int j) S = .ok (.int (i * j)) S := by
  simp [doOp, intOp, mulOk_l h]
theorem op_mul (h : mulOk i j = true) : doOp o .mul (.int i) (.int j) S = .ok (.int (i * j)) S := by simp [doOp, intOp, h]
@[simp] theorem op_mod (h : 0 < j) : doOp o .mod (.int i) (.int j) S = .ok (.int (i % j)) S := by
  have : j ≠ 0 := by omega
  simp [doOp, intOp, this, Int.fmod_eq_emod_of_nonneg i (Int.le_of_lt h)]
theorem op_fmod (h : j ≠ 0) : doOp o .mod (.int i) (.int j) S = .ok (.int (i.fmod j)) S := by simp [doOp, intOp, h]
theorem op_ffdiv (h : j ≠ 0) (h2 : j.natAbs < 2 ^ 1000) : doOp o .fdiv (.int i) (.int j) S = .ok (.int (i.fdiv j)) S := by
  have : divOk j = true := by simp only [divOk, Bool.and_eq_true, decide_eq_true_eq]; exact ⟨h, h2⟩
  simp [doOp, intOp, this]
theorem nat_lt_1000 {n : Nat} (h : n < 1606938044258990275541962092341162602522202993782792835301376) : n < 2 ^ 1000 := Nat.lt_of_lt_of_le h (by decide)
@[simp] theorem op_fdiv (h : 0 < j) (h2 : j < 1606938044258990275541962092341162602522202993782792835301376) : doOp o .fdiv (.int i) (.int j) S = .ok (.int (i / j)) S := by
  rw [op_ffdiv (by omega) (nat_lt_1000 (by omega)), Int.fdiv_eq_ediv_of_nonneg i (Int.le_of_lt h)]
@[simp] theorem op_pow (h : powOk i j = true) : doOp o .pow (.int i) (.int j) S = .ok (.int (i ^ j.toNat)) S := by simp [doOp, intOp, h]
@[simp] theorem pow_ok2 (h1 : 0 ≤ j) (h2 : j ≤ 1000000) (h3 : i.natAbs < 18446744073709551616) : powOk i j = true := by
  have : (18446744073709551616 : Nat) = 2 ^ 64 := by decide
  simp [powOk, h1, h2, ← this, h3]
@[simp] theorem op_tup (h : a.length + b.length ≤ LINE) : doOp o .add (.tup a) (.tup b) S = .ok (.tup (a ++ b)) S := by
  simp only [doOp, h, and_self, if_true]
@[simp] theorem op_str (h : x.length + y.length ≤ LINE) : doOp o .add (.str x) (.str y) S = .ok (.str (x ++ y)) S := by
  simp only [doOp, h, and_self, if_true]
@[simp] theorem op_vl : doOp o .add (.vl a) (.vl b) S = mk o (a ++ b) S := by simp [doOp, doOpL, doCat, items]
@[simp] theorem c_lt : doCmp .lt (.int i) (.int j) S = .ok (.bl (decide (i < j))) S := (rfl)
@[simp] theorem c_le : doCmp .le (.int i) (.int j) S = .ok (.bl (decide (i ≤ j))) S := (rfl)
@[simp] theorem c_gt : doCmp .gt (.int i) (.int j) S = .ok (.bl (decide (j < i))) S := (rfl)
@[simp] theorem c_ge : doCmp .ge (.int i) (.int j) S = .ok (.bl (decide (j ≤ i))) S := (rfl)
@[simp] theorem c_eq : doCmp .eq (.int i) (.int j) S = .ok (.bl (decide (i = j))) S := (rfl)
@[simp] theorem c_ne : doCmp .ne (.int i) (.int j) S = .ok (.bl (!decide (i = j))) S := (rfl)
@[simp] theorem c_eqs : doCmp .eq (.str x) (.str y) S = .ok (.bl (decide (x = y))) S := (rfl)
@[simp] theorem c_nes : doCmp .ne (.str x) (.str y) S = .ok (.bl (!decide (x = y))) S := (rfl)
@[simp] theorem c_is : doCmp .is (.int i) .non S = .ok (.bl false) S := (rfl)
@[simp] theorem c_isn : doCmp .is .non .non S = .ok (.bl true) S := (rfl)
@[simp] theorem c_ist : doCmp .is (.tup a) .non S = .ok (.bl false) S := (rfl)
@[simp] theorem c_isv : doCmp .is (.vl a) .non S = .ok (.bl false) S := (rfl)
@[simp] theorem c_isnt : doCmp .isnot (.tup a) .non S = .ok (.bl true) S := (rfl)
@[simp] theorem c_isnv : doCmp .isnot (.vl a) .non S = .ok (.bl true) S := (rfl)
@[simp] theorem c_isni : doCmp .isnot (.int i) .non S = .ok (.bl true) S := (rfl)
@[simp] theorem c_isnn : doCmp .isnot .non .non S = .ok (.bl false) S := (rfl)
@[simp] theorem b_len_t : doBi o .len [.tup a] S = .ok (.int a.length) S := (rfl)
@[simp] theorem b_len_v : doBi o .len [.vl a] S = .ok (.int a.length) S := (rfl)
@[simp] theorem b_len_sc : doBi o .len [.sc a] S = .ok (.int a.length) S := (rfl)
@[simp] theorem b_abs : doBi o .abs [.int i] S = .ok (.int i.natAbs) S := (rfl)
@[simp] theorem b_max : doBi o .max2 [.int i, .int j] S = .ok (.int (max i j)) S := (rfl)
@[simp] theorem b_min : doBi o .min2 [.int i, .int j] S = .ok (.int (min i j)) S := (rfl)
@[simp] theorem b_int : doBi o .int [.int i] S = .ok (.int i) S := (rfl)
@[simp] theorem b_intb {b : Bool} : doBi o .int [.bl b] S = .ok (.int (b2i b)) S := (rfl)
@[simp] theorem b_isint : doBi o .isint [.int i] S = .ok (.bl true) S := (rfl)
@[simp] theorem b_isbool : doBi o .isbool [.int i] S = .ok (.bl false) S := (rfl)
@[simp] theorem b_istup : doBi o .istup [.tup a] S = .ok (.bl true) S := (rfl)
@[simp] theorem b_tup_v : doBi o .tuple [.vl a] S = .ok (.tup a) S := (rfl)
@[simp] theorem b_tup_t : doBi o .tuple [.tup a] S = .ok (.tup a) S := (rfl)
@[simp] theorem b_list_t : doBi o .list [.tup a] S = mk o a S := (rfl)
@[simp] theorem b_list_v : doBi o .list [.vl a] S = mk o a S := (rfl)
@[simp] theorem itemsH_vl : itemsH S (.vl a) = some a := (rfl)
@[simp] theorem seqOf_t : seqOf S (.tup a) = some a := (rfl)
@[simp] theorem seqOf_v : seqOf S (.vl a) = some a := (rfl)
@[simp] theorem seqOf_s : seqOf S (.sc a) = some a := (rfl)
theorem ix_get {d : D} {ds : List D} (h0 : 0 ≤ i) (h : ds[i.toNat]? = some d) : (ixN ds.length i).bind (fun j => ds[j]?) = some d := by
  have hl := (List.getElem?_eq_some_iff.mp h).1
  have h1 : i < ds.length := by omega
  simp only [ixN, h0, h1, if_true, Option.bind_some, h]
theorem ix_t {ds : List D} (h0 : 0 ≤ i) (h : ds[i.toNat]? = some d) : doIx (.tup ds) (.int i) S = .ok d S := by
  have := ix_get h0 h
  simp only [doIx, seqOf_t, this]
  rfl
theorem ix_v {ds : List D} (h0 : 0 ≤ i) (h : ds[i.toNat]? = some d) : doIx (.vl ds) (.int i) S = .ok d S := by
  have := ix_get h0 h
  simp only [doIx, seqOf_v, this]
  rfl
theorem ix_s {ds : List D} (h0 : 0 ≤ i) (h : ds[i.toNat]? = some d) : doIx (.sc ds) (.int i) S = .ok d S := by
  have := ix_get h0 h
  simp only [doIx, seqOf_s, this]
  rfl
@[simp] theorem ix_t0 {x : D} {ds : List D} : doIx (.tup (x :: ds)) (.int 0) S = .ok x S := ix_t (by omega) rfl
@[simp] theorem ix_t1 {x y : D} {ds : List D} : doIx (.tup (x :: y :: ds)) (.int 1) S = .ok y S := ix_t (by omega) rfl
@[simp] theorem ix_t2 {x y z : D} {ds : List D} : doIx (.tup (x :: y :: z :: ds)) (.int 2) S = .ok z S := ix_t (by omega) rfl
@[simp] theorem ix_v0 {x : D} {ds : List D} : doIx (.vl (x :: ds)) (.int 0) S = .ok x S := ix_v (by omega) rfl
@[simp] theorem ix_v1 {x y : D} {ds : List D} : doIx (.vl (x :: y :: ds)) (.int 1) S = .ok y S := ix_v (by omega) rfl
end
end SL
namespace SL
/-! ### what is wanted of a statement's end -/
def wp (Q : Out → Store → Prop) (r : Res Out) : Prop := match r with | .ok o S => Q o S | _ => False
@[simp] theorem wp_ok {Q : Out → Store → Prop} {o : Out} {S : Store} : wp Q (.ok o S) = Q o S := (rfl)
theorem fin_wp {b : Bool} {S0 : Store} {r : Res Out} {R : Res D} (h : wp (fun o S' => fin b S0 (.ok o S') = R) r) : fin b S0 r = R := by
  cases r with
  | ok o S => exact h
  | exc c fs S => exact h.elim
  | stuck => exact h.elim
theorem wp_if {Q : Out → Store → Prop} {p : Prop} [Decidable p] {a b : Res Out} (h1 : p → wp Q a) (h2 : ¬p → wp Q b) : wp Q (if p then a else b) := by
  by_cases h : p
  · rw [if_pos h]; exact h1 h
  · rw [if_neg h]; exact h2 h
theorem wp_mono {Q Q' : Out → Store → Prop} {r : Res Out} (h : wp Q r) (k : ∀ o S, Q o S → Q' o S) : wp Q' r := by
  cases r with
  | ok o S => exact k _ _ h
  | exc c fs S => exact h.elim
  | stuck => exact h.elim
/-- what a turn must bring -/
def turn (I : Slots → Store → Prop) (B Q : Out → Store → Prop) (o : Out) (S : Store) : Prop := match o with
  | .nx σ => I σ S
  | .ct σ => I σ S
  | .bk σ => B (.nx σ) S
  | o => Q o S
@[simp] theorem turn_nx {I : Slots → Store → Prop} {B Q : Out → Store → Prop} {σ : Slots} {S : Store} : turn I B Q (.nx σ) S = I σ S := (rfl)
@[simp] theorem turn_ct {I : Slots → Store → Prop} {B Q : Out → Store → Prop} {σ : Slots} {S : Store} : turn I B Q (.ct σ) S = I σ S := (rfl)
@[simp] theorem turn_rt {I : Slots → Store → Prop} {B Q : Out → Store → Prop} {d : D} {S : Store} : turn I B Q (.rt d) S = Q (.rt d) S := (rfl)
@[simp] theorem turn_bk {I : Slots → Store → Prop} {B Q : Out → Store → Prop} {σ : Slots} {S : Store} : turn I B Q (.bk σ) S = B (.nx σ) S := (rfl)
@[simp] theorem turn_ex {I : Slots → Store → Prop} {B Q : Out → Store → Prop} {σ : Slots} {S : Store} {c : Nat} {fs : List D} : turn I B Q (.ex c fs σ) S = Q (.ex c fs σ) S := (rfl)
theorem wp_loop {β : Type} {step : D → Slots → Store → Res Out} {gd : Option (Nat × List D)} {Q : Out → Store → Prop} (I : List β → Slots → Store → Prop) (g : β → D) (xs : List β)
    (ok : ∀ ys σ S, I ys σ S → Walk.ok gd S = true)
    (hs : ∀ ys b zs σ S, xs = ys ++ b :: zs → I ys σ S → wp (turn (I (ys ++ [b])) Q Q) (step (g b) σ S)) (hk : ∀ σ S, I xs σ S → Q (.nx σ) S) :
    ∀ (zs ys : List β) (σ : Slots) (S : Store), xs = ys ++ zs → I ys σ S → wp Q (forLoop step gd (zs.map g) σ S)
  | [], ys, σ, S, e, i => by
    have : xs = ys := by simpa using e
    subst this
    simpa [forLoop, ok _ σ S i] using hk σ S i
  | b :: zs, ys, σ, S, e, i => by
    have h1 := hs ys b zs σ S e i
    simp only [List.map_cons, forLoop, ok ys σ S i, if_true]
    cases hr : step (g b) σ S with
    | ok o S' =>
      rw [hr] at h1
      cases o with
      | nx σ' => exact wp_loop I g xs ok hs hk zs (ys ++ [b]) σ' S' (by simp [e]) h1
      | ct σ' => exact wp_loop I g xs ok hs hk zs (ys ++ [b]) σ' S' (by simp [e]) h1
      | bk σ' => exact h1
      | rt d => exact h1
      | ex c fs σ' => exact h1
    | exc c fs S' => rw [hr] at h1; exact h1.elim
    | stuck => rw [hr] at h1; exact h1.elim
/-- for behind what is left of the block -/
theorem wp_for {β : Type} {C : Cx} {ss : Ss} {step : D → Slots → Store → Res Out} {gd : Option (Nat × List D)} {ds : List D} {Q : Out → Store → Prop} {σ : Slots} {S : Store} (I : List β → Slots → Store → Prop) (g : β → D) (xs : List β)
    (hd : ds = xs.map g) (h0 : I [] σ S) (ok : ∀ ys σ S, I ys σ S → Walk.ok gd S = true)
    (hs : ∀ ys b zs σ S, xs = ys ++ b :: zs → I ys σ S → wp (turn (I (ys ++ [b])) (fun o S => wp Q (kSs C ss (.ok o S))) Q) (step (g b) σ S))
    (hk : ∀ σ S, I xs σ S → wp Q (evSs C ss σ S)) : wp Q (kSs C ss (forLoop step gd ds σ S)) := by
  subst hd
  have := wp_loop (step := step) (Q := fun o S => wp Q (kSs C ss (.ok o S))) I g xs ok (fun ys b zs σ S e i => ?_) (fun σ S i => hk σ S i) xs [] σ S (by simp) h0
  · cases hr : forLoop step gd (xs.map g) σ S with
    | ok o S' => rw [hr] at this; exact this
    | exc c fs S' => rw [hr] at this; exact this.elim
    | stuck => rw [hr] at this; exact this.elim
  · refine wp_mono (hs ys b zs σ S e i) fun o S h => ?_
    cases o <;> exact h
/-- a while, by what is left -/
theorem wp_while {C : Cx} {ss : Ss} {c : Slots → Store → Res D} {b : Slots → Store → Res Out} {Q : Out → Store → Prop} (I : Nat → Slots → Store → Prop)
    (hs : ∀ m σ S, I m σ S → (c σ S = .ok (.bl false) S ∧ wp Q (evSs C ss σ S)) ∨ (c σ S = .ok (.bl true) S ∧ 0 < m ∧ wp (turn (I (m - 1)) (fun o S => wp Q (kSs C ss (.ok o S))) Q) (b σ S))) :
    ∀ (m N : Nat) (σ : Slots) (S : Store), m < N → I m σ S → wp Q (kSs C ss (whileLoop c b N σ S))
  | m, 0, σ, S, h, _ => by omega
  | m, N + 1, σ, S, h, i => by
    unfold whileLoop
    rcases hs m σ S i with ⟨h1, h2⟩ | ⟨h1, h2, h3⟩
    · rw [h1]; exact h2
    · rw [h1]
      simp only [lift_ok]
      cases hr : b σ S with
      | ok o S' =>
        rw [hr] at h3
        cases o with
        | nx σ' => exact wp_while I hs (m - 1) N σ' S' (by omega) h3
        | ct σ' => exact wp_while I hs (m - 1) N σ' S' (by omega) h3
        | bk σ' => exact h3
        | rt d => exact h3
        | ex c fs σ' => exact h3
      | exc c fs S' => rw [hr] at h3; exact h3.elim
      | stuck => rw [hr] at h3; exact h3.elim
end SL
namespace SL
theorem lc_all {β : Type} {o : Bool} {step : D → Store → Res (Option D)} {gd : Option (Nat × List D)} {ds : List D} {S : Store} (g f : β → D) (xs : List β) (hd : ds = xs.map g) (hl : xs.length ≤ 1000000) (ok : Walk.ok gd S = true)
    (hb : ∀ b ∈ xs, step (g b) S = .ok (some (f b)) S) : kMk o (lcLoop step gd ds [] S) = .ok (if o then .ref S.length else .vl (xs.map f)) (if o then S ++ [.lst (xs.map f)] else S) := by
  subst hd
  have hl' : xs.length ≤ LINE := le_L hl
  rw [lc_map g f ok xs [] (by simpa using hl') hb]
  cases o <;> simp [mk, hl']
theorem lc_flt {β : Type} {step : D → Store → Res (Option D)} {gd : Option (Nat × List D)} (g f : β → D) (p : β → Bool) {S : Store} (ok : Walk.ok gd S = true) :
    ∀ (xs : List β) (acc : List D), acc.length + xs.length ≤ LINE → (∀ b ∈ xs, step (g b) S = .ok (if p b then some (f b) else none) S) → lcLoop step gd (xs.map g) acc S = .ok (acc ++ (xs.filter p).map f) S
  | [], acc, _, h => by simp [lcLoop, ok]
  | b :: xs, acc, hl, h => by
    have h1 := h b List.mem_cons_self
    have hz : acc.length < LINE := by simp only [List.length_cons] at hl; omega
    simp only [List.map_cons, lcLoop, ok, if_true, h1, Res.bind_ok]
    by_cases hp : p b = true
    · simp only [hp, if_true, hz]
      rw [lc_flt g f p ok xs (acc ++ [f b]) (by simp only [List.length_cons, List.length_append, List.length_nil] at hl ⊢; omega) fun b hb => h b (List.mem_cons_of_mem _ hb)]
      simp [hp]
    · simp only [hp, if_false]
      rw [if_neg (by decide)]
      rw [lc_flt g f p ok xs acc (by simp only [List.length_cons] at hl; omega) fun b hb => h b (List.mem_cons_of_mem _ hb)]
      simp [hp]
theorem lc_filt {β : Type} {o : Bool} {step : D → Store → Res (Option D)} {gd : Option (Nat × List D)} {ds : List D} {S : Store} (g f : β → D) (p : β → Bool) (xs : List β) (hd : ds = xs.map g) (hl : xs.length ≤ 1000000) (ok : Walk.ok gd S = true)
    (hb : ∀ b ∈ xs, step (g b) S = .ok (if p b then some (f b) else none) S) : kMk o (lcLoop step gd ds [] S) = .ok (if o then .ref S.length else .vl ((xs.filter p).map f)) (if o then S ++ [.lst ((xs.filter p).map f)] else S) := by
  subst hd
  have hl' : xs.length ≤ LINE := le_L hl
  rw [lc_flt g f p ok xs [] (by simpa using hl') hb]
  have hz : (xs.filter p).length ≤ LINE := Nat.le_trans (List.length_filter_le _ _) hl'
  cases o <;> simp [mk, hz]
end SL
namespace SL
section
variable {β : Type} {f : β → D} {r : List β} {k : Nat} {S : Store}
theorem rng0 {n : Nat} : rngL 0 n 1 = (List.range n).map fun k => .int (k : Nat) := by simp [rngL]
theorem small_ok {i : Int} (h0 : -1000000000000000000 ≤ i) (h : i ≤ 1000000000000000000) : small62 i = true := by
  have : (4611686018427387904 : Int) = 2 ^ 62 := by decide
  simp only [small62, ← this, Bool.and_eq_true, decide_eq_true_eq]
  omega
theorem ix_vmap (h : k < r.length) : doIx (.vl (r.map f)) (.int (k : Nat)) S = .ok (f r[k]) S := ix_v (by omega) (by simp [h])
theorem ix_tmap (h : k < r.length) : doIx (.tup (r.map f)) (.int (k : Nat)) S = .ok (f r[k]) S := ix_t (by omega) (by simp [h])
theorem ix_smap (h : k < r.length) : doIx (.sc (r.map f)) (.int (k : Nat)) S = .ok (f r[k]) S := ix_s (by omega) (by simp [h])
theorem ix_vmap1 (h : k + 1 < r.length) : doIx (.vl (r.map f)) (.int ((k : Nat) + 1)) S = .ok (f r[k + 1]) S := by
  rw [show ((k : Nat) : Int) + 1 = ((k + 1 : Nat) : Int) by omega]; exact ix_vmap h
theorem ix_tmap1 (h : k + 1 < r.length) : doIx (.tup (r.map f)) (.int ((k : Nat) + 1)) S = .ok (f r[k + 1]) S := by
  rw [show ((k : Nat) : Int) + 1 = ((k + 1 : Nat) : Int) by omega]; exact ix_tmap h
/-- the same by the int -/
theorem ix_vI {i : Int} (h0 : 0 ≤ i) (h : i < r.length) : doIx (.vl (r.map f)) (.int i) S = .ok (f (r[i.toNat]'(by omega))) S := ix_v h0 (by rw [List.getElem?_map, List.getElem?_eq_getElem (by omega)]; rfl)
theorem ix_tI {i : Int} (h0 : 0 ≤ i) (h : i < r.length) : doIx (.tup (r.map f)) (.int i) S = .ok (f (r[i.toNat]'(by omega))) S := ix_t h0 (by rw [List.getElem?_map, List.getElem?_eq_getElem (by omega)]; rfl)
theorem ix_sI {i : Int} (h0 : 0 ≤ i) (h : i < r.length) : doIx (.sc (r.map f)) (.int i) S = .ok (f (r[i.toNat]'(by omega))) S := ix_s h0 (by rw [List.getElem?_map, List.getElem?_eq_getElem (by omega)]; rfl)
end
end SL
/-! Typed readings of the core: what a piece of core code computes, told as a plain Lean function. -/
namespace SL
inductive R (α : Type) where | ok (a : α) | exc (c : Nat) (fs : List D) | no
def R.bind {α β : Type} (t : R α) (k : α → R β) : R β := match t with | .ok a => k a | .exc c fs => .exc c fs | .no => .no
@[simp] theorem R.bind_ok {α β : Type} (a : α) (k : α → R β) : (R.ok a).bind k = k a := rfl
@[simp] theorem R.bind_exc {α β : Type} (c : Nat) (fs : List D) (k : α → R β) : (R.exc c fs : R α).bind k = .exc c fs := rfl
@[simp] theorem R.bind_no {α β : Type} (k : α → R β) : (R.no : R α).bind k = .no := rfl
@[simp] theorem R.bind_ite {α β : Type} {p : Prop} [Decidable p] (x y : R α) (k : α → R β) : (if p then x else y).bind k = if p then x.bind k else y.bind k := by split <;> rfl
theorem R.bind_assoc {α β γ : Type} (t : R α) (k : α → R β) (j : β → R γ) : (t.bind k).bind j = t.bind fun a => (k a).bind j := by cases t <;> rfl
@[simp] theorem R.bind_self {α : Type} (t : R α) : t.bind R.ok = t := by cases t <;> rfl
/-- what falls through goes on, what is let out is let out -/
def R.fall {α β : Type} (t : R (α ⊕ β)) (k : α → R β) : R β := t.bind fun x => match x with | .inl a => k a | .inr b => .ok b
@[simp] theorem R.fall_inl {α β : Type} (a : α) (k : α → R β) : (R.ok (.inl a) : R (α ⊕ β)).fall k = k a := rfl
@[simp] theorem R.fall_inr {α β : Type} (b : β) (k : α → R β) : (R.ok (.inr b) : R (α ⊕ β)).fall k = .ok b := rfl
@[simp] theorem R.fall_exc {α β : Type} (c : Nat) (fs : List D) (k : α → R β) : (R.exc c fs : R (α ⊕ β)).fall k = .exc c fs := rfl
@[simp] theorem R.fall_no {α β : Type} (k : α → R β) : (R.no : R (α ⊕ β)).fall k = .no := rfl
@[simp] theorem R.fall_ite {α β : Type} {p : Prop} [Decidable p] (x y : R (α ⊕ β)) (k : α → R β) : (if p then x else y).fall k = if p then x.fall k else y.fall k := by split <;> rfl
def R.calm {α : Type} (t : R α) : R α := match t with | .ok a => .ok a | _ => .no
inductive Stp (σ τ : Type) where | go (s : σ) | stop (s : σ) | out (v : τ)
/-- loops -/
def foldR {σ β : Type} (f : σ → β → R σ) : σ → List β → R σ
  | s, [] => .ok s
  | s, x :: xs => (f s x).bind fun s' => foldR f s' xs
def foldX {σ τ β : Type} (f : σ → β → R (Stp σ τ)) : σ → List β → R (σ ⊕ τ)
  | s, [] => .ok (.inl s)
  | s, x :: xs => (f s x).bind fun q => match q with
    | .go s' => foldX f s' xs
    | .stop s' => .ok (.inl s')
    | .out v => .ok (.inr v)
def whileX {σ τ : Type} (c : σ → R Bool) (f : σ → R (Stp σ τ)) : Nat → σ → R (σ ⊕ τ)
  | 0, _ => .no
  | n + 1, s => (c s).bind fun b => if b = true then (f s).bind fun q => match q with
    | .go s' => whileX c f n s'
    | .stop s' => .ok (.inl s')
    | .out v => .ok (.inr v)
    else .ok (.inl s)
def mapR {α β : Type} (f : α → R β) : List α → R (List β)
  | [] => .ok []
  | x :: xs => (f x).calm.bind fun y => (mapR f xs).bind fun ys => .ok (y :: ys)
/-- guards -/
theorem lnR_ex (α : Type) : ∃ F : List α → R (List α), ∀ (xs : List α), F xs = (if xs.length ≤ 16777216 then .ok xs else .no) := ⟨fun (xs : List α) => (if xs.length ≤ 16777216 then .ok xs else .no), fun _ => rfl⟩
noncomputable def lnR {α : Type} : List α → R (List α) := Classical.choose (lnR_ex α)
theorem lnR_def {α : Type} (xs : List α) : lnR xs = (if xs.length ≤ 16777216 then .ok xs else .no) := Classical.choose_spec (lnR_ex α) xs
theorem ixR_ex (α : Type) : ∃ F : List α → Int → R α, ∀ (xs : List α) (i : Int), F xs i = (match (ixN xs.length i).bind fun j => xs[j]? with | some a => .ok a | none => .no) := ⟨fun (xs : List α) (i : Int) => (match (ixN xs.length i).bind fun j => xs[j]? with | some a => .ok a | none => .no), fun _ _ => rfl⟩
noncomputable def ixR {α : Type} : List α → Int → R α := Classical.choose (ixR_ex α)
theorem ixR_def {α : Type} (xs : List α) (i : Int) : ixR xs i = (match (ixN xs.length i).bind fun j => xs[j]? with | some a => .ok a | none => .no) := Classical.choose_spec (ixR_ex α) xs i
theorem mulR_ex : ∃ F : Int → Int → R Int, ∀ (i j : Int), F i j = (if mulOk i j = true then .ok (i * j) else .no) := ⟨fun (i j : Int) => (if mulOk i j = true then .ok (i * j) else .no), fun _ _ => rfl⟩
noncomputable def mulR : Int → Int → R Int := Classical.choose mulR_ex
theorem mulR_def (i j : Int) : mulR i j = (if mulOk i j = true then .ok (i * j) else .no) := Classical.choose_spec mulR_ex i j
theorem fdivR_ex : ∃ F : Int → Int → R Int, ∀ (i j : Int), F i j = (if divOk j = true then .ok (i.fdiv j) else .no) := ⟨fun (i j : Int) => (if divOk j = true then .ok (i.fdiv j) else .no), fun _ _ => rfl⟩
noncomputable def fdivR : Int → Int → R Int := Classical.choose fdivR_ex
theorem fdivR_def (i j : Int) : fdivR i j = (if divOk j = true then .ok (i.fdiv j) else .no) := Classical.choose_spec fdivR_ex i j
theorem fmodR_ex : ∃ F : Int → Int → R Int, ∀ (i j : Int), F i j = (if j ≠ 0 then .ok (i.fmod j) else .no) := ⟨fun (i j : Int) => (if j ≠ 0 then .ok (i.fmod j) else .no), fun _ _ => rfl⟩
noncomputable def fmodR : Int → Int → R Int := Classical.choose fmodR_ex
theorem fmodR_def (i j : Int) : fmodR i j = (if j ≠ 0 then .ok (i.fmod j) else .no) := Classical.choose_spec fmodR_ex i j
theorem powR_ex : ∃ F : Int → Int → R Int, ∀ (i j : Int), F i j = (if powOk i j = true then .ok (i ^ j.toNat) else .no) := ⟨fun (i j : Int) => (if powOk i j = true then .ok (i ^ j.toNat) else .no), fun _ _ => rfl⟩
noncomputable def powR : Int → Int → R Int := Classical.choose powR_ex
theorem powR_def (i j : Int) : powR i j = (if powOk i j = true then .ok (i ^ j.toNat) else .no) := Classical.choose_spec powR_ex i j
theorem shrR_ex : ∃ F : Int → Int → R Int, ∀ (i j : Int), F i j = (if 0 ≤ j then .ok (i / 2 ^ j.toNat) else .no) := ⟨fun (i j : Int) => (if 0 ≤ j then .ok (i / 2 ^ j.toNat) else .no), fun _ _ => rfl⟩
noncomputable def shrR : Int → Int → R Int := Classical.choose shrR_ex
theorem shrR_def (i j : Int) : shrR i j = (if 0 ≤ j then .ok (i / 2 ^ j.toNat) else .no) := Classical.choose_spec shrR_ex i j
theorem setR_ex (α : Type) : ∃ F : List α → Int → α → R (List α), ∀ (xs : List α) (i : Int) (a : α), F xs i a = (match ixN xs.length i with | some j => .ok (xs.set j a) | none => .no) := ⟨fun (xs : List α) (i : Int) (a : α) => (match ixN xs.length i with | some j => .ok (xs.set j a) | none => .no), fun _ _ _ => rfl⟩
noncomputable def setR {α : Type} : List α → Int → α → R (List α) := Classical.choose (setR_ex α)
theorem setR_def {α : Type} (xs : List α) (i : Int) (a : α) : setR xs i a = (match ixN xs.length i with | some j => .ok (xs.set j a) | none => .no) := Classical.choose_spec (setR_ex α) xs i a
theorem rgR_ex : ∃ F : Int → Int → R (List Int), ∀ (lo hi : Int), F lo hi = (if small62 lo = true ∧ small62 hi = true then .ok ((List.range (hi - lo).toNat).map fun k => lo + (k : Nat)) else .no) := ⟨fun (lo hi : Int) => (if small62 lo = true ∧ small62 hi = true then .ok ((List.range (hi - lo).toNat).map fun k => lo + (k : Nat)) else .no), fun _ _ => rfl⟩
noncomputable def rgR : Int → Int → R (List Int) := Classical.choose rgR_ex
theorem rgR_def (lo hi : Int) : rgR lo hi = (if small62 lo = true ∧ small62 hi = true then .ok ((List.range (hi - lo).toNat).map fun k => lo + (k : Nat)) else .no) := Classical.choose_spec rgR_ex lo hi
def rg0 (n : Int) : List Int := (List.range n.toNat).map fun k => (k : Nat)
theorem rg1R_ex : ∃ F : Int → R (List Int), ∀ (n : Int), F n = (if small62 n = true then .ok (rg0 n) else .no) := ⟨fun (n : Int) => (if small62 n = true then .ok (rg0 n) else .no), fun _ => rfl⟩
noncomputable def rg1R : Int → R (List Int) := Classical.choose rg1R_ex
theorem rg1R_def (n : Int) : rg1R n = (if small62 n = true then .ok (rg0 n) else .no) := Classical.choose_spec rg1R_ex n
theorem rg3R_ex : ∃ F : Int → Int → Int → R (List Int), ∀ (lo hi c : Int), F lo hi c = (if (small62 lo && small62 hi && decide (c ≠ 0) && decide (c.natAbs < 1073741824)) = true then .ok ((List.range (rngN lo hi c)).map fun k => lo + (k : Nat) * c) else .no) := ⟨fun (lo hi c : Int) => (if (small62 lo && small62 hi && decide (c ≠ 0) && decide (c.natAbs < 1073741824)) = true then .ok ((List.range (rngN lo hi c)).map fun k => lo + (k : Nat) * c) else .no), fun _ _ _ => rfl⟩
noncomputable def rg3R : Int → Int → Int → R (List Int) := Classical.choose rg3R_ex
theorem rg3R_def (lo hi c : Int) : rg3R lo hi c = (if (small62 lo && small62 hi && decide (c ≠ 0) && decide (c.natAbs < 1073741824)) = true then .ok ((List.range (rngN lo hi c)).map fun k => lo + (k : Nat) * c) else .no) := Classical.choose_spec rg3R_ex lo hi c
theorem rgLR_ex : ∃ F : Int → R (List Int), ∀ (n : Int), F n = (if -1000000 ≤ n ∧ n ≤ 1000000 then .ok (rg0 n) else .no) := ⟨fun (n : Int) => (if -1000000 ≤ n ∧ n ≤ 1000000 then .ok (rg0 n) else .no), fun _ => rfl⟩
noncomputable def rgLR : Int → R (List Int) := Classical.choose rgLR_ex
theorem rgLR_def (n : Int) : rgLR n = (if -1000000 ≤ n ∧ n ≤ 1000000 then .ok (rg0 n) else .no) := Classical.choose_spec rgLR_ex n
theorem repR_ex (α : Type) : ∃ F : List α → Int → R (List α), ∀ (xs : List α) (k : Int), F xs k = (if k ≤ 1000000 ∧ -1000000 ≤ k ∧ xs.length * k.toNat ≤ 16777216 then .ok (List.replicate k.toNat xs).flatten else .no) := ⟨fun (xs : List α) (k : Int) => (if k ≤ 1000000 ∧ -1000000 ≤ k ∧ xs.length * k.toNat ≤ 16777216 then .ok (List.replicate k.toNat xs).flatten else .no), fun _ _ => rfl⟩
noncomputable def repR {α : Type} : List α → Int → R (List α) := Classical.choose (repR_ex α)
theorem repR_def {α : Type} (xs : List α) (k : Int) : repR xs k = (if k ≤ 1000000 ∧ -1000000 ≤ k ∧ xs.length * k.toNat ≤ 16777216 then .ok (List.replicate k.toNat xs).flatten else .no) := Classical.choose_spec (repR_ex α) xs k
theorem repT_ex (α : Type) : ∃ F : List α → Int → R (List α), ∀ (xs : List α) (k : Int), F xs k = (if xs.length ≤ 1000 ∧ k ≤ 1000 ∧ -1000000 ≤ k then .ok (List.replicate k.toNat xs).flatten else .no) := ⟨fun (xs : List α) (k : Int) => (if xs.length ≤ 1000 ∧ k ≤ 1000 ∧ -1000000 ≤ k then .ok (List.replicate k.toNat xs).flatten else .no), fun _ _ => rfl⟩
noncomputable def repT {α : Type} : List α → Int → R (List α) := Classical.choose (repT_ex α)
theorem repT_def {α : Type} (xs : List α) (k : Int) : repT xs k = (if xs.length ≤ 1000 ∧ k ≤ 1000 ∧ -1000000 ≤ k then .ok (List.replicate k.toNat xs).flatten else .no) := Classical.choose_spec (repT_ex α) xs k
theorem insR_ex (α : Type) : ∃ F : List α → Int → α → R (List α), ∀ (xs : List α) (k : Int) (a : α), F xs k a = (if xs.length < 16777216 ∧ 0 ≤ k ∧ k < 1000000 then .ok (xs.take k.toNat ++ a :: xs.drop k.toNat) else .no) := ⟨fun (xs : List α) (k : Int) (a : α) => (if xs.length < 16777216 ∧ 0 ≤ k ∧ k < 1000000 then .ok (xs.take k.toNat ++ a :: xs.drop k.toNat) else .no), fun _ _ _ => rfl⟩
noncomputable def insR {α : Type} : List α → Int → α → R (List α) := Classical.choose (insR_ex α)
theorem insR_def {α : Type} (xs : List α) (k : Int) (a : α) : insR xs k a = (if xs.length < 16777216 ∧ 0 ≤ k ∧ k < 1000000 then .ok (xs.take k.toNat ++ a :: xs.drop k.toNat) else .no) := Classical.choose_spec (insR_ex α) xs k a
theorem appR_ex (α : Type) : ∃ F : List α → α → R (List α), ∀ (xs : List α) (a : α), F xs a = (if xs.length < 16777216 then .ok (xs ++ [a]) else .no) := ⟨fun (xs : List α) (a : α) => (if xs.length < 16777216 then .ok (xs ++ [a]) else .no), fun _ _ => rfl⟩
noncomputable def appR {α : Type} : List α → α → R (List α) := Classical.choose (appR_ex α)
theorem appR_def {α : Type} (xs : List α) (a : α) : appR xs a = (if xs.length < 16777216 then .ok (xs ++ [a]) else .no) := Classical.choose_spec (appR_ex α) xs a
theorem catR_ex (α : Type) : ∃ F : List α → List α → R (List α), ∀ (xs ys : List α), F xs ys = (if xs.length + ys.length ≤ 16777216 then .ok (xs ++ ys) else .no) := ⟨fun (xs ys : List α) => (if xs.length + ys.length ≤ 16777216 then .ok (xs ++ ys) else .no), fun _ _ => rfl⟩
noncomputable def catR {α : Type} : List α → List α → R (List α) := Classical.choose (catR_ex α)
theorem catR_def {α : Type} (xs ys : List α) : catR xs ys = (if xs.length + ys.length ≤ 16777216 then .ok (xs ++ ys) else .no) := Classical.choose_spec (catR_ex α) xs ys
theorem popR_ex (α : Type) : ∃ F : List α → R (α × List α), ∀ (xs : List α), F xs = (match xs.getLast? with | some a => .ok (a, xs.dropLast) | none => .no) := ⟨fun (xs : List α) => (match xs.getLast? with | some a => .ok (a, xs.dropLast) | none => .no), fun _ => rfl⟩
noncomputable def popR {α : Type} : List α → R (α × List α) := Classical.choose (popR_ex α)
theorem popR_def {α : Type} (xs : List α) : popR xs = (match xs.getLast? with | some a => .ok (a, xs.dropLast) | none => .no) := Classical.choose_spec (popR_ex α) xs
theorem popAtR_ex (α : Type) : ∃ F : List α → Int → R (α × List α), ∀ (xs : List α) (i : Int), F xs i = (match ixN xs.length i with | some j => (match xs[j]? with | some a => .ok (a, xs.eraseIdx j) | none => .no) | none => .no) := ⟨fun (xs : List α) (i : Int) => (match ixN xs.length i with | some j => (match xs[j]? with | some a => .ok (a, xs.eraseIdx j) | none => .no) | none => .no), fun _ _ => rfl⟩
noncomputable def popAtR {α : Type} : List α → Int → R (α × List α) := Classical.choose (popAtR_ex α)
theorem popAtR_def {α : Type} (xs : List α) (i : Int) : popAtR xs i = (match ixN xs.length i with | some j => (match xs[j]? with | some a => .ok (a, xs.eraseIdx j) | none => .no) | none => .no) := Classical.choose_spec (popAtR_ex α) xs i
theorem whileF_ex (σ τ : Type) : ∃ F : (σ → R Bool) → (σ → R (Stp σ τ)) → σ → R (σ ⊕ τ), ∀ c f s, F c f s = whileX c f FUEL s := ⟨fun c f s => whileX c f FUEL s, fun _ _ _ => rfl⟩
noncomputable def whileF {σ τ : Type} : (σ → R Bool) → (σ → R (Stp σ τ)) → σ → R (σ ⊕ τ) := Classical.choose (whileF_ex σ τ)
theorem whileF_def {σ τ : Type} (c : σ → R Bool) (f : σ → R (Stp σ τ)) (s : σ) : whileF c f s = whileX c f FUEL s := Classical.choose_spec (whileF_ex σ τ) c f s
theorem LINE_eq : LINE = 16777216 := (rfl)

/-- the law's classes by the numbers used here -/
structure Cm where
  f : Nat → Nat
  ok : Nat → Bool
abbrev Rel (α : Type) := Store → D → α → Prop
def SA (X : Cm) {α : Type} (A : Rel α) (S : Store) (r : Res D) (t : R α) : Prop := match t with
  | .ok a => ∃ d, r = .ok d S ∧ A S d a
  | .exc c fs => X.ok c = true ∧ r = .exc (X.f c) fs S
  | .no => True
/-- encodings -/
abbrev EQ {α : Type} (e : α → D) : Rel α := fun _ d a => d = e a
abbrev eI : Int → D := D.int
abbrev eB : Bool → D := D.bl
abbrev eS : List Nat → D := D.str
abbrev eU : Unit → D := fun _ => .non
abbrev eT {α : Type} (e : α → D) : List α → D := fun xs => .tup (xs.map e)
abbrev eL {α : Type} (e : α → D) : List α → D := fun xs => .vl (xs.map e)
abbrev eP {α β : Type} (a : α → D) (b : β → D) : α × β → D := fun p => .tup [a p.1, b p.2]
abbrev eP3 {α β γ : Type} (a : α → D) (b : β → D) (c : γ → D) : α × β × γ → D := fun p => .tup [a p.1, b p.2.1, c p.2.2]
abbrev eP4 {α β γ δ : Type} (a : α → D) (b : β → D) (c : γ → D) (d : δ → D) : α × β × γ × δ → D := fun p => .tup [a p.1, b p.2.1, c p.2.2.1, d p.2.2.2]
abbrev eP5 {α β γ δ ε : Type} (a : α → D) (b : β → D) (c : γ → D) (d : δ → D) (f : ε → D) : α × β × γ × δ × ε → D := fun p => .tup [a p.1, b p.2.1, c p.2.2.1, d p.2.2.2.1, f p.2.2.2.2]
def eO {α : Type} (e : α → D) : Option α → D | none => .non | some a => e a
abbrev LI {α : Type} (e : α → D) : Rel (List α) := fun S d xs => items S d = some (xs.map e)
abbrev LH {α : Type} (e : α → D) : Rel (List α) := fun S d xs => itemsH S d = some (xs.map e)
abbrev QS {α : Type} (e : α → D) : Rel (List α) := fun S d xs => seqOf S d = some (xs.map e)
theorem itemsH_items {S : Store} {d : D} {ds : List D} (h : itemsH S d = some ds) : items S d = some ds := by
  cases d <;> simp_all [itemsH, items]
theorem items_seq {S : Store} {d : D} {ds : List D} (h : items S d = some ds) : seqOf S d = some ds := by
  cases d <;> simp_all [seqOf, items]
section
variable {X : Cm} {α β γ δ : Type} {A : Rel α} {B : Rel β} {G : Rel γ} {S : Store} {r : Res D} {t t' : R α}
theorem SA.eq (h : SA X A S r t) (e : t = t') : SA X A S r t' := e ▸ h
theorem SA.mono {A' : Rel α} (k : ∀ d a, A S d a → A' S d a) (h : SA X A S r t) : SA X A' S r t := by
  cases t with
  | ok a => obtain ⟨d, e, q⟩ := h; exact ⟨d, e, k _ _ q⟩
  | exc c fs => exact h
  | no => trivial
theorem SA.tq {e : α → D} {t : R (List α)} (h : SA X (EQ (eT e)) S r t) : SA X (QS e) S r t := h.mono fun d a q => by subst q; rfl
theorem SA.lh {e : α → D} {t : R (List α)} (h : SA X (EQ (eL e)) S r t) : SA X (LH e) S r t := h.mono fun d a q => by subst q; rfl
theorem SA.li {e : α → D} {t : R (List α)} (h : SA X (LH e) S r t) : SA X (LI e) S r t := h.mono fun d a q => itemsH_items q
theorem SA.lq {e : α → D} {t : R (List α)} (h : SA X (LI e) S r t) : SA X (QS e) S r t := h.mono fun d a q => items_seq q
theorem SA.bind1 {k : Res D → Res D} {f : α → R β} (p : SA X A S r t) (hk : ∀ c fs, k (.exc c fs S) = .exc c fs S) (h : ∀ a d, A S d a → SA X B S (k (.ok d S)) (f a)) : SA X B S (k r) (t.bind f) := by
  cases t with
  | ok a => obtain ⟨d, e, q⟩ := p; rw [e]; exact h a d q
  | exc c fs => exact ⟨p.1, by rw [p.2]; exact hk _ _⟩
  | no => trivial
variable {C : Cx} {σ : Slots}
theorem SA.con {e : α → D} {a : α} {d : D} (h : d = e a) : SA X (EQ e) S (evE C (.con d) σ S) (.ok a) := ⟨d, by simp, h⟩
def nxD : D → Bool | .exn _ _ => false | _ => true
class Nx {α : Type} (e : α → D) : Prop where nx : ∀ a, nxD (e a) = true
instance : Nx eI := ⟨fun _ => rfl⟩
instance : Nx eB := ⟨fun _ => rfl⟩
instance : Nx eS := ⟨fun _ => rfl⟩
instance : Nx eU := ⟨fun _ => rfl⟩
instance {e : α → D} : Nx (eT e) := ⟨fun _ => rfl⟩
instance {e : α → D} : Nx (eL e) := ⟨fun _ => rfl⟩
instance {a : α → D} {b : β → D} : Nx (eP a b) := ⟨fun _ => rfl⟩
instance {a : α → D} {b : β → D} {c : γ → D} : Nx (eP3 a b c) := ⟨fun _ => rfl⟩
instance {a : α → D} {b : β → D} {c : γ → D} {d : δ → D} : Nx (eP4 a b c d) := ⟨fun _ => rfl⟩
instance {ε : Type} {a : α → D} {b : β → D} {c : γ → D} {d : δ → D} {f : ε → D} : Nx (eP5 a b c d f) := ⟨fun _ => rfl⟩
instance {e : α → D} [h : Nx e] : Nx (eO e) := ⟨fun a => by cases a with | none => rfl | some a => exact h.nx a⟩
theorem evar {i : Nat} {d : D} (h : σ[i]? = some (some d)) (n : nxD d = true) : evE C (.var i) σ S = .ok d S := by
  cases d <;> simp_all [nxD]
theorem SA.var {e : α → D} [Nx e] {a : α} {i : Nat} (h : σ[i]? = some (some (e a))) : SA X (EQ e) S (evE C (.var i) σ S) (.ok a) := ⟨e a, evar h (Nx.nx a), rfl⟩
theorem nx_items {d : D} {ds : List D} (h : items S d = some ds) : nxD d = true := by cases d <;> simp_all [nxD, items]
theorem SA.varI {e : α → D} {xs : List α} {i : Nat} {d : D} (h : σ[i]? = some (some d)) (q : items S d = some (xs.map e)) : SA X (LI e) S (evE C (.var i) σ S) (.ok xs) := ⟨d, evar h (nx_items q), q⟩
theorem SA.varH {e : α → D} {xs : List α} {i : Nat} {d : D} (h : σ[i]? = some (some d)) (q : itemsH S d = some (xs.map e)) : SA X (LH e) S (evE C (.var i) σ S) (.ok xs) := ⟨d, evar h (nx_items (itemsH_items q)), q⟩
/-! operators -/
variable {a b c d : E} {ta : R α} {tb : R β} {o : Bool} {p : Op}
theorem SA.op2 {f : α → β → R γ} (pa : SA X A S (evE C a σ S) ta) (pb : SA X B S (evE C b σ S) tb) (h : ∀ x y d u, A S d x → B S u y → SA X G S (doOp o p d u S) (f x y)) : SA X G S (evE C (.op o p a b) σ S) (ta.bind fun x => tb.bind fun y => f x y) := by
  rw [eE_op]
  refine pa.bind1 (fun _ _ => rfl) fun x d hx => ?_
  rw [kOp1_ok]
  refine pb.bind1 (fun _ _ => rfl) fun y u hy => ?_
  rw [kOp2_ok]
  exact h x y d u hx hy
variable {i j : R Int}
abbrev SI (X : Cm) (S : Store) (r : Res D) (t : R Int) := SA X (EQ eI) S r t
abbrev SB (X : Cm) (S : Store) (r : Res D) (t : R Bool) := SA X (EQ eB) S r t
theorem SA.add (pa : SI X S (evE C a σ S) i) (pb : SI X S (evE C b σ S) j) : SI X S (evE C (.op o .add a b) σ S) (i.bind fun x => j.bind fun y => .ok (x + y)) :=
  pa.op2 pb fun x y d u hx hy => by subst hx; subst hy; exact ⟨_, rfl, rfl⟩
theorem SA.sub (pa : SI X S (evE C a σ S) i) (pb : SI X S (evE C b σ S) j) : SI X S (evE C (.op o .sub a b) σ S) (i.bind fun x => j.bind fun y => .ok (x - y)) :=
  pa.op2 pb fun x y d u hx hy => by subst hx; subst hy; exact ⟨_, rfl, rfl⟩
theorem SA.band (pa : SI X S (evE C a σ S) i) (pb : SI X S (evE C b σ S) j) : SI X S (evE C (.op o .band a b) σ S) (i.bind fun x => j.bind fun y => .ok (SL.band x y)) :=
  pa.op2 pb fun x y d u hx hy => by subst hx; subst hy; exact ⟨_, rfl, rfl⟩
theorem SA.bor (pa : SI X S (evE C a σ S) i) (pb : SI X S (evE C b σ S) j) : SI X S (evE C (.op o .bor a b) σ S) (i.bind fun x => j.bind fun y => .ok (SL.bor x y)) :=
  pa.op2 pb fun x y d u hx hy => by subst hx; subst hy; exact ⟨_, rfl, rfl⟩
theorem SA.bxor (pa : SI X S (evE C a σ S) i) (pb : SI X S (evE C b σ S) j) : SI X S (evE C (.op o .bxor a b) σ S) (i.bind fun x => j.bind fun y => .ok (SL.bxor x y)) :=
  pa.op2 pb fun x y d u hx hy => by subst hx; subst hy; exact ⟨_, rfl, rfl⟩
theorem SA.mul (pa : SI X S (evE C a σ S) i) (pb : SI X S (evE C b σ S) j) : SI X S (evE C (.op o .mul a b) σ S) (i.bind fun x => j.bind fun y => mulR x y) :=
  pa.op2 pb fun x y d u hx hy => by
    subst hx; subst hy; rw [mulR_def]
    split
    · rename_i h; exact ⟨_, op_mul h, rfl⟩
    · trivial
/-- times a small number -/
theorem SA.mulr {k : Int} (hk : k.natAbs < 18446744073709551616) (pa : SI X S (evE C a σ S) i) : SI X S (evE C (.op o .mul a (.con (.int k))) σ S) (i.bind fun x => .ok (x * k)) :=
  (pa.op2 (SA.con (e := eI) (a := k) rfl) (f := fun x y => if y = k then .ok (x * y) else .no) fun x y d u hx hy => by
    subst hx; subst hy
    split
    · rename_i h; subst h; exact ⟨_, op_mul_r hk, rfl⟩
    · trivial).eq (by simp)
theorem SA.mull {k : Int} (hk : k.natAbs < 18446744073709551616) (pb : SI X S (evE C b σ S) j) : SI X S (evE C (.op o .mul (.con (.int k)) b) σ S) (j.bind fun y => .ok (k * y)) :=
  ((SA.con (X := X) (S := S) (C := C) (σ := σ) (e := eI) (a := k) rfl).op2 pb (f := fun x y => if x = k then .ok (x * y) else .no) fun x y d u hx hy => by
    subst hx; subst hy
    split
    · rename_i h; subst h; exact ⟨_, op_mul_l hk, rfl⟩
    · trivial).eq (by simp)
theorem SA.fdiv (pa : SI X S (evE C a σ S) i) (pb : SI X S (evE C b σ S) j) : SI X S (evE C (.op o .fdiv a b) σ S) (i.bind fun x => j.bind fun y => fdivR x y) :=
  pa.op2 pb fun x y d u hx hy => by
    subst hx; subst hy; rw [fdivR_def]
    split
    · rename_i h; exact ⟨.int (x.fdiv y), by simp [doOp, intOp, h], rfl⟩
    · trivial
theorem SA.fmod (pa : SI X S (evE C a σ S) i) (pb : SI X S (evE C b σ S) j) : SI X S (evE C (.op o .mod a b) σ S) (i.bind fun x => j.bind fun y => fmodR x y) :=
  pa.op2 pb fun x y d u hx hy => by
    subst hx; subst hy; rw [fmodR_def]
    split
    · rename_i h; exact ⟨_, op_fmod h, rfl⟩
    · trivial
/-- by a positive number -/
theorem SA.fdivk {k : Int} (h1 : 0 < k) (h2 : k < 1606938044258990275541962092341162602522202993782792835301376) (pa : SI X S (evE C a σ S) i) : SI X S (evE C (.op o .fdiv a (.con (.int k))) σ S) (i.bind fun x => .ok (x / k)) :=
  (pa.op2 (SA.con (e := eI) (a := k) rfl) (f := fun x y => if y = k then .ok (x / y) else .no) fun x y d u hx hy => by
    subst hx; subst hy
    split
    · rename_i h; subst h; exact ⟨_, op_fdiv h1 h2, rfl⟩
    · trivial).eq (by simp)
theorem SA.fmodk {k : Int} (h1 : 0 < k) (pa : SI X S (evE C a σ S) i) : SI X S (evE C (.op o .mod a (.con (.int k))) σ S) (i.bind fun x => .ok (x % k)) :=
  (pa.op2 (SA.con (e := eI) (a := k) rfl) (f := fun x y => if y = k then .ok (x % y) else .no) fun x y d u hx hy => by
    subst hx; subst hy
    split
    · rename_i h; subst h; exact ⟨_, op_mod h1, rfl⟩
    · trivial).eq (by simp)
theorem SA.pow (pa : SI X S (evE C a σ S) i) (pb : SI X S (evE C b σ S) j) : SI X S (evE C (.op o .pow a b) σ S) (i.bind fun x => j.bind fun y => powR x y) :=
  pa.op2 pb fun x y d u hx hy => by
    subst hx; subst hy; rw [powR_def]
    split
    · rename_i h; exact ⟨_, op_pow h, rfl⟩
    · trivial
theorem SA.shr (pa : SI X S (evE C a σ S) i) (pb : SI X S (evE C b σ S) j) : SI X S (evE C (.op o .shr a b) σ S) (i.bind fun x => j.bind fun y => shrR x y) :=
  pa.op2 pb fun x y d u hx hy => by
    subst hx; subst hy; rw [shrR_def]
    split
    · rename_i h; exact ⟨_, op_shr h, rfl⟩
    · trivial
/-- powers of numbers told: a ** b with both constants -/
theorem SA.powk {x y z : Int} (h : powOk x y = true) (hz : x ^ y.toNat = z) : SI X S (evE C (.op o .pow (.con (.int x)) (.con (.int y))) σ S) (.ok z) := ⟨.int z, by simp [op_pow h, hz], rfl⟩
theorem SA.neg (pa : SI X S (evE C a σ S) i) : SI X S (evE C (.neg a) σ S) (i.bind fun x => .ok (-x)) := by
  rw [eE_neg]
  exact pa.bind1 (fun _ _ => rfl) fun x d h => by subst h; exact ⟨_, rfl, rfl⟩
theorem SA.catT {e : α → D} {x y : R (List α)} (pa : SA X (EQ (eT e)) S (evE C a σ S) x) (pb : SA X (EQ (eT e)) S (evE C b σ S) y) : SA X (EQ (eT e)) S (evE C (.op o .add a b) σ S) (x.bind fun x => y.bind fun y => catR x y) :=
  pa.op2 pb fun x y d u hx hy => by
    subst hx; subst hy; rw [catR_def]
    split
    · rename_i h; exact ⟨_, op_tup (by simpa [LINE_eq] using h), by simp⟩
    · trivial
theorem SA.repT {e : α → D} {x : R (List α)} (pa : SA X (EQ (eT e)) S (evE C a σ S) x) (pb : SI X S (evE C b σ S) i) : SA X (EQ (eT e)) S (evE C (.op o .mul a b) σ S) (x.bind fun x => i.bind fun k => repT x k) :=
  pa.op2 pb fun x k d u hx hy => by
    subst hx; subst hy; rw [repT_def]
    split
    · rename_i h
      refine ⟨.tup (((List.replicate k.toNat x).flatten).map e), ?_, rfl⟩
      have h2 : Op.mul = .mul ∧ (x.map e).length ≤ 1000 ∧ k ≤ 1000 ∧ -1000000 ≤ k := ⟨rfl, by simpa using h⟩
      have : doOp o .mul (.tup (x.map e)) (.int k) S = .ok (.tup (List.replicate k.toNat (x.map e)).flatten) S := by
        show (if Op.mul = .mul ∧ (x.map e).length ≤ 1000 ∧ k ≤ 1000 ∧ -1000000 ≤ k then (_ : Res D) else _) = _
        rw [if_pos h2]
      rw [this]
      simp [List.map_flatten]
    · trivial
theorem SA.catS {x y : R (List Nat)} (pa : SA X (EQ eS) S (evE C a σ S) x) (pb : SA X (EQ eS) S (evE C b σ S) y) : SA X (EQ eS) S (evE C (.op o .add a b) σ S) (x.bind fun x => y.bind fun y => catR x y) :=
  pa.op2 pb fun x y d u hx hy => by
    subst hx; subst hy; rw [catR_def]
    split
    · rename_i h; exact ⟨_, op_str (by simpa [LINE_eq] using h), by simp⟩
    · trivial
/-- a list made: one that stands still, or one of the store -/
def SM (X : Cm) {α : Type} (o : Bool) (e : α → D) (S : Store) (r : Res D) (t : R (List α)) : Prop := match t with
  | .ok xs => r = if o = true then .ok (.ref S.length) (S ++ [.lst (xs.map e)]) else .ok (.vl (xs.map e)) S
  | .exc c fs => X.ok c = true ∧ r = .exc (X.f c) fs S
  | .no => True
theorem SM.eq {e : α → D} {t t' : R (List α)} (h : SM X o e S r t) (q : t = t') : SM X o e S r t' := q ▸ h
theorem SM.val {e : α → D} {t : R (List α)} (h : SM X false e S r t) : SA X (EQ (eL e)) S r t := by
  cases t with
  | ok xs => exact ⟨_, h, rfl⟩
  | exc c fs => exact h
  | no => trivial
theorem SM.bind1 {k : Res D → Res D} {e : β → D} {f : α → R (List β)} (p : SA X A S r t) (hk : ∀ c fs, k (.exc c fs S) = .exc c fs S) (h : ∀ a d, A S d a → SM X o e S (k (.ok d S)) (f a)) : SM X o e S (k r) (t.bind f) := by
  cases t with
  | ok a => obtain ⟨d, q, w⟩ := p; rw [q]; exact h a d w
  | exc c fs => exact ⟨p.1, by rw [p.2]; exact hk _ _⟩
  | no => trivial
theorem SM.mk {e : α → D} {xs : List α} {ds : List D} (h : ds = xs.map e) : SM X o e S (mk o ds S) (lnR xs) := by
  subst h; rw [lnR_def]; unfold SM
  by_cases q : xs.length ≤ 16777216
  · rw [if_pos q]
    have : xs.length ≤ LINE := by simpa [LINE_eq] using q
    cases o <;> simp [this, SL.mk]
  · rw [if_neg q]; trivial
theorem SM.catL {e : α → D} {x y : R (List α)} (pa : SA X (LI e) S (evE C a σ S) x) (pb : SA X (LI e) S (evE C b σ S) y) : SM X o e S (evE C (.op o .add a b) σ S) (x.bind fun x => y.bind fun y => lnR (x ++ y)) := by
  rw [eE_op]
  refine SM.bind1 pa (fun _ _ => rfl) fun x d hx => ?_
  rw [kOp1_ok]
  refine SM.bind1 pb (fun _ _ => rfl) fun y u hy => ?_
  rw [kOp2_ok]
  have hx : items S d = some (x.map e) := hx
  have hy : items S u = some (y.map e) := hy
  have q : doOp o .add d u S = SL.mk o ((x ++ y).map e) S := by
    have nd : ∀ k, u ≠ .int k := fun k z => by subst z; simp [items] at hy
    have q2 : doOpL o .add d u S = SL.mk o ((x ++ y).map e) S := by
      unfold doOpL
      cases u <;> first | (simp only [hx, hy, doCat, if_true, List.map_append]; done) | (exfalso; revert hy; simp [items]; done) | (exact absurd rfl (nd _))
    cases d <;> first | exact q2 | (exfalso; revert hx; simp [items]; done)
  rw [q]
  exact SM.mk rfl
theorem SM.repL {e : α → D} {x : R (List α)} (pa : SA X (LH e) S (evE C a σ S) x) (pb : SI X S (evE C b σ S) i) : SM X o e S (evE C (.op o .mul a b) σ S) (x.bind fun x => i.bind fun k => repR x k) := by
  rw [eE_op]
  refine SM.bind1 pa (fun _ _ => rfl) fun x d hx => ?_
  rw [kOp1_ok]
  refine SM.bind1 pb (fun _ _ => rfl) fun k u hy => ?_
  rw [kOp2_ok]
  subst hy
  have hx : itemsH S d = some (x.map e) := hx
  rw [repR_def]
  split
  · rename_i h
    have e1 : (List.replicate k.toNat (x.map e)).flatten = ((List.replicate k.toNat x).flatten).map e := by simp [List.map_flatten]
    have q : doOp o .mul d (.int k) S = SL.mk o (((List.replicate k.toNat x).flatten).map e) S := by
      have q2 : doOpL o .mul d (.int k) S = SL.mk o (((List.replicate k.toNat x).flatten).map e) S := by
        unfold doOpL
        rw [hx]
        have h2 : (x.map e).length * k.toNat ≤ LINE := by rw [List.length_map, LINE_eq]; exact h.2.2
        have h3 : True ∧ k ≤ 1000000 ∧ -1000000 ≤ k ∧ (x.map e).length * k.toNat ≤ LINE := ⟨trivial, h.1, h.2.1, h2⟩
        simp only []
        rw [if_pos h3, e1]
      cases d <;> first | exact q2 | (exfalso; revert hx; simp [itemsH]; done)
    rw [q]
    have l : (List.replicate k.toNat x).flatten.length ≤ 16777216 := by
      rw [List.length_flatten, List.map_replicate, List.sum_replicate_nat, Nat.mul_comm]; exact h.2.2
    have := SM.mk (X := X) (o := o) (S := S) (e := e) (xs := (List.replicate k.toNat x).flatten) rfl
    rw [lnR_def] at this
    rw [if_pos l] at this
    exact this
  · trivial
/-! comparisons -/
theorem SA.cmp' {cc : Cmp} {f : α → β → R Bool} (pa : SA X A S (evE C a σ S) ta) (pb : SA X B S (evE C b σ S) tb) (h : ∀ x y d u, A S d x → B S u y → SB X S (doCmp cc d u S) (f x y)) : SB X S (evE C (.cmp cc a b) σ S) (ta.bind fun x => tb.bind fun y => f x y) := by
  rw [eE_cmp]
  refine pa.bind1 (fun _ _ => rfl) fun x d hx => ?_
  rw [kCmp1_ok]
  refine pb.bind1 (fun _ _ => rfl) fun y u hy => ?_
  rw [kCmp2_ok]
  exact h x y d u hx hy
def cmpI (c : Cmp) (x y : Int) : Bool := match c with | .eq => decide (x = y) | .ne => !decide (x = y) | .lt => decide (x < y) | .le => decide (x ≤ y) | .gt => decide (y < x) | .ge => decide (y ≤ x) | _ => false
theorem SA.lt (pa : SI X S (evE C a σ S) i) (pb : SI X S (evE C b σ S) j) : SB X S (evE C (.cmp .lt a b) σ S) (i.bind fun x => j.bind fun y => .ok (decide (x < y))) := pa.cmp' pb fun x y d u hx hy => by subst hx; subst hy; exact ⟨_, rfl, rfl⟩
theorem SA.le (pa : SI X S (evE C a σ S) i) (pb : SI X S (evE C b σ S) j) : SB X S (evE C (.cmp .le a b) σ S) (i.bind fun x => j.bind fun y => .ok (decide (x ≤ y))) := pa.cmp' pb fun x y d u hx hy => by subst hx; subst hy; exact ⟨_, rfl, rfl⟩
theorem SA.gt (pa : SI X S (evE C a σ S) i) (pb : SI X S (evE C b σ S) j) : SB X S (evE C (.cmp .gt a b) σ S) (i.bind fun x => j.bind fun y => .ok (decide (x > y))) := pa.cmp' pb fun x y d u hx hy => by subst hx; subst hy; exact ⟨_, rfl, rfl⟩
theorem SA.ge (pa : SI X S (evE C a σ S) i) (pb : SI X S (evE C b σ S) j) : SB X S (evE C (.cmp .ge a b) σ S) (i.bind fun x => j.bind fun y => .ok (decide (x ≥ y))) := pa.cmp' pb fun x y d u hx hy => by subst hx; subst hy; exact ⟨_, rfl, rfl⟩
theorem SA.eqI (pa : SI X S (evE C a σ S) i) (pb : SI X S (evE C b σ S) j) : SB X S (evE C (.cmp .eq a b) σ S) (i.bind fun x => j.bind fun y => .ok (decide (x = y))) := pa.cmp' pb fun x y d u hx hy => by subst hx; subst hy; exact ⟨_, rfl, rfl⟩
theorem SA.neI (pa : SI X S (evE C a σ S) i) (pb : SI X S (evE C b σ S) j) : SB X S (evE C (.cmp .ne a b) σ S) (i.bind fun x => j.bind fun y => .ok (decide (x ≠ y))) := pa.cmp' pb fun x y d u hx hy => by subst hx; subst hy; exact ⟨_, by rw [c_ne], by simp⟩
theorem SA.eqS {x y : R (List Nat)} (pa : SA X (EQ eS) S (evE C a σ S) x) (pb : SA X (EQ eS) S (evE C b σ S) y) : SB X S (evE C (.cmp .eq a b) σ S) (x.bind fun x => y.bind fun y => .ok (decide (x = y))) := pa.cmp' pb fun x y d u hx hy => by subst hx; subst hy; exact ⟨_, c_eqs, rfl⟩
theorem SA.neS {x y : R (List Nat)} (pa : SA X (EQ eS) S (evE C a σ S) x) (pb : SA X (EQ eS) S (evE C b σ S) y) : SB X S (evE C (.cmp .ne a b) σ S) (x.bind fun x => y.bind fun y => .ok (decide (x ≠ y))) := pa.cmp' pb fun x y d u hx hy => by subst hx; subst hy; exact ⟨_, by rw [c_nes], by simp⟩
/-- encodings that == reads -/
class Qv {α : Type} [DecidableEq α] (e : α → D) (k : outParam Nat) : Prop where
  eq : ∀ a b, eqv (e a) (e b) = decide (a = b)
  dl : ∀ a m, dle (e a) (m + k) = true
instance : Qv eI 0 := ⟨fun a b => by simp [eqv, BEq.beq], fun _ _ => by simp [dle]⟩
instance : Qv eB 0 := ⟨fun a b => by cases a <;> cases b <;> rfl, fun _ _ => by simp [dle]⟩
theorem eqvs_map [DecidableEq α] {e : α → D} {k : Nat} [q : Qv e k] : ∀ xs ys : List α, eqvs (xs.map e) (ys.map e) = decide (xs = ys)
  | [], [] => by simp [eqvs]
  | [], y :: ys => by simp [eqvs]
  | x :: xs, [] => by simp [eqvs]
  | x :: xs, y :: ys => by
    simp only [List.map_cons, eqvs, q.eq x y, eqvs_map xs ys, List.cons.injEq]
    by_cases h : x = y <;> simp [h]
theorem dles_map [DecidableEq α] {e : α → D} {k : Nat} [q : Qv e k] (m : Nat) : ∀ xs : List α, dles (xs.map e) (m + k) = true
  | [] => by simp [dles]
  | x :: xs => by simp [dles, q.dl x m, dles_map m xs]
instance [DecidableEq α] {e : α → D} {k : Nat} [q : Qv e k] : Qv (eT e) (k + 1) := ⟨fun a b => by simp [eqv, eqvs_map], fun a m => by rw [← Nat.add_assoc]; simp [dle, dles_map]⟩
instance [DecidableEq α] {e : α → D} {k : Nat} [q : Qv e k] : Qv (eL e) (k + 1) := ⟨fun a b => by simp [eqv, eqvs_map], fun a m => by rw [← Nat.add_assoc]; simp [dle, dles_map]⟩
instance [DecidableEq α] [DecidableEq β] {e : α → D} {f : β → D} {k l : Nat} [q : Qv e k] [w : Qv f l] : Qv (eP e f) (k + l + 1) := ⟨fun a b => by
    simp only [eqv, eqvs, q.eq, w.eq, Bool.and_true, Prod.ext_iff]
    by_cases h : a.1 = b.1 <;> simp [h], fun a m => by
    rw [← Nat.add_assoc]
    have h1 := q.dl a.1 (m + l)
    have h2 := w.dl a.2 (m + k)
    rw [show m + l + k = m + (k + l) by omega] at h1
    rw [show m + k + l = m + (k + l) by omega] at h2
    simp [dle, dles, h1, h2]⟩
theorem eqB_q [DecidableEq α] {e : α → D} {k : Nat} [q : Qv e k] [nx : Nx e] (hk : k ≤ 64) {a b : α} (ht : ∀ a, top S (e a) = e a) (hf : ∀ i, e a ≠ .int i) (hf2 : ∀ i, e a ≠ .str i) : eqB (e a) (e b) S = some (decide (a = b)) := by
  have h1 := q.dl a (64 - k)
  have h2 := q.dl b (64 - k)
  rw [Nat.sub_add_cancel hk] at h1 h2
  have : eqB (e a) (e b) S = if dle (top S (e a)) 64 && dle (top S (e b)) 64 then some (eqv (top S (e a)) (top S (e b))) else none := by
    unfold eqB
    split
    · rename_i h _; exact absurd h (hf _)
    · rename_i h _; exact absurd h (hf2 _)
    · rfl
  rw [this, ht, ht, h1, h2, q.eq]
  rfl
theorem SA.eqT [DecidableEq α] {e : α → D} {k : Nat} [q : Qv e k] (hk : k < 64) {x y : R (List α)} (pa : SA X (EQ (eT e)) S (evE C a σ S) x) (pb : SA X (EQ (eT e)) S (evE C b σ S) y) : SB X S (evE C (.cmp .eq a b) σ S) (x.bind fun x => y.bind fun y => .ok (decide (x = y))) := pa.cmp' pb fun x y d u hx hy => by
  subst hx; subst hy
  exact ⟨_, by unfold doCmp cmpB; simp only []; rw [eqB_q (e := eT e) (k := k + 1) (by omega) (fun _ => rfl) (fun _ h => by cases h) (fun _ h => by cases h)]; rfl, rfl⟩
theorem SA.neT [DecidableEq α] {e : α → D} {k : Nat} [q : Qv e k] (hk : k < 64) {x y : R (List α)} (pa : SA X (EQ (eT e)) S (evE C a σ S) x) (pb : SA X (EQ (eT e)) S (evE C b σ S) y) : SB X S (evE C (.cmp .ne a b) σ S) (x.bind fun x => y.bind fun y => .ok (decide (x ≠ y))) := pa.cmp' pb fun x y d u hx hy => by
  subst hx; subst hy
  exact ⟨_, by unfold doCmp cmpB; simp only []; rw [eqB_q (e := eT e) (k := k + 1) (by omega) (fun _ => rfl) (fun _ h => by cases h) (fun _ h => by cases h)]; rfl, by simp⟩
theorem SA.eqP [DecidableEq α] [DecidableEq β] {e : α → D} {f : β → D} {k l : Nat} [q : Qv e k] [w : Qv f l] (hk : k + l < 64) {x y : R (α × β)} (pa : SA X (EQ (eP e f)) S (evE C a σ S) x) (pb : SA X (EQ (eP e f)) S (evE C b σ S) y) : SB X S (evE C (.cmp .eq a b) σ S) (x.bind fun x => y.bind fun y => .ok (decide (x = y))) := pa.cmp' pb fun x y d u hx hy => by
  subst hx; subst hy
  exact ⟨_, by unfold doCmp cmpB; simp only []; rw [eqB_q (e := eP e f) (k := k + l + 1) (by omega) (fun _ => rfl) (fun _ h => by cases h) (fun _ h => by cases h)]; rfl, rfl⟩
theorem SA.neP [DecidableEq α] [DecidableEq β] {e : α → D} {f : β → D} {k l : Nat} [q : Qv e k] [w : Qv f l] (hk : k + l < 64) {x y : R (α × β)} (pa : SA X (EQ (eP e f)) S (evE C a σ S) x) (pb : SA X (EQ (eP e f)) S (evE C b σ S) y) : SB X S (evE C (.cmp .ne a b) σ S) (x.bind fun x => y.bind fun y => .ok (decide (x ≠ y))) := pa.cmp' pb fun x y d u hx hy => by
  subst hx; subst hy
  exact ⟨_, by unfold doCmp cmpB; simp only []; rw [eqB_q (e := eP e f) (k := k + l + 1) (by omega) (fun _ => rfl) (fun _ h => by cases h) (fun _ h => by cases h)]; rfl, by simp⟩
theorem top_items {d : D} {ds : List D} (h : items S d = some ds) : top S d = .vl ds ∧ (∀ i, d ≠ .int i) ∧ ∀ i, d ≠ .str i := by
  cases d with
  | vl => simp [items] at h; subst h; simp [top]
  | sc => simp [items] at h; subst h; simp [top]
  | ref i =>
    simp only [items] at h
    split at h
    · rename_i q; cases h; simp [top, q]
    · cases h
  | _ => simp [items] at h
theorem eqB_l [DecidableEq α] {e : α → D} {k : Nat} [q : Qv e k] (hk : k < 64) {x y : List α} {d u : D} (hx : items S d = some (x.map e)) (hy : items S u = some (y.map e)) : eqB d u S = some (decide (x = y)) := by
  obtain ⟨t1, n1, n2⟩ := top_items hx
  obtain ⟨t2, _, _⟩ := top_items hy
  have : eqB d u S = if dle (top S d) 64 && dle (top S u) 64 then some (eqv (top S d) (top S u)) else none := by
    unfold eqB
    split
    · exact absurd rfl (n1 _)
    · exact absurd rfl (n2 _)
    · rfl
  have h1 := dles_map (q := q) (63 - k) x
  have h2 := dles_map (q := q) (63 - k) y
  rw [Nat.sub_add_cancel (by omega)] at h1 h2
  rw [this, t1, t2]
  simp [dle, h1, h2, eqv, eqvs_map]
theorem SA.eqL [DecidableEq α] {e : α → D} {k : Nat} [q : Qv e k] (hk : k < 64) {x y : R (List α)} (pa : SA X (LI e) S (evE C a σ S) x) (pb : SA X (LI e) S (evE C b σ S) y) : SB X S (evE C (.cmp .eq a b) σ S) (x.bind fun x => y.bind fun y => .ok (decide (x = y))) := pa.cmp' pb fun x y d u hx hy =>
  ⟨_, by unfold doCmp cmpB; simp only []; rw [eqB_l hk hx hy]; rfl, rfl⟩
theorem SA.neL [DecidableEq α] {e : α → D} {k : Nat} [q : Qv e k] (hk : k < 64) {x y : R (List α)} (pa : SA X (LI e) S (evE C a σ S) x) (pb : SA X (LI e) S (evE C b σ S) y) : SB X S (evE C (.cmp .ne a b) σ S) (x.bind fun x => y.bind fun y => .ok (decide (x ≠ y))) := pa.cmp' pb fun x y d u hx hy =>
  ⟨_, by unfold doCmp cmpB; simp only []; rw [eqB_l hk hx hy]; rfl, by simp⟩
/-- flat items: in -/
class Fl {α : Type} [DecidableEq α] (e : α → D) : Prop where
  fl : ∀ a, flat (e a) = true
  eq : ∀ a b, eqv (e a) (e b) = decide (a = b)
instance : Fl eI := ⟨fun _ => rfl, Qv.eq⟩
instance : Fl eB := ⟨fun _ => rfl, Qv.eq⟩
instance : Fl eS := ⟨fun _ => rfl, fun a b => by simp [eqv]; by_cases h : a = b <;> simp [h]⟩
theorem inL_map [DecidableEq α] {e : α → D} [Fl e] (x : α) (ys : List α) : inL (e x) (ys.map e) = decide (x ∈ ys) := by
  unfold inL
  rw [List.any_map]
  induction ys with
  | nil => simp
  | cons y ys ih =>
    simp only [List.any_cons, ih, Function.comp, Fl.eq]
    by_cases h : x = y
    · simp [h]
    · have : ¬ y = x := fun z => h z.symm
      simp [h, this]
theorem inB'_seq {S : Store} {x u : D} {ds : List D} (h : seqOf S u = some ds) : inB' x u S = if flat x && ds.all flat then some (inL x ds) else none := by
  cases u with
  | str z => simp [seqOf, items] at h
  | _ => simp only [inB', inSeq, h]
theorem SA.isin [DecidableEq α] {e : α → D} [Fl e] {x : R α} {y : R (List α)} (pa : SA X (EQ e) S (evE C a σ S) x) (pb : SA X (QS e) S (evE C b σ S) y) : SB X S (evE C (.cmp .isin a b) σ S) (x.bind fun x => y.bind fun y => .ok (decide (x ∈ y))) := pa.cmp' pb fun x y d u hx hy => by
  subst hx
  refine ⟨.bl (decide (x ∈ y)), ?_, rfl⟩
  have : ((y.map e).all flat) = true := by simp [Fl.fl]
  unfold doCmp cmpB
  simp only [inB'_seq hy, this, Fl.fl, inL_map]
  rfl
theorem SA.notin [DecidableEq α] {e : α → D} [Fl e] {x : R α} {y : R (List α)} (pa : SA X (EQ e) S (evE C a σ S) x) (pb : SA X (QS e) S (evE C b σ S) y) : SB X S (evE C (.cmp .notin a b) σ S) (x.bind fun x => y.bind fun y => .ok (decide (x ∉ y))) := pa.cmp' pb fun x y d u hx hy => by
  subst hx
  refine ⟨.bl (!decide (x ∈ y)), ?_, by simp⟩
  have : ((y.map e).all flat) = true := by simp [Fl.fl]
  unfold doCmp cmpB
  simp only [inB'_seq hy, this, Fl.fl, inL_map]
  rfl
theorem SA.isN {e : α → D} (hn : ∀ a, e a ≠ .non) {x : R (Option α)} (pa : SA X (EQ (eO e)) S (evE C a σ S) x) : SB X S (evE C (.cmp .is a (.con .non)) σ S) (x.bind fun x => .ok x.isNone) := by
  refine (pa.cmp' (SA.con (e := eU) (a := ()) rfl) (f := fun x _ => .ok x.isNone) fun x y d u hx hy => ?_).eq (by simp)
  subst hx; subst hy
  cases x with
  | none => exact ⟨_, rfl, rfl⟩
  | some x =>
    have := hn x
    refine ⟨.bl false, ?_, rfl⟩
    show doCmp .is (e x) .non S = _
    unfold doCmp cmpB
    cases h : e x <;> simp_all [okO]
theorem SA.isnN {e : α → D} (hn : ∀ a, e a ≠ .non) {x : R (Option α)} (pa : SA X (EQ (eO e)) S (evE C a σ S) x) : SB X S (evE C (.cmp .isnot a (.con .non)) σ S) (x.bind fun x => .ok x.isSome) := by
  refine (pa.cmp' (SA.con (e := eU) (a := ()) rfl) (f := fun x _ => .ok x.isSome) fun x y d u hx hy => ?_).eq (by simp)
  subst hx; subst hy
  cases x with
  | none => exact ⟨_, rfl, rfl⟩
  | some x =>
    have := hn x
    refine ⟨.bl true, ?_, rfl⟩
    show doCmp .isnot (e x) .non S = _
    unfold doCmp cmpB
    cases h : e x <;> simp_all [okO]
/-! chains, and, or, not, if -/
theorem SA.chain {c1 c2 : Cmp} {f : α → β → R Bool} {g : β → γ → R Bool} {tc : R γ} (pa : SA X A S (evE C a σ S) ta) (pb : SA X B S (evE C b σ S) tb) (pc : SA X G S (evE C c σ S) tc)
    (h1 : ∀ x y d u, A S d x → B S u y → SB X S (doCmp c1 d u S) (f x y)) (h2 : ∀ y z u w, B S u y → G S w z → SB X S (doCmp c2 u w S) (g y z)) :
    SB X S (evE C (.cmp2 c1 c2 a b c) σ S) (ta.bind fun x => tb.bind fun y => (f x y).bind fun q => if q = true then tc.bind fun z => g y z else .ok false) := by
  rw [eE_cmp2]
  refine pa.bind1 (fun _ _ => rfl) fun x d hx => ?_
  rw [kCh1_ok]
  refine pb.bind1 (fun _ _ => rfl) fun y u hy => ?_
  rw [kCh2_ok]
  refine (h1 x y d u hx hy).bind1 (fun _ _ => rfl) fun q w hq => ?_
  subst hq
  rw [kCh3_ok]
  split
  · exact pc.bind1 (fun _ _ => rfl) fun z w hz => by rw [kCmp2_ok]; exact h2 y z u w hy hz
  · exact ⟨_, rfl, rfl⟩
theorem cI (c : Cmp) (hc : c = .lt ∨ c = .le ∨ c = .gt ∨ c = .ge ∨ c = .eq ∨ c = .ne) : ∀ (x y : Int) (d u : D), EQ eI S d x → EQ eI S u y → SB X S (doCmp c d u S) (.ok (cmpI c x y)) := fun x y d u hx hy => by
  subst hx; subst hy
  rcases hc with rfl | rfl | rfl | rfl | rfl | rfl <;> exact ⟨_, rfl, rfl⟩
theorem SA.and {x y : R Bool} (pa : SB X S (evE C a σ S) x) (pb : SB X S (evE C b σ S) y) : SB X S (evE C (.and a b) σ S) (x.bind fun q => if q = true then y else .ok false) := by
  rw [eE_and]
  refine pa.bind1 (fun _ _ => rfl) fun q d h => ?_
  subst h
  rw [kAnd_ok]
  split
  · exact (pb.bind1 (k := kBl) (f := .ok) (fun _ _ => rfl) fun q d h => by subst h; exact ⟨_, rfl, rfl⟩).eq (by simp)
  · exact ⟨_, rfl, rfl⟩
theorem SA.or {x y : R Bool} (pa : SB X S (evE C a σ S) x) (pb : SB X S (evE C b σ S) y) : SB X S (evE C (.or a b) σ S) (x.bind fun q => if q = true then .ok true else y) := by
  rw [eE_or]
  refine pa.bind1 (fun _ _ => rfl) fun q d h => ?_
  subst h
  rw [kOr_ok]
  split
  · exact ⟨_, rfl, rfl⟩
  · exact (pb.bind1 (k := kBl) (f := .ok) (fun _ _ => rfl) fun q d h => by subst h; exact ⟨_, rfl, rfl⟩).eq (by simp)
/-- the same where both are plain -/
theorem SA.andp {x y : Bool} (pa : SB X S (evE C a σ S) (.ok x)) (pb : SB X S (evE C b σ S) (.ok y)) : SB X S (evE C (.and a b) σ S) (.ok (x && y)) := (pa.and pb).eq (by cases x <;> rfl)
theorem SA.orp {x y : Bool} (pa : SB X S (evE C a σ S) (.ok x)) (pb : SB X S (evE C b σ S) (.ok y)) : SB X S (evE C (.or a b) σ S) (.ok (x || y)) := (pa.or pb).eq (by cases x <;> rfl)
theorem SA.not {x : R Bool} (pa : SB X S (evE C a σ S) x) : SB X S (evE C (.not a) σ S) (x.bind fun q => .ok (!q)) := by
  rw [eE_not]
  exact pa.bind1 (fun _ _ => rfl) fun q d h => by subst h; exact ⟨_, rfl, rfl⟩
theorem SA.ite {x : R Bool} {y z : R α} (pc : SB X S (evE C c σ S) x) (pa : SA X A S (evE C a σ S) y) (pb : SA X A S (evE C b σ S) z) : SA X A S (evE C (.ite c a b) σ S) (x.bind fun q => if q = true then y else z) := by
  rw [eE_ite]
  refine pc.bind1 (fun _ _ => rfl) fun q d h => ?_
  subst h
  rw [kIf_ok]
  split
  · exact pa
  · exact pb
/-- lists of expressions -/
def SE (X : Cm) {α : Type} (e : α → D) (S : Store) (r : Res (List D)) (t : R (List α)) : Prop := match t with
  | .ok xs => r = .ok (xs.map e) S
  | .exc c fs => X.ok c = true ∧ r = .exc (X.f c) fs S
  | .no => True
variable {es : Es}
theorem SE.nil {e : α → D} : SE X e S (evEs C .nil σ S) (.ok []) := by simp [SE]
theorem SE.cons {e : α → D} {x : R α} {y : R (List α)} (pa : SA X (EQ e) S (evE C a σ S) x) (pb : SE X e S (evEs C es σ S) y) : SE X e S (evEs C (.cons a es) σ S) (x.bind fun x => y.bind fun y => .ok (x :: y)) := by
  rw [eEs_cons]
  cases x with
  | ok x =>
    obtain ⟨d, h, rfl⟩ := pa
    rw [h, kCons1_ok]
    cases y with
    | ok y => rw [show evEs C es σ S = _ from pb]; rfl
    | exc c fs => exact ⟨pb.1, by rw [pb.2]; rfl⟩
    | no => trivial
  | exc c fs => exact ⟨pa.1, by rw [pa.2]; rfl⟩
  | no => trivial
theorem SA.tup {e : α → D} {x : R (List α)} (p : SE X e S (evEs C es σ S) x) : SA X (EQ (eT e)) S (evE C (.tup es) σ S) (x.bind fun x => lnR x) := by
  rw [eE_tup]
  cases x with
  | ok x =>
    rw [show evEs C es σ S = _ from p, kTup_ok]
    show SA X _ S _ (lnR x)
    rw [lnR_def]
    by_cases h : x.length ≤ 16777216
    · rw [if_pos h, if_pos (by simpa [LINE_eq] using h)]; exact ⟨_, rfl, rfl⟩
    · rw [if_neg h]; trivial
  | exc c fs => exact ⟨p.1, by rw [p.2]; rfl⟩
  | no => trivial
theorem SM.lst {e : α → D} {x : R (List α)} (p : SE X e S (evEs C es σ S) x) : SM X o e S (evE C (.lst o es) σ S) (x.bind fun x => lnR x) := by
  rw [eE_lst]
  cases x with
  | ok x => rw [show evEs C es σ S = _ from p, kLst_ok]; exact SM.mk rfl
  | exc c fs => exact ⟨p.1, by rw [p.2]; rfl⟩
  | no => trivial
theorem lnR_ok {xs : List α} (h : xs.length ≤ 1000000) : lnR xs = .ok xs := by rw [lnR_def]; rw [if_pos (by omega)]
/-- mixed ones: what is made of the values -/
theorem SE.c1 {f : Res (List D) → Res D} {e : α → D} {x : R α} {y : R γ} {e' : γ → D} (pa : SA X (EQ e) S (evE C a σ S) x) : True := trivial
end
end SL
namespace SL
section
variable {X : Cm} {α β γ δ ε : Type} {A : Rel α} {B : Rel β} {G : Rel γ} {S : Store} {r : Res D} {t t' : R α} {C : Cx} {σ : Slots} {a b c d : E} {o : Bool} {es : Es}
/-! mixed tuples -/

theorem SA.t2 {α1 : Type} {α2 : Type} {e1 : α1 → D} {t1 : R α1} {x1 : E} {e2 : α2 → D} {t2 : R α2} {x2 : E} (p1 : SA X (EQ e1) S (evE C x1 σ S) t1) (p2 : SA X (EQ e2) S (evE C x2 σ S) t2) : SA X (EQ (eP e1 e2)) S (evE C (.tup (.cons x1 (.cons x2 .nil))) σ S) (t1.bind fun y1 => t2.bind fun y2 => .ok (y1, y2)) := by
  rw [eE_tup]
  cases t1 with
  | exc c fs => exact ⟨p1.1, by simp only [eEs_cons, eEs_nil,  p1.2, kCons1_ok, kCons1_ex, kCons2_ok, kCons2_ex, kTup_ex]⟩
  | no => trivial
  | ok y1 =>
  obtain ⟨d1, h1, rfl⟩ := p1
  cases t2 with
  | exc c fs => exact ⟨p2.1, by simp only [eEs_cons, eEs_nil, h1,  p2.2, kCons1_ok, kCons1_ex, kCons2_ok, kCons2_ex, kTup_ex]⟩
  | no => trivial
  | ok y2 =>
  obtain ⟨d2, h2, rfl⟩ := p2
  exact ⟨_, by simp only [eEs_cons, eEs_nil, h1, h2, kCons1_ok, kCons2_ok, kTup_ok, List.length_cons, List.length_nil]; rfl, rfl⟩
theorem SA.i2_0 {α1 : Type} {α2 : Type} {e1 : α1 → D} {e2 : α2 → D} {x : R (α1 × α2)} (p : SA X (EQ (eP e1 e2)) S (evE C a σ S) x) : SA X (EQ e1) S (evE C (.ix a (.con (.int 0))) σ S) (x.bind fun x => .ok x.1) := by
  rw [eE_ix]
  refine p.bind1 (fun _ _ => rfl) fun x d h => ?_
  subst h
  exact ⟨_, by simp only [kIx1_ok, eE_con, kIx2_ok]; rfl, rfl⟩
theorem SA.i2_1 {α1 : Type} {α2 : Type} {e1 : α1 → D} {e2 : α2 → D} {x : R (α1 × α2)} (p : SA X (EQ (eP e1 e2)) S (evE C a σ S) x) : SA X (EQ e2) S (evE C (.ix a (.con (.int 1))) σ S) (x.bind fun x => .ok x.2) := by
  rw [eE_ix]
  refine p.bind1 (fun _ _ => rfl) fun x d h => ?_
  subst h
  exact ⟨_, by simp only [kIx1_ok, eE_con, kIx2_ok]; rfl, rfl⟩
theorem SA.t3 {α1 : Type} {α2 : Type} {α3 : Type} {e1 : α1 → D} {t1 : R α1} {x1 : E} {e2 : α2 → D} {t2 : R α2} {x2 : E} {e3 : α3 → D} {t3 : R α3} {x3 : E} (p1 : SA X (EQ e1) S (evE C x1 σ S) t1) (p2 : SA X (EQ e2) S (evE C x2 σ S) t2) (p3 : SA X (EQ e3) S (evE C x3 σ S) t3) : SA X (EQ (eP3 e1 e2 e3)) S (evE C (.tup (.cons x1 (.cons x2 (.cons x3 .nil)))) σ S) (t1.bind fun y1 => t2.bind fun y2 => t3.bind fun y3 => .ok (y1, y2, y3)) := by
  rw [eE_tup]
  cases t1 with
  | exc c fs => exact ⟨p1.1, by simp only [eEs_cons, eEs_nil,  p1.2, kCons1_ok, kCons1_ex, kCons2_ok, kCons2_ex, kTup_ex]⟩
  | no => trivial
  | ok y1 =>
  obtain ⟨d1, h1, rfl⟩ := p1
  cases t2 with
  | exc c fs => exact ⟨p2.1, by simp only [eEs_cons, eEs_nil, h1,  p2.2, kCons1_ok, kCons1_ex, kCons2_ok, kCons2_ex, kTup_ex]⟩
  | no => trivial
  | ok y2 =>
  obtain ⟨d2, h2, rfl⟩ := p2
  cases t3 with
  | exc c fs => exact ⟨p3.1, by simp only [eEs_cons, eEs_nil, h1, h2,  p3.2, kCons1_ok, kCons1_ex, kCons2_ok, kCons2_ex, kTup_ex]⟩
  | no => trivial
  | ok y3 =>
  obtain ⟨d3, h3, rfl⟩ := p3
  exact ⟨_, by simp only [eEs_cons, eEs_nil, h1, h2, h3, kCons1_ok, kCons2_ok, kTup_ok, List.length_cons, List.length_nil]; rfl, rfl⟩
theorem SA.i3_0 {α1 : Type} {α2 : Type} {α3 : Type} {e1 : α1 → D} {e2 : α2 → D} {e3 : α3 → D} {x : R (α1 × α2 × α3)} (p : SA X (EQ (eP3 e1 e2 e3)) S (evE C a σ S) x) : SA X (EQ e1) S (evE C (.ix a (.con (.int 0))) σ S) (x.bind fun x => .ok x.1) := by
  rw [eE_ix]
  refine p.bind1 (fun _ _ => rfl) fun x d h => ?_
  subst h
  exact ⟨_, by simp only [kIx1_ok, eE_con, kIx2_ok]; rfl, rfl⟩
theorem SA.i3_1 {α1 : Type} {α2 : Type} {α3 : Type} {e1 : α1 → D} {e2 : α2 → D} {e3 : α3 → D} {x : R (α1 × α2 × α3)} (p : SA X (EQ (eP3 e1 e2 e3)) S (evE C a σ S) x) : SA X (EQ e2) S (evE C (.ix a (.con (.int 1))) σ S) (x.bind fun x => .ok x.2.1) := by
  rw [eE_ix]
  refine p.bind1 (fun _ _ => rfl) fun x d h => ?_
  subst h
  exact ⟨_, by simp only [kIx1_ok, eE_con, kIx2_ok]; rfl, rfl⟩
theorem SA.i3_2 {α1 : Type} {α2 : Type} {α3 : Type} {e1 : α1 → D} {e2 : α2 → D} {e3 : α3 → D} {x : R (α1 × α2 × α3)} (p : SA X (EQ (eP3 e1 e2 e3)) S (evE C a σ S) x) : SA X (EQ e3) S (evE C (.ix a (.con (.int 2))) σ S) (x.bind fun x => .ok x.2.2) := by
  rw [eE_ix]
  refine p.bind1 (fun _ _ => rfl) fun x d h => ?_
  subst h
  exact ⟨_, by simp only [kIx1_ok, eE_con, kIx2_ok]; rfl, rfl⟩
theorem SA.t4 {α1 : Type} {α2 : Type} {α3 : Type} {α4 : Type} {e1 : α1 → D} {t1 : R α1} {x1 : E} {e2 : α2 → D} {t2 : R α2} {x2 : E} {e3 : α3 → D} {t3 : R α3} {x3 : E} {e4 : α4 → D} {t4 : R α4} {x4 : E} (p1 : SA X (EQ e1) S (evE C x1 σ S) t1) (p2 : SA X (EQ e2) S (evE C x2 σ S) t2) (p3 : SA X (EQ e3) S (evE C x3 σ S) t3) (p4 : SA X (EQ e4) S (evE C x4 σ S) t4) : SA X (EQ (eP4 e1 e2 e3 e4)) S (evE C (.tup (.cons x1 (.cons x2 (.cons x3 (.cons x4 .nil))))) σ S) (t1.bind fun y1 => t2.bind fun y2 => t3.bind fun y3 => t4.bind fun y4 => .ok (y1, y2, y3, y4)) := by
  rw [eE_tup]
  cases t1 with
  | exc c fs => exact ⟨p1.1, by simp only [eEs_cons, eEs_nil,  p1.2, kCons1_ok, kCons1_ex, kCons2_ok, kCons2_ex, kTup_ex]⟩
  | no => trivial
  | ok y1 =>
  obtain ⟨d1, h1, rfl⟩ := p1
  cases t2 with
  | exc c fs => exact ⟨p2.1, by simp only [eEs_cons, eEs_nil, h1,  p2.2, kCons1_ok, kCons1_ex, kCons2_ok, kCons2_ex, kTup_ex]⟩
  | no => trivial
  | ok y2 =>
  obtain ⟨d2, h2, rfl⟩ := p2
  cases t3 with
  | exc c fs => exact ⟨p3.1, by simp only [eEs_cons, eEs_nil, h1, h2,  p3.2, kCons1_ok, kCons1_ex, kCons2_ok, kCons2_ex, kTup_ex]⟩
  | no => trivial
  | ok y3 =>
  obtain ⟨d3, h3, rfl⟩ := p3
  cases t4 with
  | exc c fs => exact ⟨p4.1, by simp only [eEs_cons, eEs_nil, h1, h2, h3,  p4.2, kCons1_ok, kCons1_ex, kCons2_ok, kCons2_ex, kTup_ex]⟩
  | no => trivial
  | ok y4 =>
  obtain ⟨d4, h4, rfl⟩ := p4
  exact ⟨_, by simp only [eEs_cons, eEs_nil, h1, h2, h3, h4, kCons1_ok, kCons2_ok, kTup_ok, List.length_cons, List.length_nil]; rfl, rfl⟩
theorem SA.i4_0 {α1 : Type} {α2 : Type} {α3 : Type} {α4 : Type} {e1 : α1 → D} {e2 : α2 → D} {e3 : α3 → D} {e4 : α4 → D} {x : R (α1 × α2 × α3 × α4)} (p : SA X (EQ (eP4 e1 e2 e3 e4)) S (evE C a σ S) x) : SA X (EQ e1) S (evE C (.ix a (.con (.int 0))) σ S) (x.bind fun x => .ok x.1) := by
  rw [eE_ix]
  refine p.bind1 (fun _ _ => rfl) fun x d h => ?_
  subst h
  exact ⟨_, by simp only [kIx1_ok, eE_con, kIx2_ok]; rfl, rfl⟩
theorem SA.i4_1 {α1 : Type} {α2 : Type} {α3 : Type} {α4 : Type} {e1 : α1 → D} {e2 : α2 → D} {e3 : α3 → D} {e4 : α4 → D} {x : R (α1 × α2 × α3 × α4)} (p : SA X (EQ (eP4 e1 e2 e3 e4)) S (evE C a σ S) x) : SA X (EQ e2) S (evE C (.ix a (.con (.int 1))) σ S) (x.bind fun x => .ok x.2.1) := by
  rw [eE_ix]
  refine p.bind1 (fun _ _ => rfl) fun x d h => ?_
  subst h
  exact ⟨_, by simp only [kIx1_ok, eE_con, kIx2_ok]; rfl, rfl⟩
theorem SA.i4_2 {α1 : Type} {α2 : Type} {α3 : Type} {α4 : Type} {e1 : α1 → D} {e2 : α2 → D} {e3 : α3 → D} {e4 : α4 → D} {x : R (α1 × α2 × α3 × α4)} (p : SA X (EQ (eP4 e1 e2 e3 e4)) S (evE C a σ S) x) : SA X (EQ e3) S (evE C (.ix a (.con (.int 2))) σ S) (x.bind fun x => .ok x.2.2.1) := by
  rw [eE_ix]
  refine p.bind1 (fun _ _ => rfl) fun x d h => ?_
  subst h
  exact ⟨_, by simp only [kIx1_ok, eE_con, kIx2_ok]; rfl, rfl⟩
theorem SA.i4_3 {α1 : Type} {α2 : Type} {α3 : Type} {α4 : Type} {e1 : α1 → D} {e2 : α2 → D} {e3 : α3 → D} {e4 : α4 → D} {x : R (α1 × α2 × α3 × α4)} (p : SA X (EQ (eP4 e1 e2 e3 e4)) S (evE C a σ S) x) : SA X (EQ e4) S (evE C (.ix a (.con (.int 3))) σ S) (x.bind fun x => .ok x.2.2.2) := by
  rw [eE_ix]
  refine p.bind1 (fun _ _ => rfl) fun x d h => ?_
  subst h
  exact ⟨_, by simp only [kIx1_ok, eE_con, kIx2_ok]; rfl, rfl⟩
theorem SA.t5 {α1 : Type} {α2 : Type} {α3 : Type} {α4 : Type} {α5 : Type} {e1 : α1 → D} {t1 : R α1} {x1 : E} {e2 : α2 → D} {t2 : R α2} {x2 : E} {e3 : α3 → D} {t3 : R α3} {x3 : E} {e4 : α4 → D} {t4 : R α4} {x4 : E} {e5 : α5 → D} {t5 : R α5} {x5 : E} (p1 : SA X (EQ e1) S (evE C x1 σ S) t1) (p2 : SA X (EQ e2) S (evE C x2 σ S) t2) (p3 : SA X (EQ e3) S (evE C x3 σ S) t3) (p4 : SA X (EQ e4) S (evE C x4 σ S) t4) (p5 : SA X (EQ e5) S (evE C x5 σ S) t5) : SA X (EQ (eP5 e1 e2 e3 e4 e5)) S (evE C (.tup (.cons x1 (.cons x2 (.cons x3 (.cons x4 (.cons x5 .nil)))))) σ S) (t1.bind fun y1 => t2.bind fun y2 => t3.bind fun y3 => t4.bind fun y4 => t5.bind fun y5 => .ok (y1, y2, y3, y4, y5)) := by
  rw [eE_tup]
  cases t1 with
  | exc c fs => exact ⟨p1.1, by simp only [eEs_cons, eEs_nil,  p1.2, kCons1_ok, kCons1_ex, kCons2_ok, kCons2_ex, kTup_ex]⟩
  | no => trivial
  | ok y1 =>
  obtain ⟨d1, h1, rfl⟩ := p1
  cases t2 with
  | exc c fs => exact ⟨p2.1, by simp only [eEs_cons, eEs_nil, h1,  p2.2, kCons1_ok, kCons1_ex, kCons2_ok, kCons2_ex, kTup_ex]⟩
  | no => trivial
  | ok y2 =>
  obtain ⟨d2, h2, rfl⟩ := p2
  cases t3 with
  | exc c fs => exact ⟨p3.1, by simp only [eEs_cons, eEs_nil, h1, h2,  p3.2, kCons1_ok, kCons1_ex, kCons2_ok, kCons2_ex, kTup_ex]⟩
  | no => trivial
  | ok y3 =>
  obtain ⟨d3, h3, rfl⟩ := p3
  cases t4 with
  | exc c fs => exact ⟨p4.1, by simp only [eEs_cons, eEs_nil, h1, h2, h3,  p4.2, kCons1_ok, kCons1_ex, kCons2_ok, kCons2_ex, kTup_ex]⟩
  | no => trivial
  | ok y4 =>
  obtain ⟨d4, h4, rfl⟩ := p4
  cases t5 with
  | exc c fs => exact ⟨p5.1, by simp only [eEs_cons, eEs_nil, h1, h2, h3, h4,  p5.2, kCons1_ok, kCons1_ex, kCons2_ok, kCons2_ex, kTup_ex]⟩
  | no => trivial
  | ok y5 =>
  obtain ⟨d5, h5, rfl⟩ := p5
  exact ⟨_, by simp only [eEs_cons, eEs_nil, h1, h2, h3, h4, h5, kCons1_ok, kCons2_ok, kTup_ok, List.length_cons, List.length_nil]; rfl, rfl⟩
theorem SA.i5_0 {α1 : Type} {α2 : Type} {α3 : Type} {α4 : Type} {α5 : Type} {e1 : α1 → D} {e2 : α2 → D} {e3 : α3 → D} {e4 : α4 → D} {e5 : α5 → D} {x : R (α1 × α2 × α3 × α4 × α5)} (p : SA X (EQ (eP5 e1 e2 e3 e4 e5)) S (evE C a σ S) x) : SA X (EQ e1) S (evE C (.ix a (.con (.int 0))) σ S) (x.bind fun x => .ok x.1) := by
  rw [eE_ix]
  refine p.bind1 (fun _ _ => rfl) fun x d h => ?_
  subst h
  exact ⟨_, by simp only [kIx1_ok, eE_con, kIx2_ok]; rfl, rfl⟩
theorem SA.i5_1 {α1 : Type} {α2 : Type} {α3 : Type} {α4 : Type} {α5 : Type} {e1 : α1 → D} {e2 : α2 → D} {e3 : α3 → D} {e4 : α4 → D} {e5 : α5 → D} {x : R (α1 × α2 × α3 × α4 × α5)} (p : SA X (EQ (eP5 e1 e2 e3 e4 e5)) S (evE C a σ S) x) : SA X (EQ e2) S (evE C (.ix a (.con (.int 1))) σ S) (x.bind fun x => .ok x.2.1) := by
  rw [eE_ix]
  refine p.bind1 (fun _ _ => rfl) fun x d h => ?_
  subst h
  exact ⟨_, by simp only [kIx1_ok, eE_con, kIx2_ok]; rfl, rfl⟩
theorem SA.i5_2 {α1 : Type} {α2 : Type} {α3 : Type} {α4 : Type} {α5 : Type} {e1 : α1 → D} {e2 : α2 → D} {e3 : α3 → D} {e4 : α4 → D} {e5 : α5 → D} {x : R (α1 × α2 × α3 × α4 × α5)} (p : SA X (EQ (eP5 e1 e2 e3 e4 e5)) S (evE C a σ S) x) : SA X (EQ e3) S (evE C (.ix a (.con (.int 2))) σ S) (x.bind fun x => .ok x.2.2.1) := by
  rw [eE_ix]
  refine p.bind1 (fun _ _ => rfl) fun x d h => ?_
  subst h
  exact ⟨_, by simp only [kIx1_ok, eE_con, kIx2_ok]; rfl, rfl⟩
theorem SA.i5_3 {α1 : Type} {α2 : Type} {α3 : Type} {α4 : Type} {α5 : Type} {e1 : α1 → D} {e2 : α2 → D} {e3 : α3 → D} {e4 : α4 → D} {e5 : α5 → D} {x : R (α1 × α2 × α3 × α4 × α5)} (p : SA X (EQ (eP5 e1 e2 e3 e4 e5)) S (evE C a σ S) x) : SA X (EQ e4) S (evE C (.ix a (.con (.int 3))) σ S) (x.bind fun x => .ok x.2.2.2.1) := by
  rw [eE_ix]
  refine p.bind1 (fun _ _ => rfl) fun x d h => ?_
  subst h
  exact ⟨_, by simp only [kIx1_ok, eE_con, kIx2_ok]; rfl, rfl⟩
theorem SA.i5_4 {α1 : Type} {α2 : Type} {α3 : Type} {α4 : Type} {α5 : Type} {e1 : α1 → D} {e2 : α2 → D} {e3 : α3 → D} {e4 : α4 → D} {e5 : α5 → D} {x : R (α1 × α2 × α3 × α4 × α5)} (p : SA X (EQ (eP5 e1 e2 e3 e4 e5)) S (evE C a σ S) x) : SA X (EQ e5) S (evE C (.ix a (.con (.int 4))) σ S) (x.bind fun x => .ok x.2.2.2.2) := by
  rw [eE_ix]
  refine p.bind1 (fun _ _ => rfl) fun x d h => ?_
  subst h
  exact ⟨_, by simp only [kIx1_ok, eE_con, kIx2_ok]; rfl, rfl⟩
theorem SA.call0   {P : Prog} {n f : Nat} {g : R γ}  (h : SA X G S (evCall P n f [] S) g) : SA X G S (evE (mkC P n) (.call f .nil) σ S) (g) := by
  rw [eE_call]
  have := h
  simpa only [eEs_cons, eEs_nil,  kCons1_ok, kCons2_ok, kCall_ok, R.bind_ok] using this
theorem SA.call1 {α1 : Type} {A1 : Rel α1} {t1 : R α1} {x1 : E} {P : Prog} {n f : Nat} {g : α1 → R γ} (p1 : SA X A1 S (evE (mkC P n) x1 σ S) t1) (h : ∀ y1 d1, A1 S d1 y1 → SA X G S (evCall P n f [d1] S) (g y1)) : SA X G S (evE (mkC P n) (.call f (.cons x1 .nil)) σ S) (t1.bind fun y1 => g y1) := by
  rw [eE_call]
  cases t1 with
  | exc c fs => exact ⟨p1.1, by simp only [eEs_cons, eEs_nil,  p1.2, kCons1_ok, kCons1_ex, kCons2_ok, kCons2_ex, kCall_ex]⟩
  | no => trivial
  | ok y1 =>
  obtain ⟨d1, h1, q1⟩ := p1
  have := h _ _ q1
  simpa only [eEs_cons, eEs_nil, h1,  kCons1_ok, kCons2_ok, kCall_ok, R.bind_ok] using this
theorem SA.call2 {α1 : Type} {α2 : Type} {A1 : Rel α1} {t1 : R α1} {x1 : E} {A2 : Rel α2} {t2 : R α2} {x2 : E} {P : Prog} {n f : Nat} {g : α1 → α2 → R γ} (p1 : SA X A1 S (evE (mkC P n) x1 σ S) t1) (p2 : SA X A2 S (evE (mkC P n) x2 σ S) t2) (h : ∀ y1 y2 d1 d2, A1 S d1 y1 → A2 S d2 y2 → SA X G S (evCall P n f [d1, d2] S) (g y1 y2)) : SA X G S (evE (mkC P n) (.call f (.cons x1 (.cons x2 .nil))) σ S) (t1.bind fun y1 => t2.bind fun y2 => g y1 y2) := by
  rw [eE_call]
  cases t1 with
  | exc c fs => exact ⟨p1.1, by simp only [eEs_cons, eEs_nil,  p1.2, kCons1_ok, kCons1_ex, kCons2_ok, kCons2_ex, kCall_ex]⟩
  | no => trivial
  | ok y1 =>
  obtain ⟨d1, h1, q1⟩ := p1
  cases t2 with
  | exc c fs => exact ⟨p2.1, by simp only [eEs_cons, eEs_nil, h1,  p2.2, kCons1_ok, kCons1_ex, kCons2_ok, kCons2_ex, kCall_ex]⟩
  | no => trivial
  | ok y2 =>
  obtain ⟨d2, h2, q2⟩ := p2
  have := h _ _ _ _ q1 q2
  simpa only [eEs_cons, eEs_nil, h1, h2,  kCons1_ok, kCons2_ok, kCall_ok, R.bind_ok] using this
theorem SA.call3 {α1 : Type} {α2 : Type} {α3 : Type} {A1 : Rel α1} {t1 : R α1} {x1 : E} {A2 : Rel α2} {t2 : R α2} {x2 : E} {A3 : Rel α3} {t3 : R α3} {x3 : E} {P : Prog} {n f : Nat} {g : α1 → α2 → α3 → R γ} (p1 : SA X A1 S (evE (mkC P n) x1 σ S) t1) (p2 : SA X A2 S (evE (mkC P n) x2 σ S) t2) (p3 : SA X A3 S (evE (mkC P n) x3 σ S) t3) (h : ∀ y1 y2 y3 d1 d2 d3, A1 S d1 y1 → A2 S d2 y2 → A3 S d3 y3 → SA X G S (evCall P n f [d1, d2, d3] S) (g y1 y2 y3)) : SA X G S (evE (mkC P n) (.call f (.cons x1 (.cons x2 (.cons x3 .nil)))) σ S) (t1.bind fun y1 => t2.bind fun y2 => t3.bind fun y3 => g y1 y2 y3) := by
  rw [eE_call]
  cases t1 with
  | exc c fs => exact ⟨p1.1, by simp only [eEs_cons, eEs_nil,  p1.2, kCons1_ok, kCons1_ex, kCons2_ok, kCons2_ex, kCall_ex]⟩
  | no => trivial
  | ok y1 =>
  obtain ⟨d1, h1, q1⟩ := p1
  cases t2 with
  | exc c fs => exact ⟨p2.1, by simp only [eEs_cons, eEs_nil, h1,  p2.2, kCons1_ok, kCons1_ex, kCons2_ok, kCons2_ex, kCall_ex]⟩
  | no => trivial
  | ok y2 =>
  obtain ⟨d2, h2, q2⟩ := p2
  cases t3 with
  | exc c fs => exact ⟨p3.1, by simp only [eEs_cons, eEs_nil, h1, h2,  p3.2, kCons1_ok, kCons1_ex, kCons2_ok, kCons2_ex, kCall_ex]⟩
  | no => trivial
  | ok y3 =>
  obtain ⟨d3, h3, q3⟩ := p3
  have := h _ _ _ _ _ _ q1 q2 q3
  simpa only [eEs_cons, eEs_nil, h1, h2, h3,  kCons1_ok, kCons2_ok, kCall_ok, R.bind_ok] using this
theorem SA.call4 {α1 : Type} {α2 : Type} {α3 : Type} {α4 : Type} {A1 : Rel α1} {t1 : R α1} {x1 : E} {A2 : Rel α2} {t2 : R α2} {x2 : E} {A3 : Rel α3} {t3 : R α3} {x3 : E} {A4 : Rel α4} {t4 : R α4} {x4 : E} {P : Prog} {n f : Nat} {g : α1 → α2 → α3 → α4 → R γ} (p1 : SA X A1 S (evE (mkC P n) x1 σ S) t1) (p2 : SA X A2 S (evE (mkC P n) x2 σ S) t2) (p3 : SA X A3 S (evE (mkC P n) x3 σ S) t3) (p4 : SA X A4 S (evE (mkC P n) x4 σ S) t4) (h : ∀ y1 y2 y3 y4 d1 d2 d3 d4, A1 S d1 y1 → A2 S d2 y2 → A3 S d3 y3 → A4 S d4 y4 → SA X G S (evCall P n f [d1, d2, d3, d4] S) (g y1 y2 y3 y4)) : SA X G S (evE (mkC P n) (.call f (.cons x1 (.cons x2 (.cons x3 (.cons x4 .nil))))) σ S) (t1.bind fun y1 => t2.bind fun y2 => t3.bind fun y3 => t4.bind fun y4 => g y1 y2 y3 y4) := by
  rw [eE_call]
  cases t1 with
  | exc c fs => exact ⟨p1.1, by simp only [eEs_cons, eEs_nil,  p1.2, kCons1_ok, kCons1_ex, kCons2_ok, kCons2_ex, kCall_ex]⟩
  | no => trivial
  | ok y1 =>
  obtain ⟨d1, h1, q1⟩ := p1
  cases t2 with
  | exc c fs => exact ⟨p2.1, by simp only [eEs_cons, eEs_nil, h1,  p2.2, kCons1_ok, kCons1_ex, kCons2_ok, kCons2_ex, kCall_ex]⟩
  | no => trivial
  | ok y2 =>
  obtain ⟨d2, h2, q2⟩ := p2
  cases t3 with
  | exc c fs => exact ⟨p3.1, by simp only [eEs_cons, eEs_nil, h1, h2,  p3.2, kCons1_ok, kCons1_ex, kCons2_ok, kCons2_ex, kCall_ex]⟩
  | no => trivial
  | ok y3 =>
  obtain ⟨d3, h3, q3⟩ := p3
  cases t4 with
  | exc c fs => exact ⟨p4.1, by simp only [eEs_cons, eEs_nil, h1, h2, h3,  p4.2, kCons1_ok, kCons1_ex, kCons2_ok, kCons2_ex, kCall_ex]⟩
  | no => trivial
  | ok y4 =>
  obtain ⟨d4, h4, q4⟩ := p4
  have := h _ _ _ _ _ _ _ _ q1 q2 q3 q4
  simpa only [eEs_cons, eEs_nil, h1, h2, h3, h4,  kCons1_ok, kCons2_ok, kCall_ok, R.bind_ok] using this
theorem SA.call5 {α1 : Type} {α2 : Type} {α3 : Type} {α4 : Type} {α5 : Type} {A1 : Rel α1} {t1 : R α1} {x1 : E} {A2 : Rel α2} {t2 : R α2} {x2 : E} {A3 : Rel α3} {t3 : R α3} {x3 : E} {A4 : Rel α4} {t4 : R α4} {x4 : E} {A5 : Rel α5} {t5 : R α5} {x5 : E} {P : Prog} {n f : Nat} {g : α1 → α2 → α3 → α4 → α5 → R γ} (p1 : SA X A1 S (evE (mkC P n) x1 σ S) t1) (p2 : SA X A2 S (evE (mkC P n) x2 σ S) t2) (p3 : SA X A3 S (evE (mkC P n) x3 σ S) t3) (p4 : SA X A4 S (evE (mkC P n) x4 σ S) t4) (p5 : SA X A5 S (evE (mkC P n) x5 σ S) t5) (h : ∀ y1 y2 y3 y4 y5 d1 d2 d3 d4 d5, A1 S d1 y1 → A2 S d2 y2 → A3 S d3 y3 → A4 S d4 y4 → A5 S d5 y5 → SA X G S (evCall P n f [d1, d2, d3, d4, d5] S) (g y1 y2 y3 y4 y5)) : SA X G S (evE (mkC P n) (.call f (.cons x1 (.cons x2 (.cons x3 (.cons x4 (.cons x5 .nil)))))) σ S) (t1.bind fun y1 => t2.bind fun y2 => t3.bind fun y3 => t4.bind fun y4 => t5.bind fun y5 => g y1 y2 y3 y4 y5) := by
  rw [eE_call]
  cases t1 with
  | exc c fs => exact ⟨p1.1, by simp only [eEs_cons, eEs_nil,  p1.2, kCons1_ok, kCons1_ex, kCons2_ok, kCons2_ex, kCall_ex]⟩
  | no => trivial
  | ok y1 =>
  obtain ⟨d1, h1, q1⟩ := p1
  cases t2 with
  | exc c fs => exact ⟨p2.1, by simp only [eEs_cons, eEs_nil, h1,  p2.2, kCons1_ok, kCons1_ex, kCons2_ok, kCons2_ex, kCall_ex]⟩
  | no => trivial
  | ok y2 =>
  obtain ⟨d2, h2, q2⟩ := p2
  cases t3 with
  | exc c fs => exact ⟨p3.1, by simp only [eEs_cons, eEs_nil, h1, h2,  p3.2, kCons1_ok, kCons1_ex, kCons2_ok, kCons2_ex, kCall_ex]⟩
  | no => trivial
  | ok y3 =>
  obtain ⟨d3, h3, q3⟩ := p3
  cases t4 with
  | exc c fs => exact ⟨p4.1, by simp only [eEs_cons, eEs_nil, h1, h2, h3,  p4.2, kCons1_ok, kCons1_ex, kCons2_ok, kCons2_ex, kCall_ex]⟩
  | no => trivial
  | ok y4 =>
  obtain ⟨d4, h4, q4⟩ := p4
  cases t5 with
  | exc c fs => exact ⟨p5.1, by simp only [eEs_cons, eEs_nil, h1, h2, h3, h4,  p5.2, kCons1_ok, kCons1_ex, kCons2_ok, kCons2_ex, kCall_ex]⟩
  | no => trivial
  | ok y5 =>
  obtain ⟨d5, h5, q5⟩ := p5
  have := h _ _ _ _ _ _ _ _ _ _ q1 q2 q3 q4 q5
  simpa only [eEs_cons, eEs_nil, h1, h2, h3, h4, h5,  kCons1_ok, kCons2_ok, kCall_ok, R.bind_ok] using this
theorem SA.call6 {α1 : Type} {α2 : Type} {α3 : Type} {α4 : Type} {α5 : Type} {α6 : Type} {A1 : Rel α1} {t1 : R α1} {x1 : E} {A2 : Rel α2} {t2 : R α2} {x2 : E} {A3 : Rel α3} {t3 : R α3} {x3 : E} {A4 : Rel α4} {t4 : R α4} {x4 : E} {A5 : Rel α5} {t5 : R α5} {x5 : E} {A6 : Rel α6} {t6 : R α6} {x6 : E} {P : Prog} {n f : Nat} {g : α1 → α2 → α3 → α4 → α5 → α6 → R γ} (p1 : SA X A1 S (evE (mkC P n) x1 σ S) t1) (p2 : SA X A2 S (evE (mkC P n) x2 σ S) t2) (p3 : SA X A3 S (evE (mkC P n) x3 σ S) t3) (p4 : SA X A4 S (evE (mkC P n) x4 σ S) t4) (p5 : SA X A5 S (evE (mkC P n) x5 σ S) t5) (p6 : SA X A6 S (evE (mkC P n) x6 σ S) t6) (h : ∀ y1 y2 y3 y4 y5 y6 d1 d2 d3 d4 d5 d6, A1 S d1 y1 → A2 S d2 y2 → A3 S d3 y3 → A4 S d4 y4 → A5 S d5 y5 → A6 S d6 y6 → SA X G S (evCall P n f [d1, d2, d3, d4, d5, d6] S) (g y1 y2 y3 y4 y5 y6)) : SA X G S (evE (mkC P n) (.call f (.cons x1 (.cons x2 (.cons x3 (.cons x4 (.cons x5 (.cons x6 .nil))))))) σ S) (t1.bind fun y1 => t2.bind fun y2 => t3.bind fun y3 => t4.bind fun y4 => t5.bind fun y5 => t6.bind fun y6 => g y1 y2 y3 y4 y5 y6) := by
  rw [eE_call]
  cases t1 with
  | exc c fs => exact ⟨p1.1, by simp only [eEs_cons, eEs_nil,  p1.2, kCons1_ok, kCons1_ex, kCons2_ok, kCons2_ex, kCall_ex]⟩
  | no => trivial
  | ok y1 =>
  obtain ⟨d1, h1, q1⟩ := p1
  cases t2 with
  | exc c fs => exact ⟨p2.1, by simp only [eEs_cons, eEs_nil, h1,  p2.2, kCons1_ok, kCons1_ex, kCons2_ok, kCons2_ex, kCall_ex]⟩
  | no => trivial
  | ok y2 =>
  obtain ⟨d2, h2, q2⟩ := p2
  cases t3 with
  | exc c fs => exact ⟨p3.1, by simp only [eEs_cons, eEs_nil, h1, h2,  p3.2, kCons1_ok, kCons1_ex, kCons2_ok, kCons2_ex, kCall_ex]⟩
  | no => trivial
  | ok y3 =>
  obtain ⟨d3, h3, q3⟩ := p3
  cases t4 with
  | exc c fs => exact ⟨p4.1, by simp only [eEs_cons, eEs_nil, h1, h2, h3,  p4.2, kCons1_ok, kCons1_ex, kCons2_ok, kCons2_ex, kCall_ex]⟩
  | no => trivial
  | ok y4 =>
  obtain ⟨d4, h4, q4⟩ := p4
  cases t5 with
  | exc c fs => exact ⟨p5.1, by simp only [eEs_cons, eEs_nil, h1, h2, h3, h4,  p5.2, kCons1_ok, kCons1_ex, kCons2_ok, kCons2_ex, kCall_ex]⟩
  | no => trivial
  | ok y5 =>
  obtain ⟨d5, h5, q5⟩ := p5
  cases t6 with
  | exc c fs => exact ⟨p6.1, by simp only [eEs_cons, eEs_nil, h1, h2, h3, h4, h5,  p6.2, kCons1_ok, kCons1_ex, kCons2_ok, kCons2_ex, kCall_ex]⟩
  | no => trivial
  | ok y6 =>
  obtain ⟨d6, h6, q6⟩ := p6
  have := h _ _ _ _ _ _ _ _ _ _ _ _ q1 q2 q3 q4 q5 q6
  simpa only [eEs_cons, eEs_nil, h1, h2, h3, h4, h5, h6,  kCons1_ok, kCons2_ok, kCall_ok, R.bind_ok] using this
theorem SA.call7 {α1 : Type} {α2 : Type} {α3 : Type} {α4 : Type} {α5 : Type} {α6 : Type} {α7 : Type} {A1 : Rel α1} {t1 : R α1} {x1 : E} {A2 : Rel α2} {t2 : R α2} {x2 : E} {A3 : Rel α3} {t3 : R α3} {x3 : E} {A4 : Rel α4} {t4 : R α4} {x4 : E} {A5 : Rel α5} {t5 : R α5} {x5 : E} {A6 : Rel α6} {t6 : R α6} {x6 : E} {A7 : Rel α7} {t7 : R α7} {x7 : E} {P : Prog} {n f : Nat} {g : α1 → α2 → α3 → α4 → α5 → α6 → α7 → R γ} (p1 : SA X A1 S (evE (mkC P n) x1 σ S) t1) (p2 : SA X A2 S (evE (mkC P n) x2 σ S) t2) (p3 : SA X A3 S (evE (mkC P n) x3 σ S) t3) (p4 : SA X A4 S (evE (mkC P n) x4 σ S) t4) (p5 : SA X A5 S (evE (mkC P n) x5 σ S) t5) (p6 : SA X A6 S (evE (mkC P n) x6 σ S) t6) (p7 : SA X A7 S (evE (mkC P n) x7 σ S) t7) (h : ∀ y1 y2 y3 y4 y5 y6 y7 d1 d2 d3 d4 d5 d6 d7, A1 S d1 y1 → A2 S d2 y2 → A3 S d3 y3 → A4 S d4 y4 → A5 S d5 y5 → A6 S d6 y6 → A7 S d7 y7 → SA X G S (evCall P n f [d1, d2, d3, d4, d5, d6, d7] S) (g y1 y2 y3 y4 y5 y6 y7)) : SA X G S (evE (mkC P n) (.call f (.cons x1 (.cons x2 (.cons x3 (.cons x4 (.cons x5 (.cons x6 (.cons x7 .nil)))))))) σ S) (t1.bind fun y1 => t2.bind fun y2 => t3.bind fun y3 => t4.bind fun y4 => t5.bind fun y5 => t6.bind fun y6 => t7.bind fun y7 => g y1 y2 y3 y4 y5 y6 y7) := by
  rw [eE_call]
  cases t1 with
  | exc c fs => exact ⟨p1.1, by simp only [eEs_cons, eEs_nil,  p1.2, kCons1_ok, kCons1_ex, kCons2_ok, kCons2_ex, kCall_ex]⟩
  | no => trivial
  | ok y1 =>
  obtain ⟨d1, h1, q1⟩ := p1
  cases t2 with
  | exc c fs => exact ⟨p2.1, by simp only [eEs_cons, eEs_nil, h1,  p2.2, kCons1_ok, kCons1_ex, kCons2_ok, kCons2_ex, kCall_ex]⟩
  | no => trivial
  | ok y2 =>
  obtain ⟨d2, h2, q2⟩ := p2
  cases t3 with
  | exc c fs => exact ⟨p3.1, by simp only [eEs_cons, eEs_nil, h1, h2,  p3.2, kCons1_ok, kCons1_ex, kCons2_ok, kCons2_ex, kCall_ex]⟩
  | no => trivial
  | ok y3 =>
  obtain ⟨d3, h3, q3⟩ := p3
  cases t4 with
  | exc c fs => exact ⟨p4.1, by simp only [eEs_cons, eEs_nil, h1, h2, h3,  p4.2, kCons1_ok, kCons1_ex, kCons2_ok, kCons2_ex, kCall_ex]⟩
  | no => trivial
  | ok y4 =>
  obtain ⟨d4, h4, q4⟩ := p4
  cases t5 with
  | exc c fs => exact ⟨p5.1, by simp only [eEs_cons, eEs_nil, h1, h2, h3, h4,  p5.2, kCons1_ok, kCons1_ex, kCons2_ok, kCons2_ex, kCall_ex]⟩
  | no => trivial
  | ok y5 =>
  obtain ⟨d5, h5, q5⟩ := p5
  cases t6 with
  | exc c fs => exact ⟨p6.1, by simp only [eEs_cons, eEs_nil, h1, h2, h3, h4, h5,  p6.2, kCons1_ok, kCons1_ex, kCons2_ok, kCons2_ex, kCall_ex]⟩
  | no => trivial
  | ok y6 =>
  obtain ⟨d6, h6, q6⟩ := p6
  cases t7 with
  | exc c fs => exact ⟨p7.1, by simp only [eEs_cons, eEs_nil, h1, h2, h3, h4, h5, h6,  p7.2, kCons1_ok, kCons1_ex, kCons2_ok, kCons2_ex, kCall_ex]⟩
  | no => trivial
  | ok y7 =>
  obtain ⟨d7, h7, q7⟩ := p7
  have := h _ _ _ _ _ _ _ _ _ _ _ _ _ _ q1 q2 q3 q4 q5 q6 q7
  simpa only [eEs_cons, eEs_nil, h1, h2, h3, h4, h5, h6, h7,  kCons1_ok, kCons2_ok, kCall_ok, R.bind_ok] using this
theorem SA.call8 {α1 : Type} {α2 : Type} {α3 : Type} {α4 : Type} {α5 : Type} {α6 : Type} {α7 : Type} {α8 : Type} {A1 : Rel α1} {t1 : R α1} {x1 : E} {A2 : Rel α2} {t2 : R α2} {x2 : E} {A3 : Rel α3} {t3 : R α3} {x3 : E} {A4 : Rel α4} {t4 : R α4} {x4 : E} {A5 : Rel α5} {t5 : R α5} {x5 : E} {A6 : Rel α6} {t6 : R α6} {x6 : E} {A7 : Rel α7} {t7 : R α7} {x7 : E} {A8 : Rel α8} {t8 : R α8} {x8 : E} {P : Prog} {n f : Nat} {g : α1 → α2 → α3 → α4 → α5 → α6 → α7 → α8 → R γ} (p1 : SA X A1 S (evE (mkC P n) x1 σ S) t1) (p2 : SA X A2 S (evE (mkC P n) x2 σ S) t2) (p3 : SA X A3 S (evE (mkC P n) x3 σ S) t3) (p4 : SA X A4 S (evE (mkC P n) x4 σ S) t4) (p5 : SA X A5 S (evE (mkC P n) x5 σ S) t5) (p6 : SA X A6 S (evE (mkC P n) x6 σ S) t6) (p7 : SA X A7 S (evE (mkC P n) x7 σ S) t7) (p8 : SA X A8 S (evE (mkC P n) x8 σ S) t8) (h : ∀ y1 y2 y3 y4 y5 y6 y7 y8 d1 d2 d3 d4 d5 d6 d7 d8, A1 S d1 y1 → A2 S d2 y2 → A3 S d3 y3 → A4 S d4 y4 → A5 S d5 y5 → A6 S d6 y6 → A7 S d7 y7 → A8 S d8 y8 → SA X G S (evCall P n f [d1, d2, d3, d4, d5, d6, d7, d8] S) (g y1 y2 y3 y4 y5 y6 y7 y8)) : SA X G S (evE (mkC P n) (.call f (.cons x1 (.cons x2 (.cons x3 (.cons x4 (.cons x5 (.cons x6 (.cons x7 (.cons x8 .nil))))))))) σ S) (t1.bind fun y1 => t2.bind fun y2 => t3.bind fun y3 => t4.bind fun y4 => t5.bind fun y5 => t6.bind fun y6 => t7.bind fun y7 => t8.bind fun y8 => g y1 y2 y3 y4 y5 y6 y7 y8) := by
  rw [eE_call]
  cases t1 with
  | exc c fs => exact ⟨p1.1, by simp only [eEs_cons, eEs_nil,  p1.2, kCons1_ok, kCons1_ex, kCons2_ok, kCons2_ex, kCall_ex]⟩
  | no => trivial
  | ok y1 =>
  obtain ⟨d1, h1, q1⟩ := p1
  cases t2 with
  | exc c fs => exact ⟨p2.1, by simp only [eEs_cons, eEs_nil, h1,  p2.2, kCons1_ok, kCons1_ex, kCons2_ok, kCons2_ex, kCall_ex]⟩
  | no => trivial
  | ok y2 =>
  obtain ⟨d2, h2, q2⟩ := p2
  cases t3 with
  | exc c fs => exact ⟨p3.1, by simp only [eEs_cons, eEs_nil, h1, h2,  p3.2, kCons1_ok, kCons1_ex, kCons2_ok, kCons2_ex, kCall_ex]⟩
  | no => trivial
  | ok y3 =>
  obtain ⟨d3, h3, q3⟩ := p3
  cases t4 with
  | exc c fs => exact ⟨p4.1, by simp only [eEs_cons, eEs_nil, h1, h2, h3,  p4.2, kCons1_ok, kCons1_ex, kCons2_ok, kCons2_ex, kCall_ex]⟩
  | no => trivial
  | ok y4 =>
  obtain ⟨d4, h4, q4⟩ := p4
  cases t5 with
  | exc c fs => exact ⟨p5.1, by simp only [eEs_cons, eEs_nil, h1, h2, h3, h4,  p5.2, kCons1_ok, kCons1_ex, kCons2_ok, kCons2_ex, kCall_ex]⟩
  | no => trivial
  | ok y5 =>
  obtain ⟨d5, h5, q5⟩ := p5
  cases t6 with
  | exc c fs => exact ⟨p6.1, by simp only [eEs_cons, eEs_nil, h1, h2, h3, h4, h5,  p6.2, kCons1_ok, kCons1_ex, kCons2_ok, kCons2_ex, kCall_ex]⟩
  | no => trivial
  | ok y6 =>
  obtain ⟨d6, h6, q6⟩ := p6
  cases t7 with
  | exc c fs => exact ⟨p7.1, by simp only [eEs_cons, eEs_nil, h1, h2, h3, h4, h5, h6,  p7.2, kCons1_ok, kCons1_ex, kCons2_ok, kCons2_ex, kCall_ex]⟩
  | no => trivial
  | ok y7 =>
  obtain ⟨d7, h7, q7⟩ := p7
  cases t8 with
  | exc c fs => exact ⟨p8.1, by simp only [eEs_cons, eEs_nil, h1, h2, h3, h4, h5, h6, h7,  p8.2, kCons1_ok, kCons1_ex, kCons2_ok, kCons2_ex, kCall_ex]⟩
  | no => trivial
  | ok y8 =>
  obtain ⟨d8, h8, q8⟩ := p8
  have := h _ _ _ _ _ _ _ _ _ _ _ _ _ _ _ _ q1 q2 q3 q4 q5 q6 q7 q8
  simpa only [eEs_cons, eEs_nil, h1, h2, h3, h4, h5, h6, h7, h8,  kCons1_ok, kCons2_ok, kCall_ok, R.bind_ok] using this

/-! index, slices -/
theorem SA.ix {e : α → D} {x : R (List α)} {i : R Int} (p : SA X (QS e) S (evE C a σ S) x) (q : SI X S (evE C b σ S) i) : SA X (EQ e) S (evE C (.ix a b) σ S) (x.bind fun x => i.bind fun i => ixR x i) := by
  rw [eE_ix]
  refine p.bind1 (fun _ _ => rfl) fun x d hx => ?_
  rw [kIx1_ok]
  refine q.bind1 (fun _ _ => rfl) fun i u hi => ?_
  subst hi
  rw [kIx2_ok]
  have hx : seqOf S d = some (x.map e) := hx
  have z : doIx d (.int i) S = okO S ((ixN (x.map e).length i).bind fun j => (x.map e)[j]?) := by
    cases d with
    | str y => simp [seqOf, items] at hx
    | _ => simp only [doIx, hx]
  rw [z]
  rw [ixR_def]
  rw [List.length_map]
  cases h : ixN x.length i with
  | none => simp [SA]
  | some j =>
    simp only [Option.bind_some, List.getElem?_map]
    cases h2 : x[j]? with
    | none => simp [SA]
    | some y => exact ⟨_, rfl, rfl⟩
theorem cutL_map' {e : α → D} (x : List α) (lo hi : Option Int) : cutL (x.map e) lo hi = (cutL x lo hi).map e := by
  simp [cutL, List.map_drop, List.map_take]
def SO (X : Cm) (S : Store) (r : Res (Option Int)) (t : R (Option Int)) : Prop := match t with
  | .ok a => r = .ok a S
  | .exc c fs => X.ok c = true ∧ r = .exc (X.f c) fs S
  | .no => True
theorem SO.none : SO X S (evEO C .none σ S) (.ok Option.none) := by simp [SO]
theorem SO.some {i : R Int} (p : SI X S (evE C a σ S) i) : SO X S (evEO C (.some a) σ S) (i.bind fun i => .ok (Option.some i)) := by
  rw [eEO_some]
  cases i with
  | ok i => obtain ⟨d, h, rfl⟩ := p; rw [h]; rfl
  | exc c fs => exact ⟨p.1, by rw [p.2]; rfl⟩
  | no => trivial
theorem SA.sl' {lo hi : EO} {x : R α} {l h : R (Option Int)} {f : α → Option Int → Option Int → R β} (p : SA X A S (evE C a σ S) x) (pl : SO X S (evEO C lo σ S) l) (ph : SO X S (evEO C hi σ S) h)
    (k : ∀ x d i j, A S d x → SA X B S (doSl o d i j S) (f x i j)) : SA X B S (evE C (.sl o a lo hi) σ S) (x.bind fun x => l.bind fun i => h.bind fun j => f x i j) := by
  rw [eE_sl]
  refine p.bind1 (fun _ _ => rfl) fun x d hx => ?_
  rw [kSl1_ok]
  cases l with
  | ok i =>
    rw [show evEO C lo σ S = _ from pl, kSl2_ok]
    cases h with
    | ok j => rw [show evEO C hi σ S = _ from ph, kSl3_ok]; exact k x d i j hx
    | exc c fs => exact ⟨ph.1, by rw [ph.2]; rfl⟩
    | no => trivial
  | exc c fs => exact ⟨pl.1, by rw [pl.2]; rfl⟩
  | no => trivial
theorem SA.slT {e : α → D} {lo hi : EO} {x : R (List α)} {l h : R (Option Int)} (p : SA X (EQ (eT e)) S (evE C a σ S) x) (pl : SO X S (evEO C lo σ S) l) (ph : SO X S (evEO C hi σ S) h) :
    SA X (EQ (eT e)) S (evE C (.sl o a lo hi) σ S) (x.bind fun x => l.bind fun i => h.bind fun j => .ok (cutL x i j)) :=
  p.sl' pl ph fun x d i j hx => by subst hx; exact ⟨_, rfl, by rw [cutL_map']⟩
theorem SA.slS {lo hi : EO} {x : R (List Nat)} {l h : R (Option Int)} (p : SA X (EQ eS) S (evE C a σ S) x) (pl : SO X S (evEO C lo σ S) l) (ph : SO X S (evEO C hi σ S) h) :
    SA X (EQ eS) S (evE C (.sl o a lo hi) σ S) (x.bind fun x => l.bind fun i => h.bind fun j => if x.length ≤ 16777216 then .ok (cutL x i j) else .no) :=
  p.sl' pl ph fun x d i j hx => by
    subst hx
    split
    · rename_i q; exact ⟨_, by simp only [doSl]; rw [if_pos (by rw [LINE_eq]; exact q)], rfl⟩
    · trivial
theorem SM.sl {e : α → D} {lo hi : EO} {x : R (List α)} {l h : R (Option Int)} (p : SA X (LI e) S (evE C a σ S) x) (pl : SO X S (evEO C lo σ S) l) (ph : SO X S (evEO C hi σ S) h) :
    SM X o e S (evE C (.sl o a lo hi) σ S) (x.bind fun x => l.bind fun i => h.bind fun j => lnR (cutL x i j)) := by
  rw [eE_sl]
  refine SM.bind1 p (fun _ _ => rfl) fun x d hx => ?_
  rw [kSl1_ok]
  have hx : items S d = some (x.map e) := hx
  cases l with
  | ok i =>
    rw [show evEO C lo σ S = _ from pl, kSl2_ok]
    cases h with
    | ok j =>
      rw [show evEO C hi σ S = _ from ph, kSl3_ok]
      have : doSl o d i j S = SL.mk o (cutL (x.map e) i j) S := by
        cases d <;> first | (exfalso; revert hx; simp [items]; done) | (simp only [doSl, hx])
      rw [this]
      exact SM.mk (cutL_map' _ _ _)
    | exc c fs => exact ⟨ph.1, by rw [ph.2]; rfl⟩
    | no => trivial
  | exc c fs => exact ⟨pl.1, by rw [pl.2]; rfl⟩
  | no => trivial
/-! builtins -/
variable {P : Prog} {n : Nat}
theorem SA.bi1 {bi : Bi} {x : R α} {f : α → R β} (p : SA X A S (evE (mkC P n) a σ S) x) (h : ∀ x d, A S d x → SA X B S (doBi o bi [d] S) (f x)) : SA X B S (evE (mkC P n) (.bi o bi (.cons a .nil)) σ S) (x.bind f) := by
  rw [eE_bi]
  cases x with
  | ok x =>
    obtain ⟨d, q, w⟩ := p
    simp only [eEs_cons, eEs_nil, q, kCons1_ok, kCons2_ok, kBi_ok]
    exact h x d w
  | exc c fs => exact ⟨p.1, by simp only [eEs_cons, eEs_nil, p.2, kCons1_ex, kBi_ex]⟩
  | no => trivial
theorem SM.bi1 {bi : Bi} {e : β → D} {x : R α} {f : α → R (List β)} (p : SA X A S (evE (mkC P n) a σ S) x) (h : ∀ x d, A S d x → SM X o e S (doBi o bi [d] S) (f x)) : SM X o e S (evE (mkC P n) (.bi o bi (.cons a .nil)) σ S) (x.bind f) := by
  rw [eE_bi]
  cases x with
  | ok x =>
    obtain ⟨d, q, w⟩ := p
    simp only [eEs_cons, eEs_nil, q, kCons1_ok, kCons2_ok, kBi_ok]
    exact h x d w
  | exc c fs => exact ⟨p.1, by simp only [eEs_cons, eEs_nil, p.2, kCons1_ex, kBi_ex]⟩
  | no => trivial
theorem SA.bi2 {bi : Bi} {x : R α} {y : R β} {f : α → β → R γ} (p : SA X A S (evE (mkC P n) a σ S) x) (q : SA X B S (evE (mkC P n) b σ S) y) (h : ∀ x y d u, A S d x → B S u y → SA X G S (doBi o bi [d, u] S) (f x y)) : SA X G S (evE (mkC P n) (.bi o bi (.cons a (.cons b .nil))) σ S) (x.bind fun x => y.bind fun y => f x y) := by
  rw [eE_bi]
  cases x with
  | ok x =>
    obtain ⟨d, h1, w⟩ := p
    cases y with
    | ok y =>
      obtain ⟨u, h2, w2⟩ := q
      simp only [eEs_cons, eEs_nil, h1, h2, kCons1_ok, kCons2_ok, kBi_ok]
      exact h x y d u w w2
    | exc c fs => exact ⟨q.1, by simp only [eEs_cons, eEs_nil, h1, q.2, kCons1_ok, kCons2_ex, kCons1_ex, kBi_ex]⟩
    | no => trivial
  | exc c fs => exact ⟨p.1, by simp only [eEs_cons, eEs_nil, p.2, kCons1_ex, kBi_ex]⟩
  | no => trivial
theorem SA.len {e : α → D} {x : R (List α)} (p : SA X (QS e) S (evE (mkC P n) a σ S) x) : SI X S (evE (mkC P n) (.bi o .len (.cons a .nil)) σ S) (x.bind fun x => .ok (x.length : Int)) :=
  p.bi1 fun x d h => by
    have h : seqOf S d = some (x.map e) := h
    refine ⟨.int x.length, ?_, rfl⟩
    cases d <;> first | (exfalso; revert h; simp [seqOf, items]; done) | (simp only [doBi, h, Option.map_some, List.length_map]; rfl)
theorem SA.lenS {x : R (List Nat)} (p : SA X (EQ eS) S (evE (mkC P n) a σ S) x) : SI X S (evE (mkC P n) (.bi o .len (.cons a .nil)) σ S) (x.bind fun x => if x.length ≤ 16777216 then .ok (x.length : Int) else .no) :=
  p.bi1 fun x d h => by
    subst h
    split
    · rename_i q; exact ⟨_, by simp only [doBi]; rw [if_pos (by rw [LINE_eq]; exact q)], rfl⟩
    · trivial
theorem SA.abs {x : R Int} (p : SI X S (evE (mkC P n) a σ S) x) : SI X S (evE (mkC P n) (.bi o .abs (.cons a .nil)) σ S) (x.bind fun x => .ok (x.natAbs : Int)) := p.bi1 fun x d h => by subst h; exact ⟨_, rfl, rfl⟩
theorem SA.int {x : R Int} (p : SI X S (evE (mkC P n) a σ S) x) : SI X S (evE (mkC P n) (.bi o .int (.cons a .nil)) σ S) (x.bind fun x => .ok x) := p.bi1 fun x d h => by subst h; exact ⟨_, rfl, rfl⟩
theorem SA.intB {x : R Bool} (p : SB X S (evE (mkC P n) a σ S) x) : SI X S (evE (mkC P n) (.bi o .int (.cons a .nil)) σ S) (x.bind fun x => .ok (b2i x)) := p.bi1 fun x d h => by subst h; exact ⟨_, rfl, rfl⟩
theorem SA.max {x y : R Int} (p : SI X S (evE (mkC P n) a σ S) x) (q : SI X S (evE (mkC P n) b σ S) y) : SI X S (evE (mkC P n) (.bi o .max2 (.cons a (.cons b .nil))) σ S) (x.bind fun x => y.bind fun y => .ok (Max.max x y)) := p.bi2 q fun x y d u h1 h2 => by subst h1; subst h2; exact ⟨_, rfl, rfl⟩
theorem SA.min {x y : R Int} (p : SI X S (evE (mkC P n) a σ S) x) (q : SI X S (evE (mkC P n) b σ S) y) : SI X S (evE (mkC P n) (.bi o .min2 (.cons a (.cons b .nil))) σ S) (x.bind fun x => y.bind fun y => .ok (Min.min x y)) := p.bi2 q fun x y d u h1 h2 => by subst h1; subst h2; exact ⟨_, rfl, rfl⟩
theorem intsD_map (xs : List Int) : intsD (xs.map D.int) = some xs := by
  induction xs with
  | nil => rfl
  | cons x xs ih => simp [intsD, ih]
theorem SA.sum {x : R (List Int)} (p : SA X (LI eI) S (evE (mkC P n) a σ S) x) : SI X S (evE (mkC P n) (.bi o .sum (.cons a .nil)) σ S) (x.bind fun x => .ok x.sum) := p.bi1 fun x d h => by
  have h : items S d = some (x.map D.int) := h
  exact ⟨_, by simp only [doBi, h, Option.bind_some, intsD_map, Option.map_some]; rfl, rfl⟩
theorem SA.tupT {e : α → D} {x : R (List α)} (p : SA X (EQ (eT e)) S (evE (mkC P n) a σ S) x) : SA X (EQ (eT e)) S (evE (mkC P n) (.bi o .tuple (.cons a .nil)) σ S) (x.bind fun x => .ok x) := p.bi1 fun x d h => by subst h; exact ⟨_, rfl, rfl⟩
theorem SA.tupL {e : α → D} {x : R (List α)} (p : SA X (LI e) S (evE (mkC P n) a σ S) x) : SA X (EQ (eT e)) S (evE (mkC P n) (.bi o .tuple (.cons a .nil)) σ S) (x.bind fun x => .ok x) := p.bi1 fun x d h => by
  have h : items S d = some (x.map e) := h
  refine ⟨.tup (x.map e), ?_, rfl⟩
  cases d <;> first | (exfalso; revert h; simp [items]; done) | (simp only [doBi, h, Option.map_some]; rfl)
theorem SA.tupRev {e : α → D} {x : R (List α)} (p : SA X (QS e) S (evE (mkC P n) a σ S) x) : SA X (EQ (eT e)) S (evE (mkC P n) (.bi o .tupRev (.cons a .nil)) σ S) (x.bind fun x => .ok x.reverse) := p.bi1 fun x d h => by
  have h : seqOf S d = some (x.map e) := h
  exact ⟨.tup ((x.reverse).map e), by simp only [doBi, h, Option.map_some, List.map_reverse]; rfl, rfl⟩
theorem SM.list {e : α → D} {x : R (List α)} (p : SA X (QS e) S (evE (mkC P n) a σ S) x) : SM X o e S (evE (mkC P n) (.bi o .list (.cons a .nil)) σ S) (x.bind fun x => lnR x) := SM.bi1 p fun x d h => by
  have h : seqOf S d = some (x.map e) := h
  have : doBi o .list [d] S = SL.mk o (x.map e) S := by cases d <;> simp only [doBi, h]
  rw [this]
  exact SM.mk rfl
theorem SM.listRev {e : α → D} {x : R (List α)} (p : SA X (LI e) S (evE (mkC P n) a σ S) x) : SM X o e S (evE (mkC P n) (.bi o .listRev (.cons a .nil)) σ S) (x.bind fun x => lnR x.reverse) := SM.bi1 p fun x d h => by
  have h : items S d = some (x.map e) := h
  have : doBi o .listRev [d] S = SL.mk o ((x.reverse).map e) S := by cases d <;> simp only [doBi, h, List.map_reverse]
  rw [this]
  exact SM.mk rfl
theorem natsI_rg (k : Int) : natsI k.toNat = (rg0 k).map eI := by simp [natsI, rg0]
theorem rg0_len (k : Int) : (rg0 k).length = k.toNat := by simp [rg0]
theorem SM.listRange {x : R Int} (p : SI X S (evE (mkC P n) a σ S) x) : SM X o eI S (evE (mkC P n) (.bi o .listRange (.cons a .nil)) σ S) (x.bind fun x => rgLR x) := SM.bi1 p fun x d h => by
  subst h
  rw [rgLR_def]
  split
  · rename_i q
    have : doBi o .listRange [eI x] S = SL.mk o ((rg0 x).map eI) S := by
      simp only [doBi]; rw [if_pos q, natsI_rg]
    rw [this]
    have z := SM.mk (X := X) (o := o) (S := S) (e := eI) (xs := rg0 x) rfl
    rw [lnR_ok (by rw [rg0_len]; omega)] at z
    exact z
  · trivial
theorem SA.tupRange {x : R Int} (p : SI X S (evE (mkC P n) a σ S) x) : SA X (EQ (eT eI)) S (evE (mkC P n) (.bi o .tupRange (.cons a .nil)) σ S) (x.bind fun x => rgLR x) := p.bi1 fun x d h => by
  subst h
  rw [rgLR_def]
  split
  · rename_i q; exact ⟨_, by simp only [doBi]; rw [if_pos q, natsI_rg], rfl⟩
  · trivial
theorem SM.sorted {x : R (List Int)} (p : SA X (QS eI) S (evE (mkC P n) a σ S) x) : SM X o eI S (evE (mkC P n) (.bi o .sorted (.cons a .nil)) σ S) (x.bind fun x => lnR (isort x)) := SM.bi1 p fun x d h => by
  have h : seqOf S d = some (x.map D.int) := h
  have : doBi o .sorted [d] S = SL.mk o ((isort x).map eI) S := by simp only [doBi, h, Option.bind_some, intsD_map]
  rw [this]
  exact SM.mk rfl
/-- what kind a value is, told by its encoding -/
class Kd {α : Type} (e : α → D) (k : outParam Nat) : Prop where kd : ∀ a S, kindD S (e a) = k
instance : Kd eI 2 := ⟨fun _ _ => rfl⟩
instance : Kd eB 1 := ⟨fun _ _ => rfl⟩
instance : Kd eS 3 := ⟨fun _ _ => rfl⟩
instance {e : α → D} : Kd (eT e) 4 := ⟨fun _ _ => rfl⟩
instance {e : α → D} : Kd (eL e) 5 := ⟨fun _ _ => rfl⟩
instance {e : α → D} {f : β → D} : Kd (eP e f) 4 := ⟨fun _ _ => rfl⟩
instance {e : α → D} {f : β → D} {g : γ → D} : Kd (eP3 e f g) 4 := ⟨fun _ _ => rfl⟩
instance {e : α → D} {f : β → D} {g : γ → D} {h : δ → D} : Kd (eP4 e f g h) 4 := ⟨fun _ _ => rfl⟩
theorem SA.isk {e : α → D} {k : Nat} [q : Kd e k] {bi : Bi} {p : Nat → Prop} [DecidablePred p] (hb : ∀ d S, doBi o bi [d] S = isD p d S) (hk : k ≠ 9) {x : R α} (pa : SA X (EQ e) S (evE (mkC P n) a σ S) x) : SB X S (evE (mkC P n) (.bi o bi (.cons a .nil)) σ S) (x.bind fun _ => .ok (decide (p k))) := pa.bi1 fun x d h => by
  subst h
  refine ⟨.bl (decide (p k)), ?_, rfl⟩
  rw [hb]
  unfold isD
  rw [q.kd]
  rw [if_neg hk]
theorem isint_eq {d : D} {S : Store} : doBi o .isint [d] S = isD (fun t => t = 1 ∨ t = 2) d S := rfl
theorem isbool_eq {d : D} {S : Store} : doBi o .isbool [d] S = isD (fun t => t = 1) d S := rfl
theorem istup_eq {d : D} {S : Store} : doBi o .istup [d] S = isD (fun t => t = 4) d S := rfl
theorem islist_eq {d : D} {S : Store} : doBi o .islist [d] S = isD (fun t => t = 5) d S := rfl
theorem isstr_eq {d : D} {S : Store} : doBi o .isstr [d] S = isD (fun t => t = 3) d S := rfl
theorem kind_items {d : D} {ds : List D} (h : items S d = some ds) : kindD S d = 5 := by
  cases d with
  | ref i =>
    simp only [items] at h
    split at h
    · rename_i q; simp [kindD, q]
    · cases h
  | vl => rfl
  | sc => rfl
  | _ => simp [items] at h
theorem SA.iskL {e : α → D} {bi : Bi} {p : Nat → Prop} [DecidablePred p] (hb : ∀ d S, doBi o bi [d] S = isD p d S) {x : R (List α)} (pa : SA X (LI e) S (evE (mkC P n) a σ S) x) : SB X S (evE (mkC P n) (.bi o bi (.cons a .nil)) σ S) (x.bind fun _ => .ok (decide (p 5))) := pa.bi1 fun x d h => by
  refine ⟨.bl (decide (p 5)), ?_, rfl⟩
  rw [hb]
  unfold isD
  rw [kind_items h]
  rfl
/-! what loops walk -/
def SW (X : Cm) {α : Type} (g : α → D) (gd : Option (Nat × List D) → Prop) (S : Store) (r : Res Walk) (t : R (List α)) : Prop := match t with
  | .ok xs => ∃ q, r = .ok ⟨xs.map g, q⟩ S ∧ gd q
  | .exc c fs => X.ok c = true ∧ r = .exc (X.f c) fs S
  | .no => True
abbrev gN : Option (Nat × List D) → Prop := fun q => q = none
theorem SW.eq {g : α → D} {gd : Option (Nat × List D) → Prop} {t t' : R (List α)} {r : Res Walk} (h : SW X g gd S r t) (q : t = t') : SW X g gd S r t' := q ▸ h
theorem SW.bind1 {k : Res D → Res Walk} {g : β → D} {gd : Option (Nat × List D) → Prop} {f : α → R (List β)} (p : SA X A S r t) (hk : ∀ c fs, k (.exc c fs S) = .exc c fs S) (h : ∀ a d, A S d a → SW X g gd S (k (.ok d S)) (f a)) : SW X g gd S (k r) (t.bind f) := by
  cases t with
  | ok a => obtain ⟨d, e, q⟩ := p; rw [e]; exact h a d q
  | exc c fs => exact ⟨p.1, by rw [p.2]; exact hk _ _⟩
  | no => trivial
theorem SW.tup {e : α → D} {x : R (List α)} (p : SA X (EQ (eT e)) S (evE C a σ S) x) : SW X e gN S (evIt C (.val a) σ S) x := by
  rw [eI_val]
  exact (SW.bind1 (f := .ok) p (fun _ _ => rfl) fun x d h => by subst h; exact ⟨none, rfl, rfl⟩).eq (by simp)
theorem SW.vl {e : α → D} {x : R (List α)} (p : SA X (EQ (eL e)) S (evE C a σ S) x) : SW X e gN S (evIt C (.val a) σ S) x := by
  rw [eI_val]
  exact (SW.bind1 (f := .ok) p (fun _ _ => rfl) fun x d h => by subst h; exact ⟨none, rfl, rfl⟩).eq (by simp)
/-- a list that may stand in the store -/
def gR (S : Store) (ds : List D) : Option (Nat × List D) → Prop := fun q => q = none ∨ ∃ i, q = some (i, ds) ∧ S[i]? = some (.lst ds)
theorem SW.par {e : α → D} {x : List α} {d : D} {i : Nat} (h : σ[i]? = some (some d)) (q : items S d = some (x.map e)) : SW X e (gR S (x.map e)) S (evIt C (.val (.var i)) σ S) (.ok x) := by
  rw [eI_val, evar h (nx_items q)]
  cases d with
  | vl ds => simp [items] at q; subst q; exact ⟨none, rfl, .inl rfl⟩
  | sc ds => simp [items] at q; subst q; exact ⟨none, rfl, .inl rfl⟩
  | ref j =>
    simp only [items] at q
    rw [kVal_ref]
    cases w : S[j]? with
    | none => rw [w] at q; cases q
    | some c =>
      cases c with
      | lst ds => rw [w] at q; cases q; exact ⟨some (j, x.map e), rfl, .inr ⟨j, rfl, w⟩⟩
      | dic _ => rw [w] at q; cases q
      | dead => rw [w] at q; cases q
  | _ => simp [items] at q
theorem SW.r1 {i : R Int} (p : SI X S (evE C a σ S) i) : SW X eI gN S (evIt C (.range1 a) σ S) (i.bind fun i => rg1R i) := by
  rw [eI_r1]
  refine SW.bind1 p (fun _ _ => rfl) fun i d h => ?_
  subst h
  rw [kR1_ok]
  rw [rg1R_def]
  split
  · exact ⟨none, by simp [rngL, rg0], rfl⟩
  · trivial
theorem SW.r2 {i j : R Int} (p : SI X S (evE C a σ S) i) (q : SI X S (evE C b σ S) j) : SW X eI gN S (evIt C (.range2 a b) σ S) (i.bind fun i => j.bind fun j => rgR i j) := by
  rw [eI_r2]
  refine SW.bind1 p (fun _ _ => rfl) fun i d h => ?_
  subst h
  rw [kR2a_ok]
  refine SW.bind1 (k := kR2b i) q (fun _ _ => rfl) fun j d h => ?_
  subst h
  rw [kR2b_ok]
  rw [rgR_def]
  by_cases z : small62 i = true ∧ small62 j = true
  · rw [if_pos z, if_pos (by simp [z])]; exact ⟨none, by simp [rngL], rfl⟩
  · rw [if_neg z]; trivial
theorem SW.r3 {i j k : R Int} (p : SI X S (evE C a σ S) i) (q : SI X S (evE C b σ S) j) (w : SI X S (evE C c σ S) k) : SW X eI gN S (evIt C (.range3 a b c) σ S) (i.bind fun i => j.bind fun j => k.bind fun k => rg3R i j k) := by
  rw [eI_r3]
  refine SW.bind1 p (fun _ _ => rfl) fun i d h => ?_
  subst h
  rw [kR3a_ok]
  refine SW.bind1 (k := kR3b C c σ i) q (fun _ _ => rfl) fun j d h => ?_
  subst h
  rw [kR3b_ok]
  refine SW.bind1 (k := kR3c i j) w (fun _ _ => rfl) fun k d h => ?_
  subst h
  rw [kR3c_ok]
  rw [rg3R_def]
  split
  · exact ⟨none, by simp [rngL], rfl⟩
  · trivial
theorem SW.rr {i : R Int} (p : SI X S (evE C a σ S) i) : SW X eI gN S (evIt C (.revrange a) σ S) (i.bind fun i => (rg1R i).bind fun xs => .ok xs.reverse) := by
  rw [eI_rr]
  refine SW.bind1 p (fun _ _ => rfl) fun i d h => ?_
  subst h
  rw [kRR_ok]
  rw [rg1R_def]
  split
  · exact ⟨none, by simp [rngL, rg0], rfl⟩
  · trivial
/-- rows that stand still: tuples, lists that stand still -/
abbrev FX {α : Type} (e : α → D) : Rel (List α) := fun _ d xs => fixd d = some (xs.map e)
theorem SA.tf {e : α → D} {t : R (List α)} (h : SA X (EQ (eT e)) S r t) : SA X (FX e) S r t := h.mono fun d a q => by subst q; rfl
theorem SA.lf {e : α → D} {t : R (List α)} (h : SA X (EQ (eL e)) S r t) : SA X (FX e) S r t := h.mono fun d a q => by subst q; rfl
theorem SW.zip {e : α → D} {f : β → D} {x : R (List α)} {y : R (List β)} (p : SA X (FX e) S (evE C a σ S) x) (q : SA X (FX f) S (evE C b σ S) y) : SW X (eP e f) gN S (evIt C (.zip a b) σ S) (x.bind fun x => y.bind fun y => .ok (x.zip y)) := by
  rw [eI_zip]
  refine SW.bind1 p (fun _ _ => rfl) fun x d h => ?_
  rw [kZ1_ok]
  refine SW.bind1 (k := kZ2 d) q (fun _ _ => rfl) fun y u h2 => ?_
  rw [kZ2_ok]
  have h : fixd d = _ := h
  have h2 : fixd u = _ := h2
  refine ⟨none, ?_, rfl⟩
  unfold zipW
  rw [h, h2]
  simp [zipT, List.zip_map]
theorem SW.enum {e : α → D} {x : R (List α)} (p : SA X (FX e) S (evE C a σ S) x) : SW X (eP eI e) gN S (evIt C (.enum a) σ S) (x.bind fun x => .ok (x.zipIdx.map fun q => ((q.2 : Int), q.1))) := by
  rw [eI_enum]
  refine SW.bind1 p (fun _ _ => rfl) fun x d h => ?_
  have h : fixd d = _ := h
  refine ⟨none, ?_, rfl⟩
  show (match fixd d with | some a => Res.ok (⟨enumT a, none⟩ : Walk) S | none => .stuck) = _
  rw [h]
  simp [enumT, List.zipIdx_map]
theorem SW.rev {e : α → D} {x : R (List α)} (p : SA X (FX e) S (evE C a σ S) x) : SW X e gN S (evIt C (.rev a) σ S) (x.bind fun x => .ok x.reverse) := by
  rw [eI_rev]
  refine SW.bind1 p (fun _ _ => rfl) fun x d h => ?_
  have h : fixd d = _ := h
  refine ⟨none, ?_, rfl⟩
  show (match fixd d with | some a => Res.ok (⟨a.reverse, none⟩ : Walk) S | none => .stuck) = _
  rw [h]
  simp
/-! comprehensions -/
def gOK (S : Store) : Option (Nat × List D) → Prop := fun q => Walk.ok q S = true
theorem gN.ok {q : Option (Nat × List D)} (h : gN q) : gOK S q := by subst h; rfl
theorem gR.ok {ds : List D} {q : Option (Nat × List D)} (h : gR S ds q) : gOK S q := by
  rcases h with rfl | ⟨i, rfl, h⟩
  · rfl
  · simpa [gOK, Walk.ok] using h
/-- one turn of a comprehension: what is told of it -/
def SC (X : Cm) {β : Type} (e : β → D) (S : Store) (r : Res (Option D)) (t : R (Option β)) : Prop := match t with
  | .ok x => r = .ok (x.map e) S
  | _ => True
def lcF {α β : Type} (f : α → R (Option β)) : List α → R (List β)
  | [] => .ok []
  | x :: xs => (f x).calm.bind fun y => (lcF f xs).bind fun ys => match y with | some y => .ok (y :: ys) | none => .ok ys
theorem lcF_ok {f : α → R (Option β)} {e : β → D} {g : α → D} {step : D → Store → Res (Option D)} {gd : Option (Nat × List D)} (ok : Walk.ok gd S = true) (h : ∀ x, SC X e S (step (g x) S) (f x)) :
    ∀ (xs : List α) (acc : List D) (ys : List β), lcF f xs = .ok ys → acc.length + ys.length ≤ LINE → lcLoop step gd (xs.map g) acc S = .ok (acc ++ ys.map e) S
  | [], acc, ys, hq, _ => by cases hq; simp [lcLoop, ok]
  | x :: xs, acc, ys, hq, hl => by
    unfold lcF at hq
    have hx := h x
    cases hf : f x with
    | exc c fs => rw [hf] at hq; cases hq
    | no => rw [hf] at hq; cases hq
    | ok y =>
      rw [hf] at hq hx
      cases hr : lcF f xs with
      | exc c fs => rw [hr] at hq; cases hq
      | no => rw [hr] at hq; cases hq
      | ok zs =>
        rw [hr] at hq
        have hx : step (g x) S = .ok (y.map e) S := hx
        simp only [List.map_cons, lcLoop, ok, if_true, hx, Res.bind_ok]
        cases y with
        | none =>
          cases hq
          simpa using lcF_ok ok h xs acc ys hr hl
        | some y =>
          cases hq
          have l : acc.length < LINE := by simp only [List.length_cons] at hl; omega
          simp only [Option.map_some, l, if_true]
          rw [lcF_ok ok h xs (acc ++ [e y]) zs hr (by simp only [List.length_cons, List.length_append, List.length_nil] at hl ⊢; omega)]
          simp
theorem SM.lc {g : α → D} {e : β → D} {gd : Option (Nat × List D) → Prop} {tg : Tg} {it : It} {el : E} {cd : EO} {x : R (List α)} {f : α → R (Option β)} (p : SW X g gd S (evIt (mkC P n) it σ S) x) (hg : ∀ q, gd q → gOK S q)
    (h : ∀ x, SC X e S (lstep (mkC P n) el tg cd σ (g x) S) (f x)) : SM X o e S (evE (mkC P n) (.lc o el tg it cd) σ S) (x.bind fun xs => (lcF f xs).calm.bind fun ys => lnR ys) := by
  rw [eE_lc]
  cases x with
  | ok xs =>
    obtain ⟨q, h1, h2⟩ := p
    rw [h1, kLc_ok]
    show SM X o e S _ ((lcF f xs).calm.bind fun ys => lnR ys)
    cases hf : lcF f xs with
    | exc c fs => trivial
    | no => trivial
    | ok ys =>
      show SM X o e S _ (lnR ys)
      by_cases hl : ys.length ≤ 16777216
      · rw [lcF_ok (hg q h2) h xs [] ys hf (by simpa [LINE_eq] using hl), kMk_ok]
        exact SM.mk (by simp)
      · rw [lnR_def]; rw [if_neg hl]; trivial
  | exc c fs => exact ⟨p.1, by rw [p.2]; rfl⟩
  | no => trivial
theorem SC.plain {e : β → D} {tg : Tg} {el : E} {d : D} {σ1 : Slots} {y : R β} (ht : tgSet tg d (wipeS σ (tgIx tg)) S = .ok σ1 S) (p : SA X (EQ e) S (evE C el σ1 S) y) : SC X e S (lstep C el tg .none σ d S) (y.bind fun y => .ok (some y)) := by
  unfold lstep
  rw [ht]
  simp only [Res.bind_ok, eC_none, if_true]
  cases y with
  | ok y => obtain ⟨d, h, rfl⟩ := p; rw [h]; rfl
  | exc c fs => trivial
  | no => trivial
theorem SC.cond {e : β → D} {tg : Tg} {el cd : E} {d : D} {σ1 : Slots} {y : R β} {z : R Bool} (ht : tgSet tg d (wipeS σ (tgIx tg)) S = .ok σ1 S) (pc : SB X S (evE C cd σ1 S) z) (p : SA X (EQ e) S (evE C el σ1 S) y) :
    SC X e S (lstep C el tg (.some cd) σ d S) (z.bind fun z => if z = true then y.bind fun y => .ok (some y) else .ok none) := by
  unfold lstep
  rw [ht]
  simp only [Res.bind_ok, eC_some]
  cases z with
  | ok z =>
    obtain ⟨d, h, rfl⟩ := pc
    rw [h]
    cases z with
    | true =>
      simp only [kC_ok, Res.bind_ok, if_true, R.bind_ok]
      cases y with
      | ok y => obtain ⟨d, h, rfl⟩ := p; rw [h]; rfl
      | exc c fs => trivial
      | no => trivial
    | false => rfl
  | exc c fs => trivial
  | no => trivial
/-- comprehensions whose parts are plain -/
theorem lcF_plain {f : α → β} (xs : List α) : lcF (fun x => .ok (some (f x))) xs = .ok (xs.map f) := by
  induction xs with
  | nil => rfl
  | cons x xs ih => simp [lcF, R.calm, ih]
theorem lcF_cond {f : α → β} {p : α → Bool} (xs : List α) : lcF (fun x => if p x = true then .ok (some (f x)) else .ok none) xs = .ok ((xs.filter p).map f) := by
  induction xs with
  | nil => rfl
  | cons x xs ih =>
    unfold lcF
    rw [ih]
    by_cases h : p x = true <;> simp [h, R.calm]
theorem lcF_map {f : α → R β} (xs : List α) : lcF (fun x => (f x).bind fun y => .ok (some y)) xs = mapR f xs := by
  induction xs with
  | nil => rfl
  | cons x xs ih =>
    unfold lcF mapR
    rw [ih]
    cases f x <;> rfl
end
end SL
/-! Typed readings of statements. -/
namespace SL
/-- the lists that a def has made, and what stood before -/
def Hp (S0 S : Store) (L : List (Nat × List D)) : Prop := S.take S0.length = S0 ∧ (∀ p ∈ L, S0.length ≤ p.1 ∧ S[p.1]? = some (.lst p.2)) ∧ (L.map (·.1)).Nodup
theorem Hp.nil (S : Store) : Hp S S [] := ⟨by simp, by simp, by simp⟩
theorem nodup_inj {α : Type} : ∀ {l : List α}, l.Nodup → ∀ {i j : Nat} {hi : i < l.length} {hj : j < l.length}, l[i] = l[j] → i = j
  | [], _, i, j, hi, _, _ => absurd hi (by simp)
  | a :: l, h, 0, 0, _, _, _ => rfl
  | a :: l, h, 0, j + 1, _, hj, e => by
    rw [List.nodup_cons] at h
    exact absurd (show a ∈ l by simp only [List.getElem_cons_zero, List.getElem_cons_succ] at e; rw [e]; exact List.getElem_mem _) h.1
  | a :: l, h, i + 1, 0, hi, _, e => by
    rw [List.nodup_cons] at h
    exact absurd (show a ∈ l by simp only [List.getElem_cons_zero, List.getElem_cons_succ] at e; rw [← e]; exact List.getElem_mem _) h.1
  | a :: l, h, i + 1, j + 1, hi, hj, e => by
    rw [List.nodup_cons] at h
    simp only [List.getElem_cons_succ] at e
    rw [nodup_inj h.2 e]
section
variable {S0 S : Store} {L : List (Nat × List D)}
theorem Hp.base (h : Hp S0 S L) : S.take S0.length = S0 := h.1
theorem Hp.le (h : Hp S0 S L) : S0.length ≤ S.length := by
  have := congrArg List.length h.1
  simp at this
  omega
theorem Hp.get0 (h : Hp S0 S L) {i : Nat} (hi : i < S0.length) : S[i]? = S0[i]? := by
  have := h.1
  rw [← this, List.getElem?_take, if_pos hi]
theorem Hp.items (h : Hp S0 S L) {d : D} {ds : List D} (q : SL.items S0 d = some ds) : SL.items S d = some ds := by
  cases d with
  | ref i =>
    simp only [SL.items] at q ⊢
    have hi : i < S0.length := by
      cases z : S0[i]? with
      | none => rw [z] at q; cases q
      | some c => exact (List.getElem?_eq_some_iff.mp z).1
    rw [h.get0 hi]; exact q
  | _ => exact q
theorem Hp.itemsH (h : Hp S0 S L) {d : D} {ds : List D} (q : SL.itemsH S0 d = some ds) : SL.itemsH S d = some ds := by
  cases d with
  | ref i =>
    simp only [SL.itemsH] at q ⊢
    have hi : i < S0.length := by
      cases z : S0[i]? with
      | none => rw [z] at q; cases q
      | some c => exact (List.getElem?_eq_some_iff.mp z).1
    rw [h.get0 hi]; exact q
  | _ => exact q
theorem Hp.at (h : Hp S0 S L) {k i : Nat} {ds : List D} (q : L[k]? = some (i, ds)) : S[i]? = some (.lst ds) := (h.2.1 _ (List.mem_of_getElem? q)).2
theorem Hp.ref (h : Hp S0 S L) {k i : Nat} {ds : List D} (q : L[k]? = some (i, ds)) : SL.itemsH S (.ref i) = some ds := by
  simp only [SL.itemsH, h.at q]
theorem Hp.lt (h : Hp S0 S L) {p : Nat × List D} (q : p ∈ L) : p.1 < S.length := (List.getElem?_eq_some_iff.mp (h.2.1 p q).2).1
theorem Hp.new (h : Hp S0 S L) (ds : List D) : Hp S0 (S ++ [.lst ds]) ((S.length, ds) :: L) := by
  refine ⟨?_, fun p hp => ?_, ?_⟩
  · rw [List.take_append_of_le_length h.le]; exact h.1
  · rcases List.mem_cons.mp hp with rfl | hp
    · exact ⟨h.le, by simp⟩
    · exact ⟨(h.2.1 p hp).1, by rw [List.getElem?_append_left (h.lt hp)]; exact (h.2.1 p hp).2⟩
  · rw [List.map_cons, List.nodup_cons]
    refine ⟨fun z => ?_, h.2.2⟩
    obtain ⟨p, hp, e⟩ := List.mem_map.mp z
    have := h.lt hp
    omega
theorem Hp.set (h : Hp S0 S L) {k i : Nat} {ds : List D} (q : L[k]? = some (i, ds)) (es : List D) : Hp S0 (S.set i (.lst es)) (L.set k (i, es)) := by
  have hi := h.2.1 _ (List.mem_of_getElem? q)
  have hk : k < L.length := (List.getElem?_eq_some_iff.mp q).1
  have hL : L[k] = (i, ds) := (List.getElem?_eq_some_iff.mp q).2
  have il : i < S.length := h.lt (List.mem_of_getElem? q)
  have hn : (L.set k (i, es)).map (·.1) = L.map (·.1) := by
    rw [List.map_set]
    refine List.ext_getElem? fun m => ?_
    by_cases hm : k = m
    · subst hm
      rw [List.getElem?_set_self (by simpa using hk)]
      simp [hk, hL]
    · rw [List.getElem?_set_ne hm]
  refine ⟨?_, fun p hp => ?_, by rw [hn]; exact h.2.2⟩
  · rw [List.take_set_of_le hi.1]; exact h.1
  · rcases List.mem_or_eq_of_mem_set hp with hp' | rfl
    · obtain ⟨m, hm, rfl⟩ := List.mem_iff_getElem.mp hp
      rw [List.length_set] at hm
      by_cases e : k = m
      · subst e
        rw [List.getElem_set_self]
        exact ⟨hi.1, by simp [il]⟩
      · rw [List.getElem_set_ne e]
        have hm' := h.2.1 _ (List.getElem_mem hm)
        refine ⟨hm'.1, ?_⟩
        have ne : i ≠ L[m].1 := fun z => e (by
          have a1 : (L.map (·.1))[k]'(by simpa using hk) = (L.map (·.1))[m]'(by simpa using hm) := by simp [hL, z]
          exact nodup_inj h.2.2 a1)
        rw [List.getElem?_set_ne ne]
        exact hm'.2
    · exact ⟨hi.1, by simp [il]⟩
theorem Hp.del (h : Hp S0 S L) (k : Nat) : Hp S0 S (L.eraseIdx k) :=
  ⟨h.1, fun p hp => h.2.1 p (List.mem_of_mem_eraseIdx hp), List.Nodup.sublist (List.Sublist.map _ (List.eraseIdx_sublist _ k)) h.2.2⟩
theorem Hp.free (h : Hp S0 S L) {k i : Nat} {ds : List D} (q : L[k]? = some (i, ds)) (c : Cell) : Hp S0 (S.set i c) (L.eraseIdx k) := by
  have hi := h.2.1 _ (List.mem_of_getElem? q)
  have hk : k < L.length := (List.getElem?_eq_some_iff.mp q).1
  have hL : L[k] = (i, ds) := (List.getElem?_eq_some_iff.mp q).2
  have h2 := h.del k
  refine ⟨by rw [List.take_set_of_le hi.1]; exact h.1, fun p hp => ?_, h2.2.2⟩
  have h3 := h2.2.1 p hp
  refine ⟨h3.1, ?_⟩
  have ne : i ≠ p.1 := fun z => by
    obtain ⟨m, hm⟩ := List.mem_iff_getElem?.mp hp
    rw [List.getElem?_eraseIdx] at hm
    split at hm
    · rename_i hlt
      have h4 := List.getElem?_eq_some_iff.mp hm
      have : k = m := nodup_inj h.2.2 (i := k) (j := m) (hi := by simpa using hk) (hj := by simpa using h4.1) (by simp [hL, h4.2, z])
      omega
    · rename_i hlt
      have h4 := List.getElem?_eq_some_iff.mp hm
      have : k = m + 1 := nodup_inj h.2.2 (i := k) (j := m + 1) (hi := by simpa using hk) (hj := by simpa using h4.1) (by simp [hL, h4.2, z])
      omega
  rw [List.getElem?_set_ne ne]
  exact h3.2
theorem Hp.swap {p q : Nat × List D} (h : Hp S0 S (p :: q :: L)) : Hp S0 S (q :: p :: L) :=
  ⟨h.1, fun r hr => h.2.1 r (by simp only [List.mem_cons] at hr ⊢; rcases hr with h | h | h <;> simp [h]), by
    have := h.2.2
    simp only [List.map_cons, List.nodup_cons, List.mem_cons, not_or] at this ⊢
    exact ⟨⟨fun z => this.1.1 z.symm, this.2.1⟩, this.1.2, this.2.2⟩⟩
end
/-- outcomes -/
def isOut : Res Out → Prop | .ok (.rt _) _ => True | .ok (.bk _) _ => True | .ok (.ct _) _ => True | _ => False
abbrev Ob (τ : Type) := τ → Res Out → Prop
abbrev Ns (σ : Type) := σ → Slots → Store → Prop
def ON {τ : Type} (O : Ob τ) : Ob τ := fun v r => isOut r ∧ O v r
def NX {s : Type} (N : Ns s) : Ob s := fun v r => ∃ σ S, r = .ok (.nx σ) S ∧ N v σ S
def OL {s τ : Type} (N : Ns s) (O : Ob τ) : Ob (s ⊕ τ) := fun q r => match q with | .inl v => NX N v r | .inr v => ON O v r
def LB {s : Type} (N : Ns s) : Ob s := fun v r => ∃ σ S, (r = .ok (.nx σ) S ∨ r = .ok (.ct σ) S) ∧ N v σ S
def LX {s τ : Type} (N : Ns s) (O : Ob τ) : Ob (Stp s τ) := fun q r => match q with
  | .go v => LB N v r
  | .stop v => ∃ σ S, r = .ok (.bk σ) S ∧ N v σ S
  | .out v => (∃ d S, r = .ok (.rt d) S) ∧ O v r
abbrev Er := Slots → Store → Prop
def SG (X : Cm) {τ : Type} (O : Ob τ) (E : Er) (r : Res Out) (t : R τ) : Prop := match t with
  | .ok a => O a r
  | .exc c fs => X.ok c = true ∧ ∃ σ S, r = .ok (.ex (X.f c) fs σ) S ∧ E σ S
  | .no => True
/-- encodings that are plain data -/
class Pd {α : Type} (e : α → D) (k : outParam Nat) : Prop where pd : ∀ a, pureD (e a) = true
instance : Pd eI 1 := ⟨fun _ => by simp⟩
instance : Pd eB 1 := ⟨fun _ => by simp⟩
instance : Pd eS 1 := ⟨fun _ => by simp⟩
instance : Pd eU 1 := ⟨fun _ => by simp⟩
theorem Pd.alls {α : Type} {e : α → D} {k : Nat} [p : Pd e k] (xs : List α) : pureDs (xs.map e) = true := by
  simp only [pureDs_all, List.all_map, List.all_eq_true]
  exact fun x _ => p.pd x
instance {α : Type} {e : α → D} {k : Nat} [p : Pd e k] : Pd (eT e) 1 := ⟨fun a => by rw [pureD]; exact Pd.alls a⟩
instance {α : Type} {e : α → D} {k : Nat} [p : Pd e k] : Pd (eL e) 1 := ⟨fun a => by rw [pureD]; exact Pd.alls a⟩
instance {α β : Type} {e : α → D} {f : β → D} {k l : Nat} [p : Pd e k] [q : Pd f l] : Pd (eP e f) 1 := ⟨fun a => by
  simp [p.pd, q.pd]⟩
instance {α β γ : Type} {e : α → D} {f : β → D} {g : γ → D} {k l j : Nat} [p : Pd e k] [q : Pd f l] [w : Pd g j] : Pd (eP3 e f g) 1 := ⟨fun a => by
  simp [p.pd, q.pd, w.pd]⟩
instance {α β γ δ : Type} {e : α → D} {f : β → D} {g : γ → D} {h : δ → D} {k l j i : Nat} [p : Pd e k] [q : Pd f l] [w : Pd g j] [z : Pd h i] : Pd (eP4 e f g h) 1 := ⟨fun a => by
  simp [p.pd, q.pd, w.pd, z.pd]⟩
instance {α β γ δ ε : Type} {e : α → D} {f : β → D} {g : γ → D} {h : δ → D} {o : ε → D} {k l j i m : Nat} [p : Pd e k] [q : Pd f l] [w : Pd g j] [z : Pd h i] [y : Pd o m] : Pd (eP5 e f g h o) 1 := ⟨fun a => by
  simp [p.pd, q.pd, w.pd, z.pd, y.pd]⟩
instance {α : Type} {e : α → D} {k : Nat} [p : Pd e k] : Pd (eO e) 1 := ⟨fun a => by
  cases a with
  | none => exact pureD_non
  | some a => exact p.pd a⟩
/-- a def's end -/
def OF {ρ : Type} (S0 : Store) (e : ρ → D) : Ob ρ := fun v r => fin false S0 r = .ok (e v) S0
section
variable {X : Cm} {ρ τ s : Type} {S0 S S1 : Store} {L : List (Nat × List D)} {α β γ : Type}
theorem OF.rt {e : ρ → D} {k : Nat} [Pd e k] (hk : k ≤ 64) (H : Hp S0 S L) (v : ρ) : OF S0 e v (.ok (.rt (e v)) S) := by
  unfold OF
  obtain ⟨T, rfl⟩ : ∃ T, S = S0 ++ T := ⟨S.drop S0.length, by have := List.take_append_drop S0.length S; rw [H.base] at this; exact this.symm⟩
  exact fin_rt (Pd.pd v)
theorem OF.own {e : α → D} {k : Nat} [Pd e k] (hk : k ≤ 62) (H : Hp S0 S L) {m i : Nat} {v : List α} (q : L[m]? = some (i, v.map e)) : OF S0 (eL e) v (.ok (.rt (.ref i)) S) := by
  unfold OF
  have hb := (H.2.1 _ (List.mem_of_getElem? q)).1
  have hs := H.at q
  obtain ⟨T, rfl⟩ : ∃ T, S = S0 ++ T := ⟨S.drop S0.length, by have := List.take_append_drop S0.length S; rw [H.base] at this; exact this.symm⟩
  exact fin_ref hb hs (Pd.alls v)
theorem OF.nx (H : Hp S0 S L) {σ : Slots} : OF S0 eU () (.ok (.nx σ) S) := by
  unfold OF
  obtain ⟨T, rfl⟩ : ∃ T, S = S0 ++ T := ⟨S.drop S0.length, by have := List.take_append_drop S0.length S; rw [H.base] at this; exact this.symm⟩
  exact fin_nx
def EF (S0 : Store) : Er := fun _ S => S.take S0.length = S0
theorem SA.fn {P : Prog} {n i : Nat} {ds : List D} {fn : Fn} {e : ρ → D} {t : R ρ} (h : P.fns[i]? = some fn) (hl : ds.length = fn.np) (hk : fn.keep = false)
    (b : SG X (OF S e) (EF S) (evSs (mkC P n) fn.body (ds.map some ++ List.replicate (fn.ns - fn.np) none) S) t) : SA X (EQ e) S (evCall P (n + 1) i ds S) t := by
  rw [evCall_eq h hl, hk]
  cases t with
  | ok a => exact ⟨_, b, rfl⟩
  | exc c fs =>
    obtain ⟨h1, σ, S1, h2, h3⟩ := b
    refine ⟨h1, ?_⟩
    rw [h2]
    have h3 : S1.take S.length = S := h3
    show (if S1.take S.length = S then (_ : Res D) else _) = _
    rw [if_pos h3]
  | no => trivial
variable {O : Ob τ} {E : Er} {r : Res Out} {t t' : R τ}
theorem SG.eq (h : SG X O E r t) (e : t = t') : SG X O E r t' := e ▸ h
variable {C : Cx} {σ : Slots} {ss : Ss} {A : Rel α} {x : R α} {a b c : SL.E}
theorem SG.lift1 {k : Res D → Res Out} {f : α → R τ} {y : Res D} (p : SA X A S y x) (hE : E σ S) (hk : ∀ c fs, k (.exc c fs S) = .ok (.ex c fs σ) S) (h : ∀ a d, A S d a → SG X O E (k (.ok d S)) (f a)) : SG X O E (k y) (x.bind f) := by
  cases x with
  | ok a => obtain ⟨d, e, q⟩ := p; rw [e]; exact h a d q
  | exc c fs => exact ⟨p.1, σ, S, by rw [p.2]; exact hk _ _, hE⟩
  | no => trivial
theorem SG.letA {f : α → R τ} {i : Nat} {ex : SL.E} (p : SA X A S (evE C ex σ S) x) (hE : E σ S) (h : ∀ a d, A S d a → SG X O E (evSs C ss (σ.set i (some d)) S) (f a)) : SG X O E (evSs C (.cons (.asg (.name i) ex) ss) σ S) (x.bind f) := by
  rw [eSs_cons, eS_asg]
  exact SG.lift1 (k := fun y => kSs C ss (kAsg (.name i) σ y)) p hE (fun _ _ => rfl) fun a d q => by
    simp only [kAsg_ok, tgSet_name, kNx_ok, kSs_nx]; exact h a d q
theorem SG.let {e : α → D} {f : α → R τ} {i : Nat} {ex : SL.E} (p : SA X (EQ e) S (evE C ex σ S) x) (hE : E σ S) (h : ∀ a, SG X O E (evSs C ss (σ.set i (some (e a))) S) (f a)) : SG X O E (evSs C (.cons (.asg (.name i) ex) ss) σ S) (x.bind f) :=
  SG.letA p hE fun a d q => by subst q; exact h a
theorem SG.letG {e : α → D} {f : α → R τ} {tg : Tg} {ex : SL.E} {σ' : α → Slots} (p : SA X (EQ e) S (evE C ex σ S) x) (hE : E σ S) (ht : ∀ a, tgSet tg (e a) σ S = .ok (σ' a) S) (h : ∀ a, SG X O E (evSs C ss (σ' a) S) (f a)) : SG X O E (evSs C (.cons (.asg tg ex) ss) σ S) (x.bind f) := by
  rw [eSs_cons, eS_asg]
  exact SG.lift1 (k := fun y => kSs C ss (kAsg tg σ y)) p hE (fun _ _ => rfl) fun a d q => by
    subst q
    simp only [kAsg_ok, ht, kNx_ok, kSs_nx]; exact h a
/-- a list of the store, made -/
theorem SG.own {e : α → D} {x : R (List α)} {f : List α → R τ} {i : Nat} {ex : SL.E} (p : SM X true e S (evE C ex σ S) x) (H : Hp S0 S L) (hE : E σ S)
    (h : ∀ xs j S', Hp S0 S' ((j, xs.map e) :: L) → SG X O E (evSs C ss (σ.set i (some (.ref j))) S') (f xs)) : SG X O E (evSs C (.cons (.asg (.name i) ex) ss) σ S) (x.bind f) := by
  rw [eSs_cons, eS_asg]
  cases x with
  | ok xs =>
    rw [show evE C ex σ S = _ from p, if_pos rfl]
    simp only [kAsg_ok, tgSet_name, kNx_ok, kSs_nx]
    exact h xs _ _ (H.new _)
  | exc c fs => exact ⟨p.1, σ, S, by rw [p.2]; rfl, hE⟩
  | no => trivial
theorem SG.expr {f : α → R τ} {ex : SL.E} (p : SA X A S (evE C ex σ S) x) (hE : E σ S) (h : ∀ a, SG X O E (evSs C ss σ S) (f a)) : SG X O E (evSs C (.cons (.expr ex) ss) σ S) (x.bind f) := by
  rw [eSs_cons, eS_expr]
  exact SG.lift1 (k := fun y => kSs C ss (kExp σ y)) p hE (fun _ _ => rfl) fun a d q => by simp only [kExp_ok, kSs_nx]; exact h a
theorem SG.aug {f : Int → R τ} {q : Nat} {y : Int} {x : R Int} {ex : SL.E} (hs : σ[q]? = some (some (eI y))) (p : SI X S (evE C ex σ S) x) (hE : E σ S) (h : ∀ a, SG X O E (evSs C ss (σ.set q (some (eI (y + a)))) S) (f a)) : SG X O E (evSs C (.cons (.aug q .add ex) ss) σ S) (x.bind f) := by
  rw [eSs_cons, eS_aug, hs]
  exact SG.lift1 (k := fun z => kSs C ss (kAug σ q .add (.int y) z)) p hE (fun _ _ => rfl) fun a d w => by subst w; simp only [kAug_add, kSs_nx]; exact h a
theorem SG.augm {f : Int → R τ} {q : Nat} {y : Int} {x : R Int} {ex : SL.E} (hs : σ[q]? = some (some (eI y))) (p : SI X S (evE C ex σ S) x) (hE : E σ S) (h : ∀ a, SG X O E (evSs C ss (σ.set q (some (eI (y - a)))) S) (f a)) : SG X O E (evSs C (.cons (.aug q .sub ex) ss) σ S) (x.bind f) := by
  rw [eSs_cons, eS_aug, hs]
  exact SG.lift1 (k := fun z => kSs C ss (kAug σ q .sub (.int y) z)) p hE (fun _ _ => rfl) fun a d w => by subst w; simp only [kAug_sub, kSs_nx]; exact h a
theorem SG.ret {f : α → R τ} {ex : SL.E} (p : SA X A S (evE C ex σ S) x) (hE : E σ S) (h : ∀ a d, A S d a → SG X O E (.ok (.rt d) S) (f a)) : SG X O E (evSs C (.cons (.ret ex) ss) σ S) (x.bind f) := by
  rw [eSs_cons, eS_ret]
  exact SG.lift1 (k := fun y => kSs C ss (kRt σ y)) p hE (fun _ _ => rfl) fun a d q => by simp only [kRt_ok, kSs_rt]; exact h a d q
theorem SG.retN {f : R τ} (h : SG X O E (.ok (.rt .non) S) f) : SG X O E (evSs C (.cons .retN ss) σ S) f := by
  rw [eSs_cons, eS_retN, kSs_rt]; exact h
theorem SG.ret0 {x : R τ} {A : Rel τ} {ex : SL.E} (p : SA X A S (evE C ex σ S) x) (hE : E σ S) (h : ∀ a d, A S d a → O a (.ok (.rt d) S)) : SG X O E (evSs C (.cons (.ret ex) ss) σ S) x :=
  (SG.ret (f := .ok) p hE fun a d q => h a d q).eq (by simp)
theorem SG.retP {ex : SL.E} {v : α} {w : τ} (p : SA X A S (evE C ex σ S) (.ok v)) (h : ∀ d, A S d v → O w (.ok (.rt d) S)) : SG X O E (evSs C (.cons (.ret ex) ss) σ S) (.ok w) := by
  obtain ⟨d, h1, h2⟩ := p
  rw [eSs_cons, eS_ret, h1, kRt_ok, kSs_rt]
  exact h d h2
theorem SG.retO {i j : Nat} {w : τ} (hq : σ[i]? = some (some (.ref j))) (h : O w (.ok (.rt (.ref j)) S)) : SG X O E (evSs C (.cons (.ret (.var i)) ss) σ S) (.ok w) := by
  rw [eSs_cons, eS_ret, evar hq rfl, kRt_ok, kSs_rt]
  exact h
theorem SG.nil {f : R τ} (h : SG X O E (.ok (.nx σ) S) f) : SG X O E (evSs C .nil σ S) f := by rw [eSs_nil]; exact h
theorem SG.brk {f : R τ} (h : SG X O E (.ok (.bk σ) S) f) : SG X O E (evSs C (.cons .brk ss) σ S) f := by rw [eSs_cons, eS_brk, kSs_bk]; exact h
theorem SG.cont {f : R τ} (h : SG X O E (.ok (.ct σ) S) f) : SG X O E (evSs C (.cons .cont ss) σ S) f := by rw [eSs_cons, eS_cont, kSs_ct]; exact h
theorem SG.pass {f : R τ} (h : SG X O E (evSs C ss σ S) f) : SG X O E (evSs C (.cons .pass ss) σ S) f := by rw [eSs_cons, eS_pass, kSs_nx]; exact h
theorem SG.raise {P : Prog} {n k c' : Nat} (hk : X.ok k = true) (hc : X.f k = c') (hE : E σ S) : SG X O E (evSs (mkC P n) (.cons (.raise_ c' .nil) ss) σ S) (.exc k [] : R τ) :=
  ⟨hk, σ, S, by rw [eSs_cons, eS_raise]; simp [hc], hE⟩
/-! blocks one behind the other -/
def Ss.app : Ss → Ss → Ss | .nil, t => t | .cons s r, t => .cons s (r.app t)
theorem kSs_app : ∀ (b : Ss) (σ : Slots) (S : Store), kSs C ss (evSs C b σ S) = evSs C (b.app ss) σ S
  | .nil, σ, S => by rw [eSs_nil, kSs_nx]; rfl
  | .cons s r, σ, S => by
    show kSs C ss (evSs C (.cons s r) σ S) = evSs C (.cons s (r.app ss)) σ S
    rw [eSs_cons, eSs_cons]
    cases h : evS C s σ S with
    | ok o S1 =>
      cases o with
      | nx σ' => rw [kSs_nx, kSs_nx]; exact kSs_app r σ' S1
      | _ => rfl
    | exc c fs S1 => rfl
    | stuck => rfl
theorem kSs_out (h : isOut r) : kSs C ss r = r := by
  cases r with
  | ok o S => cases o <;> first | rfl | exact h.elim
  | _ => exact h.elim
theorem SG.out (h : SG X (ON O) E r t) : SG X O E (kSs C ss r) t := by
  cases t with
  | ok a => show O a _; rw [kSs_out h.1]; exact h.2
  | exc c fs => obtain ⟨h1, σ, S, h2, h3⟩ := h; exact ⟨h1, σ, S, by rw [h2]; rfl, h3⟩
  | no => trivial
theorem SG.join {N : Ns s} {u : R s} {k : s → R τ} (h : SG X (NX N) E r u) (hk : ∀ v σ S, N v σ S → SG X O E (evSs C ss σ S) (k v)) : SG X O E (kSs C ss r) (u.bind k) := by
  cases u with
  | ok a => obtain ⟨σ, S, h1, h2⟩ := h; rw [h1, kSs_nx]; exact hk a σ S h2
  | exc c fs => obtain ⟨h1, σ, S, h2, h3⟩ := h; exact ⟨h1, σ, S, by rw [h2]; rfl, h3⟩
  | no => trivial
theorem SG.joinF {N : Ns s} {u : R (s ⊕ τ)} {k : s → R τ} (h : SG X (OL N O) E r u) (hk : ∀ v σ S, N v σ S → SG X O E (evSs C ss σ S) (k v)) : SG X O E (kSs C ss r) (u.fall k) := by
  cases u with
  | ok q =>
    cases q with
    | inl a => obtain ⟨σ, S, h1, h2⟩ := h; rw [h1, kSs_nx]; exact hk a σ S h2
    | inr a => show O a _; rw [kSs_out h.1]; exact h.2
  | exc c fs => obtain ⟨h1, σ, S, h2, h3⟩ := h; exact ⟨h1, σ, S, by rw [h2]; rfl, h3⟩
  | no => trivial
variable {q : R Bool} {sa sb : Ss} {ta tb : R τ}
theorem SG.ite (p : SB X S (evE C c σ S) q) (hE : E σ S) (ha : SG X O E (kSs C ss (evSs C sa σ S)) ta) (hb : SG X O E (kSs C ss (evSs C sb σ S)) tb) : SG X O E (evSs C (.cons (.ite c sa sb) ss) σ S) (q.bind fun q => if q = true then ta else tb) := by
  rw [eSs_cons, eS_ite]
  exact SG.lift1 (k := fun y => kSs C ss (kIt C sa sb σ y)) p hE (fun _ _ => rfl) fun a d w => by
    subst w
    simp only [kIt_ok]
    split
    · exact ha
    · exact hb
theorem SG.iteL (p : SB X S (evE C c σ S) q) (hE : E σ S) (ha : SG X (ON O) E (evSs C sa σ S) ta) (hb : SG X O E (evSs C (sb.app ss) σ S) tb) : SG X O E (evSs C (.cons (.ite c sa sb) ss) σ S) (q.bind fun q => if q = true then ta else tb) :=
  SG.ite p hE ha.out (by rw [kSs_app]; exact hb)
theorem SG.iteR (p : SB X S (evE C c σ S) q) (hE : E σ S) (ha : SG X O E (evSs C (sa.app ss) σ S) ta) (hb : SG X (ON O) E (evSs C sb σ S) tb) : SG X O E (evSs C (.cons (.ite c sa sb) ss) σ S) (q.bind fun q => if q = true then ta else tb) :=
  SG.ite p hE (by rw [kSs_app]; exact ha) hb.out
theorem SG.iteD (p : SB X S (evE C c σ S) q) (hE : E σ S) (ha : SG X (ON O) E (evSs C sa σ S) ta) (hb : SG X (ON O) E (evSs C sb σ S) tb) : SG X O E (evSs C (.cons (.ite c sa sb) ss) σ S) (q.bind fun q => if q = true then ta else tb) :=
  SG.ite p hE ha.out hb.out
theorem SG.ite1 {c : SL.E} (p : SB X S (evE C c σ S) q) (hE : E σ S) (ha : SG X O E (evSs C sa σ S) ta) (hb : SG X O E (evSs C sb σ S) tb) : SG X O E (evS C (.ite c sa sb) σ S) (q.bind fun q => if q = true then ta else tb) := by
  rw [eS_ite]
  exact SG.lift1 (k := fun y => kIt C sa sb σ y) p hE (fun _ _ => rfl) fun a d w => by
    subst w
    simp only [kIt_ok]
    split
    · exact ha
    · exact hb
theorem SG.iteJ {N : Ns s} {ua ub : R s} {k : s → R τ} (p : SB X S (evE C c σ S) q) (hE : E σ S) (ha : SG X (NX N) E (evSs C sa σ S) ua) (hb : SG X (NX N) E (evSs C sb σ S) ub) (hk : ∀ v σ S, N v σ S → SG X O E (evSs C ss σ S) (k v)) :
    SG X O E (evSs C (.cons (.ite c sa sb) ss) σ S) ((q.bind fun q => if q = true then ua else ub).bind k) := by
  rw [eSs_cons]
  exact SG.join (SG.ite1 p hE ha hb) hk
theorem SG.iteF {N : Ns s} {ua ub : R (s ⊕ τ)} {k : s → R τ} (p : SB X S (evE C c σ S) q) (hE : E σ S) (ha : SG X (OL N O) E (evSs C sa σ S) ua) (hb : SG X (OL N O) E (evSs C sb σ S) ub) (hk : ∀ v σ S, N v σ S → SG X O E (evSs C ss σ S) (k v)) :
    SG X O E (evSs C (.cons (.ite c sa sb) ss) σ S) ((q.bind fun q => if q = true then ua else ub).fall k) := by
  rw [eSs_cons]
  exact SG.joinF (SG.ite1 p hE ha hb) hk
/-! loops -/
theorem loopS {step : D → Slots → Store → Res Out} {g : α → D} {gd : Option (Nat × List D)} {N : Ns s} {f : s → α → R s} (ok : ∀ v σ S, N v σ S → Walk.ok gd S = true)
    (hb : ∀ x v σ S, N v σ S → SG X (LB N) E (step (g x) σ S) (f v x)) : ∀ (xs : List α) (v : s) (σ : Slots) (S : Store), N v σ S → SG X (NX N) E (forLoop step gd (xs.map g) σ S) (foldR f v xs)
  | [], v, σ, S, i => by simp only [List.map_nil, forLoop, ok v σ S i, if_true]; exact ⟨σ, S, rfl, i⟩
  | x :: xs, v, σ, S, i => by
    have h1 := hb x v σ S i
    simp only [List.map_cons, forLoop, ok v σ S i, if_true]
    unfold foldR
    cases hf : f v x with
    | ok v' =>
      rw [hf] at h1
      obtain ⟨σ', S', h2 | h2, h3⟩ := h1
      · rw [h2]; exact loopS ok hb xs v' σ' S' h3
      · rw [h2]; exact loopS ok hb xs v' σ' S' h3
    | exc c fs => rw [hf] at h1; obtain ⟨h2, σ', S', h3, h4⟩ := h1; exact ⟨h2, σ', S', by rw [h3]; rfl, h4⟩
    | no => trivial
theorem loopX {step : D → Slots → Store → Res Out} {g : α → D} {gd : Option (Nat × List D)} {N : Ns s} {f : s → α → R (Stp s τ)} (ok : ∀ v σ S, N v σ S → Walk.ok gd S = true)
    (hb : ∀ x v σ S, N v σ S → SG X (LX N O) E (step (g x) σ S) (f v x)) : ∀ (xs : List α) (v : s) (σ : Slots) (S : Store), N v σ S → SG X (OL N O) E (forLoop step gd (xs.map g) σ S) (foldX f v xs)
  | [], v, σ, S, i => by simp only [List.map_nil, forLoop, ok v σ S i, if_true]; exact ⟨σ, S, rfl, i⟩
  | x :: xs, v, σ, S, i => by
    have h1 := hb x v σ S i
    simp only [List.map_cons, forLoop, ok v σ S i, if_true]
    unfold foldX
    cases hf : f v x with
    | ok w =>
      rw [hf] at h1
      cases w with
      | go v' =>
        obtain ⟨σ', S', h2 | h2, h3⟩ := h1
        · rw [h2]; exact loopX ok hb xs v' σ' S' h3
        · rw [h2]; exact loopX ok hb xs v' σ' S' h3
      | stop v' => obtain ⟨σ', S', h2, h3⟩ := h1; rw [h2]; exact ⟨σ', S', rfl, h3⟩
      | out v' =>
        obtain ⟨⟨d, S', h2⟩, h3⟩ := h1
        rw [h2] at h3 ⊢
        exact ⟨trivial, h3⟩
    | exc c fs => rw [hf] at h1; obtain ⟨h2, σ', S', h3, h4⟩ := h1; exact ⟨h2, σ', S', by rw [h3]; rfl, h4⟩
    | no => trivial
variable {P : Prog} {n : Nat} {tg : Tg} {it : It} {bd : Ss}
theorem SG.forS {g : α → D} {gd : Option (Nat × List D) → Prop} {y : R (List α)} {N : Ns s} {f : s → α → R s} {k : s → R τ} {v0 : s} (p : SW X g gd S (evIt (mkC P n) it σ S) y) (hE : E σ S) (h0 : N v0 σ S) (hg : ∀ q, gd q → ∀ v σ S, N v σ S → Walk.ok q S = true)
    (hb : ∀ x v σ S, N v σ S → SG X (LB N) E (fstep (mkC P n) tg bd (g x) σ S) (f v x)) (hk : ∀ v σ S, N v σ S → SG X O E (evSs (mkC P n) ss σ S) (k v)) :
    SG X O E (evSs (mkC P n) (.cons (.for_ tg it bd) ss) σ S) (y.bind fun xs => (foldR f v0 xs).bind k) := by
  rw [eSs_cons, eS_for]
  cases y with
  | ok xs =>
    obtain ⟨q, h1, h2⟩ := p
    rw [h1, kFor_ok]
    show SG X O E _ ((foldR f v0 xs).bind k)
    exact SG.join (loopS (hg q h2) hb xs v0 σ S h0) hk
  | exc c fs => exact ⟨p.1, σ, S, by rw [p.2]; rfl, hE⟩
  | no => trivial
theorem SG.forX {g : α → D} {gd : Option (Nat × List D) → Prop} {y : R (List α)} {N : Ns s} {f : s → α → R (Stp s τ)} {k : s → R τ} {v0 : s} (p : SW X g gd S (evIt (mkC P n) it σ S) y) (hE : E σ S) (h0 : N v0 σ S) (hg : ∀ q, gd q → ∀ v σ S, N v σ S → Walk.ok q S = true)
    (hb : ∀ x v σ S, N v σ S → SG X (LX N O) E (fstep (mkC P n) tg bd (g x) σ S) (f v x)) (hk : ∀ v σ S, N v σ S → SG X O E (evSs (mkC P n) ss σ S) (k v)) :
    SG X O E (evSs (mkC P n) (.cons (.for_ tg it bd) ss) σ S) (y.bind fun xs => (foldX f v0 xs).fall k) := by
  rw [eSs_cons, eS_for]
  cases y with
  | ok xs =>
    obtain ⟨q, h1, h2⟩ := p
    rw [h1, kFor_ok]
    show SG X O E _ ((foldX f v0 xs).fall k)
    exact SG.joinF (loopX (hg q h2) hb xs v0 σ S h0) hk
  | exc c fs => exact ⟨p.1, σ, S, by rw [p.2]; rfl, hE⟩
  | no => trivial
theorem SG.step {d : D} {σ1 : Slots} {v : R τ} (ht : tgSet tg d σ S = .ok σ1 S) (h : SG X O E (evSs C bd σ1 S) v) : SG X O E (fstep C tg bd d σ S) v := by
  rw [fstep_eq, ht]; exact h
theorem loopW {cf : Slots → Store → Res D} {bf : Slots → Store → Res Out} {N : Ns s} {c : s → R Bool} {f : s → R (Stp s τ)} (hE : ∀ v σ S, N v σ S → E σ S)
    (hc : ∀ v σ S, N v σ S → SB X S (cf σ S) (c v)) (hb : ∀ v σ S, N v σ S → SG X (LX N O) E (bf σ S) (f v)) :
    ∀ (m : Nat) (v : s) (σ : Slots) (S : Store), N v σ S → SG X (OL N O) E (whileLoop cf bf m σ S) (whileX c f m v)
  | 0, v, σ, S, i => trivial
  | m + 1, v, σ, S, i => by
    have h0 := hc v σ S i
    unfold whileLoop whileX
    cases hq : c v with
    | exc e fs => rw [hq] at h0; exact ⟨h0.1, σ, S, by rw [h0.2]; rfl, hE v σ S i⟩
    | no => trivial
    | ok b =>
      rw [hq] at h0
      obtain ⟨d, h1, rfl⟩ := h0
      rw [h1]
      cases b with
      | false => exact ⟨σ, S, rfl, i⟩
      | true =>
        have h1 := hb v σ S i
        simp only [lift_ok, R.bind_ok, if_true]
        cases hf : f v with
        | ok w =>
          rw [hf] at h1
          cases w with
          | go v' =>
            obtain ⟨σ', S', h2 | h2, h3⟩ := h1
            · rw [h2]; exact loopW hE hc hb m v' σ' S' h3
            · rw [h2]; exact loopW hE hc hb m v' σ' S' h3
          | stop v' => obtain ⟨σ', S', h2, h3⟩ := h1; rw [h2]; exact ⟨σ', S', rfl, h3⟩
          | out v' =>
            obtain ⟨⟨d, S', h2⟩, h3⟩ := h1
            rw [h2] at h3 ⊢
            exact ⟨trivial, h3⟩
        | exc c fs => rw [hf] at h1; obtain ⟨h2, σ', S', h3, h4⟩ := h1; exact ⟨h2, σ', S', by rw [h3]; rfl, h4⟩
        | no => trivial
theorem SG.while {N : Ns s} {cf : s → R Bool} {f : s → R (Stp s τ)} {k : s → R τ} {v0 : s} {ce : SL.E} (hE : ∀ v σ S, N v σ S → E σ S) (h0 : N v0 σ S) (hc : ∀ v σ S, N v σ S → SB X S (evE (mkC P n) ce σ S) (cf v))
    (hb : ∀ v σ S, N v σ S → SG X (LX N O) E (evSs (mkC P n) bd σ S) (f v)) (hk : ∀ v σ S, N v σ S → SG X O E (evSs (mkC P n) ss σ S) (k v)) :
    SG X O E (evSs (mkC P n) (.cons (.while_ ce bd) ss) σ S) ((whileF cf f v0).fall k) := by
  rw [eSs_cons, eS_while, whileF_def]
  exact SG.joinF (loopW hE hc hb FUEL v0 σ S h0) hk
/-! a def's own lists -/
theorem lstAt_ref {i : Nat} {ds : List D} (h : S[i]? = some (.lst ds)) : lstAt S (.ref i) = some (i, ds) := by simp [lstAt, h]
theorem SG.append {e : α → D} {xs : List α} {f : List α → R τ} {i k q : Nat} {ex : SL.E} {o : Bool} (hq : σ[q]? = some (some (.ref i))) (H : Hp S0 S L) (hL : L[k]? = some (i, xs.map e)) (p : SA X (EQ e) S (evE (mkC P n) ex σ S) x) (hE : E σ S)
    (h : ∀ ys S', Hp S0 S' (L.set k (i, ys.map e)) → SG X O E (evSs (mkC P n) ss σ S') (f ys)) : SG X O E (evSs (mkC P n) (.cons (.expr (.mt o .append (.var q) (.cons ex .nil))) ss) σ S) (x.bind fun a => (appR xs a).bind f) := by
  rw [eSs_cons, eS_expr, eE_mt, evar hq rfl, kMt1_ok, if_pos (by rfl), eEs_cons]
  cases x with
  | ok a =>
    obtain ⟨d, h1, rfl⟩ := p
    rw [h1, kCons1_ok, eEs_nil, kCons2_ok, kMt2_ok]
    show SG X O E _ ((appR xs a).bind f)
    rw [appR_def]
    by_cases hl : xs.length < 16777216
    · rw [if_pos hl]
      have z : doMt o .append (.ref i) [e a] S = .ok .non (S.set i (.lst (xs.map e ++ [e a]))) := by
        simp only [doMt, lstAt_ref (H.at hL), List.length_map, LINE_eq, hl, if_true]
      rw [z, kExp_ok, kSs_nx]
      have := h (xs ++ [a]) (S.set i (.lst (xs.map e ++ [e a]))) (by simpa using H.set hL (xs.map e ++ [e a]))
      exact this
    · rw [if_neg hl]; trivial
  | exc c fs => exact ⟨p.1, σ, S, by rw [p.2]; rfl, hE⟩
  | no => trivial
theorem efz {i j : Nat} {ds : List D} (h : σ[i]? = some (some (.ref j))) (hS : S[j]? = some (.lst ds)) : evE C (.fz i) σ S = .ok (.vl ds) (S.set j .dead) := by
  rw [eE_fz, h]
  simp only [hS]
/-- a list of the def's own handed on: it stands still from here on -/
theorem SG.letF {e : α → D} {ys : List α} {f : R τ} {i j m q : Nat} (hq : σ[q]? = some (some (.ref j))) (H : Hp S0 S L) (hL : L[m]? = some (j, ys.map e)) (h : ∀ S', Hp S0 S' (L.eraseIdx m) → SG X O E (evSs C ss (σ.set i (some (eL e ys))) S') f) :
    SG X O E (evSs C (.cons (.asg (.name i) (.fz q)) ss) σ S) f := by
  rw [eSs_cons, eS_asg, efz hq (H.at hL), kAsg_ok, tgSet_name, kNx_ok, kSs_nx]
  exact h _ (H.free hL _)
theorem SG.move {f : R τ} {i j q : Nat} (hq : σ[q]? = some (some (.ref j))) (h : SG X O E (evSs C ss (σ.set i (some (.ref j))) S) f) :
    SG X O E (evSs C (.cons (.asg (.name i) (.var q)) ss) σ S) f := by
  rw [eSs_cons, eS_asg, evar hq rfl, kAsg_ok, tgSet_name, kNx_ok, kSs_nx]
  exact h
theorem SG.appendF {e : α → D} {xs : List (List α)} {ys : List α} {f : List (List α) → R τ} {i j k m q q2 : Nat} {o : Bool} (hq : σ[q]? = some (some (.ref i))) (H : Hp S0 S L) (hL : L[k]? = some (i, xs.map (eL e))) (hq2 : σ[q2]? = some (some (.ref j))) (hM : L[m]? = some (j, ys.map e)) (hkm : k < m)
    (h : ∀ zs S', Hp S0 S' ((L.eraseIdx m).set k (i, zs.map (eL e))) → SG X O E (evSs (mkC P n) ss σ S') (f zs)) : SG X O E (evSs (mkC P n) (.cons (.expr (.mt o .append (.var q) (.cons (.fz q2) .nil))) ss) σ S) ((appR xs ys).bind f) := by
  rw [eSs_cons, eS_expr, eE_mt, evar hq rfl, kMt1_ok, if_pos (by rfl), eEs_cons, efz hq2 (H.at hM), kCons1_ok, eEs_nil, kCons2_ok, kMt2_ok]
  have H1 := H.free hM .dead
  have hL1 : (L.eraseIdx m)[k]? = some (i, xs.map (eL e)) := by rw [List.getElem?_eraseIdx, if_pos hkm]; exact hL
  rw [appR_def]
  by_cases hl : xs.length < 16777216
  · rw [if_pos hl]
    have z : doMt o .append (.ref i) [.vl (ys.map e)] (S.set j .dead) = .ok .non ((S.set j .dead).set i (.lst (xs.map (eL e) ++ [.vl (ys.map e)]))) := by
      simp only [doMt, lstAt_ref (H1.at hL1), List.length_map, LINE_eq, hl, if_true]
    rw [z, kExp_ok, kSs_nx]
    exact h (xs ++ [ys]) _ (by simpa using H1.set hL1 (xs.map (eL e) ++ [.vl (ys.map e)]))
  · rw [if_neg hl]; trivial
/-- the same where the list handed on stands ahead -/
theorem SG.appendF' {e : α → D} {xs : List (List α)} {ys : List α} {f : List (List α) → R τ} {i j k m q q2 : Nat} {o : Bool} (hq : σ[q]? = some (some (.ref i))) (H : Hp S0 S L) (hL : L[k + 1]? = some (i, xs.map (eL e))) (hq2 : σ[q2]? = some (some (.ref j))) (hM : L[m]? = some (j, ys.map e)) (hkm : m < k + 1)
    (h : ∀ zs S', Hp S0 S' ((L.eraseIdx m).set k (i, zs.map (eL e))) → SG X O E (evSs (mkC P n) ss σ S') (f zs)) : SG X O E (evSs (mkC P n) (.cons (.expr (.mt o .append (.var q) (.cons (.fz q2) .nil))) ss) σ S) ((appR xs ys).bind f) := by
  rw [eSs_cons, eS_expr, eE_mt, evar hq rfl, kMt1_ok, if_pos (by rfl), eEs_cons, efz hq2 (H.at hM), kCons1_ok, eEs_nil, kCons2_ok, kMt2_ok]
  have H1 := H.free hM .dead
  have hL1 : (L.eraseIdx m)[k]? = some (i, xs.map (eL e)) := by rw [List.getElem?_eraseIdx, if_neg (by omega)]; exact hL
  rw [appR_def]
  by_cases hl : xs.length < 16777216
  · rw [if_pos hl]
    have z : doMt o .append (.ref i) [.vl (ys.map e)] (S.set j .dead) = .ok .non ((S.set j .dead).set i (.lst (xs.map (eL e) ++ [.vl (ys.map e)]))) := by
      simp only [doMt, lstAt_ref (H1.at hL1), List.length_map, LINE_eq, hl, if_true]
    rw [z, kExp_ok, kSs_nx]
    exact h (xs ++ [ys]) _ (by simpa using H1.set hL1 (xs.map (eL e) ++ [.vl (ys.map e)]))
  · rw [if_neg hl]; trivial
/-- what a list may be made longer by -/
abbrev XS {α : Type} (e : α → D) : Rel (List α) := fun S d xs => extOf S d = some (xs.map e)
theorem SA.tx {e : α → D} {S : Store} {r : Res D} {t : R (List α)} (h : SA X (EQ (eT e)) S r t) : SA X (XS e) S r t := h.mono fun d a q => by subst q; rfl
theorem SA.lx {e : α → D} {S : Store} {r : Res D} {t : R (List α)} (h : SA X (LH e) S r t) : SA X (XS e) S r t := h.mono fun d a q => by
  have q : itemsH S d = some (a.map e) := q
  cases d <;> first | (exfalso; revert q; simp [itemsH]; done) | exact q
theorem SG.extend {e : α → D} {xs : List α} {y : R (List α)} {f : List α → R τ} {i k q : Nat} {ex : SL.E} {o : Bool} (hq : σ[q]? = some (some (.ref i))) (H : Hp S0 S L) (hL : L[k]? = some (i, xs.map e)) (p : SA X (XS e) S (evE (mkC P n) ex σ S) y) (hE : E σ S)
    (h : ∀ ys S', Hp S0 S' (L.set k (i, ys.map e)) → SG X O E (evSs (mkC P n) ss σ S') (f ys)) : SG X O E (evSs (mkC P n) (.cons (.expr (.mt o .extend (.var q) (.cons ex .nil))) ss) σ S) (y.bind fun a => (catR xs a).bind f) := by
  rw [eSs_cons, eS_expr, eE_mt, evar hq rfl, kMt1_ok, if_pos (by rfl), eEs_cons]
  cases y with
  | ok a =>
    obtain ⟨d, h1, h2⟩ := p
    have h2 : extOf S d = some (a.map e) := h2
    rw [h1, kCons1_ok, eEs_nil, kCons2_ok, kMt2_ok]
    show SG X O E _ ((catR xs a).bind f)
    rw [catR_def]
    by_cases hl : xs.length + a.length ≤ 16777216
    · rw [if_pos hl]
      have z : doMt o .extend (.ref i) [d] S = .ok .non (S.set i (.lst (xs.map e ++ a.map e))) := by
        simp only [doMt, lstAt_ref (H.at hL), h2, List.length_map, LINE_eq, hl, if_true]
      rw [z, kExp_ok, kSs_nx]
      exact h (xs ++ a) (S.set i (.lst (xs.map e ++ a.map e))) (by simpa using H.set hL (xs.map e ++ a.map e))
    · rw [if_neg hl]; trivial
  | exc c fs => exact ⟨p.1, σ, S, by rw [p.2]; rfl, hE⟩
  | no => trivial
theorem SG.insert {e : α → D} {xs : List α} {y : R Int} {f : List α → R τ} {i k q : Nat} {e1 ex : SL.E} {o : Bool} (hq : σ[q]? = some (some (.ref i))) (H : Hp S0 S L) (hL : L[k]? = some (i, xs.map e)) (p1 : SI X S (evE (mkC P n) e1 σ S) y) (p : SA X (EQ e) S (evE (mkC P n) ex σ S) x) (hE : E σ S)
    (h : ∀ ys S', Hp S0 S' (L.set k (i, ys.map e)) → SG X O E (evSs (mkC P n) ss σ S') (f ys)) : SG X O E (evSs (mkC P n) (.cons (.expr (.mt o .insert (.var q) (.cons e1 (.cons ex .nil)))) ss) σ S) (y.bind fun j => x.bind fun a => (insR xs j a).bind f) := by
  rw [eSs_cons, eS_expr, eE_mt, evar hq rfl, kMt1_ok, if_pos (by rfl), eEs_cons]
  cases y with
  | ok j =>
    obtain ⟨d, h1, rfl⟩ := p1
    rw [h1, kCons1_ok, eEs_cons]
    cases x with
    | ok a =>
      obtain ⟨d, h1, rfl⟩ := p
      rw [h1, kCons1_ok, eEs_nil, kCons2_ok, kCons2_ok, kMt2_ok]
      show SG X O E _ ((insR xs j a).bind f)
      rw [insR_def]
      by_cases hl : xs.length < 16777216 ∧ 0 ≤ j ∧ j < 1000000
      · rw [if_pos hl]
        have z : doMt o .insert (.ref i) [.int j, e a] S = .ok .non (S.set i (.lst ((xs.map e).take j.toNat ++ e a :: (xs.map e).drop j.toNat))) := by
          simp only [doMt, lstAt_ref (H.at hL), List.length_map, LINE_eq, hl, and_self, if_true]
        rw [z, kExp_ok, kSs_nx]
        have := h (xs.take j.toNat ++ a :: xs.drop j.toNat) (S.set i (.lst ((xs.map e).take j.toNat ++ e a :: (xs.map e).drop j.toNat))) (by
          have := H.set hL ((xs.map e).take j.toNat ++ e a :: (xs.map e).drop j.toNat)
          simpa [List.map_take, List.map_drop] using this)
        exact this
      · rw [if_neg hl]; trivial
    | exc c fs => exact ⟨p.1, σ, S, by rw [p.2]; rfl, hE⟩
    | no => trivial
  | exc c fs => exact ⟨p1.1, σ, S, by rw [p1.2]; rfl, hE⟩
  | no => trivial
theorem SG.setix {e : α → D} {xs : List α} {y : R Int} {f : List α → R τ} {i k q : Nat} {e1 ex : SL.E} (hq : σ[q]? = some (some (.ref i))) (H : Hp S0 S L) (hL : L[k]? = some (i, xs.map e)) (p : SA X (EQ e) S (evE C ex σ S) x) (p1 : SI X S (evE C e1 σ S) y) (hE : E σ S)
    (h : ∀ ys S', Hp S0 S' (L.set k (i, ys.map e)) → SG X O E (evSs C ss σ S') (f ys)) : SG X O E (evSs C (.cons (.set (.var q) e1 ex) ss) σ S) (x.bind fun a => y.bind fun j => (setR xs j a).bind f) := by
  rw [eSs_cons, eS_set]
  cases x with
  | ok a =>
    obtain ⟨d, h1, rfl⟩ := p
    rw [h1, kSet1_ok, evar hq rfl, kSet2_ok]
    cases y with
    | ok j =>
      obtain ⟨d, h1, rfl⟩ := p1
      rw [h1, kSet3_ok, lstAt_ref (H.at hL)]
      show SG X O E _ ((setR xs j a).bind f)
      rw [setR_def]
      simp only [List.length_map]
      cases hj : ixN xs.length j with
      | none => trivial
      | some m =>
        simp only [kSs_nx]
        exact h (xs.set m a) _ (by simpa [List.map_set] using H.set hL ((xs.map e).set m (e a)))
    | exc c fs => exact ⟨p1.1, σ, S, by rw [p1.2]; rfl, hE⟩
    | no => trivial
  | exc c fs => exact ⟨p.1, σ, S, by rw [p.2]; rfl, hE⟩
  | no => trivial
theorem pop_z {e : α → D} {xs ys : List α} {a : α} {i k : Nat} {o : Bool} (H : Hp S0 S L) (hL : L[k]? = some (i, xs.map e)) (hp : popR xs = .ok (a, ys)) : doMt o .pop0 (.ref i) [] S = .ok (e a) (S.set i (.lst (ys.map e))) := by
  rw [popR_def] at hp
  simp only [doMt, lstAt_ref (H.at hL), List.getLast?_map]
  cases hx : xs.getLast? with
  | none => rw [hx] at hp; cases hp
  | some b => rw [hx] at hp; cases hp; simp
theorem SG.pop {e : α → D} {xs : List α} {f : α × List α → R τ} {i k q : Nat} {o : Bool} (hq : σ[q]? = some (some (.ref i))) (H : Hp S0 S L) (hL : L[k]? = some (i, xs.map e))
    (h : ∀ p S', Hp S0 S' (L.set k (i, p.2.map e)) → SG X O E (evSs (mkC P n) ss σ S') (f p)) : SG X O E (evSs (mkC P n) (.cons (.expr (.mt o .pop0 (.var q) .nil)) ss) σ S) ((popR xs).bind f) := by
  rw [eSs_cons, eS_expr, eE_mt, evar hq rfl, kMt1_ok, if_pos (by rfl), eEs_nil, kMt2_ok]
  cases hp : popR xs with
  | ok p =>
    obtain ⟨a, ys⟩ := p
    rw [pop_z H hL hp, kExp_ok, kSs_nx]
    exact h (a, ys) _ (H.set hL _)
  | exc c fs => rw [popR_def] at hp; split at hp <;> cases hp
  | no => trivial
theorem SG.letPop {e : α → D} {xs : List α} {f : α × List α → R τ} {i k q v : Nat} {o : Bool} (hq : σ[q]? = some (some (.ref i))) (H : Hp S0 S L) (hL : L[k]? = some (i, xs.map e))
    (h : ∀ p S', Hp S0 S' (L.set k (i, p.2.map e)) → SG X O E (evSs (mkC P n) ss (σ.set v (some (e p.1))) S') (f p)) : SG X O E (evSs (mkC P n) (.cons (.asg (.name v) (.mt o .pop0 (.var q) .nil)) ss) σ S) ((popR xs).bind f) := by
  rw [eSs_cons, eS_asg, eE_mt, evar hq rfl, kMt1_ok, if_pos (by rfl), eEs_nil, kMt2_ok]
  cases hp : popR xs with
  | ok p =>
    obtain ⟨a, ys⟩ := p
    rw [pop_z H hL hp, kAsg_ok, tgSet_name, kNx_ok, kSs_nx]
    exact h (a, ys) _ (H.set hL _)
  | exc c fs => rw [popR_def] at hp; split at hp <;> cases hp
  | no => trivial
theorem eraseIdx_map' {e : α → D} : ∀ (xs : List α) (m : Nat), (xs.map e).eraseIdx m = (xs.eraseIdx m).map e
  | [], _ => by simp
  | x :: xs, 0 => by simp
  | x :: xs, m + 1 => by simp [eraseIdx_map' xs m]
theorem popAt_z {e : α → D} {xs ys : List α} {a : α} {i k : Nat} {j : Int} {o : Bool} (H : Hp S0 S L) (hL : L[k]? = some (i, xs.map e)) (hp : popAtR xs j = .ok (a, ys)) : doMt o .pop1 (.ref i) [.int j] S = .ok (e a) (S.set i (.lst (ys.map e))) := by
  rw [popAtR_def] at hp
  simp only [doMt, lstAt_ref (H.at hL), List.length_map]
  cases hx : ixN xs.length j with
  | none => rw [hx] at hp; cases hp
  | some m =>
    rw [hx] at hp
    simp only at hp ⊢
    rw [List.getElem?_map]
    cases hy : xs[m]? with
    | none => rw [hy] at hp; cases hp
    | some b => rw [hy] at hp; cases hp; simp [eraseIdx_map']
theorem SG.letPopAt {e : α → D} {xs : List α} {y : R Int} {e1 : SL.E} {f : α × List α → R τ} {i k q v : Nat} {o : Bool} (hq : σ[q]? = some (some (.ref i))) (H : Hp S0 S L) (hL : L[k]? = some (i, xs.map e)) (p1 : SI X S (evE (mkC P n) e1 σ S) y) (hE : E σ S)
    (h : ∀ p S', Hp S0 S' (L.set k (i, p.2.map e)) → SG X O E (evSs (mkC P n) ss (σ.set v (some (e p.1))) S') (f p)) : SG X O E (evSs (mkC P n) (.cons (.asg (.name v) (.mt o .pop1 (.var q) (.cons e1 .nil))) ss) σ S) (y.bind fun j => (popAtR xs j).bind f) := by
  rw [eSs_cons, eS_asg, eE_mt, evar hq rfl, kMt1_ok, if_pos (by rfl), eEs_cons]
  cases y with
  | ok j =>
    obtain ⟨d, h1, rfl⟩ := p1
    rw [h1, kCons1_ok, eEs_nil, kCons2_ok, kMt2_ok]
    show SG X O E _ ((popAtR xs j).bind f)
    cases hp : popAtR xs j with
    | ok p =>
      obtain ⟨a, ys⟩ := p
      rw [popAt_z H hL hp, kAsg_ok, tgSet_name, kNx_ok, kSs_nx]
      exact h (a, ys) _ (H.set hL _)
    | exc c fs =>
      rw [popAtR_def] at hp
      split at hp
      · split at hp <;> cases hp
      · cases hp
    | no => trivial
  | exc c fs => exact ⟨p1.1, σ, S, by rw [p1.2]; rfl, hE⟩
  | no => trivial
theorem SG.popAt {e : α → D} {xs : List α} {y : R Int} {e1 : SL.E} {f : α × List α → R τ} {i k q : Nat} {o : Bool} (hq : σ[q]? = some (some (.ref i))) (H : Hp S0 S L) (hL : L[k]? = some (i, xs.map e)) (p1 : SI X S (evE (mkC P n) e1 σ S) y) (hE : E σ S)
    (h : ∀ p S', Hp S0 S' (L.set k (i, p.2.map e)) → SG X O E (evSs (mkC P n) ss σ S') (f p)) : SG X O E (evSs (mkC P n) (.cons (.expr (.mt o .pop1 (.var q) (.cons e1 .nil))) ss) σ S) (y.bind fun j => (popAtR xs j).bind f) := by
  rw [eSs_cons, eS_expr, eE_mt, evar hq rfl, kMt1_ok, if_pos (by rfl), eEs_cons]
  cases y with
  | ok j =>
    obtain ⟨d, h1, rfl⟩ := p1
    rw [h1, kCons1_ok, eEs_nil, kCons2_ok, kMt2_ok]
    show SG X O E _ ((popAtR xs j).bind f)
    cases hp : popAtR xs j with
    | ok p =>
      obtain ⟨a, ys⟩ := p
      rw [popAt_z H hL hp, kExp_ok, kSs_nx]
      exact h (a, ys) _ (H.set hL _)
    | exc c fs =>
      rw [popAtR_def] at hp
      cases hx : ixN xs.length j with
      | none => rw [hx] at hp; cases hp
      | some m =>
        rw [hx] at hp
        dsimp only at hp
        cases hy : xs[m]? with
        | none => rw [hy] at hp; cases hp
        | some b => rw [hy] at hp; cases hp
    | no => trivial
  | exc c fs => exact ⟨p1.1, σ, S, by rw [p1.2]; rfl, hE⟩
  | no => trivial
/-! try -/
def tryR {α : Type} (t : R α) (H : Nat → List D → Option (R α)) : R α := match t with
  | .ok a => .ok a
  | .exc c fs => match H c fs with | some u => u.calm | none => .exc c fs
  | .no => .no
def notEx : Res Out → Prop | .ok (.ex _ _ _) _ => False | _ => True
theorem kTry_ne {hs : Hs} {r : Res Out} (h : notEx r) : kTry C hs .nil r = r := by
  cases r with
  | ok o S =>
    cases o with
    | nx σ => rw [kTry_nx, eSs_nil]
    | ex c fs σ => exact h.elim
    | _ => rfl
  | _ => rfl
theorem noX_ne {r : Res Out} (h : notEx r) : noX r = r := by
  cases r with
  | ok o S => cases o <;> first | rfl | exact h.elim
  | _ => rfl
/-- the clauses -/
def SH (X : Cm) {τ : Type} (O : Ob τ) (E : Er) (c : Nat) (fs : List D) (r : Res Out) (u : Option (R τ)) : Prop := match u with
  | some u => SG X O E r u.calm
  | none => ∃ σ S, r = .ok (.ex (X.f c) fs σ) S ∧ E σ S
theorem SG.tryS {hs : Hs} {E' : Er} {u : R τ} {H : Nat → List D → Option (R τ)} (hne : ∀ v r, O v r → notEx r) (hb : SG X O E' (evSs (mkC P n) bd σ S) u)
    (hh : ∀ c fs σ' S', X.ok c = true → E' σ' S' → SH X O E c fs (evHs (mkC P n) hs (X.f c) fs σ' S') (H c fs)) : SG X O E (evS (mkC P n) (.try_ bd hs .nil) σ S) (tryR u H) := by
  rw [eS_try]
  cases u with
  | ok a =>
    have hb : O a _ := hb
    rw [kTry_ne (hne _ _ hb)]; exact hb
  | exc c fs =>
    obtain ⟨h1, σ', S', h2, h3⟩ := hb
    rw [h2, kTry_ex]
    have := hh c fs σ' S' h1 h3
    show SG X O E _ (match H c fs with | some u => u.calm | none => .exc c fs)
    cases hH : H c fs with
    | some u => rw [hH] at this; exact this
    | none => rw [hH] at this; obtain ⟨σ2, S2, h4, h5⟩ := this; exact ⟨h1, σ2, S2, h4, h5⟩
  | no => trivial
theorem SH.nil {c : Nat} {fs : List D} (h : E σ S) : SH X O E c fs (evHs C .nil (X.f c) fs σ S) none := ⟨σ, S, by simp, h⟩
theorem SH.cons {c k' : Nat} {fs : List D} {hs : Hs} {u : R τ} {H : Option (R τ)} {b : Bool} (hne : ∀ v r, O v r → notEx r) (hs' : C.sub (X.f c) k' = b) (h1 : b = true → SG X O E (evSs { C with hot := true } bd σ S) u) (h2 : SH X O E c fs (evHs C hs (X.f c) fs σ S) H) :
    SH X O E c fs (evHs C (.cons k' none bd hs) (X.f c) fs σ S) (if b = true then some u else H) := by
  rw [eHs_none, hs']
  by_cases hb : b = true
  · rw [if_pos hb, if_pos hb]
    have := h1 hb
    show SG X O E _ u.calm
    cases u with
    | ok a => have this : O a _ := this; rw [noX_ne (hne _ _ this)]; exact this
    | exc c fs => trivial
    | no => trivial
  · rw [if_neg hb, if_neg hb]; exact h2
theorem SH.consN {c k' i : Nat} {fs : List D} {hs : Hs} {u : R τ} {H : Option (R τ)} {b : Bool} {E1 : Er} (hne : ∀ v r, O v r → notEx r) (hs' : C.sub (X.f c) k' = b) (h1 : b = true → SG X (fun v r => O v (kHs i r)) E1 (evSs { C with hot := true } bd (σ.set i (some (.exn (X.f c) fs))) S) u) (h2 : SH X O E c fs (evHs C hs (X.f c) fs σ S) H) :
    SH X O E c fs (evHs C (.cons k' (some i) bd hs) (X.f c) fs σ S) (if b = true then some u else H) := by
  rw [eHs_some, hs']
  by_cases hb : b = true
  · rw [if_pos hb, if_pos hb]
    have := h1 hb
    show SG X O E _ u.calm
    cases u with
    | ok a =>
      have this : O a (kHs i _) := this
      have hn : notEx (evSs { C with hot := true } bd (σ.set i (some (.exn (X.f c) fs))) S) := by
        revert this
        generalize evSs { C with hot := true } bd (σ.set i (some (.exn (X.f c) fs))) S = r
        intro this
        cases r with
        | ok o S => cases o <;> first | trivial | exact hne _ _ this
        | _ => trivial
      rw [noX_ne hn]; exact this
    | exc c fs => trivial
    | no => trivial
  · rw [if_neg hb, if_neg hb]; exact h2
theorem SA.isx {i : Nat} {cs : List Nat} {c : Nat} {fs : List D} {b : Bool} (hq : σ[i]? = some (some (.exn (X.f c) fs))) (h : cs.any (C.sub (X.f c)) = b) : SB X S (evE C (.isx i cs) σ S) (.ok b) := by
  rw [eE_isx, hq]
  exact ⟨_, by rw [← h], rfl⟩
theorem SG.tryJ {hs : Hs} {E' : Er} {N : Ns s} {u : R s} {H : Nat → List D → Option (R s)} {k : s → R τ} (hb : SG X (NX N) E' (evSs (mkC P n) bd σ S) u)
    (hh : ∀ c fs σ' S', X.ok c = true → E' σ' S' → SH X (NX N) E c fs (evHs (mkC P n) hs (X.f c) fs σ' S') (H c fs)) (hk : ∀ v σ S, N v σ S → SG X O E (evSs (mkC P n) ss σ S) (k v)) :
    SG X O E (evSs (mkC P n) (.cons (.try_ bd hs .nil) ss) σ S) ((tryR u H).bind k) := by
  rw [eSs_cons]
  exact SG.join (SG.tryS (fun v r ⟨_, _, h, _⟩ => by rw [h]; trivial) hb hh) hk
theorem NX.ne {N : Ns s} : ∀ v r, NX N v r → notEx r := fun v r ⟨_, _, h, _⟩ => by rw [h]; trivial
theorem ON.ne : ∀ v r, ON O v r → notEx r := fun v r ⟨h, _⟩ => by
  cases r with
  | ok o S => cases o <;> first | trivial | exact h.elim
  | _ => trivial
theorem OL.ne {N : Ns s} : ∀ v r, OL N O v r → notEx r := fun v r h => by
  cases v with
  | inl v => exact NX.ne v r h
  | inr v => exact ON.ne v r h
theorem SG.tryF {hs : Hs} {E' : Er} {N : Ns s} {u : R (s ⊕ τ)} {H : Nat → List D → Option (R (s ⊕ τ))} {k : s → R τ} (hb : SG X (OL N O) E' (evSs (mkC P n) bd σ S) u)
    (hh : ∀ c fs σ' S', X.ok c = true → E' σ' S' → SH X (OL N O) E c fs (evHs (mkC P n) hs (X.f c) fs σ' S') (H c fs)) (hk : ∀ v σ S, N v σ S → SG X O E (evSs (mkC P n) ss σ S) (k v)) :
    SG X O E (evSs (mkC P n) (.cons (.try_ bd hs .nil) ss) σ S) ((tryR u H).fall k) := by
  rw [eSs_cons]
  exact SG.joinF (SG.tryS OL.ne hb hh) hk
theorem SG.tryD {hs : Hs} {E' : Er} {u : R τ} {H : Nat → List D → Option (R τ)} (hb : SG X (ON O) E' (evSs (mkC P n) bd σ S) u)
    (hh : ∀ c fs σ' S', X.ok c = true → E' σ' S' → SH X (ON O) E c fs (evHs (mkC P n) hs (X.f c) fs σ' S') (H c fs)) :
    SG X O E (evSs (mkC P n) (.cons (.try_ bd hs .nil) ss) σ S) (tryR u H) := by
  rw [eSs_cons]
  exact SG.out (SG.tryS ON.ne hb hh)
end
end SL
namespace SL
theorem fm_nodup {L : List (Nat × List D)} (h : (L.map (·.1)).Nodup) : ∀ (ks : List Nat), ks.Nodup → ((ks.filterMap (L[·]?)).map (·.1)).Nodup
  | [], _ => by simp
  | k :: ks, hk => by
    rw [List.nodup_cons] at hk
    have ih := fm_nodup h ks hk.2
    cases hL : L[k]? with
    | none => rw [List.filterMap_cons_none hL]; exact ih
    | some p =>
      rw [List.filterMap_cons_some hL, List.map_cons, List.nodup_cons]
      refine ⟨fun z => ?_, ih⟩
      obtain ⟨q, hq, e⟩ := List.mem_map.mp z
      obtain ⟨m, hm, hq⟩ := List.mem_filterMap.mp hq
      obtain ⟨h1, h2⟩ := List.getElem?_eq_some_iff.mp hL
      obtain ⟨h3, h4⟩ := List.getElem?_eq_some_iff.mp hq
      have : m = k := nodup_inj h (i := m) (j := k) (hi := by simpa using h3) (hj := by simpa using h1) (by simp [h2, h4, e])
      subst this
      exact hk.1 hm
section
variable {S0 S : Store} {L : List (Nat × List D)}
theorem Hp.pick (h : Hp S0 S L) (ks : List Nat) (nd : ks.Nodup) {L' : List (Nat × List D)} (e : L' = ks.filterMap (L[·]?)) : Hp S0 S L' := by
  subst e
  refine ⟨h.1, fun p hp => ?_, fm_nodup h.2.2 ks nd⟩
  obtain ⟨m, hm, hq⟩ := List.mem_filterMap.mp hp
  exact h.2.1 p (List.mem_of_getElem? hq)
theorem Hp.seq (h : Hp S0 S L) {d : D} {ds : List D} (q : seqOf S0 d = some ds) : seqOf S d = some ds := by
  cases d with
  | tup _ => exact q
  | _ => simp only [seqOf] at q ⊢; exact h.items q
variable {X : Cm} {α β γ : Type} {C : Cx} {σ : Slots} {a b c : E} {o : Bool} {P : Prog} {n : Nat}
theorem SA.varO {e : α → D} {xs : List α} {i k j : Nat} (h : σ[i]? = some (some (.ref j))) (H : Hp S0 S L) (q : L[k]? = some (j, xs.map e)) : SA X (LH e) S (evE C (.var i) σ S) (.ok xs) := SA.varH h (H.ref q)
theorem nx_seq {d : D} {ds : List D} (h : seqOf S d = some ds) : nxD d = true := by cases d <;> simp_all [nxD, seqOf, items]
theorem SA.varQ {e : α → D} {xs : List α} {i : Nat} {d : D} (h : σ[i]? = some (some d)) (q : seqOf S d = some (xs.map e)) : SA X (QS e) S (evE C (.var i) σ S) (.ok xs) := ⟨d, evar h (nx_seq q), q⟩
theorem SA.itep {A : Rel α} {q : Bool} {x y : α} (pc : SB X S (evE C c σ S) (.ok q)) (pa : SA X A S (evE C a σ S) (.ok x)) (pb : SA X A S (evE C b σ S) (.ok y)) : SA X A S (evE C (.ite c a b) σ S) (.ok (if q = true then x else y)) := (pc.ite pa pb).eq (by cases q <;> rfl)
theorem SA.fdivk' {k : Int} {i : R Int} (h1 : 0 < k) (h2 : k < 1606938044258990275541962092341162602522202993782792835301376) (pa : SI X S (evE C a σ S) i) (pb : SI X S (evE C b σ S) (.ok k)) : SI X S (evE C (.op o .fdiv a b) σ S) (i.bind fun x => .ok (x / k)) :=
  (pa.op2 pb (f := fun x y => if y = k then .ok (x / y) else .no) fun x y d u hx hy => by
    subst hx; subst hy
    split
    · rename_i h; subst h; exact ⟨_, op_fdiv h1 h2, rfl⟩
    · trivial).eq (by simp)
theorem SA.fmodk' {k : Int} {i : R Int} (h1 : 0 < k) (pa : SI X S (evE C a σ S) i) (pb : SI X S (evE C b σ S) (.ok k)) : SI X S (evE C (.op o .mod a b) σ S) (i.bind fun x => .ok (x % k)) :=
  (pa.op2 pb (f := fun x y => if y = k then .ok (x % y) else .no) fun x y d u hx hy => by
    subst hx; subst hy
    split
    · rename_i h; subst h; exact ⟨_, op_mod h1, rfl⟩
    · trivial).eq (by simp)
theorem SA.mulr' {k : Int} {i : R Int} (hk : k.natAbs < 18446744073709551616) (pa : SI X S (evE C a σ S) i) (pb : SI X S (evE C b σ S) (.ok k)) : SI X S (evE C (.op o .mul a b) σ S) (i.bind fun x => .ok (x * k)) :=
  (pa.op2 pb (f := fun x y => if y = k then .ok (x * y) else .no) fun x y d u hx hy => by
    subst hx; subst hy
    split
    · rename_i h; subst h; exact ⟨_, op_mul_r hk, rfl⟩
    · trivial).eq (by simp)
theorem SA.mull' {k : Int} {j : R Int} (hk : k.natAbs < 18446744073709551616) (pa : SI X S (evE C a σ S) (.ok k)) (pb : SI X S (evE C b σ S) j) : SI X S (evE C (.op o .mul a b) σ S) (j.bind fun y => .ok (k * y)) :=
  (pa.op2 pb (f := fun x y => if x = k then .ok (x * y) else .no) fun x y d u hx hy => by
    subst hx; subst hy
    split
    · rename_i h; subst h; exact ⟨_, op_mul_l hk, rfl⟩
    · trivial).eq (by simp)
theorem SA.someO {e : α → D} {t : R α} {r : Res D} (p : SA X (EQ e) S r t) : SA X (EQ (eO e)) S r (t.bind fun a => .ok (some a)) := by
  cases t with
  | ok a => obtain ⟨d, h, rfl⟩ := p; exact ⟨_, h, rfl⟩
  | exc c fs => exact p
  | no => trivial
theorem chainP (p q : Bool) : (if p = true then .ok q else .ok false : R Bool) = .ok (p && q) := by cases p <;> rfl
theorem SA.tup' {e : α → D} {x : List α} {es : Es} (p : SE X e S (evEs C es σ S) (.ok x)) (h : x.length ≤ 1000000) : SA X (EQ (eT e)) S (evE C (.tup es) σ S) (.ok x) := (SA.tup p).eq (by rw [R.bind_ok, lnR_ok h])
theorem SM.lst' {e : α → D} {x : List α} {es : Es} (p : SE X e S (evEs C es σ S) (.ok x)) (h : x.length ≤ 1000000) : SM X o e S (evE C (.lst o es) σ S) (.ok x) := (SM.lst p).eq (by rw [R.bind_ok, lnR_ok h])
theorem SE.eq {e : α → D} {r : Res (List D)} {t t' : R (List α)} (h : SE X e S r t) (q : t = t') : SE X e S r t' := q ▸ h
/-- rows of a parameter, rows of one's own -/
def gP (S0 : Store) : Option (Nat × List D) → Prop := fun q => q = none ∨ ∃ i ds, q = some (i, ds) ∧ S0[i]? = some (.lst ds)
theorem gP.ok {q : Option (Nat × List D)} (h : gP S0 q) (H : Hp S0 S L) : Walk.ok q S = true := by
  rcases h with rfl | ⟨i, ds, rfl, h⟩
  · rfl
  · have hi : i < S0.length := (List.getElem?_eq_some_iff.mp h).1
    simpa [Walk.ok, H.get0 hi] using h
theorem SW.parI {e : α → D} {x : List α} {d : D} {i : Nat} (h : σ[i]? = some (some d)) (H : Hp S0 S L) (q : items S0 d = some (x.map e)) : SW X e (gP S0) S (evIt C (.val (.var i)) σ S) (.ok x) := by
  rw [eI_val, evar h (nx_items q)]
  cases d with
  | vl ds => simp [items] at q; subst q; exact ⟨none, rfl, .inl rfl⟩
  | sc ds => simp [items] at q; subst q; exact ⟨none, rfl, .inl rfl⟩
  | ref j =>
    simp only [items] at q
    rw [kVal_ref]
    cases w : S0[j]? with
    | none => rw [w] at q; cases q
    | some c =>
      have hi : j < S0.length := (List.getElem?_eq_some_iff.mp w).1
      rw [H.get0 hi, w]
      cases c with
      | lst ds => rw [w] at q; cases q; exact ⟨some (j, x.map e), rfl, .inr ⟨j, _, rfl, w⟩⟩
      | dic _ => rw [w] at q; cases q
      | dead => rw [w] at q; cases q
  | _ => simp [items] at q
theorem SW.parQ {e : α → D} {x : List α} {d : D} {i : Nat} (h : σ[i]? = some (some d)) (H : Hp S0 S L) (q : seqOf S0 d = some (x.map e)) : SW X e (gP S0) S (evIt C (.val (.var i)) σ S) (.ok x) := by
  cases d with
  | tup ds =>
    simp [seqOf] at q
    subst q
    rw [eI_val, evar h rfl]
    exact ⟨none, rfl, .inl rfl⟩
  | _ => simp only [seqOf] at q; exact SW.parI h H q
def gW (j : Nat) (ds : List D) : Option (Nat × List D) → Prop := fun q => q = some (j, ds)
theorem gW.ok {j k : Nat} {ds : List D} {q : Option (Nat × List D)} (h : gW j ds q) (H : Hp S0 S L) (e : L[k]? = some (j, ds)) : Walk.ok q S = true := by
  subst h
  simp [Walk.ok, H.at e]
theorem SW.own {e : α → D} {x : List α} {i j k : Nat} (h : σ[i]? = some (some (.ref j))) (H : Hp S0 S L) (q : L[k]? = some (j, x.map e)) : SW X e (gW j (x.map e)) S (evIt C (.val (.var i)) σ S) (.ok x) := by
  rw [eI_val, evar h rfl, kVal_ref, H.at q]
  exact ⟨_, rfl, rfl⟩
theorem gN.okS {q : Option (Nat × List D)} (h : gN q) : Walk.ok q S = true := by subst h; rfl
/-! comprehensions -/
theorem SM.lcP {g : α → D} {e : β → D} {gd : Option (Nat × List D) → Prop} {tg : Tg} {it : It} {el : E} {x : R (List α)} {f : α → β} {σ1 : α → Slots} (p : SW X g gd S (evIt (mkC P n) it σ S) x) (hg : ∀ q, gd q → Walk.ok q S = true)
    (ht : ∀ x, tgSet tg (g x) (wipeS σ (tgIx tg)) S = .ok (σ1 x) S) (h : ∀ x, SA X (EQ e) S (evE (mkC P n) el (σ1 x) S) (.ok (f x))) : SM X o e S (evE (mkC P n) (.lc o el tg it .none) σ S) (x.bind fun xs => lnR (xs.map f)) :=
  (SM.lc (f := fun x => .ok (some (f x))) p hg fun x => SC.plain (ht x) (h x)).eq (by simp only [lcF_plain]; rfl)
theorem SM.lcC {g : α → D} {e : β → D} {gd : Option (Nat × List D) → Prop} {tg : Tg} {it : It} {el cd : E} {x : R (List α)} {f : α → β} {p' : α → Bool} {σ1 : α → Slots} (p : SW X g gd S (evIt (mkC P n) it σ S) x) (hg : ∀ q, gd q → Walk.ok q S = true)
    (ht : ∀ x, tgSet tg (g x) (wipeS σ (tgIx tg)) S = .ok (σ1 x) S) (hc : ∀ x, SB X S (evE (mkC P n) cd (σ1 x) S) (.ok (p' x))) (h : ∀ x, SA X (EQ e) S (evE (mkC P n) el (σ1 x) S) (.ok (f x))) : SM X o e S (evE (mkC P n) (.lc o el tg it (.some cd)) σ S) (x.bind fun xs => lnR ((xs.filter p').map f)) :=
  (SM.lc (f := fun x => if p' x = true then .ok (some (f x)) else .ok none) p hg fun x => (SC.cond (ht x) (hc x) (h x) : SC _ _ _ _ _)).eq (by simp only [lcF_cond]; rfl)
theorem mapR_calm {f : α → R β} (xs : List α) : (mapR f xs).calm = mapR f xs := by
  induction xs with
  | nil => rfl
  | cons x xs ih =>
    unfold mapR
    cases f x with
    | ok y => simp only [R.calm, R.bind_ok]; rw [← ih]; cases mapR f xs <;> rfl
    | _ => rfl
theorem SM.lcM {g : α → D} {e : β → D} {gd : Option (Nat × List D) → Prop} {tg : Tg} {it : It} {el : E} {x : R (List α)} {f : α → R β} {σ1 : α → Slots} (p : SW X g gd S (evIt (mkC P n) it σ S) x) (hg : ∀ q, gd q → Walk.ok q S = true)
    (ht : ∀ x, tgSet tg (g x) (wipeS σ (tgIx tg)) S = .ok (σ1 x) S) (h : ∀ x, SA X (EQ e) S (evE (mkC P n) el (σ1 x) S) (f x)) : SM X o e S (evE (mkC P n) (.lc o el tg it .none) σ S) (x.bind fun xs => (mapR f xs).bind fun ys => lnR ys) :=
  (SM.lc (f := fun x => (f x).bind fun y => .ok (some y)) p hg fun x => SC.plain (ht x) (h x)).eq (by simp only [lcF_map, mapR_calm])
def filR {α β : Type} (p : α → R Bool) (f : α → R β) : List α → R (List β) := lcF fun x => (p x).bind fun z => if z = true then (f x).bind fun y => .ok (some y) else .ok none
theorem SM.lcN {g : α → D} {e : β → D} {gd : Option (Nat × List D) → Prop} {tg : Tg} {it : It} {el cd : E} {x : R (List α)} {f : α → R β} {p' : α → R Bool} {σ1 : α → Slots} (p : SW X g gd S (evIt (mkC P n) it σ S) x) (hg : ∀ q, gd q → Walk.ok q S = true)
    (ht : ∀ x, tgSet tg (g x) (wipeS σ (tgIx tg)) S = .ok (σ1 x) S) (hc : ∀ x, SB X S (evE (mkC P n) cd (σ1 x) S) (p' x)) (h : ∀ x, SA X (EQ e) S (evE (mkC P n) el (σ1 x) S) (f x)) : SM X o e S (evE (mkC P n) (.lc o el tg it (.some cd)) σ S) (x.bind fun xs => (filR p' f xs).calm.bind fun ys => lnR ys) :=
  SM.lc p hg fun x => (SC.cond (ht x) (hc x) (h x) : SC _ _ _ _ _)
end
/-! what is told at a def's end: lists of the def's own within a tuple stand still from there on -/
def FZ {α : Type} (S0 : Store) (k : Nat) (e : α → D) : Rel α := fun S d a => fz k S0.length S d = some (e a)
section
variable {X : Cm} {α β γ δ ρ : Type} {S0 S : Store} {L : List (Nat × List D)} {r : Res D} {C : Cx} {σ : Slots}
theorem SA.toF {e : α → D} {k n : Nat} [p : Pd e k] (h : 1 ≤ n) {t : R α} (q : SA X (EQ e) S r t) : SA X (FZ S0 n e) S r t := q.mono fun d a w => by
  subst w; show fz n S0.length S (e a) = some (e a); exact (show n = n - 1 + 1 by omega) ▸ fz_pure (Pd.pd a)
theorem SA.ownF {e : α → D} {k n i j m : Nat} [p : Pd e k] (hk : 2 ≤ n) (h : σ[i]? = some (some (.ref j))) (H : Hp S0 S L) {xs : List α} (q : L[m]? = some (j, xs.map e)) : SA X (FZ S0 (n + 1) (eL e)) S (evE C (.var i) σ S) (.ok xs) := by
  refine ⟨.ref j, evar h rfl, ?_⟩
  have hb := (H.2.1 _ (List.mem_of_getElem? q)).1
  have h2 := fzs_pure (k := n - 2) (n := S0.length) (S := S) (Pd.alls (e := e) xs)
  rw [show n - 2 + 2 = n by omega] at h2
  show fz (n + 1) S0.length S (.ref j) = _
  rw [fz, if_neg (by simp [pureD]), if_neg (Nat.not_lt.mpr hb), H.at q]
  simp only [h2, Option.map_some]
theorem SA.t2F {a : α → D} {b : β → D} {n : Nat} {x1 x2 : E} {t1 : R α} {t2 : R β} (p1 : SA X (FZ S0 n a) S (evE C x1 σ S) t1) (p2 : SA X (FZ S0 n b) S (evE C x2 σ S) t2) :
    SA X (FZ S0 (n + 2) (eP a b)) S (evE C (.tup (.cons x1 (.cons x2 .nil))) σ S) (t1.bind fun y1 => t2.bind fun y2 => .ok (y1, y2)) := by
  rw [eE_tup]
  cases t1 with
  | exc c fs => exact ⟨p1.1, by simp only [eEs_cons, eEs_nil, p1.2, kCons1_ex, kTup_ex]⟩
  | no => trivial
  | ok y1 =>
  obtain ⟨d1, h1, q1⟩ := p1
  cases t2 with
  | exc c fs => exact ⟨p2.1, by simp only [eEs_cons, eEs_nil, h1, p2.2, kCons1_ok, kCons1_ex, kCons2_ex, kTup_ex]⟩
  | no => trivial
  | ok y2 =>
  obtain ⟨d2, h2, q2⟩ := p2
  refine ⟨.tup [d1, d2], by simp only [eEs_cons, eEs_nil, h1, h2, kCons1_ok, kCons2_ok, kTup_ok, List.length_cons, List.length_nil]; rfl, ?_⟩
  have q1 : fz n S0.length S d1 = _ := q1
  have q2 : fz n S0.length S d2 = _ := q2
  show fz (n + 2) S0.length S (.tup [d1, d2]) = _
  rw [fz]
  by_cases hp : pureD (.tup [d1, d2]) = true
  · rw [if_pos hp]
    simp only [pureD, pureDs, Bool.and_eq_true] at hp
    rw [← fz_fix hp.1 q1, ← fz_fix hp.2.1 q2]
  · rw [if_neg hp]
    simp only [fzs, q1, q2]
    rfl
theorem SA.t3F {a : α → D} {b : β → D} {c : γ → D} {n : Nat} {x1 x2 x3 : E} {t1 : R α} {t2 : R β} {t3 : R γ} (p1 : SA X (FZ S0 n a) S (evE C x1 σ S) t1) (p2 : SA X (FZ S0 n b) S (evE C x2 σ S) t2) (p3 : SA X (FZ S0 n c) S (evE C x3 σ S) t3) :
    SA X (FZ S0 (n + 2) (eP3 a b c)) S (evE C (.tup (.cons x1 (.cons x2 (.cons x3 .nil)))) σ S) (t1.bind fun y1 => t2.bind fun y2 => t3.bind fun y3 => .ok (y1, y2, y3)) := by
  rw [eE_tup]
  cases t1 with
  | exc c fs => exact ⟨p1.1, by simp only [eEs_cons, eEs_nil, p1.2, kCons1_ex, kTup_ex]⟩
  | no => trivial
  | ok y1 =>
  obtain ⟨d1, h1, q1⟩ := p1
  cases t2 with
  | exc c fs => exact ⟨p2.1, by simp only [eEs_cons, eEs_nil, h1, p2.2, kCons1_ok, kCons1_ex, kCons2_ex, kTup_ex]⟩
  | no => trivial
  | ok y2 =>
  obtain ⟨d2, h2, q2⟩ := p2
  cases t3 with
  | exc c fs => exact ⟨p3.1, by simp only [eEs_cons, eEs_nil, h1, h2, p3.2, kCons1_ok, kCons1_ex, kCons2_ex, kTup_ex]⟩
  | no => trivial
  | ok y3 =>
  obtain ⟨d3, h3, q3⟩ := p3
  refine ⟨.tup [d1, d2, d3], by simp only [eEs_cons, eEs_nil, h1, h2, h3, kCons1_ok, kCons2_ok, kTup_ok, List.length_cons, List.length_nil]; rfl, ?_⟩
  have q1 : fz n S0.length S d1 = _ := q1
  have q2 : fz n S0.length S d2 = _ := q2
  have q3 : fz n S0.length S d3 = _ := q3
  show fz (n + 2) S0.length S (.tup [d1, d2, d3]) = _
  rw [fz]
  by_cases hp : pureD (.tup [d1, d2, d3]) = true
  · rw [if_pos hp]
    simp only [pureD, pureDs, Bool.and_eq_true] at hp
    rw [← fz_fix hp.1 q1, ← fz_fix hp.2.1 q2, ← fz_fix hp.2.2.1 q3]
  · rw [if_neg hp]
    simp only [fzs, q1, q2, q3]
    rfl
theorem OF.rtF {e : ρ → D} (H : Hp S0 S L) {d : D} {v : ρ} (h : FZ S0 64 e S d v) : OF S0 e v (.ok (.rt d) S) := by
  unfold OF
  have h : fz 64 S0.length S d = some (e v) := h
  simp only [fin, h, H.base, if_true]
  rfl
end
/-- the classes, numbered for all laws: LoomError, NoWord, NoPlace, TooLarge, NoSide, Unlike, Beyond, NoRound, NotReady, NotDone, Stuck, BadText, BadStep, ValueError, Exception, BaseException, object -/
def exSub (c k : Nat) : Bool := c == k || (k == 0 && decide (c ≤ 12)) || (decide (13 ≤ k) && (decide (c ≤ 12) || decide (c ≤ k)))
section
variable {X : Cm} {α β γ : Type} {S : Store} {σ : Slots} {a b c : E} {P : Prog} {n : Nat}
/-! what may be None -/
def getO {α : Type} : Option α → R α | none => .no | some a => .ok a
theorem SA.getO {e : α → D} {t : R (Option α)} {r : Res D} (p : SA X (EQ (eO e)) S r t) : SA X (EQ e) S r (t.bind SL.getO) := by
  cases t with
  | ok a => cases a with
    | none => trivial
    | some a => exact p
  | exc c fs => exact p
  | no => trivial
theorem SA.lenP {e : α → D} {k : Nat} {o : Bool} {x : R α} (h : ∀ a, ∃ ds, e a = .tup ds ∧ ds.length = k) (p : SA X (EQ e) S (evE (mkC P n) a σ S) x) : SI X S (evE (mkC P n) (.bi o .len (.cons a .nil)) σ S) (x.bind fun _ => .ok (k : Int)) := p.bi1 fun x d q => by
  obtain ⟨ds, h1, h2⟩ := h x
  subst q
  rw [h1]
  exact ⟨.int ds.length, rfl, by rw [h2]⟩
theorem SA.iskO {e : α → D} {k : Nat} [q : Kd e k] {o : Bool} {bi : Bi} {p : Nat → Prop} [DecidablePred p] (hb : ∀ d S, doBi o bi [d] S = isD p d S) (hk : k ≠ 9) (h0 : ¬ p 0) {x : R (Option α)} (pa : SA X (EQ (eO e)) S (evE (mkC P n) a σ S) x) : SB X S (evE (mkC P n) (.bi o bi (.cons a .nil)) σ S) (x.bind fun x => .ok (x.isSome && decide (p k))) := pa.bi1 fun x d h => by
  subst h
  rw [hb]
  unfold isD
  cases x with
  | none =>
    refine ⟨.bl (decide (p 0)), rfl, ?_⟩
    simp [h0]
  | some x =>
    refine ⟨.bl (decide (p k)), ?_, by simp⟩
    show (if kindD S (e x) = 9 then Res.stuck else Res.ok (D.bl (decide (p (kindD S (e x))))) S) = _
    rw [q.kd, if_neg hk]
/-! the longest -/
def maxKR {α : Type} (xs : List (List α)) : R (List α) := match xs[bestK (fun i => (xs.getD i []).length) (xs.length - 1)]? with | some a => .ok a | none => .no
theorem SA.maxK2 {e : α → D} {o : Bool} {x y : R (List α)} (p : SA X (EQ (eT e)) S (evE (mkC P n) a σ S) x) (q : SA X (EQ (eT e)) S (evE (mkC P n) b σ S) y) : SA X (EQ (eT e)) S (evE (mkC P n) (.bi o .maxK2 (.cons a (.cons b .nil))) σ S) (x.bind fun x => y.bind fun y => .ok (if x.length < y.length then y else x)) :=
  p.bi2 q fun x y d u hx hy => by
    subst hx; subst hy
    refine ⟨eT e (if x.length < y.length then y else x), ?_, rfl⟩
    simp only [doBi, seqOf, List.length_map]
    split <;> rfl
theorem SA.maxK1 {e : α → D} {o : Bool} {x : R (List (List α))} (p : SA X (LI (eT e)) S (evE (mkC P n) a σ S) x) : SA X (EQ (eT e)) S (evE (mkC P n) (.bi o .maxK1 (.cons a .nil)) σ S) (x.bind fun x => maxKR x) := p.bi1 fun x d h => by
  have h : items S d = some (x.map (eT e)) := h
  unfold maxKR
  have hk : ∀ i, lenD S ((x.map (eT e)).getD i .non) = (x.getD i []).length := fun i => by
    by_cases hi : i < x.length
    · simp [hi, lenD, seqOf]
    · simp [List.getElem?_eq_none (Nat.not_lt.mp hi), lenD, seqOf, items]
  have hf : (fun i => lenD S ((x.map (eT e)).getD i .non)) = fun i => (x.getD i []).length := funext hk
  cases hx : x[bestK (fun i => (x.getD i []).length) (x.length - 1)]? with
  | none => trivial
  | some y =>
    have hp : 0 < x.length := by
      have := (List.getElem?_eq_some_iff.mp hx).1
      omega
    refine ⟨eT e y, ?_, rfl⟩
    simp only [doBi, h]
    rw [if_pos ⟨by simpa using hp, by simp [seqOf]⟩, hf, List.length_map, List.getElem?_map, hx]
    rfl
/-! least, greatest -/
def min1R (xs : List Int) : R Int := match minL xs with | some a => .ok a | none => .no
theorem SA.min1 {o : Bool} {x : R (List Int)} (p : SA X (LI eI) S (evE (mkC P n) a σ S) x) : SI X S (evE (mkC P n) (.bi o .min1 (.cons a .nil)) σ S) (x.bind fun x => min1R x) := p.bi1 fun x d h => by
  have h : items S d = some (x.map D.int) := h
  unfold min1R
  cases hm : minL x with
  | none => trivial
  | some m => exact ⟨.int m, by simp only [doBi, h, Option.bind_some, intsD_map, hm, Option.map_some]; rfl, rfl⟩
theorem SA.minD {o : Bool} {k : Int} {x : R (List Int)} (p : SA X (LI eI) S (evE (mkC P n) a σ S) x) : SI X S (evE (mkC P n) (.bi o (.minD k) (.cons a .nil)) σ S) (x.bind fun x => .ok ((minL x).getD k)) := p.bi1 fun x d h => by
  have h : items S d = some (x.map D.int) := h
  exact ⟨.int ((minL x).getD k), by simp only [doBi, h, Option.bind_some, intsD_map, Option.map_some]; rfl, rfl⟩
def max1R (xs : List Int) : R Int := match maxL xs with | some a => .ok a | none => .no
theorem SA.max1 {o : Bool} {x : R (List Int)} (p : SA X (LI eI) S (evE (mkC P n) a σ S) x) : SI X S (evE (mkC P n) (.bi o .max1 (.cons a .nil)) σ S) (x.bind fun x => max1R x) := p.bi1 fun x d h => by
  have h : items S d = some (x.map D.int) := h
  unfold max1R
  cases hm : maxL x with
  | none => trivial
  | some m => exact ⟨.int m, by simp only [doBi, h, Option.bind_some, intsD_map, hm, Option.map_some]; rfl, rfl⟩
theorem SA.maxD {o : Bool} {k : Int} {x : R (List Int)} (p : SA X (LI eI) S (evE (mkC P n) a σ S) x) : SI X S (evE (mkC P n) (.bi o (.maxD k) (.cons a .nil)) σ S) (x.bind fun x => .ok ((maxL x).getD k)) := p.bi1 fun x d h => by
  have h : items S d = some (x.map D.int) := h
  exact ⟨.int ((maxL x).getD k), by simp only [doBi, h, Option.bind_some, intsD_map, Option.map_some]; rfl, rfl⟩
/-- in, with the instance fixed -/
def inB {α : Type} [DecidableEq α] (x : α) (ys : List α) : Bool := decide (x ∈ ys)
theorem inB_iff {α : Type} [DecidableEq α] {x : α} {ys : List α} : inB x ys = true ↔ x ∈ ys := by simp [inB]
theorem SA.isinS {x : R (List Nat)} {y : R (List (List Nat))} {C : Cx} (pa : SA X (EQ eS) S (evE C a σ S) x) (pb : SA X (QS eS) S (evE C b σ S) y) : SB X S (evE C (.cmp .isin a b) σ S) (x.bind fun x => y.bind fun y => .ok (inB x y)) := pa.isin pb
theorem SA.notinS {x : R (List Nat)} {y : R (List (List Nat))} {C : Cx} (pa : SA X (EQ eS) S (evE C a σ S) x) (pb : SA X (QS eS) S (evE C b σ S) y) : SB X S (evE C (.cmp .notin a b) σ S) (x.bind fun x => y.bind fun y => .ok (!inB x y)) := (pa.notin pb).eq (by
  congr 1; funext x; congr 1; funext y; congr 1; simp [inB])
/-! index of a list -/
theorem idxR_ex (α : Type) [DecidableEq α] : ∃ F : List α → α → R Int, ∀ xs a, F xs a = (match xs.findIdx? (fun z => decide (z = a)) with | some j => .ok (j : Int) | none => .no) := ⟨_, fun _ _ => rfl⟩
noncomputable def idxR {α : Type} [DecidableEq α] : List α → α → R Int := Classical.choose (idxR_ex α)
theorem idxR_def {α : Type} [DecidableEq α] (xs : List α) (a : α) : idxR xs a = (match xs.findIdx? (fun z => decide (z = a)) with | some j => .ok (j : Int) | none => .no) := Classical.choose_spec (idxR_ex α) xs a
theorem find_map' [DecidableEq α] {e : α → D} [Fl e] (a : α) : ∀ xs : List α, (xs.map e).findIdx? (fun z => eqv z (e a)) = xs.findIdx? (fun z => decide (z = a))
  | [] => rfl
  | x :: xs => by
    rw [List.map_cons, List.findIdx?_cons, List.findIdx?_cons, find_map' a xs, Fl.eq]
theorem SA.lindex [DecidableEq α] {e : α → D} [Fl e] {x : R (List α)} {y : R α} {o : Bool} (p : SA X (LH e) S (evE (mkC P n) a σ S) x) (q : SA X (EQ e) S (evE (mkC P n) b σ S) y) : SI X S (evE (mkC P n) (.mt o .index a (.cons b .nil)) σ S) (x.bind fun x => y.bind fun y => idxR x y) := by
  rw [eE_mt]
  refine p.bind1 (fun _ _ => rfl) fun x d hx => ?_
  have hx : itemsH S d = some (x.map e) := hx
  have hr : recv .index d = true := by cases d <;> first | rfl | (simp [itemsH] at hx; done)
  rw [kMt1_ok, if_pos hr, eEs_cons]
  cases y with
  | ok y =>
    obtain ⟨u, h2, rfl⟩ := q
    rw [h2, kCons1_ok, eEs_nil, kCons2_ok, kMt2_ok]
    show SA X (EQ eI) S _ (idxR x y)
    rw [idxR_def]
    have hf : (flat (e y) && (x.map e).all flat) = true := by simp [Fl.fl]
    simp only [doMt, hx]
    rw [if_pos hf, find_map']
    cases x.findIdx? (fun z => decide (z = y)) with
    | some j => exact ⟨_, rfl, rfl⟩
    | none => trivial
  | exc c fs => exact ⟨q.1, by rw [q.2]; rfl⟩
  | no => trivial
end
end SL
/-! Typed readings: texts, data of mixed kinds. -/
namespace SL
/-! texts -/
theorem strR_ex : ∃ F : Int → R (List Nat), ∀ i, F i = (if i.natAbs.log2 < 1920 then .ok (showI i) else .no) := ⟨_, fun _ => rfl⟩
noncomputable def strR : Int → R (List Nat) := Classical.choose strR_ex
theorem strR_def (i : Int) : strR i = (if i.natAbs.log2 < 1920 then .ok (showI i) else .no) := Classical.choose_spec strR_ex i
def intR (z : List Nat) : R Int := if z.length ≤ 640 ∧ z ≠ [] ∧ z.all isDig = true then .ok (digV z) else .no
theorem joinR_ex : ∃ F : List Nat → List (List Nat) → R (List Nat), ∀ a xs, F a xs = (if (xs.map List.length).sum + xs.length * a.length ≤ 16777216 then .ok (joinT a xs) else .no) := ⟨_, fun _ _ => rfl⟩
noncomputable def joinR : List Nat → List (List Nat) → R (List Nat) := Classical.choose joinR_ex
theorem joinR_def (a : List Nat) (xs : List (List Nat)) : joinR a xs = (if (xs.map List.length).sum + xs.length * a.length ≤ 16777216 then .ok (joinT a xs) else .no) := Classical.choose_spec joinR_ex a xs
def upperR (a : List Nat) : R (List Nat) := if a.length ≤ 1000000 ∧ (a.all fun c => decide (c < 128)) = true then .ok (a.map upC) else .no
def findR (a y : List Nat) : R Int := match y with | [c] => .ok (findC c a) | _ => .no
def inCR (x y : List Nat) : R Bool := match x with | [c] => .ok (decide (c ∈ y)) | _ => .no
def signs (x : List Nat) : List (List Nat) := x.map fun c => [c]
section
variable {X : Cm} {α β γ : Type} {S : Store} {σ : Slots} {a b c : E} {P : Prog} {n : Nat} {C : Cx} {o : Bool}
theorem strsD_map : ∀ xs : List (List Nat), strsD (xs.map D.str) = some xs
  | [] => rfl
  | x :: xs => by simp [strsD, strsD_map xs]
theorem SA.strI {x : R Int} (p : SI X S (evE (mkC P n) a σ S) x) : SA X (EQ eS) S (evE (mkC P n) (.bi o .str (.cons a .nil)) σ S) (x.bind fun x => strR x) := p.bi1 fun x d h => by
  subst h
  rw [strR_def]
  split
  · rename_i q; exact ⟨.str (showI x), by simp only [doBi]; rw [if_pos q], rfl⟩
  · trivial
theorem SA.intS {x : R (List Nat)} (p : SA X (EQ eS) S (evE (mkC P n) a σ S) x) : SI X S (evE (mkC P n) (.bi o .int (.cons a .nil)) σ S) (x.bind fun x => intR x) := p.bi1 fun x d h => by
  subst h
  unfold intR
  split
  · rename_i q; exact ⟨.int (digV x), by simp only [doBi]; rw [if_pos q], rfl⟩
  · trivial
theorem SA.ixS {x : R (List Nat)} {i : R Int} (p : SA X (EQ eS) S (evE C a σ S) x) (q : SI X S (evE C b σ S) i) : SA X (EQ eS) S (evE C (.ix a b) σ S) (x.bind fun x => i.bind fun i => (lnR x).bind fun x => (ixR x i).bind fun c => .ok [c]) := by
  rw [eE_ix]
  refine p.bind1 (fun _ _ => rfl) fun x d hx => ?_
  rw [kIx1_ok]
  refine q.bind1 (fun _ _ => rfl) fun i u hi => ?_
  subst hi; subst hx
  rw [kIx2_ok, lnR_def]
  by_cases hl : x.length ≤ 16777216
  · rw [if_pos hl, R.bind_ok, ixR_def]
    have e : doIx (eS x) (.int i) S = okO S ((ixN x.length i).bind fun j => x[j]?.map fun c => .str [c]) := by
      simp only [doIx]
      rw [if_pos (by rw [LINE_eq]; exact hl)]
    rw [e]
    cases h : ixN x.length i with
    | none => trivial
    | some j =>
      cases h2 : x[j]? with
      | none => simp only [h, h2, Option.bind_some]; trivial
      | some c => simp only [h, h2, Option.bind_some, Option.map_some]; exact ⟨_, rfl, rfl⟩
  · rw [if_neg hl]; trivial
theorem SA.isinC {x y : R (List Nat)} (pa : SA X (EQ eS) S (evE C a σ S) x) (pb : SA X (EQ eS) S (evE C b σ S) y) : SB X S (evE C (.cmp .isin a b) σ S) (x.bind fun x => y.bind fun y => inCR x y) := pa.cmp' pb fun x y d u hx hy => by
  subst hx; subst hy
  match x with
  | [c] => exact ⟨_, rfl, rfl⟩
  | [] => trivial
  | _ :: _ :: _ => trivial
theorem SA.notinC {x y : R (List Nat)} (pa : SA X (EQ eS) S (evE C a σ S) x) (pb : SA X (EQ eS) S (evE C b σ S) y) : SB X S (evE C (.cmp .notin a b) σ S) (x.bind fun x => y.bind fun y => (inCR x y).bind fun q => .ok (!q)) := pa.cmp' pb fun x y d u hx hy => by
  subst hx; subst hy
  match x with
  | [c] => exact ⟨_, rfl, rfl⟩
  | [] => trivial
  | _ :: _ :: _ => trivial
theorem SW.str {x : R (List Nat)} (p : SA X (EQ eS) S (evE C a σ S) x) : SW X eS gN S (evIt C (.val a) σ S) (x.bind fun x => .ok (signs x)) := by
  rw [eI_val]
  exact SW.bind1 (f := fun x => .ok (signs x)) p (fun _ _ => rfl) fun x d h => by
    subst h
    refine ⟨none, ?_, rfl⟩
    show Res.ok (⟨x.map fun c => .str [c], none⟩ : Walk) S = _
    simp [signs, Function.comp_def]
theorem SA.mt1 {A : Rel α} {B : Rel β} {G : Rel γ} {m : Mt} {x : R α} {y : R β} {f : α → β → R γ} (p : SA X A S (evE (mkC P n) a σ S) x) (q : SA X B S (evE (mkC P n) b σ S) y) (hr : ∀ x d, A S d x → recv m d = true)
    (h : ∀ x y d u, A S d x → B S u y → SA X G S (doMt o m d [u] S) (f x y)) : SA X G S (evE (mkC P n) (.mt o m a (.cons b .nil)) σ S) (x.bind fun x => y.bind fun y => f x y) := by
  rw [eE_mt]
  refine p.bind1 (fun _ _ => rfl) fun x d hx => ?_
  rw [kMt1_ok, if_pos (hr x d hx), eEs_cons]
  cases y with
  | ok y =>
    obtain ⟨u, h2, hy⟩ := q
    rw [h2, kCons1_ok, eEs_nil, kCons2_ok, kMt2_ok]
    exact h x y d u hx hy
  | exc c fs => exact ⟨q.1, by rw [q.2]; rfl⟩
  | no => trivial
theorem SA.mt0 {A : Rel α} {G : Rel γ} {m : Mt} {x : R α} {f : α → R γ} (p : SA X A S (evE (mkC P n) a σ S) x) (hr : ∀ x d, A S d x → recv m d = true)
    (h : ∀ x d, A S d x → SA X G S (doMt o m d [] S) (f x)) : SA X G S (evE (mkC P n) (.mt o m a .nil) σ S) (x.bind fun x => f x) := by
  rw [eE_mt]
  refine p.bind1 (fun _ _ => rfl) fun x d hx => ?_
  rw [kMt1_ok, if_pos (hr x d hx), eEs_nil, kMt2_ok]
  exact h x d hx
theorem SA.join {x : R (List Nat)} {y : R (List (List Nat))} (p : SA X (EQ eS) S (evE (mkC P n) a σ S) x) (q : SA X (QS eS) S (evE (mkC P n) b σ S) y) : SA X (EQ eS) S (evE (mkC P n) (.mt o .join a (.cons b .nil)) σ S) (x.bind fun x => y.bind fun y => joinR x y) :=
  p.mt1 q (fun x d h => by subst h; rfl) fun x y d u hx hy => by
    subst hx
    have hy : seqOf S u = some (y.map eS) := hy
    rw [joinR_def]
    split
    · rename_i h
      refine ⟨.str (joinT x y), ?_, rfl⟩
      simp only [doMt, hy, Option.bind_some, strsD_map]
      rw [if_pos (by rw [LINE_eq]; exact h)]
    · trivial
theorem SA.upper {x : R (List Nat)} (p : SA X (EQ eS) S (evE (mkC P n) a σ S) x) : SA X (EQ eS) S (evE (mkC P n) (.mt o .upper a .nil) σ S) (x.bind fun x => upperR x) :=
  p.mt0 (fun x d h => by subst h; rfl) fun x d hx => by
    subst hx
    unfold upperR
    split
    · rename_i h
      refine ⟨.str (x.map upC), ?_, rfl⟩
      simp only [doMt]
      rw [if_pos h]
    · trivial
theorem SA.find {x y : R (List Nat)} (p : SA X (EQ eS) S (evE (mkC P n) a σ S) x) (q : SA X (EQ eS) S (evE (mkC P n) b σ S) y) : SI X S (evE (mkC P n) (.mt o .find a (.cons b .nil)) σ S) (x.bind fun x => y.bind fun y => findR x y) :=
  p.mt1 q (fun x d h => by subst h; rfl) fun x y d u hx hy => by
    subst hx; subst hy
    match y with
    | [c] => exact ⟨_, rfl, rfl⟩
    | [] => trivial
    | _ :: _ :: _ => trivial
end
/-! data of mixed kinds -/
inductive Y where | non | bl (b : Bool) | int (i : Int) | str (x : List Nat) | tup (ys : List Y) | vl (ys : List Y)
  deriving Inhabited
mutual
def eY : Y → D
  | .non => .non
  | .bl b => .bl b
  | .int i => .int i
  | .str x => .str x
  | .tup ys => .tup (eYs ys)
  | .vl ys => .vl (eYs ys)
def eYs : List Y → List D
  | [] => []
  | y :: ys => eY y :: eYs ys
end
theorem eYs_map : ∀ ys, eYs ys = ys.map eY
  | [] => rfl
  | y :: ys => by rw [eYs, eYs_map ys]; rfl
@[simp] theorem eY_tup (ys : List Y) : eY (.tup ys) = .tup (ys.map eY) := by rw [eY, eYs_map]
@[simp] theorem eY_vl (ys : List Y) : eY (.vl ys) = .vl (ys.map eY) := by rw [eY, eYs_map]
@[simp] theorem eY_int (i : Int) : eY (.int i) = .int i := by rw [eY]
@[simp] theorem eY_str (i : List Nat) : eY (.str i) = .str i := by rw [eY]
@[simp] theorem eY_bl (i : Bool) : eY (.bl i) = .bl i := by rw [eY]
@[simp] theorem eY_non : eY .non = .non := by rw [eY]
instance : Nx eY := ⟨fun a => by cases a <;> simp [nxD]⟩
mutual
theorem eY_pure : ∀ y : Y, pureD (eY y) = true
  | .non => by simp
  | .bl b => by simp
  | .int i => by simp
  | .str x => by simp
  | .tup ys => by rw [eY, pureD]; exact eYs_pure ys
  | .vl ys => by rw [eY, pureD]; exact eYs_pure ys
theorem eYs_pure : ∀ ys : List Y, pureDs (eYs ys) = true
  | [] => rfl
  | y :: ys => by rw [eYs, pureDs, eY_pure y, eYs_pure ys]; rfl
end
instance : Pd eY 1 := ⟨eY_pure⟩
/-- into Y -/
class Yn {α : Type} (e : α → D) where
  inj : α → Y
  ok : ∀ a, eY (inj a) = e a
instance : Yn eI := ⟨Y.int, fun _ => by simp⟩
instance : Yn eB := ⟨Y.bl, fun _ => by simp⟩
instance : Yn eS := ⟨Y.str, fun _ => by simp⟩
instance : Yn eU := ⟨fun _ => Y.non, fun _ => by simp⟩
instance : Yn eY := ⟨fun y => y, fun _ => rfl⟩
instance {α : Type} {e : α → D} [y : Yn e] : Yn (eT e) := ⟨fun xs => .tup (xs.map y.inj), fun xs => by
  rw [eY_tup, List.map_map]; exact congrArg D.tup (List.map_congr_left fun a _ => y.ok a)⟩
instance {α : Type} {e : α → D} [y : Yn e] : Yn (eL e) := ⟨fun xs => .vl (xs.map y.inj), fun xs => by
  rw [eY_vl, List.map_map]; exact congrArg D.vl (List.map_congr_left fun a _ => y.ok a)⟩
instance {α β : Type} {e : α → D} {f : β → D} [y : Yn e] [z : Yn f] : Yn (eP e f) := ⟨fun p => .tup [y.inj p.1, z.inj p.2], fun p => by simp [y.ok, z.ok]⟩
instance {α β γ : Type} {e : α → D} {f : β → D} {g : γ → D} [y : Yn e] [z : Yn f] [w : Yn g] : Yn (eP3 e f g) := ⟨fun p => .tup [y.inj p.1, z.inj p.2.1, w.inj p.2.2], fun p => by simp [y.ok, z.ok, w.ok]⟩
instance {α β γ δ : Type} {e : α → D} {f : β → D} {g : γ → D} {h : δ → D} [y : Yn e] [z : Yn f] [w : Yn g] [u : Yn h] : Yn (eP4 e f g h) := ⟨fun p => .tup [y.inj p.1, z.inj p.2.1, w.inj p.2.2.1, u.inj p.2.2.2], fun p => by simp [y.ok, z.ok, w.ok, u.ok]⟩
instance {α β γ δ ε : Type} {e : α → D} {f : β → D} {g : γ → D} {h : δ → D} {o : ε → D} [y : Yn e] [z : Yn f] [w : Yn g] [u : Yn h] [v : Yn o] : Yn (eP5 e f g h o) := ⟨fun p => .tup [y.inj p.1, z.inj p.2.1, w.inj p.2.2.1, u.inj p.2.2.2.1, v.inj p.2.2.2.2], fun p => by simp [y.ok, z.ok, w.ok, u.ok, v.ok]⟩
instance {α : Type} {e : α → D} [y : Yn e] : Yn (eO e) := ⟨fun a => match a with | none => .non | some a => y.inj a, fun a => by
  cases a with
  | none => exact eY_non
  | some a => exact y.ok a⟩
/-- out of Y -/
def outL {α : Type} (f : Y → R α) : List Y → R (List α)
  | [] => .ok []
  | y :: ys => (f y).bind fun a => (outL f ys).bind fun as => .ok (a :: as)
def outI : Y → R Int | .int i => .ok i | _ => .no
def outB : Y → R Bool | .bl i => .ok i | _ => .no
def outS : Y → R (List Nat) | .str i => .ok i | _ => .no
def outU : Y → R Unit | .non => .ok () | _ => .no
def outT {α : Type} (f : Y → R α) : Y → R (List α) | .tup ys => outL f ys | _ => .no
def outV {α : Type} (f : Y → R α) : Y → R (List α) | .vl ys => outL f ys | _ => .no
def outP {α β : Type} (f : Y → R α) (g : Y → R β) : Y → R (α × β) | .tup [a, b] => (f a).bind fun a => (g b).bind fun b => .ok (a, b) | _ => .no
def outP3 {α β γ : Type} (f : Y → R α) (g : Y → R β) (h : Y → R γ) : Y → R (α × β × γ) | .tup [a, b, c] => (f a).bind fun a => (g b).bind fun b => (h c).bind fun c => .ok (a, b, c) | _ => .no
def outO {α : Type} (f : Y → R α) : Y → R (Option α) | .non => .ok none | y => (f y).bind fun a => .ok (some a)
/-- a way out of Y that fits an encoding -/
class Yo {α : Type} (e : α → D) (f : Y → R α) : Prop where
  ok : ∀ y, match f y with | .ok a => eY y = e a | .exc _ _ => False | .no => True
theorem Yo.cases {α : Type} {e : α → D} {f : Y → R α} [q : Yo e f] (y : Y) : (∃ a, f y = .ok a ∧ eY y = e a) ∨ f y = .no := by
  have := q.ok y
  cases h : f y with
  | ok a => rw [h] at this; exact .inl ⟨a, rfl, this⟩
  | exc c fs => rw [h] at this; exact this.elim
  | no => exact .inr rfl
theorem outL_ok {α : Type} {e : α → D} {f : Y → R α} [q : Yo e f] : ∀ ys : List Y, (∃ as, outL f ys = .ok as ∧ ys.map eY = as.map e) ∨ outL f ys = .no
  | [] => .inl ⟨[], rfl, rfl⟩
  | y :: ys => by
    unfold outL
    rcases q.cases y with ⟨a, h1, h2⟩ | h1
    · rcases outL_ok (e := e) (f := f) ys with ⟨as, h3, h4⟩ | h3
      · exact .inl ⟨a :: as, by simp [h1, h3], by simp [h2, h4]⟩
      · exact .inr (by simp [h1, h3])
    · exact .inr (by simp [h1])
instance : Yo eI outI := ⟨fun y => by cases y <;> simp [outI]⟩
instance : Yo eB outB := ⟨fun y => by cases y <;> simp [outB]⟩
instance : Yo eS outS := ⟨fun y => by cases y <;> simp [outS]⟩
instance : Yo eU outU := ⟨fun y => by cases y <;> simp [outU]⟩
instance : Yo eY (R.ok (α := Y)) := ⟨fun y => rfl⟩
instance {α : Type} {e : α → D} {f : Y → R α} [q : Yo e f] : Yo (eT e) (outT f) := ⟨fun y => by
  cases y with
  | tup ys =>
    rcases outL_ok (e := e) (f := f) ys with ⟨as, h1, h2⟩ | h1
    · simp [outT, h1, h2]
    · simp [outT, h1]
  | _ => trivial⟩
instance {α : Type} {e : α → D} {f : Y → R α} [q : Yo e f] : Yo (eL e) (outV f) := ⟨fun y => by
  cases y with
  | vl ys =>
    rcases outL_ok (e := e) (f := f) ys with ⟨as, h1, h2⟩ | h1
    · simp [outV, h1, h2]
    · simp [outV, h1]
  | _ => trivial⟩
instance {α β : Type} {e : α → D} {f : Y → R α} {e2 : β → D} {g : Y → R β} [q : Yo e f] [w : Yo e2 g] : Yo (eP e e2) (outP f g) := ⟨fun y => match y with
  | .tup [a, b] => by
    rcases q.cases a with ⟨x, h1, h2⟩ | h1
    · rcases w.cases b with ⟨z, h3, h4⟩ | h3
      · simp [outP, h1, h3, h2, h4]
      · simp [outP, h1, h3]
    · simp [outP, h1]
  | .tup [] => trivial
  | .tup [_] => trivial
  | .tup (_ :: _ :: _ :: _) => trivial
  | .non => trivial
  | .bl _ => trivial
  | .int _ => trivial
  | .str _ => trivial
  | .vl _ => trivial⟩
instance {α β γ : Type} {e : α → D} {f : Y → R α} {e2 : β → D} {g : Y → R β} {e3 : γ → D} {h : Y → R γ} [q : Yo e f] [w : Yo e2 g] [z : Yo e3 h] : Yo (eP3 e e2 e3) (outP3 f g h) := ⟨fun y => match y with
  | .tup [a, b, c] => by
    rcases q.cases a with ⟨x, h1, h2⟩ | h1
    · rcases w.cases b with ⟨u, h3, h4⟩ | h3
      · rcases z.cases c with ⟨v, h5, h6⟩ | h5
        · simp [outP3, h1, h3, h5, h2, h4, h6]
        · simp [outP3, h1, h3, h5]
      · simp [outP3, h1, h3]
    · simp [outP3, h1]
  | .tup [] => trivial
  | .tup [_] => trivial
  | .tup [_, _] => trivial
  | .tup (_ :: _ :: _ :: _ :: _) => trivial
  | .non => trivial
  | .bl _ => trivial
  | .int _ => trivial
  | .str _ => trivial
  | .vl _ => trivial⟩
instance {α : Type} {e : α → D} {f : Y → R α} [q : Yo e f] : Yo (eO e) (outO f) := ⟨fun y => by
  cases y with
  | non => exact eY_non
  | _ =>
    simp only [outO]
    rename_i z
    first
      | (rcases q.cases (.bl z) with ⟨x, h1, h2⟩ | h1 <;> simp only [h1, R.bind_ok, R.bind_no]; (first | exact h2 | trivial))
      | (rcases q.cases (.int z) with ⟨x, h1, h2⟩ | h1 <;> simp only [h1, R.bind_ok, R.bind_no]; (first | exact h2 | trivial))
      | (rcases q.cases (.str z) with ⟨x, h1, h2⟩ | h1 <;> simp only [h1, R.bind_ok, R.bind_no]; (first | exact h2 | trivial))
      | (rcases q.cases (.tup z) with ⟨x, h1, h2⟩ | h1 <;> simp only [h1, R.bind_ok, R.bind_no]; (first | exact h2 | trivial))
      | (rcases q.cases (.vl z) with ⟨x, h1, h2⟩ | h1 <;> simp only [h1, R.bind_ok, R.bind_no]; (first | exact h2 | trivial))⟩
noncomputable def ixY : Y → Int → R Y
  | .tup ys, i => ixR ys i
  | .vl ys, i => ixR ys i
  | .str z, i => (lnR z).bind fun z => (ixR z i).bind fun c => .ok (.str [c])
  | _, _ => .no
noncomputable def slY : Y → Option Int → Option Int → R Y
  | .tup ys, i, j => .ok (.tup (cutL ys i j))
  | .str z, i, j => (lnR z).bind fun z => .ok (.str (cutL z i j))
  | _, _, _ => .no
noncomputable def addY : Y → Y → R Y
  | .tup a, .tup b => (catR a b).bind fun c => .ok (.tup c)
  | .str a, .str b => (catR a b).bind fun c => .ok (.str c)
  | .int a, .int b => .ok (.int (a + b))
  | _, _ => .no
noncomputable def lenY : Y → R Int
  | .tup ys => .ok ys.length
  | .vl ys => .ok ys.length
  | .str z => (lnR z).bind fun z => .ok z.length
  | _ => .no
def kindY : Y → Nat
  | .non => 0 | .bl _ => 1 | .int _ => 2 | .str _ => 3 | .tup _ => 4 | .vl _ => 5
def eqYR (a b : Y) : R Bool := match eqB (eY a) (eY b) [] with | some q => .ok q | none => .no
theorem top_eY (S : Store) (y : Y) : top S (eY y) = eY y := by cases y <;> simp [top]
theorem eqB_eY (S : Store) (a b : Y) : eqB (eY a) (eY b) S = eqB (eY a) (eY b) [] := by
  unfold eqB
  split
  · rfl
  · rfl
  · rw [top_eY, top_eY, top_eY, top_eY]
section
variable {X : Cm} {α β γ : Type} {S : Store} {σ : Slots} {a b c : E} {P : Prog} {n : Nat} {C : Cx} {o : Bool}
theorem SA.toY {e : α → D} [y : Yn e] {t : R α} {r : Res D} (p : SA X (EQ e) S r t) : SA X (EQ eY) S r (t.bind fun a => .ok (y.inj a)) := by
  cases t with
  | ok a => obtain ⟨d, h1, h2⟩ := p; exact ⟨d, h1, by rw [h2]; exact (y.ok a).symm⟩
  | exc c fs => exact p
  | no => trivial
theorem SA.ofY {e : α → D} {f : Y → R α} [q : Yo e f] {t : R Y} {r : Res D} (p : SA X (EQ eY) S r t) : SA X (EQ e) S r (t.bind f) := by
  cases t with
  | ok y =>
    obtain ⟨d, h1, h2⟩ := p
    rcases q.cases y with ⟨a, h3, h4⟩ | h3
    · rw [R.bind_ok, h3]; exact ⟨d, h1, by rw [h2]; exact h4⟩
    · rw [R.bind_ok, h3]; trivial
  | exc c fs => exact p
  | no => trivial
theorem SA.ixY {x : R Y} {i : R Int} (p : SA X (EQ eY) S (evE C a σ S) x) (q : SI X S (evE C b σ S) i) : SA X (EQ eY) S (evE C (.ix a b) σ S) (x.bind fun x => i.bind fun i => SL.ixY x i) := by
  rw [eE_ix]
  refine p.bind1 (fun _ _ => rfl) fun x d hx => ?_
  rw [kIx1_ok]
  refine q.bind1 (fun _ _ => rfl) fun i u hi => ?_
  subst hi; subst hx
  rw [kIx2_ok]
  have gen : ∀ ys : List Y, seqOf S (eY x) = some (ys.map eY) → doIx (eY x) (.int i) S = okO S ((ixN (ys.map eY).length i).bind fun j => (ys.map eY)[j]?) → SA X (EQ eY) S (doIx (eY x) (.int i) S) (ixR ys i) := fun ys h h2 => by
    rw [h2, ixR_def, List.length_map]
    cases h : ixN ys.length i with
    | none => trivial
    | some j =>
      simp only [Option.bind_some, List.getElem?_map]
      cases h2 : ys[j]? with
      | none => trivial
      | some y => exact ⟨_, rfl, rfl⟩
  cases x with
  | tup ys => exact gen ys (by simp [seqOf]) (by simp [doIx, seqOf])
  | vl ys => exact gen ys (by simp [seqOf, items]) (by simp [doIx, seqOf, items])
  | str z =>
    show SA X (EQ eY) S (doIx (eY (.str z)) (.int i) S) ((lnR z).bind fun z => (ixR z i).bind fun c => .ok (.str [c]))
    rw [lnR_def]
    by_cases hl : z.length ≤ 16777216
    · rw [if_pos hl, R.bind_ok, ixR_def]
      have e : doIx (eY (.str z)) (.int i) S = okO S ((ixN z.length i).bind fun j => z[j]?.map fun c => .str [c]) := by
        rw [eY_str]
        simp only [doIx]
        rw [if_pos (by rw [LINE_eq]; exact hl)]
      rw [e]
      cases h : ixN z.length i with
      | none => trivial
      | some j =>
        cases h2 : z[j]? with
        | none => simp only [h, h2, Option.bind_some]; trivial
        | some c => simp only [h, h2, Option.bind_some, Option.map_some]; exact ⟨_, rfl, (eY_str _).symm⟩
    · rw [if_neg hl]; trivial
  | _ => trivial
theorem SA.slY {lo hi : EO} {x : R Y} {l h : R (Option Int)} (p : SA X (EQ eY) S (evE C a σ S) x) (pl : SO X S (evEO C lo σ S) l) (ph : SO X S (evEO C hi σ S) h) :
    SA X (EQ eY) S (evE C (.sl o a lo hi) σ S) (x.bind fun x => l.bind fun i => h.bind fun j => SL.slY x i j) :=
  p.sl' pl ph fun x d i j hx => by
    subst hx
    cases x with
    | tup ys =>
      rw [eY_tup]
      refine ⟨.tup (cutL (ys.map eY) i j), rfl, ?_⟩
      show _ = eY (.tup (cutL ys i j))
      rw [eY_tup, cutL_map']
    | str z =>
      rw [eY_str]
      show SA X (EQ eY) S _ ((lnR z).bind fun z => .ok (.str (cutL z i j)))
      rw [lnR_def]
      split
      · rename_i q; exact ⟨.str (cutL z i j), by simp only [doSl]; rw [if_pos (by rw [LINE_eq]; exact q)], (eY_str _).symm⟩
      · trivial
    | _ => trivial
theorem SA.addY {x y : R Y} (pa : SA X (EQ eY) S (evE C a σ S) x) (pb : SA X (EQ eY) S (evE C b σ S) y) : SA X (EQ eY) S (evE C (.op o .add a b) σ S) (x.bind fun x => y.bind fun y => SL.addY x y) :=
  pa.op2 pb fun x y d u hx hy => by
    subst hx; subst hy
    cases x <;> cases y <;> first | trivial | skip
    · rename_i x y
      rw [eY_int, eY_int]
      exact ⟨.int (x + y), rfl, (eY_int _).symm⟩
    · rename_i x y
      rw [eY_str, eY_str]
      show SA X (EQ eY) S _ ((catR x y).bind fun c => .ok (.str c))
      rw [catR_def]
      split
      · rename_i h; exact ⟨.str (x ++ y), op_str (by simpa [LINE_eq] using h), (eY_str _).symm⟩
      · trivial
    · rename_i x y
      rw [eY_tup, eY_tup]
      show SA X (EQ eY) S _ ((catR x y).bind fun c => .ok (.tup c))
      rw [catR_def]
      split
      · rename_i h
        refine ⟨.tup (x.map eY ++ y.map eY), op_tup (by simpa [LINE_eq] using h), ?_⟩
        show _ = eY (.tup (x ++ y))
        rw [eY_tup, List.map_append]
      · trivial
theorem SA.lenY {x : R Y} (p : SA X (EQ eY) S (evE (mkC P n) a σ S) x) : SI X S (evE (mkC P n) (.bi o .len (.cons a .nil)) σ S) (x.bind fun x => SL.lenY x) := p.bi1 fun x d h => by
  subst h
  cases x with
  | tup ys =>
    rw [eY_tup]
    refine ⟨.int ys.length, ?_, rfl⟩
    simp only [doBi, seqOf, okO, Option.map_some, List.length_map]
  | vl ys =>
    rw [eY_vl]
    refine ⟨.int ys.length, ?_, rfl⟩
    simp only [doBi, seqOf, items, okO, Option.map_some, List.length_map]
  | str z =>
    rw [eY_str]
    show SI X S _ ((lnR z).bind fun z => .ok (z.length : Int))
    rw [lnR_def]
    split
    · rename_i q
      refine ⟨.int z.length, ?_, rfl⟩
      simp only [doBi]
      rw [if_pos (by rw [LINE_eq]; exact q)]
    · trivial
  | _ => trivial
theorem SA.eqY {x y : R Y} (pa : SA X (EQ eY) S (evE C a σ S) x) (pb : SA X (EQ eY) S (evE C b σ S) y) : SB X S (evE C (.cmp .eq a b) σ S) (x.bind fun x => y.bind fun y => eqYR x y) := pa.cmp' pb fun x y d u hx hy => by
  subst hx; subst hy
  unfold eqYR
  have e : doCmp .eq (eY x) (eY y) S = okO S ((eqB (eY x) (eY y) []).map .bl) := by unfold doCmp cmpB; simp only []; rw [eqB_eY]
  rw [e]
  cases eqB (eY x) (eY y) [] with
  | some q => exact ⟨_, rfl, rfl⟩
  | none => trivial
theorem SA.neY {x y : R Y} (pa : SA X (EQ eY) S (evE C a σ S) x) (pb : SA X (EQ eY) S (evE C b σ S) y) : SB X S (evE C (.cmp .ne a b) σ S) (x.bind fun x => y.bind fun y => (eqYR x y).bind fun q => .ok (!q)) := pa.cmp' pb fun x y d u hx hy => by
  subst hx; subst hy
  unfold eqYR
  have e : doCmp .ne (eY x) (eY y) S = okO S (((eqB (eY x) (eY y) []).map Bool.not).map .bl) := by unfold doCmp cmpB; simp only []; rw [eqB_eY]
  rw [e]
  cases eqB (eY x) (eY y) [] with
  | some q => exact ⟨_, rfl, rfl⟩
  | none => trivial
theorem kind_eY (y : Y) : kindD S (eY y) = kindY y := by cases y <;> simp [kindD, kindY]
theorem SA.iskY {bi : Bi} {p : Nat → Prop} [DecidablePred p] (hb : ∀ d S, doBi o bi [d] S = isD p d S) {x : R Y} (pa : SA X (EQ eY) S (evE (mkC P n) a σ S) x) : SB X S (evE (mkC P n) (.bi o bi (.cons a .nil)) σ S) (x.bind fun y => .ok (decide (p (kindY y)))) := pa.bi1 fun x d h => by
  subst h
  refine ⟨.bl (decide (p (kindY x))), ?_, rfl⟩
  rw [hb]
  unfold isD
  rw [kind_eY, if_neg (by cases x <;> simp [kindY])]
def nonY : Y → Bool | .non => true | _ => false
theorem SA.isNY {x : R Y} (pa : SA X (EQ eY) S (evE C a σ S) x) : SB X S (evE C (.cmp .is a (.con .non)) σ S) (x.bind fun x => .ok (nonY x)) := by
  refine (pa.cmp' (SA.con (e := eU) (a := ()) rfl) (f := fun x _ => .ok (nonY x)) fun x y d u hx hy => ?_).eq (by simp)
  subst hx; subst hy
  cases x <;> (first | rw [eY_non] | rw [eY_bl] | rw [eY_int] | rw [eY_str] | rw [eY_tup] | rw [eY_vl]) <;> exact ⟨_, rfl, rfl⟩
theorem SA.isnNY {x : R Y} (pa : SA X (EQ eY) S (evE C a σ S) x) : SB X S (evE C (.cmp .isnot a (.con .non)) σ S) (x.bind fun x => .ok (!nonY x)) := by
  refine (pa.cmp' (SA.con (e := eU) (a := ()) rfl) (f := fun x _ => .ok (!nonY x)) fun x y d u hx hy => ?_).eq (by simp)
  subst hx; subst hy
  cases x <;> (first | rw [eY_non] | rw [eY_bl] | rw [eY_int] | rw [eY_str] | rw [eY_tup] | rw [eY_vl]) <;> exact ⟨_, rfl, rfl⟩
theorem SA.tupY' {es : Es} {x : List Y} (p : SE X eY S (evEs C es σ S) (.ok x)) (h : x.length ≤ 1000000) : SA X (EQ eY) S (evE C (.tup es) σ S) (.ok (.tup x)) := by
  have q := (SA.tup' p h).toY
  refine q.eq ?_
  show R.ok (Y.tup (x.map fun y => y)) = _
  rw [List.map_id']
/-- a row of mixed things -/
theorem SA.tupY {es : Es} {x : R (List Y)} (p : SE X eY S (evEs C es σ S) x) : SA X (EQ eY) S (evE C (.tup es) σ S) (x.bind fun x => (lnR x).bind fun x => .ok (.tup x)) := by
  have q := (SA.tup p).toY
  refine q.eq ?_
  rw [R.bind_assoc]
  congr 1
  funext x
  congr 1
  funext x
  show R.ok (Y.tup (x.map fun y => y)) = _
  rw [List.map_id']
/-- a tuple of mixed things as one of them -/
theorem SA.toYt {t : R (List Y)} (p : SA X (EQ (eT eY)) S r t) : SA X (EQ eY) S r (t.bind fun a => .ok (.tup a)) := by
  unfold SA at p ⊢
  cases t with
  | ok a =>
    obtain ⟨d, h1, h2⟩ := p
    exact ⟨d, h1, by rw [h2]; exact (eY_tup a).symm⟩
  | exc c fs => exact p
  | no => trivial
end
end SL
/-! Plain laws over R. -/
namespace SL
def Sat {α : Type} (t : R α) (Q : α → Prop) : Prop := ∃ a, t = .ok a ∧ Q a
section
variable {α β σ τ : Type} {t : R α} {Q P : α → Prop}
@[simp] theorem sat_ok {a : α} : Sat (.ok a) Q ↔ Q a := ⟨fun ⟨b, h, q⟩ => by cases h; exact q, fun h => ⟨a, rfl, h⟩⟩
@[simp] theorem sat_exc {c : Nat} {fs : List D} : Sat (.exc c fs : R α) Q ↔ False := ⟨fun ⟨b, h, q⟩ => (by cases h), fun h => h.elim⟩
@[simp] theorem sat_no : Sat (.no : R α) Q ↔ False := ⟨fun ⟨b, h, q⟩ => (by cases h), fun h => h.elim⟩
@[simp] theorem sat_bind {k : β → R α} {t : R β} : Sat (t.bind k) Q ↔ Sat t fun a => Sat (k a) Q := by
  constructor
  · rintro ⟨b, h, q⟩
    cases t with
    | ok a => exact ⟨a, rfl, b, h, q⟩
    | exc c fs => cases h
    | no => cases h
  · rintro ⟨a, rfl, b, h, q⟩
    exact ⟨b, h, q⟩
@[simp] theorem sat_fall {t : R (β ⊕ α)} {k : β → R α} : Sat (t.fall k) Q ↔ Sat t fun x => match x with | .inl a => Sat (k a) Q | .inr b => Q b := by
  unfold R.fall
  rw [sat_bind]
  constructor
  · rintro ⟨a, h, q⟩; refine ⟨a, h, ?_⟩; cases a <;> simpa using q
  · rintro ⟨a, h, q⟩; refine ⟨a, h, ?_⟩; cases a <;> simpa using q
@[simp] theorem sat_ite {p : Prop} [Decidable p] {x y : R α} : Sat (if p then x else y) Q ↔ (p → Sat x Q) ∧ (¬p → Sat y Q) := by
  by_cases h : p <;> simp [h]
theorem Sat.mono (h : Sat t P) (k : ∀ a, P a → Q a) : Sat t Q := let ⟨a, e, p⟩ := h; ⟨a, e, k a p⟩
theorem Sat.of {a : α} (h : t = .ok a) (q : Q a) : Sat t Q := ⟨a, h, q⟩
theorem Sat.eq {a : α} (h : Sat t fun x => x = a) : t = .ok a := by obtain ⟨x, h, rfl⟩ := h; exact h
/-! guards -/
theorem lnR_eq {xs : List α} (h : xs.length ≤ 1000000) : lnR xs = .ok xs := lnR_ok h
theorem catR_eq {xs ys : List α} (h : xs.length + ys.length ≤ 1000000) : catR xs ys = .ok (xs ++ ys) := by rw [catR_def, if_pos (by omega)]
theorem appR_eq {xs : List α} {a : α} (h : xs.length ≤ 1000000) : appR xs a = .ok (xs ++ [a]) := by rw [appR_def, if_pos (by omega)]
theorem rg1R_eq {n : Int} (h : n ≤ 1000000000000000000) (h2 : -1000000000000000000 ≤ n) : rg1R n = .ok (rg0 n) := by
  rw [rg1R_def, if_pos (small_ok (by omega) h)]
theorem rgR_eq {i j : Int} (h : i ≤ 1000000000000000000) (h2 : -1000000000000000000 ≤ i) (h3 : j ≤ 1000000000000000000) (h4 : -1000000000000000000 ≤ j) : rgR i j = .ok ((List.range (j - i).toNat).map fun k => i + (k : Nat)) := by
  rw [rgR_def, if_pos ⟨small_ok (by omega) h, small_ok (by omega) (by omega)⟩]
theorem rgLR_eq {n : Int} (h : n ≤ 1000000) (h2 : -1000000 ≤ n) : rgLR n = .ok (rg0 n) := by rw [rgLR_def, if_pos ⟨h2, h⟩]
theorem fmodR_eq {i j : Int} (h : 0 < j) : fmodR i j = .ok (i % j) := by rw [fmodR_def, if_pos (by omega), Int.fmod_eq_emod_of_nonneg i (by omega)]
theorem fmodR_any {i j : Int} (h : j ≠ 0) : fmodR i j = .ok (i.fmod j) := by rw [fmodR_def, if_pos h]
theorem divOk_big {j : Int} (h : 0 < j) (h2 : j < 1606938044258990275541962092341162602522202993782792835301376) : divOk j = true := by
  unfold divOk
  have h1 : j ≠ 0 := by omega
  have := nat_lt_1000 (n := j.natAbs) (by omega)
  simp only [Bool.and_eq_true, decide_eq_true_eq]
  exact ⟨h1, this⟩
theorem fdivR_eq {i j : Int} (h : 0 < j) (h2 : j < 1606938044258990275541962092341162602522202993782792835301376) : fdivR i j = .ok (i / j) := by
  rw [fdivR_def, if_pos (divOk_big h h2), Int.fdiv_eq_ediv_of_nonneg i (by omega)]
theorem mulR_r {i j : Int} (h : j.natAbs < 18446744073709551616) : mulR i j = .ok (i * j) := by rw [mulR_def, if_pos (mulOk_r h)]
theorem mulR_l {i j : Int} (h : i.natAbs < 18446744073709551616) : mulR i j = .ok (i * j) := by rw [mulR_def, if_pos (mulOk_l h)]
theorem mulR_eq {i j : Int} (h : mulOk i j = true) : mulR i j = .ok (i * j) := by rw [mulR_def, if_pos h]
/-- numbers below 10 ** 1000 or so -/
theorem mulOk_big {i j : Int} (h1 : i.natAbs < 2 ^ 1000) (h2 : j.natAbs < 2 ^ 1000) : mulOk i j = true := by
  unfold mulOk
  have a : i.natAbs.log2 ≤ 1000 := by
    by_cases z : i.natAbs = 0
    · rw [z]; decide
    · exact Nat.le_of_lt ((Nat.log2_lt z).mpr h1)
  have b : j.natAbs.log2 ≤ 1000 := by
    by_cases z : j.natAbs = 0
    · rw [z]; decide
    · exact Nat.le_of_lt ((Nat.log2_lt z).mpr h2)
  have : i.natAbs.log2 + j.natAbs.log2 < 100000000 := by omega
  simp [this]
theorem mulR_big {i j : Int} (h1 : i.natAbs < 1606938044258990275541962092341162602522202993782792835301376) (h2 : j.natAbs < 1606938044258990275541962092341162602522202993782792835301376) : mulR i j = .ok (i * j) :=
  mulR_eq (mulOk_big (nat_lt_1000 h1) (nat_lt_1000 h2))
theorem ixR_get {xs : List α} {i : Int} {a : α} (h0 : 0 ≤ i) (h : xs[i.toNat]? = some a) : ixR xs i = .ok a := by
  have hl := (List.getElem?_eq_some_iff.mp h).1
  have h1 : i < xs.length := by omega
  rw [ixR_def]
  simp only [ixN, h0, h1, if_true, Option.bind_some, h]
theorem ixR_eq {xs : List α} {i : Int} (h0 : 0 ≤ i) (h : i < xs.length) : ixR xs i = .ok (xs[i.toNat]'(by omega)) := ixR_get h0 (List.getElem?_eq_getElem _)
theorem ixR_nat {xs : List α} {i : Nat} (h : i < xs.length) : ixR xs (i : Int) = .ok xs[i] := ixR_get (by omega) (by simp [h])
theorem ixR_sat {xs : List α} {i : Int} (h0 : 0 ≤ i) (h : i < xs.length) (q : ∀ a ∈ xs, Q a) : Sat (ixR xs i) Q := ⟨_, ixR_eq h0 h, q _ (List.getElem_mem _)⟩
@[simp] theorem ixR_c0 {x : α} {xs : List α} : ixR (x :: xs) 0 = .ok x := ixR_get (by omega) rfl
@[simp] theorem ixR_c1 {x y : α} {xs : List α} : ixR (x :: y :: xs) 1 = .ok y := ixR_get (by omega) rfl
@[simp] theorem ixR_c2 {x y z : α} {xs : List α} : ixR (x :: y :: z :: xs) 2 = .ok z := ixR_get (by omega) rfl
theorem ixR_last {xs : List α} (h : 0 < xs.length) : ixR xs (-1) = .ok (xs[xs.length - 1]'(by omega)) := by
  rw [ixR_def]
  have h1 : -(xs.length : Int) ≤ -1 := by omega
  have h2 : (-1 + (xs.length : Int)).toNat = xs.length - 1 := by omega
  have h3 : xs.length - 1 < xs.length := by omega
  simp [ixN, h1, h2, h3]
/-! slices -/
theorem cutL_to {xs : List α} {k : Int} (h : 0 ≤ k) : cutL xs none (some k) = xs.take k.toNat := by
  have : ¬ k < 0 := by omega
  simp only [cutL, cutI, this, if_false, List.drop_zero, Nat.sub_zero]
  by_cases z : k ≤ xs.length
  · rw [show (min k (xs.length : Int)).toNat = k.toNat by omega]
  · rw [show (min k (xs.length : Int)).toNat = xs.length by omega, List.take_of_length_le (Nat.le_refl _), List.take_of_length_le (by omega)]
theorem cutL_from {xs : List α} {k : Int} (h : 0 ≤ k) : cutL xs (some k) none = xs.drop k.toNat := by
  have : ¬ k < 0 := by omega
  simp only [cutL, cutI, this, if_false]
  by_cases z : k ≤ xs.length
  · rw [show (min k (xs.length : Int)).toNat = k.toNat by omega, List.take_of_length_le (by simp)]
  · rw [show (min k (xs.length : Int)).toNat = xs.length by omega]
    simp
    omega
theorem cutL_mid {xs : List α} {i j : Int} (h : 0 ≤ i) (h2 : 0 ≤ j) : cutL xs (some i) (some j) = (xs.drop i.toNat).take (j.toNat - i.toNat) := by
  have n1 : ¬ i < 0 := by omega
  have n2 : ¬ j < 0 := by omega
  simp only [cutL, cutI, n1, n2, if_false]
  by_cases z : i ≤ xs.length
  · rw [show (min i (xs.length : Int)).toNat = i.toNat by omega]
    by_cases y : j ≤ xs.length
    · rw [show (min j (xs.length : Int)).toNat = j.toNat by omega]
    · rw [show (min j (xs.length : Int)).toNat = xs.length by omega, List.take_of_length_le (by simp), List.take_of_length_le (by simp; omega)]
  · rw [show (min i (xs.length : Int)).toNat = xs.length by omega]
    simp
    omega
theorem cutL_all {xs : List α} : cutL xs none none = xs := by simp [cutL, cutI]
theorem cutL_to_n {xs : List α} {k : Nat} : cutL xs none (some (k : Int)) = xs.take k := by rw [cutL_to (by omega)]; simp
theorem cutL_from_n {xs : List α} {k : Nat} : cutL xs (some (k : Int)) none = xs.drop k := by rw [cutL_from (by omega)]; simp
theorem cutL_len {xs : List α} {lo hi : Option Int} : (cutL xs lo hi).length ≤ xs.length := by simp only [cutL, List.length_take, List.length_drop]; omega
/-! loops -/
theorem foldR_sat {f : σ → β → R σ} {s0 : σ} {xs : List β} (I : List β → σ → Prop) (h0 : I [] s0) (hs : ∀ pre x post s, xs = pre ++ x :: post → I pre s → Sat (f s x) (I (pre ++ [x]))) : Sat (foldR f s0 xs) (I xs) := by
  have gen : ∀ zs ys s, xs = ys ++ zs → I ys s → Sat (foldR f s zs) (I xs) := by
    intro zs
    induction zs with
    | nil => intro ys s e i; simp [foldR]; rw [e]; simpa using i
    | cons z zs ih =>
      intro ys s e i
      unfold foldR
      rw [sat_bind]
      exact (hs ys z zs s e i).mono fun s' h => ih (ys ++ [z]) s' (by simp [e]) h
  exact gen xs [] s0 rfl h0
theorem foldR_pure {f : σ → β → R σ} {g : σ → β → σ} : ∀ {xs : List β} {s : σ}, (∀ s, ∀ x ∈ xs, f s x = .ok (g s x)) → foldR f s xs = .ok (xs.foldl g s)
  | [], s, _ => rfl
  | x :: xs, s, h => by
    unfold foldR
    rw [h s x (by simp), R.bind_ok, foldR_pure fun s y hy => h s y (by simp [hy])]
    rfl
/-- a loop that is left nowhere -/
theorem foldX_all {f : σ → β → R (Stp σ τ)} {g : σ → β → σ} : ∀ {xs : List β} {s : σ}, (∀ s, ∀ x ∈ xs, f s x = .ok (.go (g s x))) → foldX f s xs = .ok (.inl (xs.foldl g s))
  | [], s, _ => rfl
  | x :: xs, s, h => by
    unfold foldX
    rw [h s x (by simp), R.bind_ok]
    exact foldX_all fun s y hy => h s y (by simp [hy])
theorem foldX_unit {f : Unit → β → R (Stp Unit τ)} {xs : List β} (h : ∀ x ∈ xs, f () x = .ok (.go ())) : foldX f () xs = .ok (.inl ()) := by
  rw [foldX_all (g := fun _ _ => ()) fun s x hx => h x hx]
/-- .. with what holds on the way -/
def SGo (I : σ → Prop) (B : σ → Prop) (O : τ → Prop) : Stp σ τ → Prop | .go s => I s | .stop s => B s | .out v => O v
theorem foldX_sat {f : σ → β → R (Stp σ τ)} {s0 : σ} {xs : List β} (I : List β → σ → Prop) (Q : σ ⊕ τ → Prop) (h0 : I [] s0) (hs : ∀ pre x post s, xs = pre ++ x :: post → I pre s → Sat (f s x) (SGo (I (pre ++ [x])) (fun s => Q (.inl s)) fun v => Q (.inr v))) (hk : ∀ s, I xs s → Q (.inl s)) : Sat (foldX f s0 xs) Q := by
  have gen : ∀ zs ys s, xs = ys ++ zs → I ys s → Sat (foldX f s zs) Q := by
    intro zs
    induction zs with
    | nil => intro ys s e i; simp [foldX]; apply hk; rw [e]; simpa using i
    | cons z zs ih =>
      intro ys s e i
      unfold foldX
      rw [sat_bind]
      refine (hs ys z zs s e i).mono fun q h => ?_
      cases q with
      | go s' => exact ih (ys ++ [z]) s' (by simp [e]) h
      | stop s' => exact sat_ok.mpr h
      | out v => exact sat_ok.mpr h
  exact gen xs [] s0 rfl h0
theorem mapR_ok {f : α → R β} {g : α → β} : ∀ {xs : List α}, (∀ x ∈ xs, f x = .ok (g x)) → mapR f xs = .ok (xs.map g)
  | [], _ => rfl
  | x :: xs, h => by
    unfold mapR
    rw [h x (by simp), mapR_ok fun y hy => h y (by simp [hy])]
    rfl
/-! tries -/
@[simp] theorem tryR_ok {H : Nat → List D → Option (R α)} {a : α} : tryR (.ok a) H = .ok a := rfl
@[simp] theorem tryR_exc {H : Nat → List D → Option (R α)} {c : Nat} {fs : List D} : tryR (.exc c fs) H = (match H c fs with | some u => u.calm | none => .exc c fs) := rfl
@[simp] theorem tryR_ite {H : Nat → List D → Option (R α)} {p : Prop} [Decidable p] {x y : R α} : tryR (if p then x else y) H = if p then tryR x H else tryR y H := by split <;> rfl
@[simp] theorem calm_okR {a : α} : (R.ok a).calm = .ok a := rfl
/-! ranges -/
@[simp] theorem rg0_length (n : Int) : (rg0 n).length = n.toNat := rg0_len n
theorem rg0_nat (n : Nat) : rg0 (n : Int) = (List.range n).map fun k : Nat => (k : Int) := by simp [rg0]
theorem mem_rg0 {n k : Int} : k ∈ rg0 n ↔ 0 ≤ k ∧ k < n := by
  simp only [rg0, List.mem_map, List.mem_range]
  constructor
  · rintro ⟨m, hm, rfl⟩; omega
  · rintro ⟨h1, h2⟩; exact ⟨k.toNat, by omega, by omega⟩
theorem rg0_split {n : Int} {pre post : List Int} {x : Int} (h : rg0 n = pre ++ x :: post) : x = pre.length ∧ x < n := by
  have hl := congrArg List.length h
  simp at hl
  have hx : (rg0 n)[pre.length]? = some x := by rw [h]; simp
  have hp : pre.length < n.toNat := by omega
  simp [rg0, hp] at hx
  omega
/-! with the places -/
abbrev en {α : Type} (xs : List α) : List (Int × α) := xs.zipIdx.map fun q => ((q.2 : Int), q.1)
theorem en_len (xs : List α) : (en xs).length = xs.length := by simp [en]
theorem en_map {f : Int × α → β} (xs : List α) : (en xs).map f = xs.mapIdx fun i x => f ((i : Int), x) := by
  simp [en, List.mapIdx_eq_zipIdx_map, Function.comp_def]
theorem filt_far (p : Int) : ∀ (xs : List α) (k : Nat), p < k → (((xs.zipIdx k).map fun q => ((q.2 : Int), q.1)).filter fun x => decide (x.1 ≠ p)).map (·.2) = xs
  | [], _, _ => by simp
  | x :: xs, k, h => by
    have hk : (k : Int) ≠ p := by omega
    have := filt_far p xs (k + 1) (by omega)
    simp only [List.zipIdx_cons, List.map_cons, List.filter_cons, hk, ne_eq, not_false_eq_true, decide_true, if_true] at this ⊢
    rw [this]
theorem filt_at : ∀ (xs : List α) (k j : Nat), (((xs.zipIdx k).map fun q => ((q.2 : Int), q.1)).filter fun x => decide (x.1 ≠ ((k + j : Nat) : Int))).map (·.2) = xs.take j ++ xs.drop (j + 1)
  | [], _, _ => by simp
  | x :: xs, k, 0 => by
    have := filt_far (k : Nat) xs (k + 1) (by omega)
    simp at this ⊢
    rw [this]
  | x :: xs, k, j + 1 => by
    have hk : (k : Int) ≠ ((k + (j + 1) : Nat) : Int) := by omega
    have := filt_at xs (k + 1) j
    rw [show k + 1 + j = k + (j + 1) by omega] at this
    simp only [List.zipIdx_cons, List.map_cons, List.filter_cons, hk, ne_eq, not_false_eq_true, decide_true, if_true] at this ⊢
    rw [this]
    simp
theorem en_filt {xs : List α} {p : Int} (h : 0 ≤ p) : ((en xs).filter fun x => decide (x.1 ≠ p)).map (·.2) = xs.take p.toNat ++ xs.drop (p.toNat + 1) := by
  have := filt_at xs 0 p.toNat
  rw [show ((0 + p.toNat : Nat) : Int) = p by omega] at this
  exact this
theorem en_set {xs : List α} {p : Int} {v : α} (h : 0 ≤ p) : ((en xs).map fun x => if x.1 = p then v else x.2) = xs.set p.toNat v := by
  rw [en_map]
  refine List.ext_getElem (by simp) fun i h3 h4 => ?_
  simp only [List.getElem_mapIdx, List.getElem_set]
  by_cases e : (i : Int) = p
  · have : p.toNat = i := by omega
    simp [e, this]
  · have : ¬ p.toNat = i := by omega
    simp [e, this]
theorem set_cut {xs : List α} {p : Int} {v : α} (h : 0 ≤ p) (h2 : p < xs.length) : xs.take p.toNat ++ [v] ++ xs.drop (p.toNat + 1) = xs.set p.toNat v := by
  rw [List.set_eq_take_append_cons_drop, if_pos (by omega)]
  simp
end
end SL
/-! Sides, coordinates, places, rows: plain laws. -/
namespace SL
def amt (xs : List Int) : Int := xs.foldl (fun a b => a * b) 1
def brd (xs : List Int) : Int := xs.foldl (fun a b => a * max 1 b) 1
theorem foldl_mul (xs : List Int) : ∀ a : Int, xs.foldl (fun a b => a * b) a = a * amt xs := by
  unfold amt
  induction xs with
  | nil => intro a; simp
  | cons x xs ih => intro a; rw [List.foldl_cons, List.foldl_cons, ih, ih (1 * x), Int.one_mul, Int.mul_assoc]
theorem foldl_brd (xs : List Int) : ∀ a : Int, xs.foldl (fun a b => a * max 1 b) a = a * brd xs := by
  unfold brd
  induction xs with
  | nil => intro a; simp
  | cons x xs ih => intro a; rw [List.foldl_cons, List.foldl_cons, ih, ih (1 * max 1 x), Int.one_mul, Int.mul_assoc]
@[simp] theorem amt_nil : amt [] = 1 := rfl
theorem amt_cons (x : Int) (xs : List Int) : amt (x :: xs) = x * amt xs := by
  show (x :: xs).foldl _ 1 = _
  rw [List.foldl_cons, foldl_mul, Int.one_mul]
theorem amt_append (xs ys : List Int) : amt (xs ++ ys) = amt xs * amt ys := by
  show (xs ++ ys).foldl _ 1 = _
  rw [List.foldl_append, foldl_mul]; rfl
theorem amt_snoc (xs : List Int) (x : Int) : amt (xs ++ [x]) = amt xs * x := by rw [amt_append, amt_cons, amt_nil, Int.mul_one]
@[simp] theorem brd_nil : brd [] = 1 := rfl
theorem brd_cons (x : Int) (xs : List Int) : brd (x :: xs) = max 1 x * brd xs := by
  show (x :: xs).foldl _ 1 = _
  rw [List.foldl_cons, foldl_brd, Int.one_mul]
theorem brd_append (xs ys : List Int) : brd (xs ++ ys) = brd xs * brd ys := by
  show (xs ++ ys).foldl _ 1 = _
  rw [List.foldl_append, foldl_brd]; rfl
theorem brd_snoc (xs : List Int) (x : Int) : brd (xs ++ [x]) = brd xs * max 1 x := by rw [brd_append, brd_cons, brd_nil, Int.mul_one]
theorem brd_pos (xs : List Int) : 1 ≤ brd xs := by
  induction xs with
  | nil => simp
  | cons x xs ih =>
    rw [brd_cons]
    have := Int.mul_le_mul (show 1 ≤ max 1 x by omega) ih (by omega) (by omega)
    omega
def nng (s : List Int) : Prop := ∀ x ∈ s, 0 ≤ x
theorem nng_cons {x : Int} {s : List Int} (h : nng (x :: s)) : 0 ≤ x ∧ nng s := ⟨h x (by simp), fun y hy => h y (by simp [hy])⟩
theorem nng_left {a b : List Int} (h : nng (a ++ b)) : nng a := fun x hx => h x (by simp [hx])
theorem nng_right {a b : List Int} (h : nng (a ++ b)) : nng b := fun x hx => h x (by simp [hx])
theorem nng_take {a : List Int} (h : nng a) (k : Nat) : nng (a.take k) := fun x hx => h x (List.mem_of_mem_take hx)
theorem nng_drop {a : List Int} (h : nng a) (k : Nat) : nng (a.drop k) := fun x hx => h x (List.mem_of_mem_drop hx)
theorem amt_nonneg {s : List Int} (h : nng s) : 0 ≤ amt s := by
  induction s with
  | nil => simp
  | cons x s ih => obtain ⟨h1, h2⟩ := nng_cons h; rw [amt_cons]; exact Int.mul_nonneg h1 (ih h2)
theorem amt_le_brd {s : List Int} (h : nng s) : amt s ≤ brd s := by
  induction s with
  | nil => simp
  | cons x s ih =>
    obtain ⟨h1, h2⟩ := nng_cons h
    rw [amt_cons, brd_cons]
    exact Int.mul_le_mul (by omega) (ih h2) (amt_nonneg h2) (by omega)
theorem brd_le_left (a b : List Int) : brd a ≤ brd (a ++ b) := by
  rw [brd_append]
  have := Int.mul_le_mul_of_nonneg_left (brd_pos b) (show 0 ≤ brd a by have := brd_pos a; omega)
  omega
theorem brd_le_right (a b : List Int) : brd b ≤ brd (a ++ b) := by
  rw [brd_append]
  have := Int.mul_le_mul_of_nonneg_right (brd_pos a) (show 0 ≤ brd b by have := brd_pos b; omega)
  omega
theorem brd_mem {s : List Int} {x : Int} (h : x ∈ s) : x ≤ brd s := by
  obtain ⟨a, b, rfl⟩ := List.append_of_mem h
  have h1 := brd_le_right a (x :: b)
  have h2 := brd_le_left [x] b
  have h3 : brd [x] = max 1 x := by rw [brd_cons, brd_nil, Int.mul_one]
  simp only [List.singleton_append] at h2
  omega
theorem rg0_succ {n : Int} (h : 0 ≤ n) : rg0 (n + 1) = rg0 n ++ [n] := by
  unfold rg0
  rw [show (n + 1).toNat = n.toNat + 1 by omega, List.range_succ, List.map_append]
  simp
  omega
@[simp] theorem rg0_zero : rg0 0 = [] := rfl
/-- so many rows of so many -/
theorem rg0_mul {m n : Int} (hm : 0 ≤ m) (hn : 0 ≤ n) : rg0 (m * n) = (rg0 m).flatMap fun o => (rg0 n).map fun i => o * n + i := by
  obtain ⟨k, rfl⟩ := Int.eq_ofNat_of_zero_le hm
  induction k with
  | zero => simp
  | succ k ih =>
    have h1 := ih (by omega)
    rw [show ((k + 1 : Nat) : Int) = (k : Int) + 1 by omega, rg0_succ (by omega), List.flatMap_append, ← h1, Int.add_mul, Int.one_mul]
    simp only [List.flatMap_cons, List.flatMap_nil, List.append_nil]
    have hk : 0 ≤ (k : Int) * n := Int.mul_nonneg (by omega) hn
    generalize (k : Int) * n = q at *
    unfold rg0
    rw [show (q + n).toNat = q.toNat + n.toNat by omega, List.range_add, List.map_append, List.map_map, List.map_map]
    congr 1
    refine List.map_congr_left fun x _ => ?_
    simp
    omega
/-- all coordinates -/
def allC : List Int → List (List Int)
  | [] => [[]]
  | l :: ls => (rg0 l).flatMap fun k => (allC ls).map (k :: ·)
def spt : List Int → List Int → Int
  | l :: ls, k :: ks => k * amt ls + spt ls ks
  | _, _ => 0
theorem allC_append (A B : List Int) : allC (A ++ B) = (allC A).flatMap fun a => (allC B).map (a ++ ·) := by
  induction A with
  | nil => simp [allC]
  | cons l A ih =>
    simp only [List.cons_append, allC, ih, List.flatMap_assoc, List.map_flatMap, List.flatMap_map, List.map_map]
    rfl
theorem allC_snoc (A : List Int) (l : Int) : allC (A ++ [l]) = (allC A).flatMap fun a => (rg0 l).map fun k => a ++ [k] := by
  rw [allC_append]
  congr 1
  funext a
  simp [allC, List.map_flatMap, List.flatMap_map]
  induction rg0 l with
  | nil => rfl
  | cons x xs ih => simp [ih]
def inC (s a : List Int) : Prop := a.length = s.length ∧ ∀ (k : Nat) (h1 : k < a.length) (h2 : k < s.length), 0 ≤ a[k] ∧ a[k] < s[k]
theorem mem_allC {s a : List Int} (h : a ∈ allC s) : inC s a := by
  induction s generalizing a with
  | nil => simp [allC] at h; subst h; exact ⟨rfl, fun k h1 => by simp at h1⟩
  | cons l s ih =>
    simp only [allC, List.mem_flatMap, List.mem_map] at h
    obtain ⟨k, hk, b, hb, rfl⟩ := h
    obtain ⟨i1, i2⟩ := ih hb
    obtain ⟨k1, k2⟩ := mem_rg0.mp hk
    refine ⟨by simp [i1], fun j h1 h2 => ?_⟩
    cases j with
    | zero => simpa using ⟨k1, k2⟩
    | succ j => simpa using i2 j (by simpa using h1) (by simpa using h2)
theorem spt_append {A B a b : List Int} (h : a.length = A.length) : spt (A ++ B) (a ++ b) = spt A a * amt B + spt B b := by
  induction A generalizing a with
  | nil => cases a with
    | nil => simp [spt]
    | cons _ _ => simp at h
  | cons l A ih =>
    cases a with
    | nil => simp at h
    | cons k a =>
      simp only [List.length_cons, Nat.add_right_cancel_iff] at h
      simp only [List.cons_append, spt, ih h, amt_append, Int.add_mul, Int.mul_assoc, Int.add_assoc]
theorem map_spt {s : List Int} (h : nng s) : (allC s).map (spt s) = rg0 (amt s) := by
  induction s with
  | nil => rfl
  | cons l s ih =>
    obtain ⟨h1, h2⟩ := nng_cons h
    rw [amt_cons, rg0_mul h1 (amt_nonneg h2), ← ih h2]
    simp only [allC, List.map_flatMap, List.map_map]
    rfl
theorem spt_in {s a : List Int} (h : nng s) (ha : a ∈ allC s) : 0 ≤ spt s a ∧ spt s a < amt s := by
  have : spt s a ∈ rg0 (amt s) := by rw [← map_spt h]; exact List.mem_map_of_mem ha
  exact mem_rg0.mp this
theorem allC_len {s : List Int} (h : nng s) : (allC s).length = (amt s).toNat := by
  have := congrArg List.length (map_spt h)
  simpa using this
/-- what is told by places alone is told place by place -/
theorem flat_spt {α : Type} {s : List Int} (h : nng s) (G : Int → List α) : ((allC s).flatMap fun a => G (spt s a)) = (rg0 (amt s)).flatMap G := by
  rw [← map_spt h, List.flatMap_map]
theorem maps_spt {α : Type} {s : List Int} (h : nng s) (G : Int → α) : ((allC s).map fun a => G (spt s a)) = (rg0 (amt s)).map G := by
  rw [← map_spt h, List.map_map]; rfl
theorem rg0_get {α : Type} (c : List α) (d : α) : (rg0 (c.length : Int)).map (fun i => c.getD i.toNat d) = c := by
  refine List.ext_getElem (by simp) fun k h1 h2 => ?_
  simp [rg0, h2]
/-- a slice, cell by cell -/
theorem slice_map {α : Type} (c : List α) (d : α) {b n : Int} (hb : 0 ≤ b) (hn : 0 ≤ n) (h : b + n ≤ c.length) : (c.drop b.toNat).take n.toNat = (rg0 n).map fun i => c.getD (b + i).toNat d := by
  refine List.ext_getElem (by simp; omega) fun k h1 h2 => ?_
  simp at h1 h2
  simp only [rg0, List.getElem_take, List.getElem_drop, List.getElem_map, List.getElem_range]
  have e : (b + ((k : Nat) : Int)).toNat = b.toNat + k := by omega
  have l : b.toNat + k < c.length := by omega
  rw [e]
  simp [l]
/-! loops that gather -/
theorem fold_app {α β : Type} {f : List α → β → R (List α)} {g : β → α} : ∀ {xs : List β} {acc : List α}, acc.length + xs.length ≤ 1000000 → (∀ acc, ∀ x ∈ xs, f acc x = appR acc (g x)) → foldR f acc xs = .ok (acc ++ xs.map g)
  | [], acc, _, _ => by simp [foldR]
  | x :: xs, acc, hl, h => by
    simp only [List.length_cons] at hl
    unfold foldR
    rw [h acc x (by simp), appR_eq (by omega), R.bind_ok, fold_app (by simp; omega) fun a y hy => h a y (by simp [hy])]
    simp
theorem fold_cat {α β : Type} {f : List α → β → R (List α)} {g : β → List α} : ∀ {xs : List β} {acc : List α}, acc.length + (xs.flatMap g).length ≤ 1000000 → (∀ acc, ∀ x ∈ xs, acc.length + (g x).length ≤ 1000000 → f acc x = .ok (acc ++ g x)) → foldR f acc xs = .ok (acc ++ xs.flatMap g)
  | [], acc, _, _ => by simp [foldR]
  | x :: xs, acc, hl, h => by
    simp only [List.flatMap_cons, List.length_append] at hl
    unfold foldR
    rw [h acc x (by simp) (by omega), R.bind_ok, fold_cat (by rw [List.length_append]; omega) fun a y hy => h a y (by simp [hy])]
    simp [List.flatMap_cons]
theorem spt_snoc {A a : List Int} (l k : Int) (h : a.length = A.length) : spt (A ++ [l]) (a ++ [k]) = spt A a * l + k := by
  rw [spt_append h, amt_cons, amt_nil, Int.mul_one]
  simp [spt]
/-- cells from a place on, so many -/
def slc {α : Type} (c : List α) (b n : Int) : List α := (c.drop b.toNat).take n.toNat
theorem slc_cut {α : Type} {c : List α} {b e : Int} (hb : 0 ≤ b) (he : b ≤ e) : cutL c (some b) (some e) = slc c b (e - b) := by
  rw [cutL_mid hb (by omega)]
  unfold slc
  congr 1
  omega
theorem slc_map {α : Type} (c : List α) (d : α) {b n : Int} (hb : 0 ≤ b) (hn : 0 ≤ n) (h : b + n ≤ c.length) : slc c b n = (rg0 n).map fun i => c.getD (b + i).toNat d := slice_map c d hb hn h
theorem slc_len {α : Type} {c : List α} {b n : Int} (hb : 0 ≤ b) (hn : 0 ≤ n) (h : b + n ≤ c.length) : (slc c b n).length = n.toNat := by
  unfold slc; simp; omega
theorem rg0_add {m n : Int} (hm : 0 ≤ m) (hn : 0 ≤ n) : rg0 (m + n) = rg0 m ++ (rg0 n).map fun k => m + k := by
  unfold rg0
  rw [show (m + n).toNat = m.toNat + n.toNat by omega, List.range_add, List.map_append, List.map_map, List.map_map]
  congr 1
  refine List.map_congr_left fun x _ => ?_
  simp
  omega
theorem flatMap_congr_mem {α β : Type} {f g : α → List β} : ∀ {l : List α}, (∀ x ∈ l, f x = g x) → l.flatMap f = l.flatMap g
  | [], _ => rfl
  | x :: l, h => by rw [List.flatMap_cons, List.flatMap_cons, h x (by simp), flatMap_congr_mem fun y hy => h y (by simp [hy])]
theorem mk2_eq {α : Type} {m n : Int} (hm : 0 ≤ m) (hn : 0 ≤ n) (F : Int → Int → α) : ((rg0 m).flatMap fun o => (rg0 n).map fun i => F o i) = (rg0 (m * n)).map fun j => F (j / n) (j % n) := by
  rw [rg0_mul hm hn, List.map_flatMap]
  refine flatMap_congr_mem fun o _ => ?_
  rw [List.map_map]
  refine List.map_congr_left fun i hi => ?_
  obtain ⟨i0, i1⟩ := mem_rg0.mp hi
  have e1 : (o * n + i) / n = o := by
    rw [Int.add_comm, Int.add_mul_ediv_right _ _ (by omega), Int.ediv_eq_zero_of_lt i0 i1, Int.zero_add]
  have e2 : (o * n + i) % n = i := by
    rw [Int.add_comm, Int.add_mul_emod_self_right, Int.emod_eq_of_lt i0 i1]
  simp [e1, e2]
/-- three deep -/
def mk3 {α : Type} (a l b : Int) (F : Int → Int → Int → α) : List α := (rg0 a).flatMap fun o => (rg0 l).flatMap fun k => (rg0 b).map fun i => F o k i
theorem mk3_eq {α : Type} {a l b : Int} (ha : 0 ≤ a) (hl : 0 ≤ l) (hb : 0 ≤ b) (F : Int → Int → Int → α) : mk3 a l b F = (rg0 (a * l * b)).map fun j => F (j / b / l) (j / b % l) (j % b) := by
  unfold mk3
  have h1 : ∀ o, ((rg0 l).flatMap fun k => (rg0 b).map fun i => F o k i) = (rg0 (l * b)).map fun j => F o (j / b) (j % b) := fun o => mk2_eq hl hb _
  simp only [h1]
  rw [mk2_eq ha (Int.mul_nonneg hl hb), Int.mul_assoc]
  refine List.map_congr_left fun j hj => ?_
  obtain ⟨j0, j1⟩ := mem_rg0.mp hj
  have hlb : l * b ≠ 0 := fun z => by rw [z, Int.mul_zero] at j1; omega
  have hb0 : 0 < b := by
    have : b ≠ 0 := fun z => hlb (by rw [z, Int.mul_zero])
    omega
  have hl0 : 0 < l := by
    have : l ≠ 0 := fun z => hlb (by rw [z, Int.zero_mul])
    omega
  have e1 : j / (l * b) = j / b / l := by rw [Int.mul_comm l b, ← Int.ediv_ediv_of_nonneg hb]
  have e2 : j % (l * b) / b = j / b % l := by
    have q0 := Int.emod_nonneg (j / b) (show l ≠ 0 by omega)
    have q1 := Int.emod_lt_of_pos (j / b) hl0
    have r0 := Int.emod_nonneg j (show b ≠ 0 by omega)
    have r1 := Int.emod_lt_of_pos j hb0
    have s1 := Int.mul_ediv_add_emod (j / b) l
    have s2 := Int.mul_ediv_add_emod j b
    have e0 : j = (j / b % l * b + j % b) + (j / b / l) * (l * b) := by
      have : j = b * (l * (j / b / l) + j / b % l) + j % b := by rw [s1, s2]
      rw [Int.mul_add] at this
      rw [show (j / b / l) * (l * b) = b * (l * (j / b / l)) by rw [← Int.mul_assoc, Int.mul_comm]; congr 1; rw [Int.mul_comm], show j / b % l * b = b * (j / b % l) by rw [Int.mul_comm]]
      omega
    have u1 := Int.mul_le_mul_of_nonneg_right (show j / b % l + 1 ≤ l by omega) hb
    rw [Int.add_mul, Int.one_mul] at u1
    have u0 := Int.mul_nonneg q0 hb
    have e4 : j % (l * b) = j / b % l * b + j % b := by
      generalize hx : j / b % l * b + j % b = x at *
      rw [e0, Int.add_mul_emod_self_right, Int.emod_eq_of_lt (by omega) (by omega)]
    rw [e4, Int.add_comm, Int.add_mul_ediv_right _ _ (by omega), Int.ediv_eq_zero_of_lt r0 r1, Int.zero_add]
  have e3 : j % (l * b) % b = j % b := Int.emod_emod_of_dvd _ ⟨l, by rw [Int.mul_comm]⟩
  rw [e1, e2, e3]
theorem mk3_len {α : Type} {a l b : Int} (ha : 0 ≤ a) (hl : 0 ≤ l) (hb : 0 ≤ b) (F : Int → Int → Int → α) : (mk3 a l b F).length = (a * l * b).toNat := by rw [mk3_eq ha hl hb]; simp
theorem mk3_congr {α : Type} {a l b : Int} {F G : Int → Int → Int → α} (h : ∀ o k i, 0 ≤ o → o < a → 0 ≤ k → k < l → 0 ≤ i → i < b → F o k i = G o k i) : mk3 a l b F = mk3 a l b G := by
  unfold mk3
  refine flatMap_congr_mem fun o ho => flatMap_congr_mem fun k hk => List.map_congr_left fun i hi => ?_
  obtain ⟨o0, o1⟩ := mem_rg0.mp ho; obtain ⟨k0, k1⟩ := mem_rg0.mp hk; obtain ⟨i0, i1⟩ := mem_rg0.mp hi
  exact h o k i o0 o1 k0 k1 i0 i1
theorem pos3 {a l b o k i : Int} (o0 : 0 ≤ o) (o1 : o < a) (k0 : 0 ≤ k) (k1 : k < l) (i0 : 0 ≤ i) (i1 : i < b) : 0 ≤ (o * l + k) * b + i ∧ (o * l + k) * b + i < a * l * b := by
  have h1 : 0 ≤ o * l + k := by have := Int.mul_nonneg o0 (show 0 ≤ l by omega); omega
  have h2 : o * l + k + 1 ≤ a * l := by
    have := Int.mul_le_mul_of_nonneg_right (show o + 1 ≤ a by omega) (show 0 ≤ l by omega)
    rw [Int.add_mul, Int.one_mul] at this
    omega
  have h3 := Int.mul_nonneg h1 (show 0 ≤ b by omega)
  have h4 := Int.mul_le_mul_of_nonneg_right h2 (show 0 ≤ b by omega)
  rw [Int.add_mul _ 1, Int.one_mul] at h4
  omega
theorem mk3_get {α : Type} {a l b : Int} (F : Int → Int → Int → α) (d : α) {o k i : Int} (o0 : 0 ≤ o) (o1 : o < a) (k0 : 0 ≤ k) (k1 : k < l) (i0 : 0 ≤ i) (i1 : i < b) : (mk3 a l b F).getD ((o * l + k) * b + i).toNat d = F o k i := by
  obtain ⟨p0, p1⟩ := pos3 o0 o1 k0 k1 i0 i1
  rw [mk3_eq (by omega) (by omega) (by omega)]
  have e1 : ((o * l + k) * b + i) / b = o * l + k := by rw [Int.add_comm, Int.add_mul_ediv_right _ _ (by omega), Int.ediv_eq_zero_of_lt i0 i1, Int.zero_add]
  have e2 : ((o * l + k) * b + i) % b = i := by rw [Int.add_comm, Int.add_mul_emod_self_right, Int.emod_eq_of_lt i0 i1]
  have e3 : (o * l + k) / l = o := by rw [Int.add_comm, Int.add_mul_ediv_right _ _ (by omega), Int.ediv_eq_zero_of_lt k0 k1, Int.zero_add]
  have e4 : (o * l + k) % l = k := by rw [Int.add_comm, Int.add_mul_emod_self_right, Int.emod_eq_of_lt k0 k1]
  generalize hp : (o * l + k) * b + i = p at *
  have lp : p.toNat < (a * l * b).toNat := by omega
  simp only [rg0, List.getD_eq_getElem?_getD, List.getElem?_map, List.getElem?_range lp, Option.map_some, Option.getD_some]
  rw [show ((p.toNat : Nat) : Int) = p by omega, e1, e2, e3, e4]
theorem mk3_self {α : Type} {a l b : Int} (ha : 0 ≤ a) (hl : 0 ≤ l) (hb : 0 ≤ b) {c : List α} (d : α) (h : (c.length : Int) = a * l * b) : mk3 a l b (fun o k i => c.getD ((o * l + k) * b + i).toNat d) = c := by
  rw [mk3_eq ha hl hb]
  refine Eq.trans ?_ (rg0_get c d)
  rw [h]
  refine List.map_congr_left fun j hj => ?_
  obtain ⟨j0, j1⟩ := mem_rg0.mp hj
  congr 2
  have e1 := Int.mul_ediv_add_emod (j / b) l
  have e2 := Int.mul_ediv_add_emod j b
  rw [Int.mul_comm] at e1 e2
  rw [e1, e2]
/-- a side in two -/
theorem mk3_add {α : Type} {a l m b : Int} (hl : 0 ≤ l) (hm : 0 ≤ m) (F : Int → Int → Int → α) : mk3 a (l + m) b F = (rg0 a).flatMap fun o => ((rg0 l).flatMap fun k => (rg0 b).map fun i => F o k i) ++ ((rg0 m).flatMap fun k => (rg0 b).map fun i => F o (l + k) i) := by
  unfold mk3
  simp only [rg0_add hl hm, List.flatMap_append, List.flatMap_map]
theorem all3 {α : Type} (A : List Int) (m : Int) (B : List Int) (F : List Int → α) : (allC (A ++ [m] ++ B)).map F = (allC A).flatMap fun a => (rg0 m).flatMap fun k => (allC B).map fun b => F (a ++ [k] ++ b) := by
  rw [allC_append, allC_snoc]
  simp only [List.flatMap_assoc, List.map_flatMap, List.flatMap_map, List.map_map]
  rfl
theorem all3_spt {α : Type} {A B : List Int} {m : Int} (hA : nng A) (hB : nng B) (F : List Int → α) (G : Int → Int → Int → α) (h : ∀ a ∈ allC A, ∀ k, 0 ≤ k → k < m → ∀ b ∈ allC B, F (a ++ [k] ++ b) = G (spt A a) k (spt B b)) : (allC (A ++ [m] ++ B)).map F = mk3 (amt A) m (amt B) G := by
  rw [all3]
  unfold mk3
  rw [← flat_spt hA]
  refine flatMap_congr_mem fun a ha => flatMap_congr_mem fun k hk => ?_
  obtain ⟨k0, k1⟩ := mem_rg0.mp hk
  rw [← maps_spt hB]
  exact List.map_congr_left fun b hb => h a ha k k0 k1 b hb
theorem mem_app {A B a b : List Int} (ha : a ∈ allC A) (hb : b ∈ allC B) : a ++ b ∈ allC (A ++ B) := by
  rw [allC_append]
  exact List.mem_flatMap.mpr ⟨a, ha, List.mem_map.mpr ⟨b, hb, rfl⟩⟩
theorem mem_one {m k : Int} (h0 : 0 ≤ k) (h1 : k < m) : [k] ∈ allC [m] := by
  simp only [allC, List.mem_flatMap, List.mem_map]
  exact ⟨k, mem_rg0.mpr ⟨h0, h1⟩, [], by simp, rfl⟩
theorem mem_3 {A B a b : List Int} {m k : Int} (ha : a ∈ allC A) (h0 : 0 ≤ k) (h1 : k < m) (hb : b ∈ allC B) : a ++ [k] ++ b ∈ allC (A ++ [m] ++ B) := mem_app (mem_app ha (mem_one h0 h1)) hb
theorem mem_3' {A B x : List Int} {m : Int} (h : x ∈ allC (A ++ [m] ++ B)) : ∃ a k b, a ∈ allC A ∧ 0 ≤ k ∧ k < m ∧ b ∈ allC B ∧ x = a ++ [k] ++ b := by
  rw [allC_append, allC_snoc] at h
  simp only [List.mem_flatMap, List.mem_map] at h
  obtain ⟨y, ⟨a, ha, k, hk, rfl⟩, b, hb, rfl⟩ := h
  obtain ⟨k0, k1⟩ := mem_rg0.mp hk
  exact ⟨a, k, b, ha, k0, k1, hb, rfl⟩
theorem cut_a {a b : List Int} {k : Int} {A : List Int} (h : a.length = A.length) : cutL (a ++ [k] ++ b) none (some (A.length : Int)) = a := by rw [cutL_to (by omega)]; simp [← h]
theorem cut_b {a b : List Int} {k : Int} {A : List Int} (h : a.length = A.length) : cutL (a ++ [k] ++ b) (some ((A.length : Int) + 1)) none = b := by
  rw [cutL_from (by omega), show ((A.length : Int) + 1).toNat = a.length + 1 by omega]; simp
theorem ix_k {a b : List Int} {k : Int} {A : List Int} (h : a.length = A.length) : ixR (a ++ [k] ++ b) (A.length : Int) = .ok k := ixR_get (by omega) (by simp [← h])
theorem ixR_getD {α : Type} {c : List α} (d : α) {i : Int} (h0 : 0 ≤ i) (h1 : i < c.length) : ixR c i = .ok (c.getD i.toNat d) := by
  have : i.toNat < c.length := by omega
  rw [ixR_eq h0 h1]; simp [this]
theorem split_ex {s : List Int} {i : Int} (h0 : 0 ≤ i) (h1 : i < s.length) : ∃ A l B, s = A ++ [l] ++ B ∧ i = (A.length : Int) ∧ ixR s i = .ok l := by
  refine ⟨s.take i.toNat, s[i.toNat]'(by omega), s.drop (i.toNat + 1), ?_, by simp; omega, ixR_eq h0 h1⟩
  rw [List.append_assoc, List.singleton_append, ← List.drop_eq_getElem_cons, List.take_append_drop]
theorem join_parts {s o : List Int} {a : Int} (h0 : 0 ≤ a) (h1 : a < s.length) (hl : s.length = o.length) (k1 : s.take a.toNat = o.take a.toNat) (k2 : s.drop (a.toNat + 1) = o.drop (a.toNat + 1)) :
    ∃ A l m B, s = A ++ [l] ++ B ∧ o = A ++ [m] ++ B ∧ a = (A.length : Int) ∧ s.set a.toNat (s[a.toNat]'(by omega) + o[a.toNat]'(by omega)) = A ++ [l + m] ++ B := by
  refine ⟨s.take a.toNat, s[a.toNat]'(by omega), o[a.toNat]'(by omega), s.drop (a.toNat + 1), ?_, ?_, by simp; omega, (set_cut h0 h1).symm⟩
  · rw [List.append_assoc, List.singleton_append, ← List.drop_eq_getElem_cons, List.take_append_drop]
  · rw [k1, k2, List.append_assoc, List.singleton_append, ← List.drop_eq_getElem_cons, List.take_append_drop]
/-- cells gathered over all coordinates -/
theorem fold_all3 {α : Type} {A B : List Int} {m : Int} (hA : nng A) (hB : nng B) (hm : 0 ≤ m) (ht : amt A * m * amt B ≤ 1000000) {f : List α → List Int → R (List α)} {G : Int → Int → Int → α}
    (h : ∀ acc, ∀ a ∈ allC A, ∀ k, 0 ≤ k → k < m → ∀ b ∈ allC B, f acc (a ++ [k] ++ b) = appR acc (G (spt A a) k (spt B b))) : foldR f [] (allC (A ++ [m] ++ B)) = .ok (mk3 (amt A) m (amt B) G) := by
  have hn : nng (A ++ [m] ++ B) := fun x hx => by
    simp only [List.mem_append, List.mem_singleton] at hx
    rcases hx with (hx | rfl) | hx
    · exact hA x hx
    · exact hm
    · exact hB x hx
  have e := fold_app (f := f) (g := fun x => G (spt A (x.take A.length)) (x.getD A.length 0) (spt B (x.drop (A.length + 1)))) (xs := allC (A ++ [m] ++ B)) (acc := []) (by
    rw [allC_len hn, amt_append, amt_snoc]
    have := Int.mul_nonneg (Int.mul_nonneg (amt_nonneg hA) hm) (amt_nonneg hB)
    simp only [List.length_nil]; omega) (fun acc x hx => by
    obtain ⟨a, k, b, ha, k0, k1, hb, rfl⟩ := mem_3' hx
    rw [h acc a ha k k0 k1 b hb]
    have l1 := (mem_allC ha).1
    simp [← l1])
  rw [e, List.nil_append, all3_spt hA hB _ G fun a ha k k0 k1 b hb => by
    have l1 := (mem_allC ha).1
    simp [← l1]]
theorem spt3 {A B a b : List Int} {l k : Int} (ha : a.length = A.length) : spt (A ++ [l] ++ B) (a ++ [k] ++ b) = (spt A a * l + k) * amt B + spt B b := by
  rw [spt_append (by simp [ha]), spt_snoc _ _ ha]
/-- the rows along a side -/
def rowsG {α : Type} (A : List Int) (l : Int) (B : List Int) (c : List α) : List (List (List α)) := (rg0 (amt A)).map fun o => (rg0 l).map fun k => slc c (o * l * amt B + k * amt B) (amt B)
theorem rowsG_flat {A B c : List Int} {l : Int} (hn : nng (A ++ [l] ++ B)) (hc : (c.length : Int) = amt (A ++ [l] ++ B)) : (rowsG A l B c).map List.flatten = (rg0 (amt A)).map fun o => (rg0 l).flatMap fun k => (rg0 (amt B)).map fun i => c.getD ((o * l + k) * amt B + i).toNat 0 := by
  have nB : nng B := nng_right hn
  have hl0 : 0 ≤ l := hn l (by simp)
  have a4 := amt_nonneg nB
  unfold rowsG
  rw [List.map_map]
  refine List.map_congr_left fun o ho => ?_
  obtain ⟨o0, o1⟩ := mem_rg0.mp ho
  simp only [Function.comp_def, ← List.flatMap_def]
  refine flatMap_congr_mem fun k hk => ?_
  obtain ⟨k0, k1⟩ := mem_rg0.mp hk
  have e : o * l * amt B + k * amt B = (o * l + k) * amt B := by rw [Int.add_mul]
  rw [e]
  have h1 : 0 ≤ o * l + k := by have := Int.mul_nonneg o0 hl0; omega
  have h2 : o * l + k + 1 ≤ amt A * l := by
    have := Int.mul_le_mul_of_nonneg_right (show o + 1 ≤ amt A by omega) hl0
    rw [Int.add_mul, Int.one_mul] at this
    omega
  have h3 := Int.mul_le_mul_of_nonneg_right h2 a4
  rw [Int.add_mul _ 1, Int.one_mul] at h3
  refine slc_map c 0 (Int.mul_nonneg h1 a4) a4 ?_
  rw [hc, amt_append, amt_snoc]
  exact h3
theorem split_at {s : List Int} {i : Int} (h0 : 0 ≤ i) (h1 : i < s.length) : s = s.take i.toNat ++ [s[i.toNat]'(by omega)] ++ s.drop (i.toNat + 1) := by
  rw [List.append_assoc, List.singleton_append, ← List.drop_eq_getElem_cons, List.take_append_drop]
end SL
namespace SL
def fn_amount : Fn := { np := 1, ns := 3, keep := false, body := (.cons (.asg (.name 1) (.con (.int 1))) (.cons (.for_ (.name 2) (.val (.var 0)) (.cons (.asg (.name 1) (.op false .mul (.var 1) (.var 2))) .nil)) (.cons (.ret (.var 1)) .nil))) }
def fn_is_free : Fn := { np := 1, ns := 1, keep := false, body := (.cons (.ret (.cmp .isin (.ix (.var 0) (.con (.int 0))) (.tup (.cons (.con (.str [110, 117, 109])) (.cons (.con (.str [105, 110, 100, 101, 120])) (.cons (.con (.str [114, 101, 97, 100])) .nil)))))) .nil) }
def fn_inner_trees : Fn := { np := 1, ns := 1, keep := false, body := (.cons (.ite (.call 1 (.cons (.var 0) .nil)) (.cons (.ret (.tup .nil)) .nil) .nil) (.cons (.ite (.cmp .eq (.ix (.var 0) (.con (.int 0))) (.con (.str [101, 97, 99, 104]))) (.cons (.ret (.tup (.cons (.ix (.var 0) (.con (.int 2))) .nil))) .nil) .nil) (.cons (.ite (.cmp .eq (.ix (.var 0) (.con (.int 0))) (.con (.str [112, 97, 105, 114]))) (.cons (.ret (.tup (.cons (.ix (.var 0) (.con (.int 2))) (.cons (.ix (.var 0) (.con (.int 3))) .nil)))) .nil) .nil) (.cons (.ite (.cmp .eq (.ix (.var 0) (.con (.int 0))) (.con (.str [112, 105, 99, 107]))) (.cons (.ret (.tup (.cons (.ix (.var 0) (.con (.int 1))) (.cons (.ix (.var 0) (.con (.int 2))) (.cons (.ix (.var 0) (.con (.int 3))) .nil))))) .nil) .nil) (.cons (.ite (.cmp .eq (.ix (.var 0) (.con (.int 0))) (.con (.str [102, 101, 116, 99, 104]))) (.cons (.ret (.tup (.cons (.ix (.var 0) (.con (.int 6))) .nil))) .nil) .nil) (.cons (.ret (.tup (.cons (.ix (.var 0) (.con (.int 3))) .nil))) .nil)))))) }
def fn_calls_of : Fn := { np := 1, ns := 3, keep := false, body := (.cons (.ite (.call 1 (.cons (.var 0) .nil)) (.cons (.ret (.con (.int 0))) .nil) .nil) (.cons (.asg (.name 1) (.con (.int 1))) (.cons (.for_ (.name 2) (.val (.call 2 (.cons (.var 0) .nil))) (.cons (.aug 1 .add (.call 3 (.cons (.var 2) .nil))) .nil)) (.cons (.ite (.cmp .eq (.ix (.var 0) (.con (.int 0))) (.con (.str [102, 111, 108, 100]))) (.cons (.ret (.op false .mul (.ix (.var 0) (.con (.int 2))) (.var 1))) .nil) .nil) (.cons (.ret (.var 1)) .nil))))) }
def fn_rounds_of : Fn := { np := 1, ns := 1, keep := false, body := (.cons (.ite (.cmp .eq (.ix (.var 0) (.con (.int 0))) (.con (.str [114, 117, 110]))) (.cons (.ret (.call 0 (.cons (.ix (.var 0) (.con (.int 3))) .nil))) .nil) .nil) (.cons (.ret (.call 0 (.cons (.ix (.var 0) (.con (.int 2))) .nil))) .nil)) }
def fn_loop_calls : Fn := { np := 1, ns := 1, keep := false, body := (.cons (.ite (.cmp .eq (.ix (.var 0) (.con (.int 0))) (.con (.str [114, 117, 110]))) (.cons (.ret (.op false .mul (.op false .mul (.call 4 (.cons (.var 0) .nil)) (.ix (.var 0) (.con (.int 4)))) (.op false .add (.con (.int 1)) (.call 3 (.cons (.ix (.var 0) (.con (.int 7))) .nil))))) .nil) .nil) (.cons (.ret (.op false .mul (.call 4 (.cons (.var 0) .nil)) (.call 3 (.cons (.ix (.var 0) (.con (.int 5))) .nil)))) .nil)) }
def fn_loop_writings : Fn := { np := 1, ns := 1, keep := false, body := (.cons (.ite (.cmp .eq (.ix (.var 0) (.con (.int 0))) (.con (.str [114, 117, 110]))) (.cons (.ret (.op false .mul (.call 4 (.cons (.var 0) .nil)) (.ix (.var 0) (.con (.int 4))))) .nil) .nil) (.cons (.ret (.call 4 (.cons (.var 0) .nil))) .nil)) }
def fn_calls_told : Fn := { np := 1, ns := 2, keep := false, body := (.cons (.ret (.bi false .sum (.cons (.lc false (.call 5 (.cons (.var 1) .nil)) (.name 1) (.val (.ix (.var 0) (.con (.int 1)))) .none) .nil))) .nil) }
def fn_writings_told : Fn := { np := 1, ns := 2, keep := false, body := (.cons (.ret (.bi false .sum (.cons (.lc false (.call 6 (.cons (.var 1) .nil)) (.name 1) (.val (.ix (.var 0) (.con (.int 1)))) .none) .nil))) .nil) }
def fn_law_whole : Fn := { np := 1, ns := 1, keep := false, body := (.cons (.ret (.and (.bi false .isint (.cons (.var 0) .nil)) (.not (.bi false .isbool (.cons (.var 0) .nil))))) .nil) }
def fn_law_at : Fn := { np := 2, ns := 2, keep := false, body := (.cons (.ite (.cmp .lt (.var 1) (.bi false .len (.cons (.var 0) .nil))) (.cons (.ret (.ix (.var 0) (.var 1))) .nil) .nil) (.cons (.ret (.con (.int 0))) .nil)) }
def fn_law_leaf : Fn := { np := 1, ns := 1, keep := false, body := (.cons (.ite (.cmp .eq (.op false .mod (.var 0) (.con (.int 3))) (.con (.int 0))) (.cons (.ret (.tup (.cons (.con (.str [110, 117, 109])) (.cons (.op false .sub (.op false .mod (.op false .fdiv (.var 0) (.con (.int 3))) (.op false .pow (.con (.int 10)) (.con (.int 12)))) (.con (.int 7))) .nil)))) .nil) .nil) (.cons (.ite (.cmp .eq (.op false .mod (.var 0) (.con (.int 3))) (.con (.int 1))) (.cons (.ret (.tup (.cons (.con (.str [105, 110, 100, 101, 120])) (.cons (.op false .mod (.op false .fdiv (.var 0) (.con (.int 3))) (.con (.int 50))) (.cons (.tup (.cons (.con (.int 1)) (.cons (.con (.int 2)) .nil))) .nil))))) .nil) .nil) (.cons (.ret (.tup (.cons (.con (.str [114, 101, 97, 100])) (.cons (.con (.int 0)) (.cons (.op false .mod (.op false .fdiv (.var 0) (.con (.int 3))) (.con (.int 50))) (.cons (.tup (.cons (.con (.int 3)) (.cons (.neg (.con (.int 1))) .nil))) .nil)))))) .nil))) }
def fn_law_grown : Fn := { np := 3, ns := 7, keep := false, body := (.cons (.asg (.name 3) (.op false .mod (.var 2) (.con (.int 8)))) (.cons (.asg (.name 4) (.op false .fdiv (.var 2) (.con (.int 8)))) (.cons (.asg (.name 5) (.call 11 (.cons (.var 4) .nil))) (.cons (.asg (.name 6) (.op false .mod (.var 4) (.op false .pow (.con (.int 10)) (.con (.int 9))))) (.cons (.ite (.cmp .eq (.var 3) (.con (.int 0))) (.cons (.ret (.tup (.cons (.tup (.cons (.con (.str [101, 97, 99, 104])) (.cons (.con (.str [110, 101, 103])) (.cons (.var 0) .nil)))) (.cons (.op false .add (.var 1) (.con (.int 1))) .nil)))) .nil) .nil) (.cons (.ite (.cmp .eq (.var 3) (.con (.int 1))) (.cons (.ret (.tup (.cons (.tup (.cons (.con (.str [112, 97, 105, 114])) (.cons (.con (.str [97, 100, 100])) (.cons (.var 0) (.cons (.var 5) .nil))))) (.cons (.op false .add (.var 1) (.con (.int 1))) .nil)))) .nil) .nil) (.cons (.ite (.cmp .eq (.var 3) (.con (.int 2))) (.cons (.ret (.tup (.cons (.tup (.cons (.con (.str [112, 97, 105, 114])) (.cons (.con (.str [108, 101, 115, 115])) (.cons (.var 5) (.cons (.var 0) .nil))))) (.cons (.op false .add (.var 1) (.con (.int 1))) .nil)))) .nil) .nil) (.cons (.ite (.cmp .eq (.var 3) (.con (.int 3))) (.cons (.ret (.tup (.cons (.tup (.cons (.con (.str [112, 97, 105, 114])) (.cons (.con (.str [115, 117, 98])) (.cons (.tup (.cons (.con (.str [101, 97, 99, 104])) (.cons (.con (.str [97, 98, 115])) (.cons (.var 5) .nil)))) (.cons (.var 0) .nil))))) (.cons (.op false .add (.var 1) (.con (.int 2))) .nil)))) .nil) .nil) (.cons (.ite (.cmp .eq (.var 3) (.con (.int 4))) (.cons (.ret (.tup (.cons (.tup (.cons (.con (.str [112, 97, 105, 114])) (.cons (.con (.str [109, 97, 120])) (.cons (.var 0) (.cons (.tup (.cons (.con (.str [102, 111, 108, 100])) (.cons (.con (.str [109, 117, 108])) (.cons (.var 6) (.cons (.var 5) .nil))))) .nil))))) (.cons (.op false .add (.op false .add (.var 1) (.con (.int 1))) (.var 6)) .nil)))) .nil) .nil) (.cons (.ite (.cmp .eq (.var 3) (.con (.int 5))) (.cons (.ret (.tup (.cons (.tup (.cons (.con (.str [112, 105, 99, 107])) (.cons (.var 5) (.cons (.var 0) (.cons (.tup (.cons (.con (.str [101, 97, 99, 104])) (.cons (.con (.str [110, 111, 116])) (.cons (.var 5) .nil)))) .nil))))) (.cons (.op false .add (.var 1) (.con (.int 2))) .nil)))) .nil) .nil) (.cons (.ite (.cmp .eq (.var 3) (.con (.int 6))) (.cons (.ret (.tup (.cons (.tup (.cons (.con (.str [102, 101, 116, 99, 104])) (.cons (.con (.int 0)) (.cons (.op false .mod (.var 4) (.con (.int 9))) (.cons (.con (.int 2)) (.cons (.op false .add (.con (.int 1)) (.op false .mod (.var 4) (.con (.int 50)))) (.cons (.tup (.cons (.con (.int 0)) (.cons (.con (.int 1)) .nil))) (.cons (.var 0) .nil)))))))) (.cons (.op false .add (.var 1) (.con (.int 1))) .nil)))) .nil) .nil) (.cons (.ret (.tup (.cons (.tup (.cons (.con (.str [102, 111, 108, 100])) (.cons (.con (.str [97, 100, 100])) (.cons (.var 6) (.cons (.var 0) .nil))))) (.cons (.op false .mul (.op false .add (.var 1) (.con (.int 1))) (.var 6)) .nil)))) .nil)))))))))))) }
def fn_law_loop : Fn := { np := 1, ns := 10, keep := false, body := (.cons (.asg (.name 1) (.call 11 (.cons (.call 10 (.cons (.var 0) (.cons (.con (.int 2)) .nil))) .nil))) (.cons (.asg (.name 2) (.con (.int 0))) (.cons (.for_ (.name 3) (.val (.sl false (.var 0) (.some (.con (.int 3))) .none)) (.cons (.asg (.tup [1, 2]) (.call 12 (.cons (.var 1) (.cons (.var 2) (.cons (.var 3) .nil))))) .nil)) (.cons (.asg (.name 4) (.sl false (.tup (.cons (.op false .mod (.call 10 (.cons (.var 0) (.cons (.con (.int 0)) .nil))) (.con (.int 1000))) (.cons (.op false .mod (.call 10 (.cons (.var 0) (.cons (.con (.int 1)) .nil))) (.con (.int 1000))) .nil))) .none (.some (.op false .mod (.op false .fdiv (.call 10 (.cons (.var 0) (.cons (.con (.int 0)) .nil))) (.con (.int 1000))) (.con (.int 3)))))) (.cons (.asg (.name 5) (.con (.int 1))) (.cons (.for_ (.name 6) (.val (.var 4)) (.cons (.asg (.name 5) (.op false .mul (.var 5) (.var 6))) .nil)) (.cons (.asg (.name 7) (.sl false (.tup (.cons (.con (.int 1)) (.cons (.con (.int 2)) .nil))) .none (.some (.bi false .len (.cons (.var 4) .nil))))) (.cons (.ite (.cmp .eq (.op false .mod (.op false .fdiv (.call 10 (.cons (.var 0) (.cons (.con (.int 1)) .nil))) (.con (.int 1000))) (.con (.int 2))) (.con (.int 0))) (.cons (.ret (.tup (.cons (.tup (.cons (.con (.str [102, 105, 108, 108])) (.cons (.con (.int 1)) (.cons (.var 4) (.cons (.con (.int 0)) (.cons (.var 7) (.cons (.var 1) .nil))))))) (.cons (.lst false (.cons (.var 5) (.cons (.op false .mul (.var 5) (.var 2)) (.cons (.var 5) .nil)))) .nil)))) .nil) .nil) (.cons (.asg (.name 8) (.op false .mod (.op false .fdiv (.call 10 (.cons (.var 0) (.cons (.con (.int 1)) .nil))) (.con (.int 2000))) (.op false .pow (.con (.int 10)) (.con (.int 6))))) (.cons (.asg (.name 9) (.lst false (.cons (.var 5) (.cons (.op false .mul (.op false .mul (.var 5) (.var 8)) (.op false .add (.con (.int 1)) (.var 2))) (.cons (.op false .mul (.var 5) (.var 8)) .nil))))) (.cons (.ret (.tup (.cons (.tup (.cons (.con (.str [114, 117, 110])) (.cons (.con (.str [109, 105, 110])) (.cons (.con (.int 1)) (.cons (.var 4) (.cons (.var 8) (.cons (.con (.int 0)) (.cons (.op false .add (.var 7) (.tup (.cons (.con (.int 1)) .nil))) (.cons (.var 1) .nil))))))))) (.cons (.var 9) .nil)))) .nil))))))))))) }
def fn_law : Fn := { np := 1, ns := 11, keep := false, body := (.cons (.asg (.name 1) (.lst true .nil)) (.cons (.asg (.name 2) (.con (.int 0))) (.cons (.asg (.name 3) (.con (.int 0))) (.cons (.for_ (.name 4) (.range3 (.con (.int 0)) (.bi false .len (.cons (.var 0) .nil)) (.con (.int 10))) (.cons (.asg (.tup [5, 6]) (.call 13 (.cons (.sl false (.var 0) (.some (.var 4)) (.some (.op false .add (.var 4) (.con (.int 10))))) .nil))) (.cons (.asg (.name 7) (.lst false (.cons (.call 4 (.cons (.var 5) .nil)) (.cons (.call 5 (.cons (.var 5) .nil)) (.cons (.call 6 (.cons (.var 5) .nil)) .nil))))) (.cons (.for_ (.tup [8, 9]) (.zip (.var 7) (.var 6)) (.cons (.ite (.or (.not (.call 9 (.cons (.var 8) .nil))) (.cmp .ne (.var 8) (.var 9))) (.cons (.ret (.con (.bl false))) .nil) .nil) .nil)) (.cons (.expr (.mt false .append (.var 1) (.cons (.var 5) .nil))) (.cons (.asg (.name 2) (.op false .add (.var 2) (.ix (.var 6) (.con (.int 1))))) (.cons (.asg (.name 3) (.op false .add (.var 3) (.ix (.var 6) (.con (.int 2))))) .nil))))))) (.cons (.asg (.name 10) (.tup (.cons (.tup (.cons (.tup (.cons (.con (.int 0)) (.cons (.con (.int 60)) .nil))) (.cons (.tup (.cons (.con (.int 1)) (.cons (.con (.int 60)) .nil))) .nil))) (.cons (.bi false .tuple (.cons (.var 1) .nil)) (.cons (.tup (.cons (.tup (.cons (.con (.int 1)) (.cons (.tup (.cons (.con (.int 60)) .nil)) .nil))) .nil)) .nil))))) (.cons (.asg (.name 7) (.lst false (.cons (.call 7 (.cons (.var 10) .nil)) (.cons (.call 8 (.cons (.var 10) .nil)) .nil)))) (.cons (.ret (.and (.call 9 (.cons (.ix (.var 7) (.con (.int 0))) .nil)) (.and (.call 9 (.cons (.ix (.var 7) (.con (.int 1))) .nil)) (.cmp .eq (.var 7) (.lst false (.cons (.var 2) (.cons (.var 3) .nil))))))) .nil))))))) }
@[reducible] def i_amount : Nat := 0
@[reducible] def i_is_free : Nat := 1
@[reducible] def i_inner_trees : Nat := 2
@[reducible] def i_calls_of : Nat := 3
@[reducible] def i_rounds_of : Nat := 4
@[reducible] def i_loop_calls : Nat := 5
@[reducible] def i_loop_writings : Nat := 6
@[reducible] def i_calls_told : Nat := 7
@[reducible] def i_writings_told : Nat := 8
@[reducible] def i_law_whole : Nat := 9
@[reducible] def i_law_at : Nat := 10
@[reducible] def i_law_leaf : Nat := 11
@[reducible] def i_law_grown : Nat := 12
@[reducible] def i_law_loop : Nat := 13
@[reducible] def i_law : Nat := 14
@[reducible] def c_ValueError : Nat := 0
@[reducible] def c_Exception : Nat := 1
@[reducible] def c_BaseException : Nat := 2
@[reducible] def c_object : Nat := 3
def subT : List (Nat × List Nat) := []
def subB (c k : Nat) : Bool := match subT.lookup c with | some l => l.contains k | none => false
def P : Prog := { fns := [fn_amount, fn_is_free, fn_inner_trees, fn_calls_of, fn_rounds_of, fn_loop_calls, fn_loop_writings, fn_calls_told, fn_writings_told, fn_law_whole, fn_law_at, fn_law_leaf, fn_law_grown, fn_law_loop, fn_law], sub := subB }
def XC : Cm := ⟨fun c => ([999, 999, 999, 999, 999, 999, 999, 999, 999, 999, 999, 999, 999, 0, 1, 2, 3].getD c 999), fun c => [].contains c⟩
def clsL : List Nat := [13, 14, 15, 16]
theorem subOkB : (([] : List Nat).all fun c => clsL.all fun k => P.sub (XC.f c) (XC.f k) == exSub c k) = true := by decide +kernel
theorem subOk (c : Nat) (hc : XC.ok c = true) (k : Nat) (hk : clsL.contains k = true) {k' : Nat} {b : Bool} (e1 : k' = XC.f k := by rfl) (e2 : exSub c k = b := by rfl) : P.sub (XC.f c) k' = b := by
  subst e1; subst e2
  have h := subOkB
  simp only [List.all_eq_true, beq_iff_eq] at h
  exact h c (List.contains_iff_mem.mp hc) k (List.contains_iff_mem.mp hk)
theorem subAny (c : Nat) (hc : XC.ok c = true) (ks : List Nat) (hk : (ks.all fun k => clsL.contains k) = true) {cs : List Nat} (e1 : cs = ks.map XC.f := by rfl) : cs.any (P.sub (XC.f c)) = ks.any (exSub c) := by
  subst e1
  induction ks with
  | nil => rfl
  | cons k ks ih =>
    rw [List.all_cons, Bool.and_eq_true] at hk
    rw [List.map_cons, List.any_cons, List.any_cons, ih hk.2, subOk c hc k hk.1 rfl rfl]
noncomputable def y_law_at (row_ : (List Int)) (k_ : Int) : R Int :=
  R.bind (.ok (decide (k_ < (row_.length : Int)))) (fun q_1 => if q_1 = true then ixR row_ k_ else .ok 0)
theorem c_law_at (n : Nat) (S : Store) (d_row : D) (row_ : (List Int)) (h_row : itemsH S d_row = some (row_.map eI)) (k_ : Int) : SA XC (EQ eI) S (evCall P (n + 1) i_law_at [d_row, (eI k_)] S) (y_law_at row_ k_) := by
  unfold y_law_at
  refine SA.fn (fn := fn_law_at) rfl rfl rfl (show SG XC _ _ (evSs _ _ [some d_row, some (eI k_)] _) _ from ?_)
  refine SG.iteL (SA.eq (SA.lt (SA.var (e := eI) (a := k_) rfl) (SA.len ((SA.varH (e := eI) (xs := row_) (d := d_row) rfl ((Hp.nil S).itemsH h_row)).li.lq))) rfl) ((Hp.nil S).base) ?_ ?_
  · exact SG.ret0 (SA.eq (SA.ix ((SA.varH (e := eI) (xs := row_) (d := d_row) rfl ((Hp.nil S).itemsH h_row)).li.lq) (SA.var (e := eI) (a := k_) rfl)) rfl) ((Hp.nil S).base) (by rintro _ _ rfl; exact ⟨trivial, OF.rt (by decide) (Hp.nil S) _⟩)
  · exact SG.retP (SA.eq (t' := .ok 0) (SA.con (e := eI) (a := 0) rfl) rfl) (by rintro _ rfl; exact OF.rt (by decide) (Hp.nil S) _)

noncomputable def y_law_leaf (one_ : Int) : R Y :=
  R.bind (.ok (decide ((one_ % 3) = 0))) (fun q_1 => if q_1 = true then .ok (Y.tup [(Y.str ([110, 117, 109] : List Nat)), (Y.int (((one_ / 3) % 1000000000000) - 7))]) else R.bind (.ok (decide ((one_ % 3) = 1))) (fun q_2 => if q_2 = true then .ok (Y.tup [(Y.str ([105, 110, 100, 101, 120] : List Nat)), (Y.int ((one_ / 3) % 50)), (Y.tup [Y.int ((1, 2).1), Y.int ((1, 2).2)])]) else .ok (Y.tup [(Y.str ([114, 101, 97, 100] : List Nat)), (Y.int 0), (Y.int ((one_ / 3) % 50)), (Y.tup [Y.int ((3, -1).1), Y.int ((3, -1).2)])])))
theorem c_law_leaf (n : Nat) (S : Store) (one_ : Int) : SA XC (EQ eY) S (evCall P (n + 1) i_law_leaf [(eI one_)] S) (y_law_leaf one_) := by
  unfold y_law_leaf
  refine SA.fn (fn := fn_law_leaf) rfl rfl rfl (show SG XC _ _ (evSs _ _ [some (eI one_)] _) _ from ?_)
  refine SG.iteL (SA.eq (SA.eqI (SA.fmodk' (k := 3) (by decide) (SA.var (e := eI) (a := one_) rfl) (SA.con (e := eI) (a := 3) rfl)) (SA.con (e := eI) (a := 0) rfl)) rfl) ((Hp.nil S).base) ?_ ?_
  · exact SG.retP (SA.eq (t' := .ok (Y.tup [(Y.str ([110, 117, 109] : List Nat)), (Y.int (((one_ / 3) % 1000000000000) - 7))])) (SA.tupY' (x := [(Y.str ([110, 117, 109] : List Nat)), (Y.int (((one_ / 3) % 1000000000000) - 7))]) (SE.eq (SE.cons (SA.toY (e := eS) (SA.con (e := eS) (a := [110, 117, 109]) rfl)) (SE.cons (SA.toY (e := eI) (SA.sub (SA.fmodk' (k := 1000000000000) (by decide) (SA.fdivk' (k := 3) (by decide) (by decide) (SA.var (e := eI) (a := one_) rfl) (SA.con (e := eI) (a := 3) rfl)) (SA.powk (z := 1000000000000) (by decide +kernel) (by decide +kernel))) (SA.con (e := eI) (a := 7) rfl))) (SE.nil (e := eY)))) rfl) (by simp only [List.length_cons, List.length_nil]; omega)) rfl) (by rintro _ rfl; exact ⟨trivial, OF.rt (by decide) (Hp.nil S) _⟩)
  · refine SG.iteL (SA.eq (SA.eqI (SA.fmodk' (k := 3) (by decide) (SA.var (e := eI) (a := one_) rfl) (SA.con (e := eI) (a := 3) rfl)) (SA.con (e := eI) (a := 1) rfl)) rfl) ((Hp.nil S).base) ?_ ?_
    · exact SG.retP (SA.eq (t' := .ok (Y.tup [(Y.str ([105, 110, 100, 101, 120] : List Nat)), (Y.int ((one_ / 3) % 50)), (Y.tup [Y.int ((1, 2).1), Y.int ((1, 2).2)])])) (SA.tupY' (x := [(Y.str ([105, 110, 100, 101, 120] : List Nat)), (Y.int ((one_ / 3) % 50)), (Y.tup [Y.int ((1, 2).1), Y.int ((1, 2).2)])]) (SE.eq (SE.cons (SA.toY (e := eS) (SA.con (e := eS) (a := [105, 110, 100, 101, 120]) rfl)) (SE.cons (SA.toY (e := eI) (SA.fmodk' (k := 50) (by decide) (SA.fdivk' (k := 3) (by decide) (by decide) (SA.var (e := eI) (a := one_) rfl) (SA.con (e := eI) (a := 3) rfl)) (SA.con (e := eI) (a := 50) rfl))) (SE.cons (SA.toY (e := (eP eI eI)) (SA.t2 (SA.con (e := eI) (a := 1) rfl) (SA.con (e := eI) (a := 2) rfl))) (SE.nil (e := eY))))) rfl) (by simp only [List.length_cons, List.length_nil]; omega)) rfl) (by rintro _ rfl; exact ⟨trivial, OF.rt (by decide) (Hp.nil S) _⟩)
    · exact SG.retP (SA.eq (t' := .ok (Y.tup [(Y.str ([114, 101, 97, 100] : List Nat)), (Y.int 0), (Y.int ((one_ / 3) % 50)), (Y.tup [Y.int ((3, -1).1), Y.int ((3, -1).2)])])) (SA.tupY' (x := [(Y.str ([114, 101, 97, 100] : List Nat)), (Y.int 0), (Y.int ((one_ / 3) % 50)), (Y.tup [Y.int ((3, -1).1), Y.int ((3, -1).2)])]) (SE.eq (SE.cons (SA.toY (e := eS) (SA.con (e := eS) (a := [114, 101, 97, 100]) rfl)) (SE.cons (SA.toY (e := eI) (SA.con (e := eI) (a := 0) rfl)) (SE.cons (SA.toY (e := eI) (SA.fmodk' (k := 50) (by decide) (SA.fdivk' (k := 3) (by decide) (by decide) (SA.var (e := eI) (a := one_) rfl) (SA.con (e := eI) (a := 3) rfl)) (SA.con (e := eI) (a := 50) rfl))) (SE.cons (SA.toY (e := (eP eI eI)) (SA.t2 (SA.con (e := eI) (a := 3) rfl) (SA.neg (SA.con (e := eI) (a := 1) rfl)))) (SE.nil (e := eY)))))) rfl) (by simp only [List.length_cons, List.length_nil]; omega)) rfl) (by rintro _ rfl; exact OF.rt (by decide) (Hp.nil S) _)

noncomputable def y_law_grown (tree_ : Y) (calls_ : Int) (one_ : Int) : R (Y × Int) :=
  R.bind (.ok (one_ % 8)) (fun way_1 => R.bind (.ok (one_ / 8)) (fun left_2 => R.bind (y_law_leaf left_2) (fun leaf_3 => R.bind (.ok (left_2 % 1000000000)) (fun some_4 => R.bind (.ok (decide (way_1 = 0))) (fun q_5 => if q_5 = true then .ok ((Y.tup [(Y.str ([101, 97, 99, 104] : List Nat)), (Y.str ([110, 101, 103] : List Nat)), tree_]), (calls_ + 1)) else R.bind (.ok (decide (way_1 = 1))) (fun q_6 => if q_6 = true then .ok ((Y.tup [(Y.str ([112, 97, 105, 114] : List Nat)), (Y.str ([97, 100, 100] : List Nat)), tree_, leaf_3]), (calls_ + 1)) else R.bind (.ok (decide (way_1 = 2))) (fun q_7 => if q_7 = true then .ok ((Y.tup [(Y.str ([112, 97, 105, 114] : List Nat)), (Y.str ([108, 101, 115, 115] : List Nat)), leaf_3, tree_]), (calls_ + 1)) else R.bind (.ok (decide (way_1 = 3))) (fun q_8 => if q_8 = true then .ok ((Y.tup [(Y.str ([112, 97, 105, 114] : List Nat)), (Y.str ([115, 117, 98] : List Nat)), (Y.tup [Y.str ((([101, 97, 99, 104] : List Nat), ([97, 98, 115] : List Nat), leaf_3).1), Y.str ((([101, 97, 99, 104] : List Nat), ([97, 98, 115] : List Nat), leaf_3).2.1), (([101, 97, 99, 104] : List Nat), ([97, 98, 115] : List Nat), leaf_3).2.2]), tree_]), (calls_ + 2)) else R.bind (.ok (decide (way_1 = 4))) (fun q_9 => if q_9 = true then .ok ((Y.tup [(Y.str ([112, 97, 105, 114] : List Nat)), (Y.str ([109, 97, 120] : List Nat)), tree_, (Y.tup [Y.str ((([102, 111, 108, 100] : List Nat), ([109, 117, 108] : List Nat), some_4, leaf_3).1), Y.str ((([102, 111, 108, 100] : List Nat), ([109, 117, 108] : List Nat), some_4, leaf_3).2.1), Y.int ((([102, 111, 108, 100] : List Nat), ([109, 117, 108] : List Nat), some_4, leaf_3).2.2.1), (([102, 111, 108, 100] : List Nat), ([109, 117, 108] : List Nat), some_4, leaf_3).2.2.2])]), ((calls_ + 1) + some_4)) else R.bind (.ok (decide (way_1 = 5))) (fun q_10 => if q_10 = true then .ok ((Y.tup [(Y.str ([112, 105, 99, 107] : List Nat)), leaf_3, tree_, (Y.tup [Y.str ((([101, 97, 99, 104] : List Nat), ([110, 111, 116] : List Nat), leaf_3).1), Y.str ((([101, 97, 99, 104] : List Nat), ([110, 111, 116] : List Nat), leaf_3).2.1), (([101, 97, 99, 104] : List Nat), ([110, 111, 116] : List Nat), leaf_3).2.2])]), (calls_ + 2)) else R.bind (.ok (decide (way_1 = 6))) (fun q_11 => if q_11 = true then .ok ((Y.tup [(Y.str ([102, 101, 116, 99, 104] : List Nat)), (Y.int 0), (Y.int (left_2 % 9)), (Y.int 2), (Y.int (1 + (left_2 % 50))), (Y.tup [Y.int ((0, 1).1), Y.int ((0, 1).2)]), tree_]), (calls_ + 1)) else R.bind (mulR (calls_ + 1) some_4) (fun a_12 => .ok ((Y.tup [(Y.str ([102, 111, 108, 100] : List Nat)), (Y.str ([97, 100, 100] : List Nat)), (Y.int some_4), tree_]), a_12)))))))))))))
theorem c_law_grown (n : Nat) (S : Store) (tree_ : Y) (calls_ : Int) (one_ : Int) : SA XC (EQ (eP eY eI)) S (evCall P (n + 2) i_law_grown [(eY tree_), (eI calls_), (eI one_)] S) (y_law_grown tree_ calls_ one_) := by
  unfold y_law_grown
  refine SA.fn (fn := fn_law_grown) rfl rfl rfl (show SG XC _ _ (evSs _ _ [some (eY tree_), some (eI calls_), some (eI one_), none, none, none, none] _) _ from ?_)
  refine SG.let (SA.eq (SA.fmodk' (k := 8) (by decide) (SA.var (e := eI) (a := one_) rfl) (SA.con (e := eI) (a := 8) rfl)) rfl) ((Hp.nil S).base) ?_
  intro way_1
  refine SG.let (SA.eq (SA.fdivk' (k := 8) (by decide) (by decide) (SA.var (e := eI) (a := one_) rfl) (SA.con (e := eI) (a := 8) rfl)) rfl) ((Hp.nil S).base) ?_
  intro left_2
  refine SG.let (SA.eq (SA.call1 (g := y_law_leaf) (G := EQ eY) (SA.var (e := eI) (a := left_2) rfl) (fun y1 d1 h1 => by subst h1; exact c_law_leaf _ _ y1)) rfl) ((Hp.nil S).base) ?_
  intro leaf_3
  refine SG.let (SA.eq (SA.fmodk' (k := 1000000000) (by decide) (SA.var (e := eI) (a := left_2) rfl) (SA.powk (z := 1000000000) (by decide +kernel) (by decide +kernel))) rfl) ((Hp.nil S).base) ?_
  intro some_4
  refine SG.iteL (SA.eq (SA.eqI (SA.var (e := eI) (a := way_1) rfl) (SA.con (e := eI) (a := 0) rfl)) rfl) ((Hp.nil S).base) ?_ ?_
  · exact SG.retP (SA.eq (t' := .ok ((Y.tup [(Y.str ([101, 97, 99, 104] : List Nat)), (Y.str ([110, 101, 103] : List Nat)), tree_]), (calls_ + 1))) (SA.t2 (SA.tupY' (x := [(Y.str ([101, 97, 99, 104] : List Nat)), (Y.str ([110, 101, 103] : List Nat)), tree_]) (SE.eq (SE.cons (SA.toY (e := eS) (SA.con (e := eS) (a := [101, 97, 99, 104]) rfl)) (SE.cons (SA.toY (e := eS) (SA.con (e := eS) (a := [110, 101, 103]) rfl)) (SE.cons (SA.var (e := eY) (a := tree_) rfl) (SE.nil (e := eY))))) rfl) (by simp only [List.length_cons, List.length_nil]; omega)) (SA.add (SA.var (e := eI) (a := calls_) rfl) (SA.con (e := eI) (a := 1) rfl))) rfl) (by rintro _ rfl; exact ⟨trivial, OF.rt (by decide) (Hp.nil S) _⟩)
  · refine SG.iteL (SA.eq (SA.eqI (SA.var (e := eI) (a := way_1) rfl) (SA.con (e := eI) (a := 1) rfl)) rfl) ((Hp.nil S).base) ?_ ?_
    · exact SG.retP (SA.eq (t' := .ok ((Y.tup [(Y.str ([112, 97, 105, 114] : List Nat)), (Y.str ([97, 100, 100] : List Nat)), tree_, leaf_3]), (calls_ + 1))) (SA.t2 (SA.tupY' (x := [(Y.str ([112, 97, 105, 114] : List Nat)), (Y.str ([97, 100, 100] : List Nat)), tree_, leaf_3]) (SE.eq (SE.cons (SA.toY (e := eS) (SA.con (e := eS) (a := [112, 97, 105, 114]) rfl)) (SE.cons (SA.toY (e := eS) (SA.con (e := eS) (a := [97, 100, 100]) rfl)) (SE.cons (SA.var (e := eY) (a := tree_) rfl) (SE.cons (SA.var (e := eY) (a := leaf_3) rfl) (SE.nil (e := eY)))))) rfl) (by simp only [List.length_cons, List.length_nil]; omega)) (SA.add (SA.var (e := eI) (a := calls_) rfl) (SA.con (e := eI) (a := 1) rfl))) rfl) (by rintro _ rfl; exact ⟨trivial, OF.rt (by decide) (Hp.nil S) _⟩)
    · refine SG.iteL (SA.eq (SA.eqI (SA.var (e := eI) (a := way_1) rfl) (SA.con (e := eI) (a := 2) rfl)) rfl) ((Hp.nil S).base) ?_ ?_
      · exact SG.retP (SA.eq (t' := .ok ((Y.tup [(Y.str ([112, 97, 105, 114] : List Nat)), (Y.str ([108, 101, 115, 115] : List Nat)), leaf_3, tree_]), (calls_ + 1))) (SA.t2 (SA.tupY' (x := [(Y.str ([112, 97, 105, 114] : List Nat)), (Y.str ([108, 101, 115, 115] : List Nat)), leaf_3, tree_]) (SE.eq (SE.cons (SA.toY (e := eS) (SA.con (e := eS) (a := [112, 97, 105, 114]) rfl)) (SE.cons (SA.toY (e := eS) (SA.con (e := eS) (a := [108, 101, 115, 115]) rfl)) (SE.cons (SA.var (e := eY) (a := leaf_3) rfl) (SE.cons (SA.var (e := eY) (a := tree_) rfl) (SE.nil (e := eY)))))) rfl) (by simp only [List.length_cons, List.length_nil]; omega)) (SA.add (SA.var (e := eI) (a := calls_) rfl) (SA.con (e := eI) (a := 1) rfl))) rfl) (by rintro _ rfl; exact ⟨trivial, OF.rt (by decide) (Hp.nil S) _⟩)
      · refine SG.iteL (SA.eq (SA.eqI (SA.var (e := eI) (a := way_1) rfl) (SA.con (e := eI) (a := 3) rfl)) rfl) ((Hp.nil S).base) ?_ ?_
        · exact SG.retP (SA.eq (t' := .ok ((Y.tup [(Y.str ([112, 97, 105, 114] : List Nat)), (Y.str ([115, 117, 98] : List Nat)), (Y.tup [Y.str ((([101, 97, 99, 104] : List Nat), ([97, 98, 115] : List Nat), leaf_3).1), Y.str ((([101, 97, 99, 104] : List Nat), ([97, 98, 115] : List Nat), leaf_3).2.1), (([101, 97, 99, 104] : List Nat), ([97, 98, 115] : List Nat), leaf_3).2.2]), tree_]), (calls_ + 2))) (SA.t2 (SA.tupY' (x := [(Y.str ([112, 97, 105, 114] : List Nat)), (Y.str ([115, 117, 98] : List Nat)), (Y.tup [Y.str ((([101, 97, 99, 104] : List Nat), ([97, 98, 115] : List Nat), leaf_3).1), Y.str ((([101, 97, 99, 104] : List Nat), ([97, 98, 115] : List Nat), leaf_3).2.1), (([101, 97, 99, 104] : List Nat), ([97, 98, 115] : List Nat), leaf_3).2.2]), tree_]) (SE.eq (SE.cons (SA.toY (e := eS) (SA.con (e := eS) (a := [112, 97, 105, 114]) rfl)) (SE.cons (SA.toY (e := eS) (SA.con (e := eS) (a := [115, 117, 98]) rfl)) (SE.cons (SA.toY (e := (eP3 eS eS eY)) (SA.t3 (SA.con (e := eS) (a := [101, 97, 99, 104]) rfl) (SA.con (e := eS) (a := [97, 98, 115]) rfl) (SA.var (e := eY) (a := leaf_3) rfl))) (SE.cons (SA.var (e := eY) (a := tree_) rfl) (SE.nil (e := eY)))))) rfl) (by simp only [List.length_cons, List.length_nil]; omega)) (SA.add (SA.var (e := eI) (a := calls_) rfl) (SA.con (e := eI) (a := 2) rfl))) rfl) (by rintro _ rfl; exact ⟨trivial, OF.rt (by decide) (Hp.nil S) _⟩)
        · refine SG.iteL (SA.eq (SA.eqI (SA.var (e := eI) (a := way_1) rfl) (SA.con (e := eI) (a := 4) rfl)) rfl) ((Hp.nil S).base) ?_ ?_
          · exact SG.retP (SA.eq (t' := .ok ((Y.tup [(Y.str ([112, 97, 105, 114] : List Nat)), (Y.str ([109, 97, 120] : List Nat)), tree_, (Y.tup [Y.str ((([102, 111, 108, 100] : List Nat), ([109, 117, 108] : List Nat), some_4, leaf_3).1), Y.str ((([102, 111, 108, 100] : List Nat), ([109, 117, 108] : List Nat), some_4, leaf_3).2.1), Y.int ((([102, 111, 108, 100] : List Nat), ([109, 117, 108] : List Nat), some_4, leaf_3).2.2.1), (([102, 111, 108, 100] : List Nat), ([109, 117, 108] : List Nat), some_4, leaf_3).2.2.2])]), ((calls_ + 1) + some_4))) (SA.t2 (SA.tupY' (x := [(Y.str ([112, 97, 105, 114] : List Nat)), (Y.str ([109, 97, 120] : List Nat)), tree_, (Y.tup [Y.str ((([102, 111, 108, 100] : List Nat), ([109, 117, 108] : List Nat), some_4, leaf_3).1), Y.str ((([102, 111, 108, 100] : List Nat), ([109, 117, 108] : List Nat), some_4, leaf_3).2.1), Y.int ((([102, 111, 108, 100] : List Nat), ([109, 117, 108] : List Nat), some_4, leaf_3).2.2.1), (([102, 111, 108, 100] : List Nat), ([109, 117, 108] : List Nat), some_4, leaf_3).2.2.2])]) (SE.eq (SE.cons (SA.toY (e := eS) (SA.con (e := eS) (a := [112, 97, 105, 114]) rfl)) (SE.cons (SA.toY (e := eS) (SA.con (e := eS) (a := [109, 97, 120]) rfl)) (SE.cons (SA.var (e := eY) (a := tree_) rfl) (SE.cons (SA.toY (e := (eP4 eS eS eI eY)) (SA.t4 (SA.con (e := eS) (a := [102, 111, 108, 100]) rfl) (SA.con (e := eS) (a := [109, 117, 108]) rfl) (SA.var (e := eI) (a := some_4) rfl) (SA.var (e := eY) (a := leaf_3) rfl))) (SE.nil (e := eY)))))) rfl) (by simp only [List.length_cons, List.length_nil]; omega)) (SA.add (SA.add (SA.var (e := eI) (a := calls_) rfl) (SA.con (e := eI) (a := 1) rfl)) (SA.var (e := eI) (a := some_4) rfl))) rfl) (by rintro _ rfl; exact ⟨trivial, OF.rt (by decide) (Hp.nil S) _⟩)
          · refine SG.iteL (SA.eq (SA.eqI (SA.var (e := eI) (a := way_1) rfl) (SA.con (e := eI) (a := 5) rfl)) rfl) ((Hp.nil S).base) ?_ ?_
            · exact SG.retP (SA.eq (t' := .ok ((Y.tup [(Y.str ([112, 105, 99, 107] : List Nat)), leaf_3, tree_, (Y.tup [Y.str ((([101, 97, 99, 104] : List Nat), ([110, 111, 116] : List Nat), leaf_3).1), Y.str ((([101, 97, 99, 104] : List Nat), ([110, 111, 116] : List Nat), leaf_3).2.1), (([101, 97, 99, 104] : List Nat), ([110, 111, 116] : List Nat), leaf_3).2.2])]), (calls_ + 2))) (SA.t2 (SA.tupY' (x := [(Y.str ([112, 105, 99, 107] : List Nat)), leaf_3, tree_, (Y.tup [Y.str ((([101, 97, 99, 104] : List Nat), ([110, 111, 116] : List Nat), leaf_3).1), Y.str ((([101, 97, 99, 104] : List Nat), ([110, 111, 116] : List Nat), leaf_3).2.1), (([101, 97, 99, 104] : List Nat), ([110, 111, 116] : List Nat), leaf_3).2.2])]) (SE.eq (SE.cons (SA.toY (e := eS) (SA.con (e := eS) (a := [112, 105, 99, 107]) rfl)) (SE.cons (SA.var (e := eY) (a := leaf_3) rfl) (SE.cons (SA.var (e := eY) (a := tree_) rfl) (SE.cons (SA.toY (e := (eP3 eS eS eY)) (SA.t3 (SA.con (e := eS) (a := [101, 97, 99, 104]) rfl) (SA.con (e := eS) (a := [110, 111, 116]) rfl) (SA.var (e := eY) (a := leaf_3) rfl))) (SE.nil (e := eY)))))) rfl) (by simp only [List.length_cons, List.length_nil]; omega)) (SA.add (SA.var (e := eI) (a := calls_) rfl) (SA.con (e := eI) (a := 2) rfl))) rfl) (by rintro _ rfl; exact ⟨trivial, OF.rt (by decide) (Hp.nil S) _⟩)
            · refine SG.iteL (SA.eq (SA.eqI (SA.var (e := eI) (a := way_1) rfl) (SA.con (e := eI) (a := 6) rfl)) rfl) ((Hp.nil S).base) ?_ ?_
              · exact SG.retP (SA.eq (t' := .ok ((Y.tup [(Y.str ([102, 101, 116, 99, 104] : List Nat)), (Y.int 0), (Y.int (left_2 % 9)), (Y.int 2), (Y.int (1 + (left_2 % 50))), (Y.tup [Y.int ((0, 1).1), Y.int ((0, 1).2)]), tree_]), (calls_ + 1))) (SA.t2 (SA.tupY' (x := [(Y.str ([102, 101, 116, 99, 104] : List Nat)), (Y.int 0), (Y.int (left_2 % 9)), (Y.int 2), (Y.int (1 + (left_2 % 50))), (Y.tup [Y.int ((0, 1).1), Y.int ((0, 1).2)]), tree_]) (SE.eq (SE.cons (SA.toY (e := eS) (SA.con (e := eS) (a := [102, 101, 116, 99, 104]) rfl)) (SE.cons (SA.toY (e := eI) (SA.con (e := eI) (a := 0) rfl)) (SE.cons (SA.toY (e := eI) (SA.fmodk' (k := 9) (by decide) (SA.var (e := eI) (a := left_2) rfl) (SA.con (e := eI) (a := 9) rfl))) (SE.cons (SA.toY (e := eI) (SA.con (e := eI) (a := 2) rfl)) (SE.cons (SA.toY (e := eI) (SA.add (SA.con (e := eI) (a := 1) rfl) (SA.fmodk' (k := 50) (by decide) (SA.var (e := eI) (a := left_2) rfl) (SA.con (e := eI) (a := 50) rfl)))) (SE.cons (SA.toY (e := (eP eI eI)) (SA.t2 (SA.con (e := eI) (a := 0) rfl) (SA.con (e := eI) (a := 1) rfl))) (SE.cons (SA.var (e := eY) (a := tree_) rfl) (SE.nil (e := eY))))))))) rfl) (by simp only [List.length_cons, List.length_nil]; omega)) (SA.add (SA.var (e := eI) (a := calls_) rfl) (SA.con (e := eI) (a := 1) rfl))) rfl) (by rintro _ rfl; exact ⟨trivial, OF.rt (by decide) (Hp.nil S) _⟩)
              · exact SG.ret0 (SA.eq (SA.t2 (SA.tupY' (x := [(Y.str ([102, 111, 108, 100] : List Nat)), (Y.str ([97, 100, 100] : List Nat)), (Y.int some_4), tree_]) (SE.eq (SE.cons (SA.toY (e := eS) (SA.con (e := eS) (a := [102, 111, 108, 100]) rfl)) (SE.cons (SA.toY (e := eS) (SA.con (e := eS) (a := [97, 100, 100]) rfl)) (SE.cons (SA.toY (e := eI) (SA.var (e := eI) (a := some_4) rfl)) (SE.cons (SA.var (e := eY) (a := tree_) rfl) (SE.nil (e := eY)))))) rfl) (by simp only [List.length_cons, List.length_nil]; omega)) (SA.mul (SA.add (SA.var (e := eI) (a := calls_) rfl) (SA.con (e := eI) (a := 1) rfl)) (SA.var (e := eI) (a := some_4) rfl))) rfl) ((Hp.nil S).base) (by rintro _ _ rfl; exact OF.rt (by decide) (Hp.nil S) _)

noncomputable def y_law_loop (row_ : (List Int)) : R (Y × (List Int)) :=
  R.bind (R.bind (y_law_at row_ 2) (fun a_1 => y_law_leaf a_1)) (fun tree_2 => R.bind (.ok 0) (fun calls_3 => R.bind (lnR (cutL row_ (some 3) none)) (fun xs_87 => R.bind (foldR (σ := (Y × Int)) (fun (s_5 : (Y × Int)) (x_4 : Int) => (R.bind (y_law_grown s_5.1 s_5.2 x_4) (fun (t_9 : (Y × Int)) => .ok (t_9.1, t_9.2)) : R (Y × Int))) (tree_2, calls_3) xs_87) (fun s_10 => R.bind (R.bind (R.bind (R.bind (R.bind (y_law_at row_ 0) (fun a_14 => .ok (a_14 % 1000))) (fun a_20 => R.bind (R.bind (R.bind (y_law_at row_ 1) (fun a_15 => .ok (a_15 % 1000))) (fun a_18 => R.bind (.ok ([] : List Int)) (fun a_19 => .ok (a_18 :: a_19)))) (fun a_21 => .ok (a_20 :: a_21)))) (fun a_22 => lnR a_22)) (fun a_26 => R.bind (R.bind (R.bind (R.bind (y_law_at row_ 0) (fun a_23 => .ok (a_23 / 1000))) (fun a_24 => .ok (a_24 % 3))) (fun a_25 => .ok (some a_25))) (fun a_27 => .ok (cutL a_26 none a_27)))) (fun sides_28 => R.bind (.ok 1) (fun rounds_29 => R.bind (.ok sides_28) (fun xs_86 => R.bind (foldR (σ := Int) (fun (s_31 : Int) (x_30 : Int) => (R.bind (mulR s_31 x_30) (fun rounds_35 => .ok rounds_35) : R Int)) rounds_29 xs_86) (fun s_36 => R.bind (.ok (cutL ([1, 2] : List Int) none (some (sides_28.length : Int)))) (fun steps_40 => R.bind (R.bind (R.bind (R.bind (y_law_at row_ 1) (fun a_41 => .ok (a_41 / 1000))) (fun a_42 => .ok (a_42 % 2))) (fun a_43 => .ok (decide (a_43 = 0)))) (fun q_44 => if q_44 = true then R.bind (R.bind (R.bind ((.ok s_36)) (fun a_49 => R.bind (R.bind (mulR s_36 s_10.2) (fun a_47 => R.bind (R.bind ((.ok s_36)) (fun a_45 => R.bind (.ok ([] : List Int)) (fun a_46 => .ok (a_45 :: a_46)))) (fun a_48 => .ok (a_47 :: a_48)))) (fun a_50 => .ok (a_49 :: a_50)))) (fun a_51 => lnR a_51)) (fun a_52 => .ok ((Y.tup [(Y.str ([102, 105, 108, 108] : List Nat)), (Y.int 1), (Y.tup (List.map Y.int sides_28)), (Y.int 0), (Y.tup (List.map Y.int steps_40)), s_10.1]), a_52)) else R.bind (R.bind (R.bind (y_law_at row_ 1) (fun a_53 => .ok (a_53 / 2000))) (fun a_54 => .ok (a_54 % 1000000))) (fun some_55 => R.bind (R.bind (R.bind ((.ok s_36)) (fun a_61 => R.bind (R.bind (R.bind (mulR s_36 some_55) (fun a_56 => mulR a_56 (1 + s_10.2))) (fun a_59 => R.bind (R.bind (mulR s_36 some_55) (fun a_57 => R.bind (.ok ([] : List Int)) (fun a_58 => .ok (a_57 :: a_58)))) (fun a_60 => .ok (a_59 :: a_60)))) (fun a_62 => .ok (a_61 :: a_62)))) (fun a_63 => lnR a_63)) (fun due_64 => R.bind (R.bind (R.bind ((.ok (Y.str ([114, 117, 110] : List Nat)))) (fun a_81 => R.bind (R.bind ((.ok (Y.str ([109, 105, 110] : List Nat)))) (fun a_79 => R.bind (R.bind ((.ok (Y.int 1))) (fun a_77 => R.bind (R.bind ((.ok (Y.tup (List.map Y.int sides_28)))) (fun a_75 => R.bind (R.bind ((.ok (Y.int some_55))) (fun a_73 => R.bind (R.bind ((.ok (Y.int 0))) (fun a_71 => R.bind (R.bind (R.bind (catR steps_40 ([1] : List Int)) (fun a_65 => .ok (Y.tup (List.map Y.int a_65)))) (fun a_69 => R.bind (R.bind ((.ok s_10.1)) (fun a_67 => R.bind (.ok ([] : List Y)) (fun a_68 => .ok (a_67 :: a_68)))) (fun a_70 => .ok (a_69 :: a_70)))) (fun a_72 => .ok (a_71 :: a_72)))) (fun a_74 => .ok (a_73 :: a_74)))) (fun a_76 => .ok (a_75 :: a_76)))) (fun a_78 => .ok (a_77 :: a_78)))) (fun a_80 => .ok (a_79 :: a_80)))) (fun a_82 => .ok (a_81 :: a_82)))) (fun a_83 => R.bind (lnR a_83) (fun a_84 => .ok (Y.tup a_84)))) (fun a_85 => .ok (a_85, due_64))))))))))))))
theorem c_law_loop (n : Nat) (S : Store) (d_row : D) (row_ : (List Int)) (h_row : itemsH S d_row = some (row_.map eI)) : SA XC (EQ (eP eY (eL eI))) S (evCall P (n + 3) i_law_loop [d_row] S) (y_law_loop row_) := by
  unfold y_law_loop
  refine SA.fn (fn := fn_law_loop) rfl rfl rfl (show SG XC _ _ (evSs _ _ [some d_row, none, none, none, none, none, none, none, none, none] _) _ from ?_)
  refine SG.let (SA.eq (SA.call1 (g := y_law_leaf) (G := EQ eY) (SA.call2 (g := y_law_at) (G := EQ eI) (SA.varH (e := eI) (xs := row_) (d := d_row) rfl ((Hp.nil S).itemsH h_row)) (SA.con (e := eI) (a := 2) rfl) (fun y1 y2 d1 d2 h1 h2 => by subst h2; exact c_law_at _ _ d1 y1 h1 y2)) (fun y1 d1 h1 => by subst h1; exact c_law_leaf _ _ y1)) rfl) ((Hp.nil S).base) ?_
  intro tree_2
  refine SG.let (SA.eq (SA.con (e := eI) (a := 0) rfl) rfl) ((Hp.nil S).base) ?_
  intro calls_3
  refine (SG.forS (N := (fun s σ S' => ∃ (v_one : Option D), σ = [some d_row, some (eY s.1), some (eI s.2), v_one, none, none, none, none, none, none] ∧ Hp S S' [])) (y := lnR (cutL row_ (some 3) none)) (f := (fun (s_5 : (Y × Int)) (x_4 : Int) => (R.bind (y_law_grown s_5.1 s_5.2 x_4) (fun (t_9 : (Y × Int)) => .ok (t_9.1, t_9.2)) : R (Y × Int)))) (v0 := (tree_2, calls_3)) (k := fun s_10 => R.bind (R.bind (R.bind (R.bind (R.bind (y_law_at row_ 0) (fun a_14 => .ok (a_14 % 1000))) (fun a_20 => R.bind (R.bind (R.bind (y_law_at row_ 1) (fun a_15 => .ok (a_15 % 1000))) (fun a_18 => R.bind (.ok ([] : List Int)) (fun a_19 => .ok (a_18 :: a_19)))) (fun a_21 => .ok (a_20 :: a_21)))) (fun a_22 => lnR a_22)) (fun a_26 => R.bind (R.bind (R.bind (R.bind (y_law_at row_ 0) (fun a_23 => .ok (a_23 / 1000))) (fun a_24 => .ok (a_24 % 3))) (fun a_25 => .ok (some a_25))) (fun a_27 => .ok (cutL a_26 none a_27)))) (fun sides_28 => R.bind (.ok 1) (fun rounds_29 => R.bind (.ok sides_28) (fun xs_86 => R.bind (foldR (σ := Int) (fun (s_31 : Int) (x_30 : Int) => (R.bind (mulR s_31 x_30) (fun rounds_35 => .ok rounds_35) : R Int)) rounds_29 xs_86) (fun s_36 => R.bind (.ok (cutL ([1, 2] : List Int) none (some (sides_28.length : Int)))) (fun steps_40 => R.bind (R.bind (R.bind (R.bind (y_law_at row_ 1) (fun a_41 => .ok (a_41 / 1000))) (fun a_42 => .ok (a_42 % 2))) (fun a_43 => .ok (decide (a_43 = 0)))) (fun q_44 => if q_44 = true then R.bind (R.bind (R.bind ((.ok s_36)) (fun a_49 => R.bind (R.bind (mulR s_36 s_10.2) (fun a_47 => R.bind (R.bind ((.ok s_36)) (fun a_45 => R.bind (.ok ([] : List Int)) (fun a_46 => .ok (a_45 :: a_46)))) (fun a_48 => .ok (a_47 :: a_48)))) (fun a_50 => .ok (a_49 :: a_50)))) (fun a_51 => lnR a_51)) (fun a_52 => .ok ((Y.tup [(Y.str ([102, 105, 108, 108] : List Nat)), (Y.int 1), (Y.tup (List.map Y.int sides_28)), (Y.int 0), (Y.tup (List.map Y.int steps_40)), s_10.1]), a_52)) else R.bind (R.bind (R.bind (y_law_at row_ 1) (fun a_53 => .ok (a_53 / 2000))) (fun a_54 => .ok (a_54 % 1000000))) (fun some_55 => R.bind (R.bind (R.bind ((.ok s_36)) (fun a_61 => R.bind (R.bind (R.bind (mulR s_36 some_55) (fun a_56 => mulR a_56 (1 + s_10.2))) (fun a_59 => R.bind (R.bind (mulR s_36 some_55) (fun a_57 => R.bind (.ok ([] : List Int)) (fun a_58 => .ok (a_57 :: a_58)))) (fun a_60 => .ok (a_59 :: a_60)))) (fun a_62 => .ok (a_61 :: a_62)))) (fun a_63 => lnR a_63)) (fun due_64 => R.bind (R.bind (R.bind ((.ok (Y.str ([114, 117, 110] : List Nat)))) (fun a_81 => R.bind (R.bind ((.ok (Y.str ([109, 105, 110] : List Nat)))) (fun a_79 => R.bind (R.bind ((.ok (Y.int 1))) (fun a_77 => R.bind (R.bind ((.ok (Y.tup (List.map Y.int sides_28)))) (fun a_75 => R.bind (R.bind ((.ok (Y.int some_55))) (fun a_73 => R.bind (R.bind ((.ok (Y.int 0))) (fun a_71 => R.bind (R.bind (R.bind (catR steps_40 ([1] : List Int)) (fun a_65 => .ok (Y.tup (List.map Y.int a_65)))) (fun a_69 => R.bind (R.bind ((.ok s_10.1)) (fun a_67 => R.bind (.ok ([] : List Y)) (fun a_68 => .ok (a_67 :: a_68)))) (fun a_70 => .ok (a_69 :: a_70)))) (fun a_72 => .ok (a_71 :: a_72)))) (fun a_74 => .ok (a_73 :: a_74)))) (fun a_76 => .ok (a_75 :: a_76)))) (fun a_78 => .ok (a_77 :: a_78)))) (fun a_80 => .ok (a_79 :: a_80)))) (fun a_82 => .ok (a_81 :: a_82)))) (fun a_83 => R.bind (lnR a_83) (fun a_84 => .ok (Y.tup a_84)))) (fun a_85 => .ok (a_85, due_64))))))))))) (SW.eq (SW.vl (SM.sl ((SA.varH (e := eI) (xs := row_) (d := d_row) rfl ((Hp.nil S).itemsH h_row)).li) (SO.some (SA.con (e := eI) (a := 3) rfl)) SO.none).val) rfl) ((Hp.nil S).base) ?_ ?_ ?_ ?_)
  · exact ⟨_, rfl, (Hp.nil S)⟩
  · exact fun q hq _ _ _ _ => gN.okS hq
  · rintro x_4 s_5 _ S_8 ⟨v_one_6, rfl, H_7⟩
    refine SG.step (σ1 := [some d_row, some (eY s_5.1), some (eI s_5.2), some (eI x_4), none, none, none, none, none, none]) rfl ?_
    refine SG.letG (σ' := fun t_9 => [some d_row, some (eY t_9.1), some (eI t_9.2), some (eI x_4), none, none, none, none, none, none]) (SA.eq (SA.call3 (g := y_law_grown) (G := EQ (eP eY eI)) (SA.var (e := eY) (a := s_5.1) rfl) (SA.var (e := eI) (a := s_5.2) rfl) (SA.var (e := eI) (a := x_4) rfl) (fun y1 y2 y3 d1 d2 d3 h1 h2 h3 => by subst h1; subst h2; subst h3; exact c_law_grown _ _ y1 y2 y3)) rfl) (H_7.base) (fun _ => rfl) ?_
    intro t_9
    exact SG.nil (⟨_, _, .inl rfl, _, rfl, H_7⟩)
  rintro s_10 _ S_13 ⟨v_one_11, rfl, H_12⟩
  refine SG.let (SA.eq (SA.slT (SA.tup (SE.cons (SA.fmodk' (k := 1000) (by decide) (SA.call2 (g := y_law_at) (G := EQ eI) (SA.varH (e := eI) (xs := row_) (d := d_row) rfl (H_12.itemsH h_row)) (SA.con (e := eI) (a := 0) rfl) (fun y1 y2 d1 d2 h1 h2 => by subst h2; exact c_law_at _ _ d1 y1 h1 y2)) (SA.con (e := eI) (a := 1000) rfl)) (SE.cons (SA.fmodk' (k := 1000) (by decide) (SA.call2 (g := y_law_at) (G := EQ eI) (SA.varH (e := eI) (xs := row_) (d := d_row) rfl (H_12.itemsH h_row)) (SA.con (e := eI) (a := 1) rfl) (fun y1 y2 d1 d2 h1 h2 => by subst h2; exact c_law_at _ _ d1 y1 h1 y2)) (SA.con (e := eI) (a := 1000) rfl)) (SE.nil (e := eI))))) SO.none (SO.some (SA.fmodk' (k := 3) (by decide) (SA.fdivk' (k := 1000) (by decide) (by decide) (SA.call2 (g := y_law_at) (G := EQ eI) (SA.varH (e := eI) (xs := row_) (d := d_row) rfl (H_12.itemsH h_row)) (SA.con (e := eI) (a := 0) rfl) (fun y1 y2 d1 d2 h1 h2 => by subst h2; exact c_law_at _ _ d1 y1 h1 y2)) (SA.con (e := eI) (a := 1000) rfl)) (SA.con (e := eI) (a := 3) rfl)))) rfl) (H_12.base) ?_
  intro sides_28
  refine SG.let (SA.eq (SA.con (e := eI) (a := 1) rfl) rfl) (H_12.base) ?_
  intro rounds_29
  refine (SG.forS (N := (fun s σ S' => ∃ (v_side : Option D), σ = [some d_row, some (eY s_10.1), some (eI s_10.2), v_one_11, some ((eT eI) sides_28), some (eI s), v_side, none, none, none] ∧ Hp S S' [])) (y := .ok sides_28) (f := (fun (s_31 : Int) (x_30 : Int) => (R.bind (mulR s_31 x_30) (fun rounds_35 => .ok rounds_35) : R Int))) (v0 := rounds_29) (k := fun s_36 => R.bind (.ok (cutL ([1, 2] : List Int) none (some (sides_28.length : Int)))) (fun steps_40 => R.bind (R.bind (R.bind (R.bind (y_law_at row_ 1) (fun a_41 => .ok (a_41 / 1000))) (fun a_42 => .ok (a_42 % 2))) (fun a_43 => .ok (decide (a_43 = 0)))) (fun q_44 => if q_44 = true then R.bind (R.bind (R.bind ((.ok s_36)) (fun a_49 => R.bind (R.bind (mulR s_36 s_10.2) (fun a_47 => R.bind (R.bind ((.ok s_36)) (fun a_45 => R.bind (.ok ([] : List Int)) (fun a_46 => .ok (a_45 :: a_46)))) (fun a_48 => .ok (a_47 :: a_48)))) (fun a_50 => .ok (a_49 :: a_50)))) (fun a_51 => lnR a_51)) (fun a_52 => .ok ((Y.tup [(Y.str ([102, 105, 108, 108] : List Nat)), (Y.int 1), (Y.tup (List.map Y.int sides_28)), (Y.int 0), (Y.tup (List.map Y.int steps_40)), s_10.1]), a_52)) else R.bind (R.bind (R.bind (y_law_at row_ 1) (fun a_53 => .ok (a_53 / 2000))) (fun a_54 => .ok (a_54 % 1000000))) (fun some_55 => R.bind (R.bind (R.bind ((.ok s_36)) (fun a_61 => R.bind (R.bind (R.bind (mulR s_36 some_55) (fun a_56 => mulR a_56 (1 + s_10.2))) (fun a_59 => R.bind (R.bind (mulR s_36 some_55) (fun a_57 => R.bind (.ok ([] : List Int)) (fun a_58 => .ok (a_57 :: a_58)))) (fun a_60 => .ok (a_59 :: a_60)))) (fun a_62 => .ok (a_61 :: a_62)))) (fun a_63 => lnR a_63)) (fun due_64 => R.bind (R.bind (R.bind ((.ok (Y.str ([114, 117, 110] : List Nat)))) (fun a_81 => R.bind (R.bind ((.ok (Y.str ([109, 105, 110] : List Nat)))) (fun a_79 => R.bind (R.bind ((.ok (Y.int 1))) (fun a_77 => R.bind (R.bind ((.ok (Y.tup (List.map Y.int sides_28)))) (fun a_75 => R.bind (R.bind ((.ok (Y.int some_55))) (fun a_73 => R.bind (R.bind ((.ok (Y.int 0))) (fun a_71 => R.bind (R.bind (R.bind (catR steps_40 ([1] : List Int)) (fun a_65 => .ok (Y.tup (List.map Y.int a_65)))) (fun a_69 => R.bind (R.bind ((.ok s_10.1)) (fun a_67 => R.bind (.ok ([] : List Y)) (fun a_68 => .ok (a_67 :: a_68)))) (fun a_70 => .ok (a_69 :: a_70)))) (fun a_72 => .ok (a_71 :: a_72)))) (fun a_74 => .ok (a_73 :: a_74)))) (fun a_76 => .ok (a_75 :: a_76)))) (fun a_78 => .ok (a_77 :: a_78)))) (fun a_80 => .ok (a_79 :: a_80)))) (fun a_82 => .ok (a_81 :: a_82)))) (fun a_83 => R.bind (lnR a_83) (fun a_84 => .ok (Y.tup a_84)))) (fun a_85 => .ok (a_85, due_64))))))) (SW.eq (SW.tup (SA.var (e := (eT eI)) (a := sides_28) rfl)) rfl) (H_12.base) ?_ ?_ ?_ ?_)
  · exact ⟨_, rfl, H_12⟩
  · exact fun q hq _ _ _ _ => gN.okS hq
  · rintro x_30 s_31 _ S_34 ⟨v_side_32, rfl, H_33⟩
    refine SG.step (σ1 := [some d_row, some (eY s_10.1), some (eI s_10.2), v_one_11, some ((eT eI) sides_28), some (eI s_31), some (eI x_30), none, none, none]) rfl ?_
    refine SG.let (SA.eq (SA.mul (SA.var (e := eI) (a := s_31) rfl) (SA.var (e := eI) (a := x_30) rfl)) rfl) (H_33.base) ?_
    intro rounds_35
    exact SG.nil (⟨_, _, .inl rfl, _, rfl, H_33⟩)
  rintro s_36 _ S_39 ⟨v_side_37, rfl, H_38⟩
  refine SG.let (SA.eq (SA.slT (SA.tup' (x := ([1, 2] : List Int)) (SE.eq (SE.cons (SA.con (e := eI) (a := 1) rfl) (SE.cons (SA.con (e := eI) (a := 2) rfl) (SE.nil (e := eI)))) rfl) (by simp only [List.length_cons, List.length_nil]; omega)) SO.none (SO.some (SA.len ((SA.var (e := (eT eI)) (a := sides_28) rfl).tq)))) rfl) (H_38.base) ?_
  intro steps_40
  refine SG.iteL (SA.eq (SA.eqI (SA.fmodk' (k := 2) (by decide) (SA.fdivk' (k := 1000) (by decide) (by decide) (SA.call2 (g := y_law_at) (G := EQ eI) (SA.varH (e := eI) (xs := row_) (d := d_row) rfl (H_38.itemsH h_row)) (SA.con (e := eI) (a := 1) rfl) (fun y1 y2 d1 d2 h1 h2 => by subst h2; exact c_law_at _ _ d1 y1 h1 y2)) (SA.con (e := eI) (a := 1000) rfl)) (SA.con (e := eI) (a := 2) rfl)) (SA.con (e := eI) (a := 0) rfl)) rfl) (H_38.base) ?_ ?_
  · exact SG.ret0 (SA.eq (SA.t2 (SA.tupY' (x := [(Y.str ([102, 105, 108, 108] : List Nat)), (Y.int 1), (Y.tup (List.map Y.int sides_28)), (Y.int 0), (Y.tup (List.map Y.int steps_40)), s_10.1]) (SE.eq (SE.cons (SA.toY (e := eS) (SA.con (e := eS) (a := [102, 105, 108, 108]) rfl)) (SE.cons (SA.toY (e := eI) (SA.con (e := eI) (a := 1) rfl)) (SE.cons (SA.toY (e := (eT eI)) (SA.var (e := (eT eI)) (a := sides_28) rfl)) (SE.cons (SA.toY (e := eI) (SA.con (e := eI) (a := 0) rfl)) (SE.cons (SA.toY (e := (eT eI)) (SA.var (e := (eT eI)) (a := steps_40) rfl)) (SE.cons (SA.var (e := eY) (a := s_10.1) rfl) (SE.nil (e := eY)))))))) rfl) (by simp only [List.length_cons, List.length_nil]; omega)) (SM.lst (SE.cons (SA.var (e := eI) (a := s_36) rfl) (SE.cons (SA.mul (SA.var (e := eI) (a := s_36) rfl) (SA.var (e := eI) (a := s_10.2) rfl)) (SE.cons (SA.var (e := eI) (a := s_36) rfl) (SE.nil (e := eI)))))).val) rfl) (H_38.base) (by rintro _ _ rfl; exact ⟨trivial, OF.rt (by decide) H_38 _⟩)
  · refine SG.let (SA.eq (SA.fmodk' (k := 1000000) (by decide) (SA.fdivk' (k := 2000) (by decide) (by decide) (SA.call2 (g := y_law_at) (G := EQ eI) (SA.varH (e := eI) (xs := row_) (d := d_row) rfl (H_38.itemsH h_row)) (SA.con (e := eI) (a := 1) rfl) (fun y1 y2 d1 d2 h1 h2 => by subst h2; exact c_law_at _ _ d1 y1 h1 y2)) (SA.con (e := eI) (a := 2000) rfl)) (SA.powk (z := 1000000) (by decide +kernel) (by decide +kernel))) rfl) (H_38.base) ?_
    intro some_55
    refine SG.let (SA.eq (SM.lst (SE.cons (SA.var (e := eI) (a := s_36) rfl) (SE.cons (SA.mul (SA.mul (SA.var (e := eI) (a := s_36) rfl) (SA.var (e := eI) (a := some_55) rfl)) (SA.add (SA.con (e := eI) (a := 1) rfl) (SA.var (e := eI) (a := s_10.2) rfl))) (SE.cons (SA.mul (SA.var (e := eI) (a := s_36) rfl) (SA.var (e := eI) (a := some_55) rfl)) (SE.nil (e := eI)))))).val rfl) (H_38.base) ?_
    intro due_64
    exact SG.ret0 (SA.eq (SA.t2 (SA.tupY (SE.cons (SA.toY (e := eS) (SA.con (e := eS) (a := [114, 117, 110]) rfl)) (SE.cons (SA.toY (e := eS) (SA.con (e := eS) (a := [109, 105, 110]) rfl)) (SE.cons (SA.toY (e := eI) (SA.con (e := eI) (a := 1) rfl)) (SE.cons (SA.toY (e := (eT eI)) (SA.var (e := (eT eI)) (a := sides_28) rfl)) (SE.cons (SA.toY (e := eI) (SA.var (e := eI) (a := some_55) rfl)) (SE.cons (SA.toY (e := eI) (SA.con (e := eI) (a := 0) rfl)) (SE.cons (SA.toY (e := (eT eI)) (SA.catT (SA.var (e := (eT eI)) (a := steps_40) rfl) (SA.tup' (x := ([1] : List Int)) (SE.eq (SE.cons (SA.con (e := eI) (a := 1) rfl) (SE.nil (e := eI))) rfl) (by simp only [List.length_cons, List.length_nil]; omega)))) (SE.cons (SA.var (e := eY) (a := s_10.1) rfl) (SE.nil (e := eY))))))))))) (SA.var (e := (eL eI)) (a := due_64) rfl)) rfl) (H_38.base) (by rintro _ _ rfl; exact OF.rt (by decide) H_38 _)

noncomputable def y_amount (sides_ : (List Int)) : R Int :=
  R.bind (.ok 1) (fun out_1 => R.bind (.ok sides_) (fun xs_12 => R.bind (foldR (σ := Int) (fun (s_3 : Int) (x_2 : Int) => (R.bind (mulR s_3 x_2) (fun out_7 => .ok out_7) : R Int)) out_1 xs_12) (fun s_8 => .ok s_8)))
theorem c_amount (n : Nat) (S : Store) (sides_ : (List Int)) : SA XC (EQ eI) S (evCall P (n + 1) i_amount [((eT eI) sides_)] S) (y_amount sides_) := by
  unfold y_amount
  refine SA.fn (fn := fn_amount) rfl rfl rfl (show SG XC _ _ (evSs _ _ [some ((eT eI) sides_), none, none] _) _ from ?_)
  refine SG.let (SA.eq (SA.con (e := eI) (a := 1) rfl) rfl) ((Hp.nil S).base) ?_
  intro out_1
  refine (SG.forS (N := (fun s σ S' => ∃ (v_side : Option D), σ = [some ((eT eI) sides_), some (eI s), v_side] ∧ Hp S S' [])) (y := .ok sides_) (f := (fun (s_3 : Int) (x_2 : Int) => (R.bind (mulR s_3 x_2) (fun out_7 => .ok out_7) : R Int))) (v0 := out_1) (k := fun s_8 => .ok s_8) (SW.eq (SW.tup (SA.var (e := (eT eI)) (a := sides_) rfl)) rfl) ((Hp.nil S).base) ?_ ?_ ?_ ?_)
  · exact ⟨_, rfl, (Hp.nil S)⟩
  · exact fun q hq _ _ _ _ => gN.okS hq
  · rintro x_2 s_3 _ S_6 ⟨v_side_4, rfl, H_5⟩
    refine SG.step (σ1 := [some ((eT eI) sides_), some (eI s_3), some (eI x_2)]) rfl ?_
    refine SG.let (SA.eq (SA.mul (SA.var (e := eI) (a := s_3) rfl) (SA.var (e := eI) (a := x_2) rfl)) rfl) (H_5.base) ?_
    intro out_7
    exact SG.nil (⟨_, _, .inl rfl, _, rfl, H_5⟩)
  rintro s_8 _ S_11 ⟨v_side_9, rfl, H_10⟩
  exact SG.retP (SA.eq (t' := .ok s_8) (SA.var (e := eI) (a := s_8) rfl) rfl) (by rintro _ rfl; exact OF.rt (by decide) H_10 _)

noncomputable def y_rounds_of (loop_ : Y) : R Int :=
  R.bind (R.bind (R.bind (ixY loop_ 0) (fun a_1 => outS a_1)) (fun a_2 => .ok (decide (a_2 = ([114, 117, 110] : List Nat))))) (fun q_3 => if q_3 = true then R.bind (R.bind (ixY loop_ 3) (fun a_4 => (outT outI) a_4)) (fun a_5 => y_amount a_5) else R.bind (R.bind (ixY loop_ 2) (fun a_6 => (outT outI) a_6)) (fun a_7 => y_amount a_7))
theorem c_rounds_of (n : Nat) (S : Store) (loop_ : Y) : SA XC (EQ eI) S (evCall P (n + 2) i_rounds_of [(eY loop_)] S) (y_rounds_of loop_) := by
  unfold y_rounds_of
  refine SA.fn (fn := fn_rounds_of) rfl rfl rfl (show SG XC _ _ (evSs _ _ [some (eY loop_)] _) _ from ?_)
  refine SG.iteL (SA.eq (SA.eqS (SA.ofY (e := eS) (f := outS) (SA.ixY (SA.var (e := eY) (a := loop_) rfl) (SA.con (e := eI) (a := 0) rfl))) (SA.con (e := eS) (a := [114, 117, 110]) rfl)) rfl) ((Hp.nil S).base) ?_ ?_
  · exact SG.ret0 (SA.eq (SA.call1 (g := y_amount) (G := EQ eI) (SA.ofY (e := (eT eI)) (f := (outT outI)) (SA.ixY (SA.var (e := eY) (a := loop_) rfl) (SA.con (e := eI) (a := 3) rfl))) (fun y1 d1 h1 => by subst h1; exact c_amount _ _ y1)) rfl) ((Hp.nil S).base) (by rintro _ _ rfl; exact ⟨trivial, OF.rt (by decide) (Hp.nil S) _⟩)
  · exact SG.ret0 (SA.eq (SA.call1 (g := y_amount) (G := EQ eI) (SA.ofY (e := (eT eI)) (f := (outT outI)) (SA.ixY (SA.var (e := eY) (a := loop_) rfl) (SA.con (e := eI) (a := 2) rfl))) (fun y1 d1 h1 => by subst h1; exact c_amount _ _ y1)) rfl) ((Hp.nil S).base) (by rintro _ _ rfl; exact OF.rt (by decide) (Hp.nil S) _)

noncomputable def y_is_free (tree_ : Y) : R Bool :=
  R.bind (R.bind (ixY tree_ 0) (fun a_1 => outS a_1)) (fun a_2 => .ok (inB a_2 ([([110, 117, 109] : List Nat), ([105, 110, 100, 101, 120] : List Nat), ([114, 101, 97, 100] : List Nat)] : List (List Nat))))
theorem c_is_free (n : Nat) (S : Store) (tree_ : Y) : SA XC (EQ eB) S (evCall P (n + 1) i_is_free [(eY tree_)] S) (y_is_free tree_) := by
  unfold y_is_free
  refine SA.fn (fn := fn_is_free) rfl rfl rfl (show SG XC _ _ (evSs _ _ [some (eY tree_)] _) _ from ?_)
  exact SG.ret0 (SA.eq (SA.isinS (SA.ofY (e := eS) (f := outS) (SA.ixY (SA.var (e := eY) (a := tree_) rfl) (SA.con (e := eI) (a := 0) rfl))) ((SA.tup' (x := ([([110, 117, 109] : List Nat), ([105, 110, 100, 101, 120] : List Nat), ([114, 101, 97, 100] : List Nat)] : List (List Nat))) (SE.eq (SE.cons (SA.con (e := eS) (a := [110, 117, 109]) rfl) (SE.cons (SA.con (e := eS) (a := [105, 110, 100, 101, 120]) rfl) (SE.cons (SA.con (e := eS) (a := [114, 101, 97, 100]) rfl) (SE.nil (e := eS))))) rfl) (by simp only [List.length_cons, List.length_nil]; omega)).tq)) rfl) ((Hp.nil S).base) (by rintro _ _ rfl; exact OF.rt (by decide) (Hp.nil S) _)

noncomputable def y_inner_trees (tree_ : Y) : R (List Y) :=
  R.bind (y_is_free tree_) (fun q_1 => if q_1 = true then .ok ([] : List Y) else R.bind (R.bind (R.bind (ixY tree_ 0) (fun a_2 => outS a_2)) (fun a_3 => .ok (decide (a_3 = ([101, 97, 99, 104] : List Nat))))) (fun q_4 => if q_4 = true then R.bind (R.bind (ixY tree_ 2) (fun a_6 => R.bind (.ok ([] : List Y)) (fun a_7 => .ok (a_6 :: a_7)))) (fun a_8 => lnR a_8) else R.bind (R.bind (R.bind (ixY tree_ 0) (fun a_9 => outS a_9)) (fun a_10 => .ok (decide (a_10 = ([112, 97, 105, 114] : List Nat))))) (fun q_11 => if q_11 = true then R.bind (R.bind (ixY tree_ 2) (fun a_16 => R.bind (R.bind (ixY tree_ 3) (fun a_14 => R.bind (.ok ([] : List Y)) (fun a_15 => .ok (a_14 :: a_15)))) (fun a_17 => .ok (a_16 :: a_17)))) (fun a_18 => lnR a_18) else R.bind (R.bind (R.bind (ixY tree_ 0) (fun a_19 => outS a_19)) (fun a_20 => .ok (decide (a_20 = ([112, 105, 99, 107] : List Nat))))) (fun q_21 => if q_21 = true then R.bind (R.bind (ixY tree_ 1) (fun a_29 => R.bind (R.bind (ixY tree_ 2) (fun a_27 => R.bind (R.bind (ixY tree_ 3) (fun a_25 => R.bind (.ok ([] : List Y)) (fun a_26 => .ok (a_25 :: a_26)))) (fun a_28 => .ok (a_27 :: a_28)))) (fun a_30 => .ok (a_29 :: a_30)))) (fun a_31 => lnR a_31) else R.bind (R.bind (R.bind (ixY tree_ 0) (fun a_32 => outS a_32)) (fun a_33 => .ok (decide (a_33 = ([102, 101, 116, 99, 104] : List Nat))))) (fun q_34 => if q_34 = true then R.bind (R.bind (ixY tree_ 6) (fun a_36 => R.bind (.ok ([] : List Y)) (fun a_37 => .ok (a_36 :: a_37)))) (fun a_38 => lnR a_38) else R.bind (R.bind (ixY tree_ 3) (fun a_40 => R.bind (.ok ([] : List Y)) (fun a_41 => .ok (a_40 :: a_41)))) (fun a_42 => lnR a_42))))))
theorem c_inner_trees (n : Nat) (S : Store) (tree_ : Y) : SA XC (EQ (eT eY)) S (evCall P (n + 2) i_inner_trees [(eY tree_)] S) (y_inner_trees tree_) := by
  unfold y_inner_trees
  refine SA.fn (fn := fn_inner_trees) rfl rfl rfl (show SG XC _ _ (evSs _ _ [some (eY tree_)] _) _ from ?_)
  refine SG.iteL (SA.eq (SA.call1 (g := y_is_free) (G := EQ eB) (SA.var (e := eY) (a := tree_) rfl) (fun y1 d1 h1 => by subst h1; exact c_is_free _ _ y1)) rfl) ((Hp.nil S).base) ?_ ?_
  · exact SG.retP (SA.eq (t' := .ok ([] : List Y)) (SA.tup' (x := ([] : List Y)) (SE.eq (SE.nil (e := eY)) rfl) (by simp only [List.length_cons, List.length_nil]; omega)) rfl) (by rintro _ rfl; exact ⟨trivial, OF.rt (by decide) (Hp.nil S) _⟩)
  · refine SG.iteL (SA.eq (SA.eqS (SA.ofY (e := eS) (f := outS) (SA.ixY (SA.var (e := eY) (a := tree_) rfl) (SA.con (e := eI) (a := 0) rfl))) (SA.con (e := eS) (a := [101, 97, 99, 104]) rfl)) rfl) ((Hp.nil S).base) ?_ ?_
    · exact SG.ret0 (SA.eq (SA.tup (SE.cons (SA.ixY (SA.var (e := eY) (a := tree_) rfl) (SA.con (e := eI) (a := 2) rfl)) (SE.nil (e := eY)))) rfl) ((Hp.nil S).base) (by rintro _ _ rfl; exact ⟨trivial, OF.rt (by decide) (Hp.nil S) _⟩)
    · refine SG.iteL (SA.eq (SA.eqS (SA.ofY (e := eS) (f := outS) (SA.ixY (SA.var (e := eY) (a := tree_) rfl) (SA.con (e := eI) (a := 0) rfl))) (SA.con (e := eS) (a := [112, 97, 105, 114]) rfl)) rfl) ((Hp.nil S).base) ?_ ?_
      · exact SG.ret0 (SA.eq (SA.tup (SE.cons (SA.ixY (SA.var (e := eY) (a := tree_) rfl) (SA.con (e := eI) (a := 2) rfl)) (SE.cons (SA.ixY (SA.var (e := eY) (a := tree_) rfl) (SA.con (e := eI) (a := 3) rfl)) (SE.nil (e := eY))))) rfl) ((Hp.nil S).base) (by rintro _ _ rfl; exact ⟨trivial, OF.rt (by decide) (Hp.nil S) _⟩)
      · refine SG.iteL (SA.eq (SA.eqS (SA.ofY (e := eS) (f := outS) (SA.ixY (SA.var (e := eY) (a := tree_) rfl) (SA.con (e := eI) (a := 0) rfl))) (SA.con (e := eS) (a := [112, 105, 99, 107]) rfl)) rfl) ((Hp.nil S).base) ?_ ?_
        · exact SG.ret0 (SA.eq (SA.tup (SE.cons (SA.ixY (SA.var (e := eY) (a := tree_) rfl) (SA.con (e := eI) (a := 1) rfl)) (SE.cons (SA.ixY (SA.var (e := eY) (a := tree_) rfl) (SA.con (e := eI) (a := 2) rfl)) (SE.cons (SA.ixY (SA.var (e := eY) (a := tree_) rfl) (SA.con (e := eI) (a := 3) rfl)) (SE.nil (e := eY)))))) rfl) ((Hp.nil S).base) (by rintro _ _ rfl; exact ⟨trivial, OF.rt (by decide) (Hp.nil S) _⟩)
        · refine SG.iteL (SA.eq (SA.eqS (SA.ofY (e := eS) (f := outS) (SA.ixY (SA.var (e := eY) (a := tree_) rfl) (SA.con (e := eI) (a := 0) rfl))) (SA.con (e := eS) (a := [102, 101, 116, 99, 104]) rfl)) rfl) ((Hp.nil S).base) ?_ ?_
          · exact SG.ret0 (SA.eq (SA.tup (SE.cons (SA.ixY (SA.var (e := eY) (a := tree_) rfl) (SA.con (e := eI) (a := 6) rfl)) (SE.nil (e := eY)))) rfl) ((Hp.nil S).base) (by rintro _ _ rfl; exact ⟨trivial, OF.rt (by decide) (Hp.nil S) _⟩)
          · exact SG.ret0 (SA.eq (SA.tup (SE.cons (SA.ixY (SA.var (e := eY) (a := tree_) rfl) (SA.con (e := eI) (a := 3) rfl)) (SE.nil (e := eY)))) rfl) ((Hp.nil S).base) (by rintro _ _ rfl; exact OF.rt (by decide) (Hp.nil S) _)

noncomputable def y_calls_of : Nat → Y → R Int
  | 0, _ => .no
  | k_ + 1, tree_ =>
  R.bind (y_is_free tree_) (fun q_1 => if q_1 = true then .ok 0 else R.bind (.ok 1) (fun calls_2 => R.bind (y_inner_trees tree_) (fun xs_18 => R.bind (foldR (σ := Int) (fun (s_4 : Int) (x_3 : Y) => (R.bind (y_calls_of k_ x_3) (fun a_8 => .ok (s_4 + a_8)) : R Int)) calls_2 xs_18) (fun s_9 => R.bind (R.bind (R.bind (ixY tree_ 0) (fun a_13 => outS a_13)) (fun a_14 => .ok (decide (a_14 = ([102, 111, 108, 100] : List Nat))))) (fun q_15 => if q_15 = true then R.bind (R.bind (ixY tree_ 2) (fun a_16 => outI a_16)) (fun a_17 => mulR a_17 s_9) else .ok s_9)))))
theorem ye_calls_of (k_ : Nat) (tree_ : Y) : y_calls_of (k_ + 1) tree_ =
  R.bind (y_is_free tree_) (fun q_1 => if q_1 = true then .ok 0 else R.bind (.ok 1) (fun calls_2 => R.bind (y_inner_trees tree_) (fun xs_18 => R.bind (foldR (σ := Int) (fun (s_4 : Int) (x_3 : Y) => (R.bind (y_calls_of k_ x_3) (fun a_8 => .ok (s_4 + a_8)) : R Int)) calls_2 xs_18) (fun s_9 => R.bind (R.bind (R.bind (ixY tree_ 0) (fun a_13 => outS a_13)) (fun a_14 => .ok (decide (a_14 = ([102, 111, 108, 100] : List Nat))))) (fun q_15 => if q_15 = true then R.bind (R.bind (ixY tree_ 2) (fun a_16 => outI a_16)) (fun a_17 => mulR a_17 s_9) else .ok s_9))))) := rfl
theorem cr_calls_of (k_ : Nat) : ∀ (n : Nat) (S : Store) (tree_ : Y), SA XC (EQ eI) S (evCall P (n + k_ + 3) i_calls_of [(eY tree_)] S) (y_calls_of k_ tree_) := by
  induction k_ with
  | zero => intro n S tree_; exact trivial
  | succ k_ ih =>
    intro n S tree_
    rw [ye_calls_of]
    refine SA.fn (fn := fn_calls_of) rfl rfl rfl (show SG XC _ _ (evSs _ _ [some (eY tree_), none, none] _) _ from ?_)
    refine SG.iteL (SA.eq (SA.call1 (g := y_is_free) (G := EQ eB) (SA.var (e := eY) (a := tree_) rfl) (fun y1 d1 h1 => by subst h1; exact c_is_free _ _ y1)) rfl) ((Hp.nil S).base) ?_ ?_
    · exact SG.retP (SA.eq (t' := .ok 0) (SA.con (e := eI) (a := 0) rfl) rfl) (by rintro _ rfl; exact ⟨trivial, OF.rt (by decide) (Hp.nil S) _⟩)
    · refine SG.let (SA.eq (SA.con (e := eI) (a := 1) rfl) rfl) ((Hp.nil S).base) ?_
      intro calls_2
      refine (SG.forS (N := (fun s σ S' => ∃ (v_part : Option D), σ = [some (eY tree_), some (eI s), v_part] ∧ Hp S S' [])) (y := y_inner_trees tree_) (f := (fun (s_4 : Int) (x_3 : Y) => (R.bind (y_calls_of k_ x_3) (fun a_8 => .ok (s_4 + a_8)) : R Int))) (v0 := calls_2) (k := fun s_9 => R.bind (R.bind (R.bind (ixY tree_ 0) (fun a_13 => outS a_13)) (fun a_14 => .ok (decide (a_14 = ([102, 111, 108, 100] : List Nat))))) (fun q_15 => if q_15 = true then R.bind (R.bind (ixY tree_ 2) (fun a_16 => outI a_16)) (fun a_17 => mulR a_17 s_9) else .ok s_9)) (SW.eq (SW.tup (SA.call1 (g := y_inner_trees) (G := EQ (eT eY)) (SA.var (e := eY) (a := tree_) rfl) (fun y1 d1 h1 => by subst h1; exact c_inner_trees _ _ y1))) rfl) ((Hp.nil S).base) ?_ ?_ ?_ ?_)
      · exact ⟨_, rfl, (Hp.nil S)⟩
      · exact fun q hq _ _ _ _ => gN.okS hq
      · rintro x_3 s_4 _ S_7 ⟨v_part_5, rfl, H_6⟩
        refine SG.step (σ1 := [some (eY tree_), some (eI s_4), some (eY x_3)]) rfl ?_
        refine SG.aug (y := s_4) rfl (SA.eq (SA.call1 (g := y_calls_of k_) (G := EQ eI) (SA.var (e := eY) (a := x_3) rfl) (fun y1 d1 h1 => by subst h1; exact ih n _ y1)) rfl) (H_6.base) ?_
        intro a_8
        exact SG.nil (⟨_, _, .inl rfl, _, rfl, H_6⟩)
      rintro s_9 _ S_12 ⟨v_part_10, rfl, H_11⟩
      refine SG.iteL (SA.eq (SA.eqS (SA.ofY (e := eS) (f := outS) (SA.ixY (SA.var (e := eY) (a := tree_) rfl) (SA.con (e := eI) (a := 0) rfl))) (SA.con (e := eS) (a := [102, 111, 108, 100]) rfl)) rfl) (H_11.base) ?_ ?_
      · exact SG.ret0 (SA.eq (SA.mul (SA.ofY (e := eI) (f := outI) (SA.ixY (SA.var (e := eY) (a := tree_) rfl) (SA.con (e := eI) (a := 2) rfl))) (SA.var (e := eI) (a := s_9) rfl)) rfl) (H_11.base) (by rintro _ _ rfl; exact ⟨trivial, OF.rt (by decide) H_11 _⟩)
      · exact SG.retP (SA.eq (t' := .ok s_9) (SA.var (e := eI) (a := s_9) rfl) rfl) (by rintro _ rfl; exact OF.rt (by decide) H_11 _)
theorem c_calls_of (n : Nat) (S : Store) (tree_ : Y) : SA XC (EQ eI) S (evCall P (n + 19) i_calls_of [(eY tree_)] S) (y_calls_of 16 tree_) := cr_calls_of 16 n S tree_

noncomputable def y_loop_calls (loop_ : Y) : R Int :=
  R.bind (R.bind (R.bind (ixY loop_ 0) (fun a_1 => outS a_1)) (fun a_2 => .ok (decide (a_2 = ([114, 117, 110] : List Nat))))) (fun q_3 => if q_3 = true then R.bind (R.bind (y_rounds_of loop_) (fun a_5 => R.bind (R.bind (ixY loop_ 4) (fun a_4 => outI a_4)) (fun a_6 => mulR a_5 a_6))) (fun a_9 => R.bind (R.bind (R.bind (ixY loop_ 7) (fun a_7 => y_calls_of 16 a_7)) (fun a_8 => .ok (1 + a_8))) (fun a_10 => mulR a_9 a_10)) else R.bind (y_rounds_of loop_) (fun a_12 => R.bind (R.bind (ixY loop_ 5) (fun a_11 => y_calls_of 16 a_11)) (fun a_13 => mulR a_12 a_13)))
theorem c_loop_calls (n : Nat) (S : Store) (loop_ : Y) : SA XC (EQ eI) S (evCall P (n + 20) i_loop_calls [(eY loop_)] S) (y_loop_calls loop_) := by
  unfold y_loop_calls
  refine SA.fn (fn := fn_loop_calls) rfl rfl rfl (show SG XC _ _ (evSs _ _ [some (eY loop_)] _) _ from ?_)
  refine SG.iteL (SA.eq (SA.eqS (SA.ofY (e := eS) (f := outS) (SA.ixY (SA.var (e := eY) (a := loop_) rfl) (SA.con (e := eI) (a := 0) rfl))) (SA.con (e := eS) (a := [114, 117, 110]) rfl)) rfl) ((Hp.nil S).base) ?_ ?_
  · exact SG.ret0 (SA.eq (SA.mul (SA.mul (SA.call1 (g := y_rounds_of) (G := EQ eI) (SA.var (e := eY) (a := loop_) rfl) (fun y1 d1 h1 => by subst h1; exact c_rounds_of _ _ y1)) (SA.ofY (e := eI) (f := outI) (SA.ixY (SA.var (e := eY) (a := loop_) rfl) (SA.con (e := eI) (a := 4) rfl)))) (SA.add (SA.con (e := eI) (a := 1) rfl) (SA.call1 (g := y_calls_of 16) (G := EQ eI) (SA.ixY (SA.var (e := eY) (a := loop_) rfl) (SA.con (e := eI) (a := 7) rfl)) (fun y1 d1 h1 => by subst h1; exact c_calls_of _ _ y1)))) rfl) ((Hp.nil S).base) (by rintro _ _ rfl; exact ⟨trivial, OF.rt (by decide) (Hp.nil S) _⟩)
  · exact SG.ret0 (SA.eq (SA.mul (SA.call1 (g := y_rounds_of) (G := EQ eI) (SA.var (e := eY) (a := loop_) rfl) (fun y1 d1 h1 => by subst h1; exact c_rounds_of _ _ y1)) (SA.call1 (g := y_calls_of 16) (G := EQ eI) (SA.ixY (SA.var (e := eY) (a := loop_) rfl) (SA.con (e := eI) (a := 5) rfl)) (fun y1 d1 h1 => by subst h1; exact c_calls_of _ _ y1))) rfl) ((Hp.nil S).base) (by rintro _ _ rfl; exact OF.rt (by decide) (Hp.nil S) _)

noncomputable def y_loop_writings (loop_ : Y) : R Int :=
  R.bind (R.bind (R.bind (ixY loop_ 0) (fun a_1 => outS a_1)) (fun a_2 => .ok (decide (a_2 = ([114, 117, 110] : List Nat))))) (fun q_3 => if q_3 = true then R.bind (y_rounds_of loop_) (fun a_5 => R.bind (R.bind (ixY loop_ 4) (fun a_4 => outI a_4)) (fun a_6 => mulR a_5 a_6)) else y_rounds_of loop_)
theorem c_loop_writings (n : Nat) (S : Store) (loop_ : Y) : SA XC (EQ eI) S (evCall P (n + 3) i_loop_writings [(eY loop_)] S) (y_loop_writings loop_) := by
  unfold y_loop_writings
  refine SA.fn (fn := fn_loop_writings) rfl rfl rfl (show SG XC _ _ (evSs _ _ [some (eY loop_)] _) _ from ?_)
  refine SG.iteL (SA.eq (SA.eqS (SA.ofY (e := eS) (f := outS) (SA.ixY (SA.var (e := eY) (a := loop_) rfl) (SA.con (e := eI) (a := 0) rfl))) (SA.con (e := eS) (a := [114, 117, 110]) rfl)) rfl) ((Hp.nil S).base) ?_ ?_
  · exact SG.ret0 (SA.eq (SA.mul (SA.call1 (g := y_rounds_of) (G := EQ eI) (SA.var (e := eY) (a := loop_) rfl) (fun y1 d1 h1 => by subst h1; exact c_rounds_of _ _ y1)) (SA.ofY (e := eI) (f := outI) (SA.ixY (SA.var (e := eY) (a := loop_) rfl) (SA.con (e := eI) (a := 4) rfl)))) rfl) ((Hp.nil S).base) (by rintro _ _ rfl; exact ⟨trivial, OF.rt (by decide) (Hp.nil S) _⟩)
  · exact SG.ret0 (SA.eq (SA.call1 (g := y_rounds_of) (G := EQ eI) (SA.var (e := eY) (a := loop_) rfl) (fun y1 d1 h1 => by subst h1; exact c_rounds_of _ _ y1)) rfl) ((Hp.nil S).base) (by rintro _ _ rfl; exact OF.rt (by decide) (Hp.nil S) _)

noncomputable def y_law_whole (found_ : Int) : R Bool :=
  .ok (true && !false)
theorem c_law_whole (n : Nat) (S : Store) (found_ : Int) : SA XC (EQ eB) S (evCall P (n + 1) i_law_whole [(eI found_)] S) (y_law_whole found_) := by
  unfold y_law_whole
  refine SA.fn (fn := fn_law_whole) rfl rfl rfl (show SG XC _ _ (evSs _ _ [some (eI found_)] _) _ from ?_)
  exact SG.retP (SA.eq (t' := .ok (true && !false)) (SA.andp (x := true) (y := !false) (SA.eq (SA.isk (e := eI) (fun _ _ => isint_eq) (by decide) (SA.var (e := eI) (a := found_) rfl)) rfl) (SA.eq (SA.not (SA.isk (e := eI) (fun _ _ => isbool_eq) (by decide) (SA.var (e := eI) (a := found_) rfl))) rfl)) rfl) (by rintro _ rfl; exact OF.rt (by decide) (Hp.nil S) _)

noncomputable def y_calls_told (weft_ : (((Int × Int) × (Int × Int)) × (List Y) × (List (Int × (List Int))))) : R Int :=
  R.bind (R.bind (mapR (fun (x_1 : Y) => y_loop_calls x_1) weft_.2.1) (fun ys_2 => lnR ys_2)) (fun a_3 => .ok a_3.sum)
theorem c_calls_told (n : Nat) (S : Store) (weft_ : (((Int × Int) × (Int × Int)) × (List Y) × (List (Int × (List Int))))) : SA XC (EQ eI) S (evCall P (n + 21) i_calls_told [((eP3 (eP (eP eI eI) (eP eI eI)) (eT eY) (eT (eP eI (eT eI)))) weft_)] S) (y_calls_told weft_) := by
  unfold y_calls_told
  refine SA.fn (fn := fn_calls_told) rfl rfl rfl (show SG XC _ _ (evSs _ _ [some ((eP3 (eP (eP eI eI) (eP eI eI)) (eT eY) (eT (eP eI (eT eI)))) weft_), none] _) _ from ?_)
  exact SG.ret0 (SA.eq (SA.sum ((SM.lcM (f := (fun (x_1 : Y) => y_loop_calls x_1)) (σ1 := fun (x_1 : Y) => [some ((eP3 (eP (eP eI eI) (eP eI eI)) (eT eY) (eT (eP eI (eT eI)))) weft_), some (eY x_1)]) (SW.tup (SA.i3_1 (SA.var (e := (eP3 (eP (eP eI eI) (eP eI eI)) (eT eY) (eT (eP eI (eT eI))))) (a := weft_) rfl))) (fun _ hq => gN.okS hq) (fun _ => rfl) (fun x_1 => SA.eq (SA.call1 (g := y_loop_calls) (G := EQ eI) (SA.var (e := eY) (a := x_1) rfl) (fun y1 d1 h1 => by subst h1; exact c_loop_calls _ _ y1)) rfl)).val.lh.li)) rfl) ((Hp.nil S).base) (by rintro _ _ rfl; exact OF.rt (by decide) (Hp.nil S) _)

noncomputable def y_writings_told (weft_ : (((Int × Int) × (Int × Int)) × (List Y) × (List (Int × (List Int))))) : R Int :=
  R.bind (R.bind (mapR (fun (x_1 : Y) => y_loop_writings x_1) weft_.2.1) (fun ys_2 => lnR ys_2)) (fun a_3 => .ok a_3.sum)
theorem c_writings_told (n : Nat) (S : Store) (weft_ : (((Int × Int) × (Int × Int)) × (List Y) × (List (Int × (List Int))))) : SA XC (EQ eI) S (evCall P (n + 4) i_writings_told [((eP3 (eP (eP eI eI) (eP eI eI)) (eT eY) (eT (eP eI (eT eI)))) weft_)] S) (y_writings_told weft_) := by
  unfold y_writings_told
  refine SA.fn (fn := fn_writings_told) rfl rfl rfl (show SG XC _ _ (evSs _ _ [some ((eP3 (eP (eP eI eI) (eP eI eI)) (eT eY) (eT (eP eI (eT eI)))) weft_), none] _) _ from ?_)
  exact SG.ret0 (SA.eq (SA.sum ((SM.lcM (f := (fun (x_1 : Y) => y_loop_writings x_1)) (σ1 := fun (x_1 : Y) => [some ((eP3 (eP (eP eI eI) (eP eI eI)) (eT eY) (eT (eP eI (eT eI)))) weft_), some (eY x_1)]) (SW.tup (SA.i3_1 (SA.var (e := (eP3 (eP (eP eI eI) (eP eI eI)) (eT eY) (eT (eP eI (eT eI))))) (a := weft_) rfl))) (fun _ hq => gN.okS hq) (fun _ => rfl) (fun x_1 => SA.eq (SA.call1 (g := y_loop_writings) (G := EQ eI) (SA.var (e := eY) (a := x_1) rfl) (fun y1 d1 h1 => by subst h1; exact c_loop_writings _ _ y1)) rfl)).val.lh.li)) rfl) ((Hp.nil S).base) (by rintro _ _ rfl; exact OF.rt (by decide) (Hp.nil S) _)

noncomputable def y_law (script_ : (List Int)) : R Bool :=
  R.bind (.ok ([] : List Y)) (fun loops_1 => R.bind (.ok 0) (fun calls_5 => R.bind (.ok 0) (fun writings_6 => R.bind (rg3R 0 (script_.length : Int) 10) (fun xs_69 => R.fall (foldX (σ := ((List Y) × Int × Int)) (τ := Bool) (fun (s_8 : ((List Y) × Int × Int)) (x_7 : Int) => (R.bind (R.bind (lnR (cutL script_ (some x_7) (some (x_7 + 10)))) (fun a_17 => y_law_loop a_17)) (fun (t_18 : (Y × (List Int))) => R.bind (R.bind (R.bind (y_rounds_of t_18.1) (fun a_23 => R.bind (R.bind (y_loop_calls t_18.1) (fun a_21 => R.bind (R.bind (y_loop_writings t_18.1) (fun a_19 => R.bind (.ok ([] : List Int)) (fun a_20 => .ok (a_19 :: a_20)))) (fun a_22 => .ok (a_21 :: a_22)))) (fun a_24 => .ok (a_23 :: a_24)))) (fun a_25 => lnR a_25)) (fun found_26 => R.bind (.ok (found_26.zip t_18.2)) (fun xs_48 => R.fall (foldX (σ := Unit) (τ := (Stp ((List Y) × Int × Int) Bool)) (fun (s_28 : Unit) (x_27 : (Int × Int)) => (R.bind (R.bind (R.bind (y_law_whole x_27.1) (fun a_33 => .ok (!a_33))) (fun q_34 => if q_34 = true then .ok true else (.ok (decide (x_27.1 ≠ x_27.2))))) (fun q_35 => if q_35 = true then .ok (.out (.out (false))) else .ok (.go ())) : R (Stp Unit (Stp ((List Y) × Int × Int) Bool)))) () xs_48) (fun s_36 => R.bind (appR s_8.1 t_18.1) (fun loops_41 => R.bind (R.bind (ixR t_18.2 1) (fun a_44 => .ok (s_8.2.1 + a_44))) (fun calls_45 => R.bind (R.bind (ixR t_18.2 2) (fun a_46 => .ok (s_8.2.2 + a_46))) (fun writings_47 => .ok (.go (loops_41, calls_45, writings_47))))))))) : R (Stp ((List Y) × Int × Int) Bool))) (loops_1, calls_5, writings_6) xs_69) (fun s_49 => R.bind (.ok (((0, 60), (1, 60)), s_49.1, ([(1, ([60] : List Int))] : List (Int × (List Int))))) (fun weft_58 => R.bind (R.bind (R.bind (y_calls_told weft_58) (fun a_61 => R.bind (R.bind (y_writings_told weft_58) (fun a_59 => R.bind (.ok ([] : List Int)) (fun a_60 => .ok (a_59 :: a_60)))) (fun a_62 => .ok (a_61 :: a_62)))) (fun a_63 => lnR a_63)) (fun found_64 => R.bind (R.bind (ixR found_64 0) (fun a_65 => y_law_whole a_65)) (fun q_68 => if q_68 = true then R.bind (R.bind (ixR found_64 1) (fun a_66 => y_law_whole a_66)) (fun q_67 => if q_67 = true then (.ok (decide (found_64 = ([s_49.2.1, s_49.2.2] : List Int)))) else .ok false) else .ok false))))))))
theorem c_law (n : Nat) (S : Store) (d_script : D) (script_ : (List Int)) (h_script : items S d_script = some (script_.map eI)) : SA XC (EQ eB) S (evCall P (n + 22) i_law [d_script] S) (y_law script_) := by
  unfold y_law
  refine SA.fn (fn := fn_law) rfl rfl rfl (show SG XC _ _ (evSs _ _ [some d_script, none, none, none, none, none, none, none, none, none, none] _) _ from ?_)
  refine SG.own (SM.eq (SM.lst' (x := ([] : List Y)) (SE.eq (SE.nil (e := eY)) rfl) (by simp only [List.length_cons, List.length_nil]; omega)) rfl) (Hp.nil S) ((Hp.nil S).base) ?_
  intro loops_1 j_2 S_3 H_4
  refine SG.let (SA.eq (SA.con (e := eI) (a := 0) rfl) rfl) (H_4.base) ?_
  intro calls_5
  refine SG.let (SA.eq (SA.con (e := eI) (a := 0) rfl) rfl) (H_4.base) ?_
  intro writings_6
  refine (SG.forX (N := (fun s σ S' => ∃ (v_k : Option D), ∃ (v_loop : Option D), ∃ (v_due : Option D), ∃ (v_found : Option D), ∃ (v_one : Option D), ∃ (v_other : Option D), σ = [some d_script, some (.ref j_2), some (eI s.2.1), some (eI s.2.2), v_k, v_loop, v_due, v_found, v_one, v_other, none] ∧ Hp S S' [(j_2, s.1.map eY)])) (y := rg3R 0 (script_.length : Int) 10) (f := (fun (s_8 : ((List Y) × Int × Int)) (x_7 : Int) => (R.bind (R.bind (lnR (cutL script_ (some x_7) (some (x_7 + 10)))) (fun a_17 => y_law_loop a_17)) (fun (t_18 : (Y × (List Int))) => R.bind (R.bind (R.bind (y_rounds_of t_18.1) (fun a_23 => R.bind (R.bind (y_loop_calls t_18.1) (fun a_21 => R.bind (R.bind (y_loop_writings t_18.1) (fun a_19 => R.bind (.ok ([] : List Int)) (fun a_20 => .ok (a_19 :: a_20)))) (fun a_22 => .ok (a_21 :: a_22)))) (fun a_24 => .ok (a_23 :: a_24)))) (fun a_25 => lnR a_25)) (fun found_26 => R.bind (.ok (found_26.zip t_18.2)) (fun xs_48 => R.fall (foldX (σ := Unit) (τ := (Stp ((List Y) × Int × Int) Bool)) (fun (s_28 : Unit) (x_27 : (Int × Int)) => (R.bind (R.bind (R.bind (y_law_whole x_27.1) (fun a_33 => .ok (!a_33))) (fun q_34 => if q_34 = true then .ok true else (.ok (decide (x_27.1 ≠ x_27.2))))) (fun q_35 => if q_35 = true then .ok (.out (.out (false))) else .ok (.go ())) : R (Stp Unit (Stp ((List Y) × Int × Int) Bool)))) () xs_48) (fun s_36 => R.bind (appR s_8.1 t_18.1) (fun loops_41 => R.bind (R.bind (ixR t_18.2 1) (fun a_44 => .ok (s_8.2.1 + a_44))) (fun calls_45 => R.bind (R.bind (ixR t_18.2 2) (fun a_46 => .ok (s_8.2.2 + a_46))) (fun writings_47 => .ok (.go (loops_41, calls_45, writings_47))))))))) : R (Stp ((List Y) × Int × Int) Bool)))) (v0 := (loops_1, calls_5, writings_6)) (k := fun s_49 => R.bind (.ok (((0, 60), (1, 60)), s_49.1, ([(1, ([60] : List Int))] : List (Int × (List Int))))) (fun weft_58 => R.bind (R.bind (R.bind (y_calls_told weft_58) (fun a_61 => R.bind (R.bind (y_writings_told weft_58) (fun a_59 => R.bind (.ok ([] : List Int)) (fun a_60 => .ok (a_59 :: a_60)))) (fun a_62 => .ok (a_61 :: a_62)))) (fun a_63 => lnR a_63)) (fun found_64 => R.bind (R.bind (ixR found_64 0) (fun a_65 => y_law_whole a_65)) (fun q_68 => if q_68 = true then R.bind (R.bind (ixR found_64 1) (fun a_66 => y_law_whole a_66)) (fun q_67 => if q_67 = true then (.ok (decide (found_64 = ([s_49.2.1, s_49.2.2] : List Int)))) else .ok false) else .ok false)))) (SW.eq (SW.r3 (SA.con (e := eI) (a := 0) rfl) (SA.len ((SA.varI (e := eI) (xs := script_) (d := d_script) rfl (H_4.items h_script)).lq)) (SA.con (e := eI) (a := 10) rfl)) rfl) (H_4.base) ?_ ?_ ?_ ?_)
  · exact ⟨_, _, _, _, _, _, rfl, H_4⟩
  · exact fun q hq _ _ _ _ => gN.okS hq
  · rintro x_7 s_8 _ S_16 ⟨v_k_9, v_loop_10, v_due_11, v_found_12, v_one_13, v_other_14, rfl, H_15⟩
    refine SG.step (σ1 := [some d_script, some (.ref j_2), some (eI s_8.2.1), some (eI s_8.2.2), some (eI x_7), v_loop_10, v_due_11, v_found_12, v_one_13, v_other_14, none]) rfl ?_
    refine SG.letG (σ' := fun t_18 => [some d_script, some (.ref j_2), some (eI s_8.2.1), some (eI s_8.2.2), some (eI x_7), some (eY t_18.1), some ((eL eI) t_18.2), v_found_12, v_one_13, v_other_14, none]) (SA.eq (SA.call1 (g := y_law_loop) (G := EQ (eP eY (eL eI))) ((SM.sl (SA.varI (e := eI) (xs := script_) (d := d_script) rfl (H_15.items h_script)) (SO.some (SA.var (e := eI) (a := x_7) rfl)) (SO.some (SA.add (SA.var (e := eI) (a := x_7) rfl) (SA.con (e := eI) (a := 10) rfl)))).val.lh) (fun y1 d1 h1 => by exact c_law_loop _ _ d1 y1 h1)) rfl) (H_15.base) (fun _ => rfl) ?_
    intro t_18
    refine SG.let (SA.eq (SM.lst (SE.cons (SA.call1 (g := y_rounds_of) (G := EQ eI) (SA.var (e := eY) (a := t_18.1) rfl) (fun y1 d1 h1 => by subst h1; exact c_rounds_of _ _ y1)) (SE.cons (SA.call1 (g := y_loop_calls) (G := EQ eI) (SA.var (e := eY) (a := t_18.1) rfl) (fun y1 d1 h1 => by subst h1; exact c_loop_calls _ _ y1)) (SE.cons (SA.call1 (g := y_loop_writings) (G := EQ eI) (SA.var (e := eY) (a := t_18.1) rfl) (fun y1 d1 h1 => by subst h1; exact c_loop_writings _ _ y1)) (SE.nil (e := eI)))))).val rfl) (H_15.base) ?_
    intro found_26
    refine (SG.forX (N := (fun s σ S' => ∃ (v_one : Option D), ∃ (v_other : Option D), σ = [some d_script, some (.ref j_2), some (eI s_8.2.1), some (eI s_8.2.2), some (eI x_7), some (eY t_18.1), some ((eL eI) t_18.2), some ((eL eI) found_26), v_one, v_other, none] ∧ Hp S S' [(j_2, s_8.1.map eY)])) (y := .ok (found_26.zip t_18.2)) (f := (fun (s_28 : Unit) (x_27 : (Int × Int)) => (R.bind (R.bind (R.bind (y_law_whole x_27.1) (fun a_33 => .ok (!a_33))) (fun q_34 => if q_34 = true then .ok true else (.ok (decide (x_27.1 ≠ x_27.2))))) (fun q_35 => if q_35 = true then .ok (.out (.out (false))) else .ok (.go ())) : R (Stp Unit (Stp ((List Y) × Int × Int) Bool))))) (v0 := ()) (k := fun s_36 => R.bind (appR s_8.1 t_18.1) (fun loops_41 => R.bind (R.bind (ixR t_18.2 1) (fun a_44 => .ok (s_8.2.1 + a_44))) (fun calls_45 => R.bind (R.bind (ixR t_18.2 2) (fun a_46 => .ok (s_8.2.2 + a_46))) (fun writings_47 => .ok (.go (loops_41, calls_45, writings_47)))))) (SW.eq (SW.zip ((SA.var (e := (eL eI)) (a := found_26) rfl).lf) ((SA.var (e := (eL eI)) (a := t_18.2) rfl).lf)) rfl) (H_15.base) ?_ ?_ ?_ ?_)
    · exact ⟨_, _, rfl, H_15⟩
    · exact fun q hq _ _ _ _ => gN.okS hq
    · rintro x_27 s_28 _ S_32 ⟨v_one_29, v_other_30, rfl, H_31⟩
      refine SG.step (σ1 := [some d_script, some (.ref j_2), some (eI s_8.2.1), some (eI s_8.2.2), some (eI x_7), some (eY t_18.1), some ((eL eI) t_18.2), some ((eL eI) found_26), some (eI x_27.1), some (eI x_27.2), none]) rfl ?_
      refine SG.iteL (SA.eq (SA.or (SA.not (SA.call1 (g := y_law_whole) (G := EQ eB) (SA.var (e := eI) (a := x_27.1) rfl) (fun y1 d1 h1 => by subst h1; exact c_law_whole _ _ y1))) (SA.neI (SA.var (e := eI) (a := x_27.1) rfl) (SA.var (e := eI) (a := x_27.2) rfl))) rfl) (H_31.base) ?_ ?_
      · exact SG.retP (SA.eq (t' := .ok false) (SA.con (e := eB) (a := false) rfl) rfl) (by rintro _ rfl; exact ⟨trivial, ⟨⟨_, _, rfl⟩, ⟨⟨_, _, rfl⟩, OF.rt (by decide) H_31 _⟩⟩⟩)
      · exact SG.nil (⟨_, _, .inl rfl, _, _, rfl, H_31⟩)
    rintro s_36 _ S_40 ⟨v_one_37, v_other_38, rfl, H_39⟩
    refine SG.append (k := 0) rfl H_39 rfl (SA.eq (SA.var (e := eY) (a := t_18.1) rfl) rfl) (H_39.base) ?_
    intro loops_41 S_42 H_43
    refine SG.let (SA.eq (SA.add (SA.var (e := eI) (a := s_8.2.1) rfl) (SA.ix ((SA.var (e := (eL eI)) (a := t_18.2) rfl).lh.li.lq) (SA.con (e := eI) (a := 1) rfl))) rfl) (H_43.base) ?_
    intro calls_45
    refine SG.let (SA.eq (SA.add (SA.var (e := eI) (a := s_8.2.2) rfl) (SA.ix ((SA.var (e := (eL eI)) (a := t_18.2) rfl).lh.li.lq) (SA.con (e := eI) (a := 2) rfl))) rfl) (H_43.base) ?_
    intro writings_47
    exact SG.nil (⟨_, _, .inl rfl, _, _, _, _, _, _, rfl, H_43⟩)
  rintro s_49 _ S_57 ⟨v_k_50, v_loop_51, v_due_52, v_found_53, v_one_54, v_other_55, rfl, H_56⟩
  refine SG.let (SA.eq (SA.t3 (SA.t2 (SA.t2 (SA.con (e := eI) (a := 0) rfl) (SA.con (e := eI) (a := 60) rfl)) (SA.t2 (SA.con (e := eI) (a := 1) rfl) (SA.con (e := eI) (a := 60) rfl))) (SA.tupL ((SA.varO (e := eY) (xs := s_49.1) (k := 0) rfl H_56 rfl).li)) (SA.tup' (x := ([(1, ([60] : List Int))] : List (Int × (List Int)))) (SE.eq (SE.cons (SA.t2 (SA.con (e := eI) (a := 1) rfl) (SA.tup' (x := ([60] : List Int)) (SE.eq (SE.cons (SA.con (e := eI) (a := 60) rfl) (SE.nil (e := eI))) rfl) (by simp only [List.length_cons, List.length_nil]; omega))) (SE.nil (e := (eP eI (eT eI))))) rfl) (by simp only [List.length_cons, List.length_nil]; omega))) rfl) (H_56.base) ?_
  intro weft_58
  refine SG.let (SA.eq (SM.lst (SE.cons (SA.call1 (g := y_calls_told) (G := EQ eI) (SA.var (e := (eP3 (eP (eP eI eI) (eP eI eI)) (eT eY) (eT (eP eI (eT eI))))) (a := weft_58) rfl) (fun y1 d1 h1 => by subst h1; exact c_calls_told _ _ y1)) (SE.cons (SA.call1 (g := y_writings_told) (G := EQ eI) (SA.var (e := (eP3 (eP (eP eI eI) (eP eI eI)) (eT eY) (eT (eP eI (eT eI))))) (a := weft_58) rfl) (fun y1 d1 h1 => by subst h1; exact c_writings_told _ _ y1)) (SE.nil (e := eI))))).val rfl) (H_56.base) ?_
  intro found_64
  exact SG.ret0 (SA.eq (SA.and (SA.call1 (g := y_law_whole) (G := EQ eB) (SA.ix ((SA.var (e := (eL eI)) (a := found_64) rfl).lh.li.lq) (SA.con (e := eI) (a := 0) rfl)) (fun y1 d1 h1 => by subst h1; exact c_law_whole _ _ y1)) (SA.and (SA.call1 (g := y_law_whole) (G := EQ eB) (SA.ix ((SA.var (e := (eL eI)) (a := found_64) rfl).lh.li.lq) (SA.con (e := eI) (a := 1) rfl)) (fun y1 d1 h1 => by subst h1; exact c_law_whole _ _ y1)) (SA.eqL (by decide) ((SA.var (e := (eL eI)) (a := found_64) rfl).lh.li) ((SM.lst' (x := ([s_49.2.1, s_49.2.2] : List Int)) (SE.eq (SE.cons (SA.var (e := eI) (a := s_49.2.1) rfl) (SE.cons (SA.var (e := eI) (a := s_49.2.2) rfl) (SE.nil (e := eI)))) rfl) (by simp only [List.length_cons, List.length_nil]; omega)).val.lh.li)))) rfl) (H_56.base) (by rintro _ _ rfl; exact OF.rt (by decide) H_56 _)

def fitP (a b : List Int) : Prop := a.take (min a.length b.length) = b.take (min a.length b.length)
instance (a b : List Int) : Decidable (fitP a b) := inferInstanceAs (Decidable (_ = _))
def lng (a b : List Int) : List Int := if b.length ≤ a.length then a else b
inductive PS where
  | inn (s : List Int) | num (n : Int) | count (s : List Int) (k : Int) | each (w : List Nat) (a : Int) | pair (w : List Nat) (a b : Int) | pick (a b c : Int)
  | turn (a : Int) (o : List Int) | flip (a i : Int) | cut (a i f m g : Int) | spread (a p l : Int) | lay (a : Int) (s : List Int) | join (a b i : Int) | fetch (a b : Int)
  | fold (w : List Nat) (a i : Int) | run (w : List Nat) (a i : Int)
def tupI (s : List Int) : Y := .tup (s.map Y.int)
def PS.y : PS → Y
  | .inn s => .tup [.str [105, 110], tupI s]
  | .num n => .tup [.str [110, 117, 109], .int n]
  | .count s k => .tup [.str [99, 111, 117, 110, 116], tupI s, .int k]
  | .each w a => .tup [.str [101, 97, 99, 104], .str w, .int a]
  | .pair w a b => .tup [.str [112, 97, 105, 114], .str w, .int a, .int b]
  | .pick a b c => .tup [.str [112, 105, 99, 107], .int a, .int b, .int c]
  | .turn a o => .tup [.str [116, 117, 114, 110], .int a, tupI o]
  | .flip a i => .tup [.str [102, 108, 105, 112], .int a, .int i]
  | .cut a i f m g => .tup [.str [99, 117, 116], .int a, .int i, .int f, .int m, .int g]
  | .spread a p l => .tup [.str [115, 112, 114, 101, 97, 100], .int a, .int p, .int l]
  | .lay a s => .tup [.str [108, 97, 121], .int a, tupI s]
  | .join a b i => .tup [.str [106, 111, 105, 110], .int a, .int b, .int i]
  | .fetch a b => .tup [.str [102, 101, 116, 99, 104], .int a, .int b]
  | .fold w a i => .tup [.str [102, 111, 108, 100], .str w, .int a, .int i]
  | .run w a i => .tup [.str [114, 117, 110], .str w, .int a, .int i]
def onesW : List (List Nat) := [[110, 101, 103], [97, 98, 115], [115, 105, 103, 110], [110, 111, 116]]
def twosW : List (List Nat) := [[97, 100, 100], [115, 117, 98], [109, 117, 108], [113, 117, 111], [114, 101, 115, 116], [109, 97, 120], [109, 105, 110], [108, 101, 115, 115], [108, 105, 107, 101], [97, 110, 100], [111, 114], [120, 111, 114]]
def fldsW : List (List Nat) := [[97, 100, 100], [109, 117, 108], [109, 97, 120], [109, 105, 110], [97, 110, 100], [111, 114], [120, 111, 114]]
def At (ss : List (List Int)) (a : Int) (x : List Int) : Prop := 0 ≤ a ∧ ss[a.toNat]? = some x
structure Sd (m : Int) (s : List Int) : Prop where
  l : s.length ≤ 6
  n : nng s
  b : brd s ≤ m
def Ok (ss : List (List Int)) : PS → List Int → Prop
  | .inn s, r => r = s
  | .num n, r => r = [] ∧ -9223372036854775808 ≤ n ∧ n < 9223372036854775808
  | .count s k, r => r = s ∧ 0 ≤ k ∧ k < s.length
  | .each w a, r => At ss a r ∧ w ∈ onesW
  | .pair w a b, r => ∃ x y, At ss a x ∧ At ss b y ∧ w ∈ twosW ∧ fitP x y ∧ r = lng x y
  | .pick a b c, r => ∃ x y z, At ss a x ∧ At ss b y ∧ At ss c z ∧ fitP x y ∧ fitP x z ∧ fitP y z ∧ r = lng (lng x y) z
  | .turn a o, r => ∃ x, At ss a x ∧ o.Perm (rg0 x.length) ∧ r = o.map fun k => x.getD k.toNat 0
  | .flip a i, r => At ss a r ∧ 0 ≤ i ∧ i < r.length
  | .cut a i f m g, r => ∃ A l B, At ss a (A ++ [l] ++ B) ∧ i = (A.length : Int) ∧ 0 ≤ f ∧ 0 ≤ m ∧ 1 ≤ g ∧ g ≤ 3 ∧ (0 < m → f + (m - 1) * g < l) ∧ r = A ++ [m] ++ B
  | .spread a p l, r => ∃ A B, At ss a (A ++ B) ∧ p = (A.length : Int) ∧ 0 ≤ l ∧ r = A ++ [l] ++ B
  | .lay a s, r => ∃ x, At ss a x ∧ amt x = amt s ∧ r = s
  | .join a b i, r => ∃ A l m B, At ss a (A ++ [l] ++ B) ∧ At ss b (A ++ [m] ++ B) ∧ i = (A.length : Int) ∧ r = A ++ [l + m] ++ B
  | .fetch a b, r => ∃ l B o, At ss a (l :: B) ∧ 0 < l ∧ At ss b o ∧ r = o ++ B
  | .fold w a i, r => ∃ A l B, At ss a (A ++ [l] ++ B) ∧ i = (A.length : Int) ∧ w ∈ fldsW ∧ r = A ++ B
  | .run w a i, r => At ss a r ∧ 0 ≤ i ∧ i < r.length ∧ w ∈ fldsW
structure Prgm (m : Int) (ts : List PS) (ss : List (List Int)) : Prop where
  len : ts.length = ss.length
  sd : ∀ s ∈ ss, Sd m s
  ok : ∀ (k : Nat) (h : k < ts.length) (h2 : k < ss.length), Ok (ss.take k) ts[k] ss[k]
theorem Prgm.nil (m : Int) : Prgm m [] [] := ⟨rfl, by simp, fun k h => by simp at h⟩
theorem Sd.rng {m : Int} {s : List Int} (h : Sd m s) : ∀ x ∈ s, 0 ≤ x ∧ x ≤ m := fun x hx => ⟨h.n x hx, by have := brd_mem hx; have := h.b; omega⟩
theorem pref {l : Int} {m : Int} {s : List Int} (h : Sd m s) (h6 : s.length < 6) (l0 : 0 ≤ l) (lf : l ≤ m / brd s) : Sd m (s ++ [l]) := by
  have b1 := brd_pos s
  have hb := h.b
  have f1 : 1 ≤ m / brd s := by
    have := Int.ediv_le_ediv (show 0 < brd s by omega) hb
    rwa [Int.ediv_self (by omega)] at this
  refine ⟨by simp; omega, fun x hx => ?_, ?_⟩
  · rcases List.mem_append.mp hx with hx | hx
    · exact h.n x hx
    · simp at hx; omega
  · rw [brd_snoc]
    have e1 : max 1 l ≤ m / brd s := by omega
    have e2 := Int.mul_le_mul_of_nonneg_left e1 (show 0 ≤ brd s by omega)
    have e3 := Int.mul_ediv_self_le (x := m) (k := brd s) (by omega)
    omega
theorem brd_perm {a b : List Int} (h : a.Perm b) : brd a = brd b := by
  induction h with
  | nil => rfl
  | cons x _ ih => rw [brd_cons, brd_cons, ih]
  | swap x y l => simp only [brd_cons]; grind
  | trans _ _ h1 h2 => rw [h1, h2]
theorem Sd.perm {m : Int} {a b : List Int} (h : Sd m a) (p : a.Perm b) : Sd m b := ⟨by rw [← p.length_eq]; exact h.l, fun x hx => h.n x (p.mem_iff.mpr hx), by rw [← brd_perm p]; exact h.b⟩
theorem Sd.inn {m l : Int} {A B : List Int} (h : Sd m (A ++ B)) (h6 : (A ++ B).length < 6) (l0 : 0 ≤ l) (lf : l ≤ m / brd (A ++ B)) : Sd m (A ++ [l] ++ B) := by
  have q := pref h h6 l0 lf
  refine q.perm ?_
  rw [List.append_assoc, List.append_assoc]
  exact List.Perm.append_left A List.perm_append_comm
structure BdL (r : List Int) : Prop where
  l : r.length ≤ 100
  n : nng r
  b : ∀ y ∈ r, y ≤ 1000000
theorem BdL.nil : BdL [] := ⟨by simp, by simp [nng], by simp⟩
theorem amount_eq (s : List Int) (h : ∀ x ∈ s, x.natAbs < 18446744073709551616) : y_amount s = .ok (amt s) := by
  unfold y_amount amt
  simp only [R.bind_ok, R.bind_self]
  rw [foldR_pure (g := fun a b => a * b) fun a x hx => mulR_r (h x hx)]
@[simp] theorem ixR_c3 {α : Type} {x y z w : α} {xs : List α} : ixR (x :: y :: z :: w :: xs) 3 = .ok w := ixR_get (by omega) rfl
@[simp] theorem ixR_c4 {α : Type} {x y z w u : α} {xs : List α} : ixR (x :: y :: z :: w :: u :: xs) 4 = .ok u := ixR_get (by omega) rfl
@[simp] theorem ixR_c5 {α : Type} {x y z w u v : α} {xs : List α} : ixR (x :: y :: z :: w :: u :: v :: xs) 5 = .ok v := ixR_get (by omega) rfl
@[simp] theorem ixR_c6 {α : Type} {x y z w u v s : α} {xs : List α} : ixR (x :: y :: z :: w :: u :: v :: s :: xs) 6 = .ok s := ixR_get (by omega) rfl
@[simp] theorem ixR_c7 {α : Type} {x y z w u v s r : α} {xs : List α} : ixR (x :: y :: z :: w :: u :: v :: s :: r :: xs) 7 = .ok r := ixR_get (by omega) rfl
def PS.args : PS → List Int
  | .inn _ => [] | .num _ => [] | .count _ _ => [] | .each _ a => [a] | .pair _ a b => [a, b] | .pick a b c => [a, b, c] | .turn a _ => [a] | .flip a _ => [a]
  | .cut a _ _ _ _ => [a] | .spread a _ _ => [a] | .lay a _ => [a] | .join a b _ => [a, b] | .fetch a b => [a, b] | .fold _ a _ => [a] | .run _ a _ => [a]
theorem outL_int (s : List Int) : outL outI (s.map Y.int) = .ok s := by
  induction s with
  | nil => rfl
  | cons x s ih => rw [List.map_cons, outL, ih]; rfl
@[simp] theorem outT_tupI (s : List Int) : outT outI (tupI s) = .ok s := outL_int s
structure SdOk (s : List Int) : Prop where
  len : s.length ≤ 6
  rng : ∀ x ∈ s, 0 ≤ x ∧ x ≤ 512
  brd : brd s ≤ 512
theorem SdOk.nng {s : List Int} (h : SdOk s) : nng s := fun x hx => (h.rng x hx).1
theorem SdOk.amt {s : List Int} (h : SdOk s) : 0 ≤ amt s ∧ SL.amt s ≤ 512 := ⟨amt_nonneg h.nng, by have := amt_le_brd h.nng; have := h.brd; omega⟩
theorem Prgm.take {m : Int} {ts : List PS} {ss : List (List Int)} (p : Prgm m ts ss) (n : Nat) : Prgm m (ts.take n) (ss.take n) := by
  refine ⟨by simp [p.len], fun s hs => p.sd s (List.mem_of_mem_take hs), fun k h1 h2 => ?_⟩
  simp at h1 h2
  rw [List.getElem_take, List.getElem_take, List.take_take, Nat.min_eq_left (by omega)]
  exact p.ok k (by omega) (by omega)
def PS.rn (ν : Int → Int) : PS → PS
  | .inn s => .inn s | .num n => .num n | .count s k => .count s k | .each w a => .each w (ν a) | .pair w a b => .pair w (ν a) (ν b) | .pick a b c => .pick (ν a) (ν b) (ν c)
  | .turn a o => .turn (ν a) o | .flip a i => .flip (ν a) i | .cut a i f m g => .cut (ν a) i f m g | .spread a p l => .spread (ν a) p l | .lay a s => .lay (ν a) s
  | .join a b i => .join (ν a) (ν b) i | .fetch a b => .fetch (ν a) (ν b) | .fold w a i => .fold w (ν a) i | .run w a i => .run w (ν a) i
theorem Ok.rn {ss ss' : List (List Int)} {t : PS} {r : List Int} {ν : Int → Int} (ok : Ok ss t r) (h : ∀ a ∈ t.args, ∀ x, At ss a x → At ss' (ν a) x) : Ok ss' (t.rn ν) r := by
  cases t with
  | inn s => exact ok
  | num n => exact ok
  | count s k => exact ok
  | each w a => exact ⟨h a (by simp [PS.args]) _ ok.1, ok.2⟩
  | pair w a b =>
    obtain ⟨x, y, ha, hb, q⟩ := ok
    exact ⟨x, y, h a (by simp [PS.args]) _ ha, h b (by simp [PS.args]) _ hb, q⟩
  | pick a b c =>
    obtain ⟨x, y, z, ha, hb, hc, q⟩ := ok
    exact ⟨x, y, z, h a (by simp [PS.args]) _ ha, h b (by simp [PS.args]) _ hb, h c (by simp [PS.args]) _ hc, q⟩
  | turn a o =>
    obtain ⟨x, ha, q⟩ := ok
    exact ⟨x, h a (by simp [PS.args]) _ ha, q⟩
  | flip a i => exact ⟨h a (by simp [PS.args]) _ ok.1, ok.2⟩
  | cut a i f m g =>
    obtain ⟨A, l, B, ha, q⟩ := ok
    exact ⟨A, l, B, h a (by simp [PS.args]) _ ha, q⟩
  | spread a p l =>
    obtain ⟨A, B, ha, q⟩ := ok
    exact ⟨A, B, h a (by simp [PS.args]) _ ha, q⟩
  | lay a s =>
    obtain ⟨x, ha, q⟩ := ok
    exact ⟨x, h a (by simp [PS.args]) _ ha, q⟩
  | join a b i =>
    obtain ⟨A, l, m, B, ha, hb, q⟩ := ok
    exact ⟨A, l, m, B, h a (by simp [PS.args]) _ ha, h b (by simp [PS.args]) _ hb, q⟩
  | fetch a b =>
    obtain ⟨l, B, o, ha, l0, hb, q⟩ := ok
    exact ⟨l, B, o, h a (by simp [PS.args]) _ ha, l0, h b (by simp [PS.args]) _ hb, q⟩
  | fold w a i =>
    obtain ⟨A, l, B, ha, q⟩ := ok
    exact ⟨A, l, B, h a (by simp [PS.args]) _ ha, q⟩
  | run w a i => exact ⟨h a (by simp [PS.args]) _ ok.1, ok.2⟩
def Topo (g : Int → List Int) : List Int → List Int → Prop
  | _, [] => True
  | seen, x :: xs => (∀ a ∈ g x, a ∈ seen) ∧ Topo g (x :: seen) xs
theorem Topo.mono {g : Int → List Int} : ∀ {xs seen seen' : List Int}, (∀ a ∈ seen, a ∈ seen') → Topo g seen xs → Topo g seen' xs
  | [], _, _, _, _ => trivial
  | x :: xs, _, _, h, t => ⟨fun a ha => h a (t.1 a ha), Topo.mono (fun a ha => by simp at ha ⊢; rcases ha with rfl | ha; exact .inl rfl; exact .inr (h a ha)) t.2⟩
theorem Topo.swap {g : Int → List Int} {u v : Int} (n : u ∉ g v) {post : List Int} : ∀ {pre seen : List Int}, Topo g seen (pre ++ u :: v :: post) → Topo g seen (pre ++ v :: u :: post)
  | [], seen, t => by
    obtain ⟨h1, h2, h3⟩ := t
    refine ⟨fun a ha => ?_, fun a ha => ?_, h3.mono fun a ha => ?_⟩
    · have := h2 a ha
      simp at this
      rcases this with rfl | h
      · exact absurd ha n
      · exact h
    · have := h1 a ha
      simp [this]
    · simp at ha ⊢
      rcases ha with h | h | h <;> simp [h]
  | x :: pre, seen, t => ⟨t.1, Topo.swap n t.2⟩
theorem Topo.at {g : Int → List Int} : ∀ {xs seen : List Int}, Topo g seen xs → ∀ {pre x post}, xs = pre ++ x :: post → ∀ a ∈ g x, a ∈ seen ∨ a ∈ pre
  | [], _, _, pre, x, post, e, a, ha => by simp at e
  | y :: ys, seen, t, [], x, post, e, a, ha => by simp at e; obtain ⟨rfl, rfl⟩ := e; exact .inl (t.1 a ha)
  | y :: ys, seen, t, z :: pre, x, post, e, a, ha => by
    simp at e
    obtain ⟨rfl, e⟩ := e
    have := Topo.at t.2 e a ha
    simp at this ⊢
    rcases this with (h | h) | h <;> simp [h]
theorem Ok.mono {ss ss' : List (List Int)} {t : PS} {r : List Int} (ok : Ok ss t r) (h : ∀ a x, At ss a x → At ss' a x) : Ok ss' t r := by
  have e : t.rn (fun a => a) = t := by cases t <;> rfl
  rw [← e]
  exact ok.rn fun a _ x hx => h a x hx
def Cal (d : Nat) (t : Y) (n : Int) : Prop := ∀ k, d ≤ k → y_calls_of k t = .ok n
theorem Cal.mono {d e : Nat} {t : Y} {n : Int} (h : Cal d t n) (q : d ≤ e) : Cal e t n := fun k hk => h k (by omega)
theorem leaf_sat (one : Int) : Sat (y_law_leaf one) fun t => Cal 1 t 0 := by
  unfold y_law_leaf
  simp only [R.bind_ok, sat_ite, sat_ok]
  refine ⟨fun _ k hk => ?_, fun _ => ⟨fun _ k hk => ?_, fun _ k hk => ?_⟩⟩ <;>
  · obtain ⟨j, rfl⟩ : ∃ j, k = j + 1 := ⟨k - 1, by omega⟩
    rw [ye_calls_of]
    simp [y_is_free, ixY, outS, inB]
theorem grown_sat {d : Nat} {t : Y} {n one : Int} (h : Cal d t n) (hd : 2 ≤ d) : Sat (y_law_grown t n one) fun p => Cal (d + 1) p.1 p.2 := by
  unfold y_law_grown
  simp only [R.bind_ok]
  rw [sat_bind]
  refine (leaf_sat (one / 8)).mono fun lf hl => ?_
  have s0 : 0 ≤ one / 8 % 1000000000 := by omega
  have s1 : one / 8 % 1000000000 < 1000000000 := by omega
  generalize one / 8 % 1000000000 = sm at s0 s1
  rw [mulR_r (i := n + 1) (j := sm) (by omega)]
  simp only [R.bind_ok, sat_ite, sat_ok]
  have h1 : ∀ j, d + 1 ≤ j + 1 → y_calls_of j t = .ok n := fun j hj => h j (by omega)
  have h2 : ∀ j, d + 1 ≤ j + 1 → y_calls_of j lf = .ok 0 := fun j hj => hl j (by omega)
  have h3 : ∀ w j, d + 1 ≤ j + 1 → y_calls_of j (.tup [.str [101, 97, 99, 104], .str w, lf]) = .ok 1 := fun w j hj => by
    obtain ⟨i, rfl⟩ : ∃ i, j = i + 1 := ⟨j - 1, by omega⟩
    rw [ye_calls_of]
    simp [y_is_free, y_inner_trees, ixY, outS, inB, lnR_eq, foldR, hl i (by omega)]
  have h4 : ∀ w j, d + 1 ≤ j + 1 → y_calls_of j (.tup [.str [102, 111, 108, 100], .str w, .int sm, lf]) = .ok sm := fun w j hj => by
    obtain ⟨i, rfl⟩ : ∃ i, j = i + 1 := ⟨j - 1, by omega⟩
    rw [ye_calls_of]
    simp [y_is_free, y_inner_trees, ixY, outS, outI, inB, lnR_eq, foldR, hl i (by omega), mulR_r (i := sm) (j := 1) (by decide)]
  have m5 := mulR_l (i := sm) (j := 1 + n) (by omega)
  have e5 : sm * (1 + n) = (n + 1) * sm := by rw [Int.mul_comm, Int.add_comm]
  refine ⟨fun _ => ?_, fun _ => ⟨fun _ => ?_, fun _ => ⟨fun _ => ?_, fun _ => ⟨fun _ => ?_, fun _ => ⟨fun _ => ?_, fun _ => ⟨fun _ => ?_, fun _ => ⟨fun _ => ?_, fun _ => ?_⟩⟩⟩⟩⟩⟩⟩ <;>
  · intro k hk
    obtain ⟨j, rfl⟩ : ∃ j, k = j + 1 := ⟨k - 1, by omega⟩
    rw [ye_calls_of]
    simp [y_is_free, y_inner_trees, ixY, outS, outI, inB, lnR_eq, foldR, h1 j hk, h2 j hk, h3 _ j hk, h4 _ j hk, m5, e5]
    try omega
theorem at_sat (row : List Int) {k : Int} (k0 : 0 ≤ k) : Sat (y_law_at row k) fun _ => True := by
  unfold y_law_at
  simp only [R.bind_ok, sat_ite, sat_ok]
  exact ⟨fun q => ixR_sat k0 (by simpa using q) (by simp), fun _ => trivial⟩
theorem row_sat (row : List Int) (hl : row.length ≤ 10) : Sat (y_law_loop row) fun p => ∃ r c w, p.2 = [r, c, w] ∧ y_rounds_of p.1 = .ok r ∧ y_loop_calls p.1 = .ok c ∧ y_loop_writings p.1 = .ok w := by
  unfold y_law_loop
  obtain ⟨x0, e0, _⟩ := at_sat row (k := 0) (by omega)
  obtain ⟨x1, e1, _⟩ := at_sat row (k := 1) (by omega)
  obtain ⟨x2, e2, _⟩ := at_sat row (k := 2) (by omega)
  simp only [e0, e1, e2, R.bind_ok]
  rw [sat_bind]
  refine (leaf_sat x2).mono fun lf hlf => ?_
  have l1 : (cutL row (some 3) none).length ≤ 7 := by rw [cutL_from (by omega)]; simp; omega
  rw [lnR_eq (by omega), R.bind_ok, sat_bind]
  refine Sat.mono (P := fun s : Y × Int => Cal 10 s.1 s.2) (Sat.mono (foldR_sat (s0 := (lf, (0 : Int))) (xs := cutL row (some 3) none) (fun pre (s : Y × Int) => Cal (2 + pre.length) s.1 s.2) (hlf.mono (by simp)) ?_) fun s hs => Cal.mono hs (by omega)) ?_
  · rintro pre x post ⟨t, n⟩ e h
    rw [sat_bind]
    refine (grown_sat (d := 2 + pre.length) h (by omega)).mono fun p hp => ?_
    rw [sat_ok]
    exact hp.mono (by simp; omega)
  · rintro ⟨t, n⟩ h
    have h : Cal 10 t n := h
    have hc := h 16 (by omega)
    rw [lnR_eq (by simp)]
    simp only [R.bind_ok]
    have sb : ∀ y ∈ cutL [x0 % 1000, x1 % 1000] none (some (x0 / 1000 % 3)), 0 ≤ y ∧ y < 1000 := fun y hy => by
      rw [cutL_to (by omega)] at hy
      have := List.mem_of_mem_take hy
      simp at this
      omega
    have sl : (cutL [x0 % 1000, x1 % 1000] none (some (x0 / 1000 % 3))).length ≤ 2 := by
      rw [cutL_to (by omega)]; simp; omega
    generalize cutL [x0 % 1000, x1 % 1000] none (some (x0 / 1000 % 3)) = sides at sb sl
    have em : foldR (σ := Int) (fun (s_31 : Int) (x_30 : Int) => (R.bind (mulR s_31 x_30) (fun rounds_35 => .ok rounds_35) : R Int)) 1 sides = .ok (amt sides) := by
      unfold amt
      simp only [R.bind_self]
      rw [foldR_pure (g := fun a b => a * b) fun a x hx => mulR_r (by have := sb x hx; omega)]
    have ea : y_amount sides = .ok (amt sides) := amount_eq sides fun x hx => by have := sb x hx; omega
    have rb : 0 ≤ amt sides ∧ amt sides < 1000000 := by
      match sides, sb, sl with
      | [], _, _ => exact ⟨by simp, by simp⟩
      | [a], sb, _ =>
        have := sb a (by simp)
        rw [amt_cons, amt_nil]; omega
      | [a, b], sb, _ =>
        have h1 := sb a (by simp)
        have h2 := sb b (by simp)
        rw [amt_cons, amt_cons, amt_nil, Int.mul_one]
        have := Int.mul_nonneg h1.1 h2.1
        have := Int.mul_le_mul_of_nonneg_right (show a ≤ 999 by omega) h2.1
        omega
      | _ :: _ :: _ :: _, _, sl => simp at sl
    rw [em]
    simp only [R.bind_ok]
    generalize amt sides = r at *
    have m1 := mulR_l (i := r) (j := n) (by omega)
    have ol := outL_int sides
    rw [sat_ite]
    refine ⟨fun _ => ?_, fun _ => ?_⟩
    · simp only [m1, R.bind_ok, lnR_eq (show [r, r * n, r].length ≤ 1000000 by simp), sat_ok]
      refine ⟨_, _, _, rfl, ?_⟩
      simp [y_rounds_of, y_loop_calls, y_loop_writings, ixY, outS, outI, outT, ol, ea, hc, m1]
    · have s0 : 0 ≤ x1 / 2000 % 1000000 := by omega
      have s1 : x1 / 2000 % 1000000 < 1000000 := by omega
      generalize x1 / 2000 % 1000000 = sm at s0 s1
      have m2 := mulR_l (i := r) (j := sm) (by omega)
      have rs0 := Int.mul_nonneg rb.1 s0
      have rs1 := Int.mul_le_mul_of_nonneg_right (show r ≤ 1000000 by omega) s0
      have m3 := mulR_l (i := r * sm) (j := 1 + n) (by omega)
      have cl : (cutL ([1, 2] : List Int) none (some (sides.length : Int))).length ≤ 2 := cutL_len
      simp only [m2, m3, R.bind_ok, lnR_eq (show [r, r * sm * (1 + n), r * sm].length ≤ 1000000 by simp), catR_eq (xs := (cutL ([1, 2] : List Int) none (some (sides.length : Int)))) (ys := [1]) (by simp; omega)]
      rw [lnR_eq (by simp)]
      simp only [R.bind_ok, sat_ok]
      refine ⟨_, _, _, rfl, ?_⟩
      simp [y_rounds_of, y_loop_calls, y_loop_writings, ixY, outS, outI, outT, ol, ea, hc, m2, m3]
theorem mapR_snoc {α β : Type} {f : α → R β} : ∀ {xs : List α} {ys : List β} {x : α} {y : β}, mapR f xs = .ok ys → f x = .ok y → mapR f (xs ++ [x]) = .ok (ys ++ [y])
  | [], ys, x, y, h, e => by
    rw [mapR] at h; injection h with h; subst h
    simp [mapR, e]
  | z :: zs, ys, x, y, h, e => by
    rw [mapR] at h
    rw [List.cons_append, mapR]
    cases c : (f z).calm with
    | ok u =>
      rw [c] at h
      cases d : mapR f zs with
      | ok us =>
        rw [d] at h
        have h : R.ok (u :: us) = .ok ys := h
        injection h with h
        subst h
        rw [mapR_snoc d e]
        rfl
      | exc a b => rw [d] at h; cases h
      | no => rw [d] at h; cases h
    | exc a b => rw [c] at h; cases h
    | no => rw [c] at h; cases h
theorem mapR_len {α β : Type} {f : α → R β} : ∀ {xs : List α} {ys : List β}, mapR f xs = .ok ys → ys.length = xs.length
  | [], ys, h => by rw [mapR] at h; injection h with h; subst h; rfl
  | z :: zs, ys, h => by
    rw [mapR] at h
    cases c : (f z).calm with
    | ok u =>
      rw [c] at h
      cases d : mapR f zs with
      | ok us =>
        rw [d] at h
        have h : R.ok (u :: us) = .ok ys := h
        injection h with h
        subst h
        simp [mapR_len d]
      | exc a b => rw [d] at h; cases h
      | no => rw [d] at h; cases h
    | exc a b => rw [c] at h; cases h
    | no => rw [c] at h; cases h
theorem law_true (ns : List Int) (h : ns.length ≤ 63) : y_law ns = .ok true := by
  unfold y_law
  simp only [R.bind_ok]
  have e3 : Sat (rg3R 0 (ns.length : Int) 10) fun xs => xs.length ≤ 7 ∧ ∀ x ∈ xs, 0 ≤ x := by
    rw [rg3R_def, if_pos (by simp [small62]; omega), sat_ok]
    refine ⟨?_, fun x hx => ?_⟩
    · simp [rngN]; split <;> omega
    · obtain ⟨k, _, rfl⟩ := List.mem_map.mp hx
      omega
  obtain ⟨xs, ex, xl, x0⟩ := e3
  rw [ex, R.bind_ok]
  refine Sat.eq ?_
  rw [sat_fall]
  refine Sat.mono (foldX_sat (s0 := (([] : List Y), (0 : Int), (0 : Int))) (xs := xs) (fun pre (s : List Y × Int × Int) => s.1.length = pre.length ∧ (∃ cs, mapR (fun x => y_loop_calls x) s.1 = .ok cs ∧ cs.sum = s.2.1) ∧ ∃ ws, mapR (fun x => y_loop_writings x) s.1 = .ok ws ∧ ws.sum = s.2.2) (fun z => ∃ s : List Y × Int × Int, z = .inl s ∧ s.1.length ≤ 7 ∧ (∃ cs, mapR (fun x => y_loop_calls x) s.1 = .ok cs ∧ cs.sum = s.2.1) ∧ ∃ ws, mapR (fun x => y_loop_writings x) s.1 = .ok ws ∧ ws.sum = s.2.2) ⟨rfl, ⟨[], rfl, rfl⟩, ⟨[], rfl, rfl⟩⟩ ?_ fun s hs => ⟨s, rfl, by omega, hs.2⟩) ?_
  · rintro pre x post ⟨ls, ca, wr⟩ e ⟨h1, ⟨cs, h2, h3⟩, ws, h4, h5⟩
    have h1 : ls.length = pre.length := h1
    have h3 : cs.sum = ca := h3
    have h5 : ws.sum = wr := h5
    have el := congrArg List.length e
    simp at el
    have hx := x0 x (by rw [e]; simp)
    have l2 : (cutL ns (some x) (some (x + 10))).length ≤ 10 := by rw [cutL_mid hx (by omega)]; simp; omega
    rw [lnR_eq (by omega), R.bind_ok, sat_bind]
    refine (row_sat _ l2).mono fun p hp => ?_
    obtain ⟨loop, due⟩ := p
    obtain ⟨r, c, w, rfl, q1, q2, q3⟩ := hp
    simp only [q1, q2, q3, R.bind_ok, lnR_eq (show [r, c, w].length ≤ 1000000 by simp), appR_eq (show ls.length ≤ 1000000 by omega)]
    simp only [y_law_whole, List.zip_cons_cons, List.zip_nil_right, foldX, ixR_c1, ixR_c2, R.bind_ok]
    simp
    exact ⟨by show (ls ++ [loop]).length = _; simp [h1], ⟨cs ++ [c], mapR_snoc h2 q2, by simp [h3]⟩, ws ++ [w], mapR_snoc h4 q3, by simp [h5]⟩
  · rintro z ⟨⟨ls, ca, wr⟩, rfl, h0, ⟨cs, h2, h3⟩, ws, h4, h5⟩
    have h3 : cs.sum = ca := h3
    have h5 : ws.sum = wr := h5
    have n1 := mapR_len h2
    have n2 := mapR_len h4
    have h2 : mapR (fun x => y_loop_calls x) ls = .ok cs := h2
    have h4 : mapR (fun x => y_loop_writings x) ls = .ok ws := h4
    have h0 : ls.length ≤ 7 := h0
    have n1 : cs.length = ls.length := n1
    have n2 : ws.length = ls.length := n2
    show Sat _ _
    simp only [y_calls_told, y_writings_told, h2, h4, R.bind_ok, lnR_eq (show cs.length ≤ 1000000 by omega), lnR_eq (show ws.length ≤ 1000000 by omega)]
    subst h3 h5
    simp [y_law_whole, lnR_eq]
theorem T_law : ∀ ns : List Int, ns.length ≤ 63 → (∀ z ∈ ns, z.natAbs.log2 ≤ 1048576) → ∃ S', evCall P 60 i_law [.sc (ns.map .int)] [] = .ok (.bl true) S' := fun ns h hb => by
  have q := c_law 38 [] (.sc (ns.map .int)) ns rfl
  rw [law_true ns h] at q
  obtain ⟨d, h1, rfl⟩ := q
  exact ⟨_, h1⟩
end SL
namespace SL
/-! ### the end -/
section
open PySem PySem.Spec PyProof.Rows L2
def topS (i : Nat) : Stmt := PySem.Challenge.pw_sideloom_k55_costs_of_loops.main.body.getD i (.Pass ⟨0, 0, 0, 0⟩)
def ds_amount : FnS := ⟨"amount", topS 1, ["sides", "out", "side"], ["sides"]⟩
theorem bd_amount : Bd ds_amount := fun _ _ _ _ _ _ us hl => match us, hl with | [_], _ => rfl
def ds_is_free : FnS := ⟨"is_free", topS 3, ["tree"], ["tree"]⟩
theorem bd_is_free : Bd ds_is_free := fun _ _ _ _ _ _ us hl => match us, hl with | [_], _ => rfl
def ds_inner_trees : FnS := ⟨"inner_trees", topS 4, ["tree"], ["tree"]⟩
theorem bd_inner_trees : Bd ds_inner_trees := fun _ _ _ _ _ _ us hl => match us, hl with | [_], _ => rfl
def ds_calls_of : FnS := ⟨"calls_of", topS 5, ["tree", "calls", "part"], ["tree"]⟩
theorem bd_calls_of : Bd ds_calls_of := fun _ _ _ _ _ _ us hl => match us, hl with | [_], _ => rfl
def ds_rounds_of : FnS := ⟨"rounds_of", topS 7, ["loop"], ["loop"]⟩
theorem bd_rounds_of : Bd ds_rounds_of := fun _ _ _ _ _ _ us hl => match us, hl with | [_], _ => rfl
def ds_loop_calls : FnS := ⟨"loop_calls", topS 8, ["loop"], ["loop"]⟩
theorem bd_loop_calls : Bd ds_loop_calls := fun _ _ _ _ _ _ us hl => match us, hl with | [_], _ => rfl
def ds_loop_writings : FnS := ⟨"loop_writings", topS 9, ["loop"], ["loop"]⟩
theorem bd_loop_writings : Bd ds_loop_writings := fun _ _ _ _ _ _ us hl => match us, hl with | [_], _ => rfl
def ds_calls_told : FnS := ⟨"calls_told", topS 10, ["weft", "loop"], ["weft"]⟩
theorem bd_calls_told : Bd ds_calls_told := fun _ _ _ _ _ _ us hl => match us, hl with | [_], _ => rfl
def ds_writings_told : FnS := ⟨"writings_told", topS 11, ["weft", "loop"], ["weft"]⟩
theorem bd_writings_told : Bd ds_writings_told := fun _ _ _ _ _ _ us hl => match us, hl with | [_], _ => rfl
def ds_law_whole : FnS := ⟨"_law_whole", topS 13, ["found"], ["found"]⟩
theorem bd_law_whole : Bd ds_law_whole := fun _ _ _ _ _ _ us hl => match us, hl with | [_], _ => rfl
def ds_law_at : FnS := ⟨"_law_at", topS 14, ["row", "k"], ["row", "k"]⟩
theorem bd_law_at : Bd ds_law_at := fun _ _ _ _ _ _ us hl => match us, hl with | [_, _], _ => rfl
def ds_law_leaf : FnS := ⟨"_law_leaf", topS 15, ["one"], ["one"]⟩
theorem bd_law_leaf : Bd ds_law_leaf := fun _ _ _ _ _ _ us hl => match us, hl with | [_], _ => rfl
def ds_law_grown : FnS := ⟨"_law_grown", topS 16, ["tree", "calls", "one", "way", "left", "leaf", "some"], ["tree", "calls", "one"]⟩
theorem bd_law_grown : Bd ds_law_grown := fun _ _ _ _ _ _ us hl => match us, hl with | [_, _, _], _ => rfl
def ds_law_loop : FnS := ⟨"_law_loop", topS 17, ["row", "tree", "calls", "one", "sides", "rounds", "side", "steps", "some", "due"], ["row"]⟩
theorem bd_law_loop : Bd ds_law_loop := fun _ _ _ _ _ _ us hl => match us, hl with | [_], _ => rfl
def ds_law : FnS := ⟨"law", topS 18, ["script", "loops", "calls", "writings", "k", "loop", "due", "found", "one", "other", "weft"], ["script"]⟩
theorem bd_law : Bd ds_law := fun _ _ _ _ _ _ us hl => match us, hl with | [_], _ => rfl
def pk : Pk := { P := P, fs := [ds_amount, ds_is_free, ds_inner_trees, ds_calls_of, ds_rounds_of, ds_loop_calls, ds_loop_writings, ds_calls_told, ds_writings_told, ds_law_whole, ds_law_at, ds_law_leaf, ds_law_grown, ds_law_loop, ds_law], cs := [], ks := [], bs := [("ValueError", "ValueError"), ("Exception", "Exception"), ("BaseException", "BaseException"), ("object", "object")], xs := [] }
theorem pk_bd : ∀ d ∈ pk.fs, Bd d := by
  intro d hd
  have hd : d ∈ [ds_amount, ds_is_free, ds_inner_trees, ds_calls_of, ds_rounds_of, ds_loop_calls, ds_loop_writings, ds_calls_told, ds_writings_told, ds_law_whole, ds_law_at, ds_law_leaf, ds_law_grown, ds_law_loop, ds_law] := hd
  simp only [List.mem_cons, List.not_mem_nil, or_false] at hd
  rcases hd with rfl | rfl | rfl | rfl | rfl | rfl | rfl | rfl | rfl | rfl | rfl | rfl | rfl | rfl | rfl
  · exact bd_amount
  · exact bd_is_free
  · exact bd_inner_trees
  · exact bd_calls_of
  · exact bd_rounds_of
  · exact bd_loop_calls
  · exact bd_loop_writings
  · exact bd_calls_told
  · exact bd_writings_told
  · exact bd_law_whole
  · exact bd_law_at
  · exact bd_law_leaf
  · exact bd_law_grown
  · exact bd_law_loop
  · exact bd_law
theorem pk_chk : pk.chk = true := by decide +kernel
theorem pk_bs : pk.bsB = true := by decide +kernel
theorem pk_ks : ∀ q ∈ pk.ks, (conF q).length = 1 := by decide +kernel
abbrev RR : PySem.W.OpenRow := PySem.W.OpenLaw.row PySem.Challenge.rw_sideloom_k55_costs_of_loops
def loo0 : List PySem.Str := ["amount", "is_free", "inner_trees", "calls_of", "rounds_of", "loop_calls", "loop_writings", "calls_told", "writings_told", "_law_whole", "_law_at", "_law_leaf", "_law_grown", "_law_loop"]
def loo : List PySem.Str := loo0
theorem head_run (w : World) : HandSHeadRun.RunEq RR (PySem.W.view RR.prog [18]) pk.hk pk.ob 15000 loo w := by
  intro os
  kernel_rfl
end
end SL
open PySem PySem.W PySem.Calls PyProof.Rows
set_option maxHeartbeats 0 in
theorem PySem.Challenge.cw_sideloom_k55_costs_of_loops_holds : PySem.Challenge.rw_sideloom_k55_costs_of_loops.Holds := by
  w_on; o_law
  refine HandSHeadRun.head_any (r := SL.RR) (q := view SL.RR.prog [18]) (H := SL.pk.hk) (ob := SL.pk.ob) (M := 15000) (loose := SL.loo) (d := HandSHeadRun.topDef SL.RR.prog 18) (kwd := []) SL.pk.ob_eq
    (by kernel_rfl) (fun s => by kernel_rfl) SL.head_run (by kernel_rfl) (by kernel_rfl) (by kernel_rfl) (by rfl) (by first | assumption | decide +kernel) (by decide +kernel) ⟨rfl, rfl, rfl, rfl, rfl, by decide +kernel⟩ ?hw ?hc
  case hw => w_witness2
  case hc =>
    refine SL.walk_w (l := PySem.Challenge.rw_sideloom_k55_costs_of_loops) (n := 63) (k := 60) (x := "script") (CX := fun w => L2.CX SL.RR.prog w) rfl (by decide) (by kernel_rfl) ⟨rfl, by decide, by decide⟩ ?F ?E
    case F =>
      intro w mg fa h Y G hmg
      exact SL.end_ok 14 60 (d := SL.ds_law) rfl rfl rfl SL.pk_chk SL.pk_ks SL.pk_bs SL.pk_bd SL.T_law Y G hmg
    case E =>
      intro w H s e s' z
      obtain ⟨_, _, _, _, _, _, _, _, _, _, _, _, z⟩ := z
      exact z
