import PyProof.Rows.All
import Wide.All
import OpenK.AllK
import Wide.FinOn
import PySem.Challenge.RW_newsbooks_k17_whole_built_and_led_to
import HandS.Base
import HandS.Call
import HandS.List
import HandS.Slots
import HandS.Deep
import HandS.ForMost
import HandS.TupAny
import HandS.Style
import HandS.IsInst
import HandS.SortInts
import HandS.Sort
import HandS.Exc
import HandS.TryOnly
import HandS.Steps
import HandS.SlotsOwn
import HandS.Conv
import HandS.ExcCtx
import HandS.ClsMeth
import HandS.More
import KE.KOpsOwn
import HandS.TupSets
import HandS.RevTup
import HandS.Iter
import KE.GoesEnum
import KE.GoesMore
import HandS.Comp
import HandS.Defaults
import HandS.ExcInit
import HandS.ExcField
import HandS.ExcSuper
import HandS.HeadHook1
import HandS.Strs
import PyProof.Rows.SortShellAny
import HandS.OwnEq
import KE.KRevSl
import HandS.Star
import KE.KCallOwn
import KE.KOwnIter
import OpenK.KMeth
import HandS.TryMany
import HandS.IterVal
import HandS.IterNext
import HandS.HeadHook2
import HandS.HeadEnd
import HandS.Set
import HandS.SetFor
import PyProof.IsiFacts
import PyProof.WalksMore
import PyProof.TupleIter
import HandS.NamedTupSort
import KE.KeyNested
import HandS.Words
import KE.KStateDown
import HandS.Head0
import HandS.Head1
import HandS.Head2
set_option linter.all false
/-! Mi1: the data D, operations on it, steps of programs in data (values, statements, functions). Plain Lean, no program in sight. -/
namespace Mi

/-- data as trees -/
inductive D where
  | non | bl (b : Bool) | int (i : Int) | str (k : Nat)
  | tup (xs : List D) | lst (xs : List D)
  | rng (lo hi : Int)
  | ins (c : Nat) (ns : List Nat) (vs : List D)
  | cls (c : Nat) | dr
  | frl (xs : List D)
  deriving Inhabited

/-! ### equality of plain data, its depth -/
mutual
def D.eqv : D → D → Bool
  | .non, .non => true
  | .bl a, .bl b => a == b
  | .bl a, .int j => (if a then 1 else 0) == j
  | .int i, .bl b => i == (if b then 1 else 0)
  | .int a, .int b => a == b
  | .str a, .str b => a == b
  | .tup a, .tup b => D.eqvL a b
  | .lst a, .lst b => D.eqvL a b
  | _, _ => false
def D.eqvL : List D → List D → Bool
  | [], [] => true
  | x :: xs, y :: ys => D.eqv x y && D.eqvL xs ys
  | _, _ => false
end
mutual
/-- plain data (no instance, class, range) at most n deep -/
def D.lay : Nat → D → Bool
  | _, .non => true
  | _, .bl _ => true
  | _, .int _ => true
  | _, .str _ => true
  | n + 1, .tup xs => D.layL n xs
  | n + 1, .lst xs => D.layL n xs
  | _, _ => false
def D.layL : Nat → List D → Bool
  | _, [] => true
  | n, x :: xs => D.lay n x && D.layL n xs
end

/-- the intsD of a list -/
def intsD : List D → Option (List Int)
  | [] => some []
  | .int i :: r => (intsD r).map (i :: ·)
  | _ :: _ => none
/-- rows of intsD, each a tuple -/
def rows : List D → Option (List (List Int))
  | [] => some []
  | .tup xs :: r => match intsD xs, rows r with
    | some a, some b => some (a :: b)
    | _, _ => none
  | _ :: _ => none
def bools : List D → Option (List Bool)
  | [] => some []
  | .bl b :: r => (bools r).map (b :: ·)
  | _ :: _ => none

/-! ### sorting -/
def ins1 (a : Int) : List Int → List Int
  | [] => [a]
  | b :: r => if a ≤ b then a :: b :: r else b :: ins1 a r
def isort : List Int → List Int
  | [] => []
  | a :: r => ins1 a (isort r)
/-- a row ahead of another one, or the same -/
def rle : List Int → List Int → Bool
  | [], _ => true
  | _ :: _, [] => false
  | a :: r, b :: t => if a < b then true else if b < a then false else rle r t
def ins2 (a : List Int) : List (List Int) → List (List Int)
  | [] => [a]
  | b :: r => if rle a b then a :: b :: r else b :: ins2 a r
def rsort : List (List Int) → List (List Int)
  | [] => []
  | a :: r => ins2 a (rsort r)
/-- few rows of one length, no number below nought -/
def rowsOk (rs : List (List Int)) : Bool := decide (rs.length < 64) && match rs with
  | [] => true
  | r :: _ => decide (1 ≤ r.length) && rs.all fun t => decide (t.length = r.length) && t.all fun i => decide (0 ≤ i)
/-- without doubles (the first of each) -/
def nub {α : Type} [BEq α] : List α → List α
  | [] => []
  | a :: r => a :: (nub r).filter fun b => !(b == a)

/-! ### state and results -/
inductive SV where
  | em | val (d : D) | own (d : D) | lnt (d : D)
  deriving Inhabited
structure S where
  σ : List SV
  dr : List Int
inductive Res (α : Type) where
  | ok (a : α) (s : S) | ex (c : Nat) (ns : List Nat) (vs : List D) (s : S) | no
@[reducible] def M (α : Type) := S → Res α
def Res.then {α β : Type} (r : Res α) (f : α → M β) : Res β := match r with
  | .ok a s => f a s
  | .ex c ns vs s => .ex c ns vs s
  | .no => .no
/-- a value that may be lacking -/
def oget {α : Type} (o : Option α) (s : S) : Res α := match o with
  | some a => .ok a s
  | none => .no
/-- what a function gives back: a value, an exception, with the draws left -/
inductive FR where
  | ok (d : D) (dr : List Int) | ex (c : Nat) (ns : List Nat) (vs : List D) (dr : List Int) | no
abbrev FM := List D → List Int → FR
def FR.back (r : FR) (σ : List SV) : Res D := match r with
  | .ok d dr => .ok d ⟨σ, dr⟩
  | .ex c ns vs dr => .ex c ns vs ⟨σ, dr⟩
  | .no => .no

/-! ### kinds of operations -/
inductive Bop where
  | add | sub | mul | fdiv | mod | pow | shl | shr | band | bor
  deriving DecidableEq
inductive Cop where
  | eq | ne | lt | le | gt | ge | mem | nmem
  deriving DecidableEq
inductive Ty where
  | int | bool | tuple | list | str | cls (c : Nat)
  deriving DecidableEq
/-- built-in calls of one argument -/
inductive Bi where
  | len | list | tuple | sorted | sset | sum | min | max | all | any | int | range | abs
  deriving DecidableEq
/-- built-in calls of two arguments -/
inductive Bi2 where
  | range | min | max
  deriving DecidableEq
inductive Tg where
  | n (i : Nat) | t (ts : List Tg)
/-- how a thing is walked -/
inductive Kd where
  | one | enum | zip | rev
  deriving DecidableEq

/-! ### operations on data -/
def D.tru : D → Option Bool
  | .non => some false
  | .bl b => some b
  | .int i => some (i != 0)
  | .tup xs => some (!xs.isEmpty)
  | .lst xs => some (!xs.isEmpty)
  | _ => none
def D.seq : D → Option (List D)
  | .tup xs => some xs
  | .lst xs => some xs
  | _ => none
/-- lo, lo + 1, .. -/
def rngL (lo : Int) (n : Nat) : List D := (List.range n).map fun (k : Nat) => .int (lo + (k : Int))
def small62 (i : Int) : Bool := decide (-4611686018427387904 ≤ i) && decide (i < 4611686018427387904)
/-- what a for walks -/
def D.items : D → Option (List D)
  | .tup xs => some xs
  | .lst xs => some xs
  | .rng lo hi => if small62 lo && small62 hi then some (rngL lo (hi - lo).toNat) else none
  | _ => none
def small64 (i : Int) : Bool := decide (-18446744073709551616 < i) && decide (i < 18446744073709551616)
def binI (o : Bop) (a b : Int) : Option D := match o with
  | .add => some (.int (a + b))
  | .sub => some (.int (a - b))
  | .mul => if small64 a || small64 b then some (.int (a * b)) else none
  | .fdiv => if decide (0 < b) && decide (b < 1073741824) then some (.int (a / b)) else none
  | .mod => if decide (0 < b) then some (.int (a % b)) else none
  | .pow => if decide (0 ≤ b) && (decide (b ≤ 1000000) && decide (a.natAbs < 18446744073709551616)) then some (.int (a ^ b.toNat)) else none
  | .shl => if decide (0 ≤ b) && (decide (b ≤ 1000000) && decide (a.natAbs < 18446744073709551616)) then some (.int (a * 2 ^ b.toNat)) else none
  | .shr => if decide (0 ≤ b) then some (.int (a / 2 ^ b.toNat)) else none
  | .band => none
  | .bor => none
/-- the length that a sequence may have -/
def line : Nat := 16777216
def bin (o : Bop) (x y : D) : Option D := match x, y with
  | .int a, .int b => binI o a b
  | .tup a, .tup b => if o = .add ∧ a.length + b.length ≤ line then some (.tup (a ++ b)) else none
  | .lst a, .lst b => if o = .add ∧ a.length + b.length ≤ line then some (.lst (a ++ b)) else none
  | .lst a, .int k => if o = .mul ∧ a.length * k.toNat ≤ line ∧ k < 1000000 ∧ 0 ≤ k then some (.lst ((List.replicate k.toNat a).flatten)) else none
  | _, _ => none
def cmp (o : Cop) (x y : D) : Option Bool := match o with
  | .eq => if x.lay 9 && y.lay 9 then some (x.eqv y) else none
  | .ne => if x.lay 9 && y.lay 9 then some (!x.eqv y) else none
  | .mem => match y.seq with
    | some ys => if x.lay 9 && D.layL 9 ys then some (ys.any fun z => z.eqv x) else none
    | none => none
  | .nmem => match y.seq with
    | some ys => if x.lay 9 && D.layL 9 ys then some (!ys.any fun z => z.eqv x) else none
    | none => none
  | .lt => match x, y with
    | .int a, .int b => some (decide (a < b))
    | _, _ => none
  | .le => match x, y with
    | .int a, .int b => some (decide (a ≤ b))
    | _, _ => none
  | .gt => match x, y with
    | .int a, .int b => some (decide (b < a))
    | _, _ => none
  | .ge => match x, y with
    | .int a, .int b => some (decide (b ≤ a))
    | _, _ => none
def lmin : List Int → Int → Int
  | [], m => m
  | a :: r, m => lmin r (if a < m then a else m)
def lmax : List Int → Int → Int
  | [], m => m
  | a :: r, m => lmax r (if m < a then a else m)
def rngOk (lo hi : Int) : Bool := small62 lo && small62 hi && decide ((hi - lo).toNat ≤ line)
def bi (b : Bi) (x : D) : Option D := match b with
  | .len => match x with
    | .tup xs => some (.int xs.length)
    | .lst xs => some (.int xs.length)
    | .rng lo hi => if (hi - lo).toNat < 1000000 then some (.int (hi - lo).toNat) else none
    | .frl xs => some (.int xs.length)
    | _ => none
  | .list => match x with
    | .tup xs => some (.lst xs)
    | .lst xs => some (.lst xs)
    | .rng lo hi => if rngOk lo hi = true then some (.lst (rngL lo (hi - lo).toNat)) else none
    | _ => none
  | .tuple => match x with
    | .tup xs => some (.tup xs)
    | .lst xs => some (.tup xs)
    | .rng lo hi => if rngOk lo hi = true then some (.tup (rngL lo (hi - lo).toNat)) else none
    | _ => none
  | .sorted => match x with
    | .lst xs => match intsD xs with
      | some is => some (.lst ((isort is).map .int))
      | none => match rows xs with
        | some rs => if rowsOk rs then some (.lst ((rsort rs).map fun r => .tup (r.map .int))) else none
        | none => none
    | .tup xs => match intsD xs with
      | some is => some (.lst ((isort is).map .int))
      | none => none
    | _ => none
  | .sset => match x with
    | .lst xs => match intsD xs with
      | some is => if is.length < 64 then some (.lst ((isort (nub is)).map .int)) else none
      | none => match rows xs with
        | some rs => if rowsOk rs then some (.lst ((rsort (nub rs)).map fun r => .tup (r.map .int))) else none
        | none => none
    | _ => none
  | .sum => match x with
    | .lst xs => match intsD xs with
      | some is => some (.int is.sum)
      | none => none
    | _ => none
  | .min => match x with
    | .lst xs => match intsD xs with
      | some (a :: r) => some (.int (lmin r a))
      | _ => none
    | _ => none
  | .max => match x with
    | .lst xs => match intsD xs with
      | some (a :: r) => some (.int (lmax r a))
      | _ => none
    | _ => none
  | .all => match x with
    | .lst xs => (bools xs).map fun bs => .bl (bs.all id)
    | _ => none
  | .any => match x with
    | .lst xs => (bools xs).map fun bs => .bl (bs.any id)
    | _ => none
  | .int => match x with
    | .int i => some (.int i)
    | .bl b => some (.int (if b then 1 else 0))
    | _ => none
  | .range => match x with
    | .int i => if small62 i then some (.rng 0 i) else none
    | _ => none
  | .abs => match x with
    | .int i => some (.int (if i < 0 then -i else i))
    | _ => none
def bi2 (b : Bi2) (x y : D) : Option D := match x, y with
  | .int i, .int j => match b with
    | .range => if small62 i && small62 j then some (.rng i j) else none
    | .min => some (.int (if j < i then j else i))
    | .max => some (.int (if j > i then j else i))
  | _, _ => none
def D.isa1 (d : D) (t : Ty) : Option Bool := match d, t with
  | .ins _ [] _, _ => none
  | .ins c _ _, .cls c' => if c = c' then some true else none
  | .ins _ _ _, _ => some false
  | .non, _ => some false
  | .bl _, .int => some true
  | .bl _, .bool => some true
  | .bl _, _ => some false
  | .int _, .int => some true
  | .int _, _ => some false
  | .str _, .str => some true
  | .str _, _ => some false
  | .tup _, .tuple => some true
  | .tup _, _ => some false
  | .lst _, .list => some true
  | .lst _, _ => some false
  | _, _ => none
def D.isaL (d : D) : List Ty → Option Bool
  | [] => some false
  | t :: ts => match d.isa1 t with
    | some true => some true
    | some false => D.isaL d ts
    | none => none
def D.isa (d : D) : List Ty → Option Bool
  | [t] => d.isa1 t
  | ts => match d with
    | .ins _ _ _ => none
    | d => D.isaL d ts
/-- the attribute n -/
def lookA : List Nat → List D → Nat → Option D
  | n :: ns, v :: vs, m => if n = m then some v else lookA ns vs m
  | _, _, _ => none
/-- a place, from the end where it is below nought -/
def ixN (n : Nat) (i : Int) : Option Nat :=
  if 0 ≤ i then (if i < n then some i.toNat else none)
  else if -(n : Int) ≤ i then some (i + n).toNat else none
def D.seqR : D → Option (List D)
  | .frl xs => some xs
  | d => d.seq
def sub (x i : D) : Option D := match i with
  | .int i => match x.seqR with
    | some xs => match ixN xs.length i with
      | some k => xs[k]?
      | none => none
    | none => none
  | _ => none
/-- a slice's end: d where none is written -/
def clip (n d : Nat) : Option Int → Nat
  | none => d
  | some i => if i < 0 then (i + (n : Int)).toNat else min i.toNat n
def slice {α : Type} (xs : List α) (lo hi : Option Int) : List α :=
  (xs.drop (clip xs.length 0 lo)).take (clip xs.length xs.length hi - clip xs.length 0 lo)

/-! ### steps: values -/
def fuel : Nat := 1000000
/-- an operand: a list that is read in place when it is used, or a value -/
inductive Hd where
  | at (i : Nat) | dat (d : D)
/-- an exact value of the slot i: what is built there is finished -/
def mV (i : Nat) : M D := fun s => match s.σ[i]? with
  | some (.val d) => .ok d s
  | some (.own d) => .ok d { s with σ := s.σ.set i (.val d) }
  | _ => .no
/-- read in place -/
def mP (i : Nat) : M D := fun s => match s.σ[i]? with
  | some (.val d) => .ok d s
  | some (.own (.lst xs)) => .ok (.lst xs) s
  | some (.lnt (.lst xs)) => .ok (.lst xs) s
  | _ => .no
def mK (d : D) : M D := fun s => .ok d s
def hP (i : Nat) : M Hd := fun s => match s.σ[i]? with
  | some (.val _) => .ok (.at i) s
  | some (.own _) => .ok (.at i) s
  | some (.lnt _) => .ok (.at i) s
  | _ => .no
def hE (m : M D) : M Hd := fun s => (m s).then fun d s => .ok (.dat d) s
def force : Hd → M D
  | .at i, s => mP i s
  | .dat d, s => .ok d s
def mBin (o : Bop) (a b : M D) : M D := fun s => (a s).then fun x s => (b s).then fun y s => oget (bin o x y) s
def mNeg (a : M D) : M D := fun s => (a s).then fun x s => match x with
  | .int i => .ok (.int (-i)) s
  | _ => .no
/-- tests -/
def tV (a : M D) : M Bool := fun s => (a s).then fun x s => oget x.tru s
def tNot (t : M Bool) : M Bool := fun s => (t s).then fun b s => .ok (!b) s
def tAnd (t u : M Bool) : M Bool := fun s => (t s).then fun b s => match b with
  | true => u s
  | false => .ok false s
def tOr (t u : M Bool) : M Bool := fun s => (t s).then fun b s => match b with
  | true => .ok true s
  | false => u s
def mNot (t : M Bool) : M D := fun s => (t s).then fun b s => .ok (.bl !b) s
def mAnd (a b : M D) : M D := fun s => (a s).then fun x s => match x with
  | .bl true => b s
  | .bl false => .ok (.bl false) s
  | _ => .no
def mOr (a b : M D) : M D := fun s => (a s).then fun x s => match x with
  | .bl true => .ok (.bl true) s
  | .bl false => b s
  | _ => .no
def mCmp (o : Cop) (a b : M Hd) : M D := fun s => (a s).then fun x s => (b s).then fun y s => (force x s).then fun x s => (force y s).then fun y s => (oget (cmp o x y) s).then fun b s => .ok (.bl b) s
def mChn (o o' : Cop) (a b c : M D) : M D := fun s => (a s).then fun x s => (b s).then fun y s => (oget (cmp o x y) s).then fun r s => match r with
  | true => (c s).then fun z s => (oget (cmp o' y z) s).then fun b s => .ok (.bl b) s
  | false => .ok (.bl false) s
def D.isNon : D → Bool
  | .non => true
  | _ => false
def mIsN (neg : Bool) (a : M D) : M D := fun s => (a s).then fun x s => .ok (.bl (x.isNon != neg)) s
def mIsB (neg b : Bool) (a : M D) : M D := fun s => (a s).then fun x s => match x with
  | .bl c => .ok (.bl ((c == b) != neg)) s
  | _ => .no
def mIf (t : M Bool) (a b : M D) : M D := fun s => (t s).then fun r s => match r with
  | true => a s
  | false => b s
def mNil : M (List D) := fun s => .ok [] s
def mCons (a : M D) (r : M (List D)) : M (List D) := fun s => (a s).then fun d s => (r s).then fun ds s => .ok (d :: ds) s
def mTup (a : M (List D)) : M D := fun s => (a s).then fun ds s => if ds.length ≤ line then .ok (.tup ds) s else .no
def mLst (a : M (List D)) : M D := fun s => (a s).then fun ds s => if ds.length ≤ line then .ok (.lst ds) s else .no
def callF (f : FM) (ds : List D) : M D := fun s => (f ds s.dr).back s.σ
/-- the defaults that fill up -/
def dflt (f : FM) (l : List D) : FM := fun ds dr => f (ds ++ l) dr
/-- a call -/
def mCall (f : FM) (a : M (List D)) : M D := fun s => (a s).then fun ds s => callF f ds s
/-- a call, the second part by keywords -/
def mCallK (n m : Nat) (f : FM) (a b : M (List D)) : M D := fun s => (a s).then fun ds s => (b s).then fun ws s => if ds.length = n ∧ ws.length = m then callF f (ds ++ ws) s else .no
/-- f(*args): one parameter, a tuple of all -/
def mCallV (f : FM) (a : M (List D)) : M D := fun s => (a s).then fun ds s => if ds.length ≤ line then callF f [.tup ds] s else .no
/-- the class in the slot i is called: its __init__ by class -/
def mMkV (tab : List (Nat × FM)) (i : Nat) (a : M (List D)) : M D := fun s => match s.σ[i]? with
  | some (.val (.cls c)) => match tab.lookup c with
    | some f => mCall f a s
    | none => .no
  | _ => .no
/-- a class method of the class c, of a class in hand -/
def mCm (c : Nat) (f : FM) (a : M (List D)) : M D := fun s => (a s).then fun ds s => callF f (.cls c :: ds) s
/-- a method by the instance's class -/
def mMt (tab : List (Nat × FM)) (x : M D) (a : M (List D)) : M D := fun s => (x s).then fun x s => match x with
  | .ins c ns vs => match tab.lookup c with
    | some f => (a s).then fun ds s => callF f (.ins c ns vs :: ds) s
    | none => .no
  | _ => .no
/-- an operator of the left one's class -/
def mDn (tab : List (Nat × FM)) (x y : M D) : M D := fun s => (x s).then fun x s => (y s).then fun y s => match x with
  | .ins c ns vs => match tab.lookup c with
    | some f => callF f [.ins c ns vs, y] s
    | none => .no
  | _ => .no
/-- a property: nothing is raised there -/
def mPr (tab : List (Nat × FM)) (x : M D) : M D := fun s => (x s).then fun x s => match x with
  | .ins c ns vs => match tab.lookup c with
    | some f => match callF f [.ins c ns vs] s with
      | .ok d s => .ok d s
      | _ => .no
    | none => .no
  | _ => .no
def mAtt (n : Nat) (x : M D) : M D := fun s => (x s).then fun x s => match x with
  | .ins _ ns vs => oget (lookA ns vs n) s
  | _ => .no
def mBi (b : Bi) (a : M D) : M D := fun s => (a s).then fun x s => oget (bi b x) s
def mBi2 (b : Bi2) (a b' : M D) : M D := fun s => (a s).then fun x s => (b' s).then fun y s => oget (bi2 b x y) s
def mIsa (ts : List Ty) (a : M D) : M D := fun s => (a s).then fun x s => (oget (x.isa ts) s).then fun b s => .ok (.bl b) s
def mSub (a : M Hd) (i : M D) : M D := fun s => (a s).then fun x s => (i s).then fun y s => (force x s).then fun x s => oget (sub x y) s
def oNo : M (Option Int) := fun s => .ok none s
def oYes (a : M D) : M (Option Int) := fun s => (a s).then fun d s => match d with
  | .int i => .ok (some i) s
  | _ => .no
def sliD (x : D) (lo hi : Option Int) : Option D := match x with
  | .tup xs => some (.tup (slice xs lo hi))
  | .lst xs => some (.lst (slice xs lo hi))
  | _ => none
def mSli (a : M Hd) (lo hi : M (Option Int)) : M D := fun s => (a s).then fun x s => (lo s).then fun l s => (hi s).then fun h s => (force x s).then fun x s => oget (sliD x l h) s
def revD : D → Option D
  | .tup xs => some (.tup xs.reverse)
  | .lst xs => some (.lst xs.reverse)
  | _ => none
/-- a[::-1] -/
def mRsl (a : M D) : M D := fun s => (a s).then fun x s => oget (revD x) s
/-- the draws' last one taken -/
def mDraw (i : Nat) : M D := fun s => match s.σ[i]? with
  | some (.val .dr) => match s.dr.getLast? with
    | some z => .ok (.int z) { s with dr := s.dr.dropLast }
    | none => .no
  | _ => .no
/-- the number of draws -/
def mDrLen (i : Nat) : M D := fun s => match s.σ[i]? with
  | some (.val .dr) => .ok (.int (s.dr.length : Nat)) s
  | _ => .no
def mPop (i : Nat) : M D := fun s => match s.σ[i]? with
  | some (.own (.lst xs)) => match xs.getLast? with
    | some z => .ok z { s with σ := s.σ.set i (.own (.lst xs.dropLast)) }
    | none => .no
  | _ => .no
def popAt (i : Nat) (k : D) : M D := fun s => match k, s.σ[i]? with
  | .int k, some (.own (.lst xs)) => match ixN xs.length k with
    | some j => match xs[j]? with
      | some z => .ok z { s with σ := s.σ.set i (.own (.lst (xs.eraseIdx j))) }
      | none => .no
    | none => .no
  | _, _ => .no
def mPopAt (i : Nat) (e : M D) : M D := fun s => match s.σ[i]? with
  | some (.own (.lst _)) => (e s).then (popAt i)
  | _ => .no
def idxD (x y : D) : Option D := match x with
  | .lst xs => if y.lay 9 && D.layL 9 xs then (xs.findIdx? fun z => z.eqv y).map fun (j : Nat) => .int (j : Int) else none
  | _ => none
/-- a.index(e) -/
def mIdx (a : M Hd) (e : M D) : M D := fun s => (a s).then fun x s => (force x s).then fun x0 s => match x0 with
  | .lst _ => (e s).then fun y s => (force x s).then fun x s => oget (idxD x y) s
  | _ => .no

/-! ### targets, walks -/
mutual
/-- a target bound -/
def bindT : Tg → D → List SV → Option (List SV)
  | .n i, d, σ => some (σ.set i (.val d))
  | .t ts, .tup ds, σ => bindTs ts ds σ
  | .t _, _, _ => none
def bindTs : List Tg → List D → List SV → Option (List SV)
  | [], [], σ => some σ
  | t :: ts, d :: ds, σ => (bindT t d σ).bind (bindTs ts ds)
  | _, _, _ => none
end
def enumD : Nat → List D → List D
  | _, [] => []
  | n, x :: xs => .tup [.int (n : Nat), x] :: enumD (n + 1) xs
def zipD : List D → List D → List D
  | x :: xs, y :: ys => .tup [x, y] :: zipD xs ys
  | _, _ => []
/-- what is walked; a list that is being built: its slot, the list -/
structure Wk where
  xs : List D
  sl : Option (Nat × D)
def wkOf (h : Hd) (s : S) (f : D → Option (List D)) : Res Wk := match h with
  | .at i => match s.σ[i]? with
    | some (.val d) => (oget (f d) s).then fun xs s => .ok ⟨xs, none⟩ s
    | some (.own (.lst ys)) => (oget (f (.lst ys)) s).then fun xs s => .ok ⟨xs, some (i, .lst ys)⟩ s
    | some (.lnt (.lst ys)) => (oget (f (.lst ys)) s).then fun xs s => .ok ⟨xs, some (i, .lst ys)⟩ s
    | _ => .no
  | .dat d => (oget (f d) s).then fun xs s => .ok ⟨xs, none⟩ s
def wOne (a : M Hd) : M Wk := fun s => (a s).then fun h s => wkOf h s D.items
def wEnum (a : M Hd) : M Wk := fun s => (a s).then fun h s => wkOf h s fun x => x.seq.map (enumD 0)
def wRev (a : M Hd) : M Wk := fun s => (a s).then fun h s => wkOf h s fun x => x.seq.map List.reverse
def wZip (a b : M D) : M Wk := fun s => (a s).then fun x s => (b s).then fun y s => match x.seq, y.seq with
  | some xs, some ys => .ok ⟨zipD xs ys, none⟩ s
  | _, _ => .no
/-- range(..) that is walked, not a value -/
def wR1 (a : M D) : M Wk := fun s => (a s).then fun x s => match x with
  | .int j => if small62 j then .ok ⟨rngL 0 j.toNat, none⟩ s else .no
  | _ => .no
def wR2 (a b : M D) : M Wk := fun s => (a s).then fun x s => (b s).then fun y s => match x, y with
  | .int i, .int j => if small62 i && small62 j then .ok ⟨rngL i (j - i).toNat, none⟩ s else .no
  | _, _ => .no
/-- the walked list is lent still -/
def Lent (o : Option (Nat × D)) (σ : List SV) : Prop := match o with
  | some (j, d) => σ[j]? = some (.lnt d)
  | none => True
def wipeS (σ : List SV) : List Nat → List SV
  | [] => σ
  | v :: vs => (wipeS σ vs).set v .em
/-- the slots vs as they stood in σ0 -/
def backS (σ0 σ : List SV) : List Nat → List SV
  | [] => σ
  | v :: vs => (backS σ0 σ vs).set v (σ0.getD v .em)
def SV.isVal : SV → Bool
  | .em => true
  | .val _ => true
  | _ => false
/-- none of the slots is a list that is being built -/
def freeS (σ : List SV) (vs : List Nat) : Bool := vs.all fun v => (σ.getD v .em).isVal
open Classical in
/-- the turns of a comprehension -/
noncomputable def compL (vs : List Nat) (o : Option (Nat × D)) (f : D → M (Option D)) : List D → List D → M (List D)
  | [], acc, s => if Lent o s.σ then .ok acc s else .no
  | x :: xs, acc, s => if Lent o s.σ then match f x s with
    | .ok (some d) s' => if acc.length < line ∧ freeS s'.σ vs = true then compL vs o f xs (acc ++ [d]) s' else .no
    | .ok none s' => if freeS s'.σ vs = true then compL vs o f xs acc s' else .no
    | _ => .no
    else .no
/-- a list walked in place is lent meanwhile -/
def lendO (o : Option (Nat × D)) (σ : List SV) : List SV := match o with
  | some (j, d) => σ.set j (.lnt d)
  | none => σ
/-- .. and is built again, where it was ahead -/
def unlendO (o : Option (Nat × D)) (σ0 σ : List SV) : List SV := match o with
  | some (j, d) => match σ0[j]? with
    | some (.own _) => σ.set j (.own d)
    | _ => σ
  | none => σ
def tYes : M Bool := fun s => .ok true s
/-- what is lent was built there -/
def LendOk (o : Option (Nat × D)) (σ : List SV) : Prop := match o with
  | some (j, d) => σ[j]? = some (.own d) ∨ σ[j]? = some (.lnt d)
  | none => True
/-- a turn of a comprehension -/
def turnC (vs : List Nat) (g : Tg) (t : M Bool) (el : M D) (d : D) : M (Option D) := fun s => match bindT g d (wipeS s.σ vs) with
  | some σ' => (t { s with σ := σ' }).then fun b s => match b with
    | true => (el s).then fun d s => .ok (some d) s
    | false => .ok none s
  | none => .no
open Classical in
/-- [el for g in w if t]: vs its own slots -/
noncomputable def mComp (vs : List Nat) (g : Tg) (w : M Wk) (t : M Bool) (el : M D) : M D := fun s => (w s).then fun k s =>
  if freeS s.σ vs = true ∧ LendOk k.sl s.σ then (compL vs k.sl (turnC vs g t el) k.xs [] { s with σ := lendO k.sl s.σ }).then fun ds s' => .ok (.lst ds) { s' with σ := unlendO k.sl s.σ (backS s.σ s'.σ vs) }
  else .no

/-! ### steps: statements -/
inductive Rs where
  | nx (s : S) | rt (d : D) (s : S) | bk (s : S) | ct (s : S) | ex (c : Nat) (ns : List Nat) (vs : List D) (s : S) | no
@[reducible] def Sm := S → Rs
def Res.st {α : Type} (r : Res α) (f : α → S → Rs) : Rs := match r with
  | .ok a s => f a s
  | .ex c ns vs s => .ex c ns vs s
  | .no => .no
def Rs.seq (r : Rs) (f : S → Rs) : Rs := match r with
  | .nx s => f s
  | .rt d s => .rt d s
  | .bk s => .bk s
  | .ct s => .ct s
  | .ex c ns vs s => .ex c ns vs s
  | .no => .no
/-- the end of a loop's turn, k: the turns behind it -/
def Rs.turn (r : Rs) (k : S → Rs) : Rs := match r with
  | .nx s => k s
  | .ct s => k s
  | .bk s => .nx s
  | .rt d s => .rt d s
  | .ex c ns vs s => .ex c ns vs s
  | .no => .no
open Classical in
noncomputable def forL (o : Option (Nat × D)) (f : D → Sm) : List D → Sm
  | [], s => if Lent o s.σ then .nx s else .no
  | x :: xs, s => if Lent o s.σ then (f x s).turn (forL o f xs) else .no
def whlL (c : M Bool) (f : Sm) : Nat → Sm
  | 0, _ => .no
  | n + 1, s => (c s).st fun b s => match b with
    | false => .nx s
    | true => (f s).turn (whlL c f n)
/-- a step on what is being built in the slot i -/
def onOwn (i : Nat) (f : D → Option D) : Sm := fun s => match s.σ[i]? with
  | some (.own d) => match f d with
    | some d' => .nx { s with σ := s.σ.set i (.own d') }
    | none => .no
  | _ => .no
def sNil : Sm := fun s => .nx s
def sSeq (a b : Sm) : Sm := fun s => (a s).seq b
def sSet (i : Nat) (e : M D) : Sm := fun s => (e s).st fun d s => .nx { s with σ := s.σ.set i (.val d) }
def D.isLst : D → Bool
  | .lst _ => true
  | _ => false
/-- a list just made is built on in the slot i -/
def sOwn (i : Nat) (e : M D) : Sm := fun s => (e s).st fun d s => match d with
  | .lst xs => .nx { s with σ := s.σ.set i (.own (.lst xs)) }
  | _ => .no
def sUnp (g : Tg) (e : M D) : Sm := fun s => (e s).st fun d s => match bindT g d s.σ with
  | some σ => .nx { s with σ := σ }
  | none => .no
def sPar (i j : Nat) (a b : M D) : Sm := fun s => (a s).st fun x s => (b s).st fun y s => .nx { s with σ := (s.σ.set i (.val x)).set j (.val y) }
/-- self.n = e, self a new instance of the class c -/
def attD (c n : Nat) (d : D) : D → Option D := fun o => match o with
  | .ins c' ns vs => if c' = c ∧ ns.contains n = false then some (.ins c (ns ++ [n]) (vs ++ [d])) else none
  | _ => none
def sAtt (i c n : Nat) (e : M D) : Sm := fun s => (e s).st fun d s => onOwn i (attD c n d) s
def setL (k : D) (d : D) : D → Option D := fun o => match o, k with
  | .lst xs, .int k => (ixN xs.length k).map fun j => .lst (xs.set j d)
  | _, _ => none
def sSub (i : Nat) (ix e : M D) : Sm := fun s => (e s).st fun d s => (ix s).st fun k s => onOwn i (setL k d) s
/-- name op= e, intsD -/
def sAug (i : Nat) (o : Bop) (e : M D) : Sm := fun s => match s.σ[i]? with
  | some (.val (.int q)) => (e s).st fun d s => match d with
    | .int r => match binI o q r with
      | some w => .nx { s with σ := s.σ.set i (.val w) }
      | none => .no
    | _ => .no
  | _ => .no
def sAsb (i : Nat) (ix : M D) (o : Bop) (e : M D) : Sm := fun s => (ix s).st fun k s => match s.σ[i]? with
  | some (.own x) => match sub x k with
    | some y => (e s).st fun d s => match bin o y d with
      | some z => onOwn i (setL k z) s
      | none => .no
    | none => .no
  | _ => .no
def appD (d : D) : D → Option D := fun o => match o with
  | .lst xs => if xs.length < line then some (.lst (xs ++ [d])) else none
  | _ => none
def extD (d : D) : D → Option D := fun o => match o, d with
  | .lst xs, .lst ys => if xs.length + ys.length ≤ line then some (.lst (xs ++ ys)) else none
  | _, _ => none
def sApp (i : Nat) (e : M D) : Sm := fun s => match s.σ[i]? with
  | some (.own (.lst _)) => (e s).st fun d s => onOwn i (appD d) s
  | _ => .no
def sExt (i : Nat) (e : M D) : Sm := fun s => match s.σ[i]? with
  | some (.own (.lst _)) => (e s).st fun d s => onOwn i (extD d) s
  | _ => .no
def sExp (e : M D) : Sm := fun s => (e s).st fun _ s => .nx s
def sRet (e : M D) : Sm := fun s => (e s).st fun d s => .rt d s
def sRtn : Sm := fun s => .rt .non s
def sIf (t : M Bool) (a b : Sm) : Sm := fun s => (t s).st fun c s => match c with
  | true => a s
  | false => b s
def sWhl (t : M Bool) (b : Sm) : Sm := fun s => whlL t b fuel s
open Classical in
noncomputable def Rs.unl (r : Rs) (o : Option (Nat × D)) (σ0 : List SV) : Rs := match r with
  | .nx s => if Lent o s.σ then .nx { s with σ := unlendO o σ0 s.σ } else .no
  | .bk _ => .no
  | .ct _ => .no
  | r => r
/-- a turn of a for -/
def turnF (g : Tg) (b : Sm) (d : D) : Sm := fun s => match bindT g d s.σ with
  | some σ => b { s with σ := σ }
  | none => .no
open Classical in
noncomputable def sFor (g : Tg) (w : M Wk) (b : Sm) : Sm := fun s => (w s).st fun k s => if LendOk k.sl s.σ then (forL k.sl (turnF g b) k.xs { s with σ := lendO k.sl s.σ }).unl k.sl s.σ else .no
def sBrk : Sm := fun s => .bk s
def sCnt : Sm := fun s => .ct s
def sNev : Sm := fun _ => .no
/-- raise c(e), kept under the attribute n -/
def sRai (c n : Nat) (e : M D) : Sm := fun s => (e s).st fun d s => .ex c [n] [d] s
/-- raise c() -/
def sRai0 (c : Nat) : Sm := fun s => .ex c [] [] s
/-- an except suite: values out of the exception's attributes -/
inductive X1 where
  | k (d : D) | v (i : Nat) | x (n : Nat)
inductive X2 where
  | one (a : X1) | two (a b : X1)
def X1.val (ns : List Nat) (vs : List D) (s : S) : X1 → Option D
  | .k d => some d
  | .v i => match s.σ[i]? with
    | some (.val d) => some d
    | _ => none
  | .x n => lookA ns vs n
def X2.val (ns : List Nat) (vs : List D) (s : S) : X2 → Option D
  | .one a => a.val ns vs s
  | .two a b => match a.val ns vs s, b.val ns vs s with
    | some x, some y => some (.tup [x, y])
    | _, _ => none
/-- its one statement -/
inductive Xs where
  | set (i : Nat) (e : X2) | ret (e : X2) | pas
/-- a handler: its class, the classes that it takes, the slot of its name, its statement -/
structure Hn where
  c : Nat
  cs : List Nat
  nm : Nat
  st : Xs
def Xs.run (x : Xs) (nm : Nat) (ns : List Nat) (vs : List D) (s : S) : Rs := match x with
  | .set i e => match e.val ns vs s with
    | some d => .nx { s with σ := (s.σ.set i (.val d)).set nm .em }
    | none => .no
  | .ret e => match e.val ns vs s with
    | some d => .rt d { s with σ := s.σ.set nm .em }
    | none => .no
  | .pas => .nx { s with σ := s.σ.set nm .em }
def Hn.run (h : Hn) (ns : List Nat) (vs : List D) (s : S) : Rs := if h.nm < s.σ.length ∧ (s.σ.getD h.nm .em).isVal = true then h.st.run h.nm ns vs { s with σ := s.σ.set h.nm .em } else .no
def pick (c : Nat) : List Hn → Option Hn
  | [] => none
  | h :: r => if h.cs.contains c then some h else pick c r
/-- kn: the classes that may come out of b -/
def sTry (kn : List Nat) (b : Sm) (hs : List Hn) : Sm := fun s => match b s with
  | .ex c ns vs s' => if kn.contains c then match pick c hs with
    | some h => h.run ns vs s'
    | none => .ex c ns vs s'
    else .no
  | r => r

/-! ### functions -/
def Rs.fr (r : Rs) : FR := match r with
  | .nx s => .ok .non s.dr
  | .rt d s => .ok d s.dr
  | .ex c ns vs s => .ex c ns vs s.dr
  | _ => .no
def iniR (r : Rs) : FR := match r with
  | .nx s => match s.σ[(0 : Nat)]? with
    | some (.own d) => .ok d s.dr
    | _ => .no
  | .ex c ns vs s => .ex c ns vs s.dr
  | _ => .no
/-- a def of np parameters, nn names -/
def fnD (np nn : Nat) (body : Sm) : FM := fun ds dr => if ds.length = np then (body ⟨ds.map .val ++ List.replicate (nn - np) .em, dr⟩).fr else .no
/-- the __init__ of the class c: np parameters without self, nn names -/
def iniD (c np nn : Nat) (body : Sm) : FM := fun ds dr => if ds.length = np then iniR (body ⟨.own (.ins c [] []) :: (ds.map .val ++ List.replicate (nn - np - 1) .em), dr⟩) else .no
end Mi
set_option Elab.async false
set_option linter.all false
set_option maxRecDepth 100000
set_option maxHeartbeats 4000000
/-! Mi2: how the data lie in the heap. -/
namespace Mi
open PySem L2

/-- what is fixed through a law's run: the world, the written part, where classes stand, the draws' list -/
structure Rc where
  P : Program
  w : World
  K : PySem.W.Frag
  mg : Str → Option Value
  base : Heap
  txts : List Str
  atts : List Str
  ca : Nat → Addr
  sl : Nat → Bool
  six : Nat → Nat → Nat
  has : Nat → Nat → Bool
  dr : Addr
  hd : Bool
/-- what may not be looked into: the lists of the callers that are being built, the draws -/
abbrev Bn := Addr → Prop
section
variable (R : Rc)
/-- an instance of the class c, its attributes ns holding us -/
def Inst (H : Hp) (c : Nat) (a dx : Addr) (ns : List Nat) (us : List V) : Prop :=
  us.length = ns.length ∧ (∀ n, n ∈ ns → R.has c n = true) ∧ (∃ o, H dx = some o) ∧ ((R.sl c = true ∧ ∃ ws, SlX.Slt H a (R.ca c) dx ws ∧ ∀ (j n : Nat) (u : V), ns[j]? = some n → us[j]? = some u → ws[R.six c n]? = some (some u)) ∨
    (R.sl c = false ∧ ∃ fs : List (Str × V), H a = some (.ins (R.ca c) dx fs) ∧ fs.map (·.2) = us ∧ ∀ (j n : Nat), ns[j]? = some n → ∃ x, R.atts[n]? = some x ∧ (fs.map (·.1))[j]? = some x))
mutual
def Is (B : Bn) (H : Hp) : D → V → Prop
  | .non, v => v = .non
  | .bl b, v => v = .bl b
  | .int i, v => v = .int i
  | .str k, v => ∃ x, R.txts[k]? = some x ∧ v = .str x
  | .tup xs, v => ∃ a vs, v = .ref a ∧ ¬ B a ∧ H a = some (.tup vs) ∧ IsL B H xs vs
  | .lst xs, v => ∃ a vs, v = .ref a ∧ ¬ B a ∧ H a = some (.lst vs) ∧ IsL B H xs vs
  | .rng lo hi, v => ∃ a, v = .ref a ∧ ¬ B a ∧ H a = some (.rng lo hi)
  | .ins c ns vs, v => ∃ a dx us, v = .ref a ∧ ¬ B a ∧ ¬ B dx ∧ Inst R H c a dx ns us ∧ IsL B H vs us
  | .cls c, v => v = .ref (R.ca c)
  | .dr, v => R.hd = true ∧ v = .ref R.dr
  | .frl xs, v => ∃ a vs, v = .ref a ∧ ((¬ B a ∧ Rd H a (.lst vs)) ∨ ∀ H', SqL R.K H' a vs) ∧ IsL B H xs vs
def IsL (B : Bn) (H : Hp) : List D → List V → Prop
  | [], vs => vs = []
  | x :: xs, vs => ∃ v r, vs = v :: r ∧ Is B H x v ∧ IsL B H xs r
end
end

/-- what stays between two states: all that may be looked into; what is shut later was shut, or is new -/
structure Stp (B : Bn) (H : Hp) (B' : Bn) (H' : Hp) : Prop where
  keep : ∀ a o, ¬ B a → H a = some o → H' a = some o
  ban : ∀ a, B' a → B a ∨ H a = none
theorem Stp.refl (B : Bn) (H : Hp) : Stp B H B H := ⟨fun _ _ _ h => h, fun _ h => .inl h⟩
theorem Stp.trans {B B1 B2 : Bn} {H H1 H2 : Hp} (x : Stp B H B1 H1) (y : Stp B1 H1 B2 H2) : Stp B H B2 H2 where
  keep := fun a o n h => y.keep a o (fun z => by
    rcases x.ban a z with q | q
    · exact n q
    · rw [q] at h; cases h) (x.keep a o n h)
  ban := fun a z => by
    rcases y.ban a z with q | q
    · exact x.ban a q
    · by_cases hb : B a
      · exact .inl hb
      · refine .inr ?_
        cases e : H a with
        | none => rfl
        | some o => rw [x.keep a o hb e] at q; cases q
theorem Stp.nb {B B' : Bn} {H H' : Hp} (x : Stp B H B' H') {a : Addr} {o : HO} (n : ¬ B a) (h : H a = some o) : ¬ B' a := fun z => by
  rcases x.ban a z with q | q
  · exact n q
  · rw [q] at h; cases h
/-- fewer are shut -/
theorem Stp.less {B B' : Bn} {H : Hp} (h : ∀ a, B' a → B a) : Stp B H B' H := ⟨fun _ _ _ e => e, fun a z => .inl (h a z)⟩
/-- new objects -/
theorem Stp.new {B : Bn} {H H' : Hp} (h : ∀ a o, H a = some o → H' a = some o) : Stp B H B H' := ⟨fun a o _ e => h a o e, fun _ z => .inl z⟩

section
variable {R : Rc} {B B' : Bn} {H H' : Hp}
theorem slt_keep {a C dx : Addr} {ws : List (Option V)} (h1 : ∀ o, H a = some o → H' a = some o) (h2 : ∀ o, H dx = some o → H' dx = some o) (h : SlX.Slt H a C dx ws) : SlX.Slt H' a C dx ws := by
  rcases h with ⟨q1, q2⟩ | ⟨q1, q2⟩
  · exact .inl ⟨h1 _ q1, q2⟩
  · exact .inr ⟨h1 _ q1, h2 _ q2⟩
theorem slt_at {a C dx : Addr} {ws : List (Option V)} (h : SlX.Slt H a C dx ws) : ∃ o, H a = some o := by
  rcases h with ⟨q1, _⟩ | ⟨q1, _⟩
  · exact ⟨_, q1⟩
  · exact ⟨_, q1⟩
theorem Inst.at {c : Nat} {a dx : Addr} {ns : List Nat} {us : List V} (h : Inst R H c a dx ns us) : ∃ o, H a = some o := by
  rcases h.2.2.2 with ⟨_, ws, q, _⟩ | ⟨_, fs, q, _⟩
  · exact slt_at q
  · exact ⟨_, q⟩
theorem Inst.keep {c : Nat} {a dx : Addr} {ns : List Nat} {us : List V} (h1 : ∀ o, H a = some o → H' a = some o) (h2 : ∀ o, H dx = some o → H' dx = some o) (h : Inst R H c a dx ns us) : Inst R H' c a dx ns us := by
  refine ⟨h.1, h.2.1, h.2.2.1.elim fun o q => ⟨o, h2 o q⟩, ?_⟩
  rcases h.2.2.2 with ⟨q, ws, q1, q2⟩ | ⟨q, fs, q1, q2⟩
  · exact .inl ⟨q, ws, slt_keep h1 h2 q1, q2⟩
  · exact .inr ⟨q, fs, h1 _ q1, q2⟩
mutual
theorem Is.stp (s : Stp B H B' H') : ∀ {d : D} {v : V}, Is R B H d v → Is R B' H' d v
  | .non, _, h => h
  | .bl _, _, h => h
  | .int _, _, h => h
  | .str _, _, h => h
  | .tup xs, _, h => by
    unfold Is at h ⊢
    obtain ⟨a, vs, e, nb, ha, hl⟩ := h
    exact ⟨a, vs, e, s.nb nb ha, s.keep _ _ nb ha, IsL.stp s hl⟩
  | .lst xs, _, h => by
    unfold Is at h ⊢
    obtain ⟨a, vs, e, nb, ha, hl⟩ := h
    exact ⟨a, vs, e, s.nb nb ha, s.keep _ _ nb ha, IsL.stp s hl⟩
  | .rng lo hi, _, h => by
    unfold Is at h ⊢
    obtain ⟨a, e, nb, ha⟩ := h
    exact ⟨a, e, s.nb nb ha, s.keep _ _ nb ha⟩
  | .ins c ns ds, _, h => by
    unfold Is at h ⊢
    obtain ⟨a, dx, us, e, nb, nb2, hi, hl⟩ := h
    obtain ⟨o, ho⟩ := hi.at
    obtain ⟨o2, ho2⟩ := hi.2.2.1
    exact ⟨a, dx, us, e, s.nb nb ho, s.nb nb2 ho2, hi.keep (fun o q => s.keep _ _ nb q) (fun o q => s.keep _ _ nb2 q), IsL.stp s hl⟩
  | .cls _, _, h => h
  | .dr, _, h => h
  | .frl xs, _, h => by
    unfold Is at h ⊢
    obtain ⟨a, vs, e, ha, hl⟩ := h
    rcases ha with ⟨nb, ha | ⟨o, ha⟩⟩ | ha
    · exact ⟨a, vs, e, .inl ⟨s.nb nb ha, .inl (s.keep _ _ nb ha)⟩, IsL.stp s hl⟩
    · exact ⟨a, vs, e, .inl ⟨s.nb nb ha, .inr ⟨o, s.keep _ _ nb ha⟩⟩, IsL.stp s hl⟩
    · exact ⟨a, vs, e, .inr ha, IsL.stp s hl⟩
theorem IsL.stp (s : Stp B H B' H') : ∀ {ds : List D} {vs : List V}, IsL R B H ds vs → IsL R B' H' ds vs
  | [], _, h => h
  | d :: ds, _, h => by
    unfold IsL at h ⊢
    obtain ⟨v, r, e, h1, h2⟩ := h
    exact ⟨v, r, e, Is.stp s h1, IsL.stp s h2⟩
end
end

/-! ### plain data, for == -/
section
variable (R : Rc)
mutual
def py : D → PyData
  | .non => .none
  | .bl b => .bool b
  | .int i => .int i
  | .str k => .str (R.txts.getD k Str.empty)
  | .tup xs => .tuple (pyL xs)
  | .lst xs => .list (pyL xs)
  | _ => .none
def pyL : List D → List PyData
  | [] => []
  | x :: xs => py x :: pyL xs
end
mutual
/-- its texts are of the table -/
def kn : D → Bool
  | .str k => decide (k < R.txts.length)
  | .tup xs => knL xs
  | .lst xs => knL xs
  | _ => true
def knL : List D → Bool
  | [] => true
  | x :: xs => kn x && knL xs
end
end
section
variable {R : Rc} {B : Bn} {H : Hp}
theorem pyL_map : ∀ xs : List D, pyL R xs = xs.map (py R)
  | [] => rfl
  | x :: xs => by show py R x :: pyL R xs = _; rw [pyL_map xs]; rfl
mutual
theorem Is.kn : ∀ {d : D} {v : V}, Is R B H d v → kn R d = true
  | .non, _, _ => rfl
  | .bl _, _, _ => rfl
  | .int _, _, _ => rfl
  | .str k, _, h => by
    unfold Is at h
    obtain ⟨x, e, _⟩ := h
    exact decide_eq_true (List.getElem?_eq_some_iff.mp e).1
  | .tup xs, _, h => by
    unfold Is at h
    obtain ⟨a, vs, e, nb, ha, hl⟩ := h
    exact IsL.kn hl
  | .lst xs, _, h => by
    unfold Is at h
    obtain ⟨a, vs, e, nb, ha, hl⟩ := h
    exact IsL.kn hl
  | .rng _ _, _, _ => rfl
  | .ins _ _ _, _, _ => rfl
  | .cls _, _, _ => rfl
  | .dr, _, _ => rfl
  | .frl _, _, _ => rfl
theorem IsL.kn : ∀ {ds : List D} {vs : List V}, IsL R B H ds vs → knL R ds = true
  | [], _, _ => rfl
  | d :: ds, _, h => by
    unfold IsL at h
    obtain ⟨v, r, e, h1, h2⟩ := h
    show (Mi.kn R d && knL R ds) = true
    rw [Is.kn h1, IsL.kn h2]
    rfl
end
mutual
theorem Is.dp {K : PySem.W.Frag} : ∀ {n : Nat} {d : D} {v : V}, d.lay n = true → Is R B H d v → Dp K H v (py R d)
  | _, .non, _, _, h => by unfold Is at h; subst h; exact .non
  | _, .bl _, _, _, h => by unfold Is at h; subst h; exact .bl _
  | _, .int _, _, _, h => by unfold Is at h; subst h; exact .int _
  | _, .str k, _, _, h => by
    unfold Is at h
    obtain ⟨x, e, rfl⟩ := h
    unfold py
    rw [List.getD_eq_getElem?_getD, e]
    exact .str _
  | n + 1, .tup xs, _, l, h => by
    unfold Is at h
    obtain ⟨a, vs, rfl, nb, ha, hl⟩ := h
    exact .tup (SqT.of ha) (IsL.dp (n := n) l hl)
  | n + 1, .lst xs, _, l, h => by
    unfold Is at h
    obtain ⟨a, vs, rfl, nb, ha, hl⟩ := h
    exact .lst (SqL.of ha) (IsL.dp (n := n) l hl)
  | 0, .tup _, _, l, _ => by cases l
  | 0, .lst _, _, l, _ => by cases l
  | _, .rng _ _, _, l, _ => by cases l
  | _, .ins _ _ _, _, l, _ => by cases l
  | _, .cls _, _, l, _ => by cases l
  | _, .dr, _, l, _ => by cases l
  | _, .frl _, _, l, _ => by cases l
theorem IsL.dp {K : PySem.W.Frag} : ∀ {n : Nat} {ds : List D} {vs : List V}, D.layL n ds = true → IsL R B H ds vs → DpAll K H vs (pyL R ds)
  | _, [], _, _, h => by unfold IsL at h; subst h; exact .nil
  | n, d :: ds, _, l, h => by
    unfold IsL at h
    obtain ⟨v, r, rfl, h1, h2⟩ := h
    have l' : (d.lay n && D.layL n ds) = true := l
    rw [Bool.and_eq_true] at l'
    exact .cons (Is.dp l'.1 h1) (IsL.dp l'.2 h2)
end
mutual
theorem py_lay (hs : ∀ x ∈ R.txts, PyData.strOk x = true) : ∀ {n : Nat} {d : D}, d.lay n = true → kn R d = true → (py R d).canLay0 = true ∧ (py R d).depth ≤ n
  | n, .non, _, _ => by constructor <;> simp [py, PyData.canLay0, PyData.depth]
  | n, .bl _, _, _ => by constructor <;> simp [py, PyData.canLay0, PyData.depth]
  | n, .int _, _, _ => by constructor <;> simp [py, PyData.canLay0, PyData.depth]
  | n, .str k, _, h => by
    have h' : k < R.txts.length := of_decide_eq_true h
    refine ⟨?_, by simp [py, PyData.depth]⟩
    have e : R.txts.getD k Str.empty = R.txts[k] := by simp [List.getD_eq_getElem?_getD, h']
    show (PyData.str (R.txts.getD k Str.empty)).canLay0 = true
    rw [e]
    simp only [PyData.canLay0]
    exact hs _ (List.getElem_mem h')
  | n + 1, .tup xs, l, h => by
    obtain ⟨a, b⟩ := py_layL hs (n := n) (ds := xs) l h
    unfold py
    simp only [PyData.canLay0, PyData.depth]
    exact ⟨a, by omega⟩
  | n + 1, .lst xs, l, h => by
    obtain ⟨a, b⟩ := py_layL hs (n := n) (ds := xs) l h
    unfold py
    simp only [PyData.canLay0, PyData.depth]
    exact ⟨a, by omega⟩
  | 0, .tup _, l, _ => by cases l
  | 0, .lst _, l, _ => by cases l
  | _, .rng _ _, l, _ => by cases l
  | _, .ins _ _ _, l, _ => by cases l
  | _, .cls _, l, _ => by cases l
  | _, .dr, l, _ => by cases l
  | _, .frl _, l, _ => by cases l
theorem py_layL (hs : ∀ x ∈ R.txts, PyData.strOk x = true) : ∀ {n : Nat} {ds : List D}, D.layL n ds = true → knL R ds = true → PyData.canLayAll0 (pyL R ds) = true ∧ PyData.depthAll (pyL R ds) ≤ n
  | n, [], _, _ => by constructor <;> simp [pyL, PyData.canLayAll0, PyData.depthAll]
  | n, d :: ds, l, h => by
    have l' : (d.lay n && D.layL n ds) = true := l
    have h' : (kn R d && knL R ds) = true := h
    rw [Bool.and_eq_true] at l' h'
    obtain ⟨a1, b1⟩ := py_lay hs l'.1 h'.1
    obtain ⟨a2, b2⟩ := py_layL hs l'.2 h'.2
    unfold pyL
    simp only [PyData.canLayAll0, PyData.depthAll, a1, a2, Bool.and_true]
    exact ⟨trivial, by omega⟩
end
theorem py_shaped (hs : ∀ x ∈ R.txts, PyData.strOk x = true) {d : D} (l : d.lay 9 = true) (h : kn R d = true) : SeqAt.shaped (py R d) = true := by
  obtain ⟨a, b⟩ := py_lay hs l h
  unfold SeqAt.shaped
  rw [a, Bool.true_and]
  exact decide_eq_true (by omega)
theorem txt_eq (hn : R.txts.Nodup) {a b : Nat} (ha : a < R.txts.length) (hb : b < R.txts.length) : (R.txts.getD a Str.empty == R.txts.getD b Str.empty) = (a == b) := by
  have e1 : R.txts.getD a Str.empty = R.txts[a] := by simp [List.getD_eq_getElem?_getD, ha]
  have e2 : R.txts.getD b Str.empty = R.txts[b] := by simp [List.getD_eq_getElem?_getD, hb]
  rw [e1, e2]
  by_cases q : a = b
  · subst q; simp
  · have : R.txts[a] ≠ R.txts[b] := fun z => q ((List.getElem_inj hn).mp z)
    rw [beq_eq_false_iff_ne.mpr this, beq_eq_false_iff_ne.mpr q]
mutual
theorem py_eqv (hn : R.txts.Nodup) : ∀ {n : Nat} {d e : D}, d.lay n = true → e.lay n = true → kn R d = true → kn R e = true → PyData.eqv (py R d) (py R e) = d.eqv e := fun {n d e} l1 l2 h1 h2 => by
  cases d <;> (try (cases l1; done)) <;> cases e <;> (try (cases l2; done)) <;> (try (simp only [py, PyData.eqv, D.eqv]; done))
  · exact txt_eq hn (of_decide_eq_true h1) (of_decide_eq_true h2)
  · cases n with
    | zero => cases l1
    | succ n =>
      simp only [py, PyData.eqv, D.eqv]
      exact py_eqvL hn (n := n) l1 l2 h1 h2
  · cases n with
    | zero => cases l1
    | succ n =>
      simp only [py, PyData.eqv, D.eqv]
      exact py_eqvL hn (n := n) l1 l2 h1 h2
theorem py_eqvL (hn : R.txts.Nodup) : ∀ {n : Nat} {ds es : List D}, D.layL n ds = true → D.layL n es = true → knL R ds = true → knL R es = true → PyData.eqvAll (pyL R ds) (pyL R es) = D.eqvL ds es
  | _, [], [], _, _, _, _ => by simp only [pyL, PyData.eqvAll, D.eqvL]
  | _, [], _ :: _, _, _, _, _ => by simp only [pyL, PyData.eqvAll, D.eqvL]
  | _, _ :: _, [], _, _, _, _ => by simp only [pyL, PyData.eqvAll, D.eqvL]
  | n, d :: ds, e :: es, l1, l2, h1, h2 => by
    have a1 := Bool.and_eq_true_iff.mp (show (d.lay n && D.layL n ds) = true from l1)
    have a2 := Bool.and_eq_true_iff.mp (show (e.lay n && D.layL n es) = true from l2)
    have a3 := Bool.and_eq_true_iff.mp (show (kn R d && knL R ds) = true from h1)
    have a4 := Bool.and_eq_true_iff.mp (show (kn R e && knL R es) = true from h2)
    simp only [pyL, PyData.eqvAll, D.eqvL]
    rw [py_eqv hn a1.1 a2.1 a3.1 a4.1, py_eqvL hn a1.2 a2.2 a3.2 a4.2]
end
end
end Mi
set_option Elab.async false
set_option linter.all false
set_option maxRecDepth 100000
set_option maxHeartbeats 4000000
/-! Mi3: the operations on data are those of the program's values. -/
namespace Mi
open PySem L2

/-- all that is shut stands -/
def Live (B : Bn) (H : Hp) : Prop := ∀ a, B a → ∃ o, H a = some o
theorem Live.new {B : Bn} {H : Hp} (l : Live B H) {p : Addr} (h : H p = none) : ¬ B p := fun z => by
  obtain ⟨o, e⟩ := l p z
  rw [h] at e; cases e
/-- read in place: the list itself may be one that is being built -/
def IsP (R : Rc) (B : Bn) (H : Hp) : D → V → Prop
  | .lst xs, v => ∃ a vs, v = .ref a ∧ H a = some (.lst vs) ∧ IsL R B H xs vs
  | d, v => Is R B H d v
theorem Is.p {R : Rc} {B : Bn} {H : Hp} {d : D} {v : V} (h : Is R B H d v) : IsP R B H d v := by
  cases d with
  | lst xs =>
    unfold Is at h
    obtain ⟨a, vs, e, nb, ha, hl⟩ := h
    exact ⟨a, vs, e, ha, hl⟩
  | _ => exact h
abbrev Ext (H H' : Hp) : Prop := ∀ a o, H a = some o → H' a = some o
theorem ext_upd {H : Hp} {p : Addr} {o : HO} (h : H p = none) : Ext H (upd H p o) := fun a u e => by rw [upd_ne (ne_of_none e h)]; exact e
section
variable {R : Rc} {B : Bn} {H H' : Hp}
theorem Is.ext (e : Ext H H') {d : D} {v : V} (h : Is R B H d v) : Is R B H' d v := h.stp (Stp.new e)
theorem IsL.ext (e : Ext H H') {ds : List D} {vs : List V} (h : IsL R B H ds vs) : IsL R B H' ds vs := h.stp (Stp.new e)
theorem Is.less {B' : Bn} (e : ∀ a, B' a → B a) {d : D} {v : V} (h : Is R B H d v) : Is R B' H d v := h.stp (Stp.less e)
theorem IsL.less {B' : Bn} (e : ∀ a, B' a → B a) {ds : List D} {vs : List V} (h : IsL R B H ds vs) : IsL R B' H ds vs := h.stp (Stp.less e)
theorem IsL.len : ∀ {ds : List D} {vs : List V}, IsL R B H ds vs → vs.length = ds.length
  | [], _, h => by unfold IsL at h; subst h; rfl
  | d :: ds, _, h => by
    unfold IsL at h
    obtain ⟨v, r, rfl, _, h2⟩ := h
    simp [IsL.len h2]
theorem IsL.nil : IsL R B H [] [] := by unfold IsL; rfl
theorem IsL.cons {d : D} {ds : List D} {v : V} {vs : List V} (h : Is R B H d v) (t : IsL R B H ds vs) : IsL R B H (d :: ds) (v :: vs) := by unfold IsL; exact ⟨v, vs, rfl, h, t⟩
theorem IsL.uncons {d : D} {ds : List D} {vs : List V} (h : IsL R B H (d :: ds) vs) : ∃ v r, vs = v :: r ∧ Is R B H d v ∧ IsL R B H ds r := by unfold IsL at h; exact h
theorem IsL.append : ∀ {ds es : List D} {vs ws : List V}, IsL R B H ds vs → IsL R B H es ws → IsL R B H (ds ++ es) (vs ++ ws)
  | [], _, _, _, h, t => by unfold IsL at h; subst h; exact t
  | d :: ds, _, _, _, h, t => by
    obtain ⟨v, r, rfl, h1, h2⟩ := h.uncons
    exact IsL.cons h1 (IsL.append h2 t)
theorem IsL.get : ∀ {ds : List D} {vs : List V} {i : Nat} {d : D}, IsL R B H ds vs → ds[i]? = some d → ∃ v, vs[i]? = some v ∧ Is R B H d v
  | [], _, _, _, _, e => by simp at e
  | x :: ds, _, 0, d, h, e => by
    obtain ⟨v, r, rfl, h1, h2⟩ := h.uncons
    simp at e; subst e
    exact ⟨v, rfl, h1⟩
  | x :: ds, _, i + 1, d, h, e => by
    obtain ⟨v, r, rfl, h1, h2⟩ := h.uncons
    obtain ⟨u, q1, q2⟩ := IsL.get (i := i) h2 (by simpa using e)
    exact ⟨u, by simpa using q1, q2⟩
theorem IsL.getV : ∀ {ds : List D} {vs : List V} {i : Nat} {v : V}, IsL R B H ds vs → vs[i]? = some v → ∃ d, ds[i]? = some d ∧ Is R B H d v
  | [], _, _, _, h, e => by unfold IsL at h; subst h; simp at e
  | x :: ds, _, 0, w, h, e => by
    obtain ⟨v, r, rfl, h1, h2⟩ := h.uncons
    simp at e; subst e
    exact ⟨x, rfl, h1⟩
  | x :: ds, _, i + 1, w, h, e => by
    obtain ⟨v, r, rfl, h1, h2⟩ := h.uncons
    obtain ⟨u, q1, q2⟩ := IsL.getV (i := i) h2 (by simpa using e)
    exact ⟨u, by simpa using q1, q2⟩
theorem IsL.set : ∀ {ds : List D} {vs : List V} {i : Nat} {d : D} {v : V}, IsL R B H ds vs → Is R B H d v → IsL R B H (ds.set i d) (vs.set i v)
  | [], _, _, _, _, h, _ => by unfold IsL at h; subst h; exact IsL.nil
  | x :: ds, _, 0, _, _, h, q => by
    obtain ⟨v, r, rfl, h1, h2⟩ := h.uncons
    exact IsL.cons q h2
  | x :: ds, _, i + 1, _, _, h, q => by
    obtain ⟨v, r, rfl, h1, h2⟩ := h.uncons
    exact IsL.cons h1 (IsL.set (i := i) h2 q)
theorem IsL.take : ∀ {ds : List D} {vs : List V} (n : Nat), IsL R B H ds vs → IsL R B H (ds.take n) (vs.take n)
  | _, _, 0, _ => by simp only [List.take_zero]; exact IsL.nil
  | [], _, n + 1, h => by unfold IsL at h; subst h; exact IsL.nil
  | x :: ds, _, n + 1, h => by
    obtain ⟨v, r, rfl, h1, h2⟩ := h.uncons
    exact IsL.cons h1 (IsL.take n h2)
theorem IsL.drop : ∀ {ds : List D} {vs : List V} (n : Nat), IsL R B H ds vs → IsL R B H (ds.drop n) (vs.drop n)
  | _, _, 0, h => h
  | [], _, n + 1, h => by unfold IsL at h; subst h; exact IsL.nil
  | x :: ds, _, n + 1, h => by
    obtain ⟨v, r, rfl, h1, h2⟩ := h.uncons
    exact IsL.drop n h2
theorem IsL.eraseIdx : ∀ {ds : List D} {vs : List V} (n : Nat), IsL R B H ds vs → IsL R B H (ds.eraseIdx n) (vs.eraseIdx n)
  | [], _, n, h => by unfold IsL at h; subst h; exact IsL.nil
  | x :: ds, _, 0, h => by
    obtain ⟨v, r, rfl, h1, h2⟩ := h.uncons
    exact h2
  | x :: ds, _, n + 1, h => by
    obtain ⟨v, r, rfl, h1, h2⟩ := h.uncons
    exact IsL.cons h1 (IsL.eraseIdx n h2)
theorem IsL.reverse : ∀ {ds : List D} {vs : List V}, IsL R B H ds vs → IsL R B H ds.reverse vs.reverse
  | [], _, h => by unfold IsL at h; subst h; exact IsL.nil
  | x :: ds, _, h => by
    obtain ⟨v, r, rfl, h1, h2⟩ := h.uncons
    rw [List.reverse_cons, List.reverse_cons]
    exact IsL.append (IsL.reverse h2) (IsL.cons h1 IsL.nil)
theorem IsL.dropLast {ds : List D} {vs : List V} (h : IsL R B H ds vs) : IsL R B H ds.dropLast vs.dropLast := by
  rw [List.dropLast_eq_take, List.dropLast_eq_take, h.len]
  exact h.take _
theorem IsL.flat {ds : List D} {vs : List V} (h : IsL R B H ds vs) : ∀ k : Nat, IsL R B H (List.replicate k ds).flatten (List.replicate k vs).flatten
  | 0 => IsL.nil
  | k + 1 => by
    rw [List.replicate_succ, List.replicate_succ, List.flatten_cons, List.flatten_cons]
    exact IsL.append h (IsL.flat h k)
theorem IsL.intsD : ∀ {ds : List D} {vs : List V} {is : List Int}, IsL R B H ds vs → Mi.intsD ds = some is → vs = is.map V.int
  | [], _, _, h, e => by
    unfold IsL at h
    unfold Mi.intsD at e
    cases e
    exact h
  | d :: ds, _, is, h, e => by
    obtain ⟨v, r, rfl, h1, h2⟩ := h.uncons
    cases d <;> (try (cases e; done))
    rename_i i
    have e' : (Mi.intsD ds).map (i :: ·) = some is := e
    cases q : Mi.intsD ds with
    | none => rw [q] at e'; cases e'
    | some js =>
      rw [q] at e'; cases e'
      unfold Is at h1
      rw [h1, IsL.intsD h2 q]
      rfl
theorem IsL.bools : ∀ {ds : List D} {vs : List V} {is : List Bool}, IsL R B H ds vs → Mi.bools ds = some is → vs = is.map V.bl
  | [], _, _, h, e => by
    unfold IsL at h
    unfold Mi.bools at e
    cases e
    exact h
  | d :: ds, _, is, h, e => by
    obtain ⟨v, r, rfl, h1, h2⟩ := h.uncons
    cases d <;> (try (cases e; done))
    rename_i i
    have e' : (Mi.bools ds).map (i :: ·) = some is := e
    cases q : Mi.bools ds with
    | none => rw [q] at e'; cases e'
    | some js =>
      rw [q] at e'; cases e'
      unfold Is at h1
      rw [h1, IsL.bools h2 q]
      rfl
theorem isL_ints : ∀ is : List Int, IsL R B H (is.map D.int) (is.map V.int)
  | [] => IsL.nil
  | i :: is => IsL.cons (by unfold Is; rfl) (isL_ints is)
theorem line_eq : line = sizeLine := by rw [sizeLine_eq]; rfl
theorem mkTup {p : Addr} {xs : List D} {vs : List V} (l : Live B H) (hp : H p = none) (h : IsL R B H xs vs) : Is R B (upd H p (.tup vs)) (.tup xs) (.ref p) := by
  unfold Is
  exact ⟨p, vs, rfl, l.new hp, upd_same, h.ext (ext_upd hp)⟩
theorem mkLst {p : Addr} {xs : List D} {vs : List V} (l : Live B H) (hp : H p = none) (h : IsL R B H xs vs) : Is R B (upd H p (.lst vs)) (.lst xs) (.ref p) := by
  unfold Is
  exact ⟨p, vs, rfl, l.new hp, upd_same, h.ext (ext_upd hp)⟩
/-- a sequence that is read -/
theorem IsP.seq {d : D} {v : V} {xs : List D} (h : IsP R B H d v) (e : d.seq = some xs) : ∃ a vs, v = .ref a ∧ IsL R B H xs vs ∧ ((d = .lst xs ∧ H a = some (.lst vs)) ∨ (d = .tup xs ∧ H a = some (.tup vs))) := by
  cases d <;> (try (cases e; done))
  · rename_i ys
    cases e
    have h' : Is R B H (.tup xs) v := h
    unfold Is at h'
    obtain ⟨a, vs, e, nb, ha, hl⟩ := h'
    exact ⟨a, vs, e, hl, .inr ⟨rfl, ha⟩⟩
  · rename_i ys
    cases e
    obtain ⟨a, vs, e, ha, hl⟩ := h
    exact ⟨a, vs, e, hl, .inl ⟨rfl, ha⟩⟩
end

/-! ### operators -/
def pB (R : Rc) (g : D → D → Option D) : R2 := fun x y H Q => ∃ (B : Bn) (d1 d2 d : D), IsP R B H d1 x ∧ IsP R B H d2 y ∧ Live B H ∧ g d1 d2 = some d ∧ ∀ v H', Ext H H' → Is R B H' d v → Q v H'
def bop : Bop → Operator
  | .add => .Add | .sub => .Sub | .mul => .Mult | .fdiv => .FloorDiv | .mod => .Mod | .pow => .Pow | .shl => .LShift | .shr => .RShift | .band => .BitAnd | .bor => .BitOr
section
variable {X : Cx} {R : Rc}
theorem isInt {B : Bn} {H : Hp} {i : Int} {v : V} (h : IsP R B H (.int i) v) : v = .int i := by
  have h' : Is R B H (.int i) v := h
  unfold Is at h'
  exact h'
theorem intIs {B : Bn} {H : Hp} {i : Int} : Is R B H (.int i) (.int i) := by unfold Is; rfl
theorem blIs {B : Bn} {H : Hp} {b : Bool} : Is R B H (.bl b) (.bl b) := by unfold Is; rfl
theorem small64_of {i : Int} (h : small64 i = true) : -(2 ^ 64) < i ∧ i < 2 ^ 64 := by
  unfold small64 at h
  rw [Bool.and_eq_true, decide_eq_true_eq, decide_eq_true_eq] at h
  exact h
theorem op_binI (o : Bop) : OpR X (binaryOp (bop o)) (fun x y H Q => ∃ (i j : Int) (d : D), x = .int i ∧ y = .int j ∧ binI o i j = some d ∧ ∀ v, (∃ k, d = .int k ∧ v = .int k) → Q v H) := by
  intro pins s σ H x y v u Q I rx ry h
  obtain ⟨i, j, d, rfl, rfl, e, q⟩ := h
  cases o with
  | add =>
    cases e
    exact op_add pins s σ H _ _ v u Q I rx ry ⟨i, j, rfl, rfl, q _ ⟨_, rfl, rfl⟩⟩
  | sub =>
    cases e
    exact op_sub pins s σ H _ _ v u Q I rx ry ⟨i, j, rfl, rfl, q _ ⟨_, rfl, rfl⟩⟩
  | mul =>
    unfold binI at e
    dsimp only at e
    split at e
    · rename_i hc
      cases e
      refine op_mul pins s σ H _ _ v u Q I rx ry ⟨i, j, rfl, rfl, ?_, q _ ⟨_, rfl, rfl⟩⟩
      rcases Bool.or_eq_true_iff.mp hc with z | z
      · exact .inl (small64_of z)
      · exact .inr (small64_of z)
    · cases e
  | fdiv =>
    unfold binI at e
    dsimp only at e
    split at e
    · rename_i hc
      cases e
      rw [Bool.and_eq_true, decide_eq_true_eq, decide_eq_true_eq] at hc
      exact op_fdiv pins s σ H _ _ v u Q I rx ry ⟨i, j, rfl, rfl, hc, q _ ⟨_, rfl, rfl⟩⟩
    · cases e
  | mod =>
    unfold binI at e
    dsimp only at e
    split at e
    · rename_i hc
      cases e
      rw [decide_eq_true_eq] at hc
      exact op_mod pins s σ H _ _ v u Q I rx ry ⟨i, j, rfl, rfl, hc, q _ ⟨_, rfl, rfl⟩⟩
    · cases e
  | pow =>
    unfold binI at e
    dsimp only at e
    split at e
    · rename_i hc
      cases e
      rw [Bool.and_eq_true, Bool.and_eq_true, decide_eq_true_eq, decide_eq_true_eq, decide_eq_true_eq] at hc
      exact op_pow pins s σ H _ _ v u Q I rx ry ⟨i, j, rfl, rfl, ⟨hc.1, hc.2.1, hc.2.2⟩, q _ ⟨_, rfl, rfl⟩⟩
    · cases e
  | shl =>
    unfold binI at e
    dsimp only at e
    split at e
    · rename_i hc
      cases e
      rw [Bool.and_eq_true, Bool.and_eq_true, decide_eq_true_eq, decide_eq_true_eq, decide_eq_true_eq] at hc
      exact op_shl pins s σ H _ _ v u Q I rx ry ⟨i, j, rfl, rfl, ⟨hc.1, hc.2.1, hc.2.2⟩, q _ ⟨_, rfl, rfl⟩⟩
    · cases e
  | shr =>
    unfold binI at e
    dsimp only at e
    split at e
    · rename_i hc
      cases e
      rw [decide_eq_true_eq] at hc
      exact op_shr pins s σ H _ _ v u Q I rx ry ⟨i, j, rfl, rfl, hc, q _ ⟨_, rfl, rfl⟩⟩
    · cases e
  | band => cases e
  | bor => cases e
theorem op_bin (hK : X.K = R.K) (o : Bop) : OpR X (binaryOp (bop o)) (pB R (bin o)) := by
  intro pins s σ H x y v u Q I rx ry h
  obtain ⟨B, d1, d2, d, h1, h2, lv, e, q⟩ := h
  cases d1 <;> (try (cases d2 <;> cases e; done)) <;> cases d2 <;> (try (cases e; done))
  · rename_i i j
    have e' : binI o i j = some d := e
    refine op_binI o pins s σ H x y v u Q I rx ry ⟨i, j, d, isInt h1, isInt h2, e', fun v' hv => ?_⟩
    obtain ⟨k, rfl, rfl⟩ := hv
    exact q _ _ (fun _ _ z => z) intIs
  · rename_i xs ys
    unfold bin at e
    dsimp only at e
    split at e
    · rename_i hc
      cases e
      obtain ⟨rfl, hz⟩ := hc
      have h1' : Is R B H (.tup xs) x := h1
      have h2' : Is R B H (.tup ys) y := h2
      unfold Is at h1' h2'
      obtain ⟨a, vs, rfl, nb, ha, hl⟩ := h1'
      obtain ⟨b, ws, rfl, nb2, hb, hl2⟩ := h2'
      refine op_catA pins s σ H _ _ v u Q I rx ry ⟨a, b, vs, ws, rfl, rfl, SqT.of ha, SqT.of hb, by rw [hl.len, hl2.len, ← line_eq]; exact hz, fun z => ?_, fun _ z => ?_, fun _ _ p hp => ?_⟩
      · refine q _ _ (fun _ _ w => w) ?_
        subst z
        have e0 : xs = [] := List.length_eq_zero_iff.mp hl.len.symm
        subst e0
        unfold Is
        exact ⟨b, ws, rfl, nb2, hb, hl2⟩
      · refine q _ _ (fun _ _ w => w) ?_
        subst z
        have e0 : ys = [] := List.length_eq_zero_iff.mp hl2.len.symm
        subst e0
        rw [List.append_nil]
        unfold Is
        exact ⟨a, vs, rfl, nb, ha, hl⟩
      · exact q _ _ (ext_upd hp) (mkTup lv hp (hl.append hl2))
    · cases e
  · rename_i xs k
    unfold bin at e
    dsimp only at e
    split at e
    · rename_i hc
      cases e
      obtain ⟨rfl, hz, hk, hk0⟩ := hc
      obtain ⟨a, vs, rfl, ha, hl⟩ := h1
      refine op_rep pins s σ H _ _ v u Q I rx ry ⟨a, k, vs, rfl, isInt h2, ha, by omega, by omega, by rw [hl.len, ← line_eq]; exact hz, fun p hp => q _ _ (ext_upd hp) (mkLst lv hp (hl.flat _))⟩
    · cases e
  · rename_i xs ys
    unfold bin at e
    dsimp only at e
    split at e
    · rename_i hc
      cases e
      obtain ⟨rfl, hz⟩ := hc
      obtain ⟨a, vs, rfl, ha, hl⟩ := h1
      obtain ⟨b, ws, rfl, hb, hl2⟩ := h2
      exact op_cat pins s σ H _ _ v u Q I rx ry ⟨a, b, vs, ws, rfl, rfl, ha, hb, by rw [hl.len, hl2.len, ← line_eq]; exact hz, fun p hp => q _ _ (ext_upd hp) (mkLst lv hp (hl.append hl2))⟩
    · cases e
end
end Mi
set_option Elab.async false
set_option linter.all false
set_option maxRecDepth 100000
set_option maxHeartbeats 4000000
/-! Mi4: the frame of a def in data: slots, what is being built, the draws; readings of programs in data. -/
namespace Mi
open PySem L2

/-- the draws' own list -/
def Rc.isDr (R : Rc) (a : Addr) : Prop := R.hd = true ∧ a = R.dr
/-- what is being built -/
def SV.held : SV → Option D
  | .own d => some d
  | .lnt d => some d
  | _ => none
def heldAt (σ : List SV) (i : Nat) : Option D := σ[i]?.bind SV.held
/-- where the slot i's own object stands, and its dict -/
abbrev Ow := Nat → Addr × Addr
def Ban (B : Bn) (ow : Ow) (σ : List SV) : Bn := fun a => B a ∨ ∃ (i : Nat) (d : D), heldAt σ i = some d ∧ (a = (ow i).1 ∨ a = (ow i).2)
/-- the object that is being built at a (its dict at dx) -/
def OwnAt (R : Rc) (B : Bn) (H : Hp) (d : D) (a dx : Addr) : Prop := match d with
  | .lst xs => dx = a ∧ ∃ vs, H a = some (.lst vs) ∧ IsL R B H xs vs
  | .ins c ns ds => dx ≠ a ∧ ∃ us, Inst R H c a dx ns us ∧ IsL R B H ds us
  | _ => False
/-- neither shut by the callers nor theirs -/
def Free (B : Bn) (HB : Hp) (a : Addr) : Prop := ¬ B a ∧ HB a = none
structure Fr (R : Rc) (B : Bn) (HB : Hp) (ow : Ow) (σ : List SV) (dr : List Int) (σV : L2.St) (H : Hp) : Prop where
  len : σV.length = σ.length
  val : ∀ (i : Nat) (d : D), σ[i]? = some (.val d) → ∃ v, σV[i]? = some (some v) ∧ Is R (Ban B ow σ) H d v
  own : ∀ (i : Nat) (d : D), heldAt σ i = some d → σV[i]? = some (some (.ref (ow i).1)) ∧ OwnAt R (Ban B ow σ) H d (ow i).1 (ow i).2 ∧ Free B HB (ow i).1 ∧ Free B HB (ow i).2
  sep : ∀ (i j : Nat) (d e : D), heldAt σ i = some d → heldAt σ j = some e → i ≠ j → (ow i).1 ≠ (ow j).1 ∧ (ow i).1 ≠ (ow j).2 ∧ (ow i).2 ≠ (ow j).1 ∧ (ow i).2 ≠ (ow j).2
  live : ∀ a, B a → ∃ o, H a = some o
  hold : ∀ a o, ¬ R.isDr a → HB a = some o → H a = some o
  drs : R.hd = true → H R.dr = some (.lst (dr.map V.int))
  drB : R.hd = true → B R.dr
section
variable {R : Rc} {B B' : Bn} {HB : Hp} {ow : Ow} {σ : List SV} {dr : List Int} {σV : L2.St} {H H' : Hp}
theorem OwnAt.live {d : D} {a dx : Addr} (h : OwnAt R B H d a dx) : (∃ o, H a = some o) ∧ ∃ o, H dx = some o := by
  cases d <;> (try exact h.elim)
  · obtain ⟨rfl, vs, e, _⟩ := h
    exact ⟨⟨_, e⟩, ⟨_, e⟩⟩
  · obtain ⟨ne, us, hi, _⟩ := h
    exact ⟨hi.at, hi.2.2.1⟩
theorem Fr.fresh (f : Fr R B HB ow σ dr σV H) {p : Addr} (hp : H p = none) : HB p = none := by
  cases q : HB p with
  | none => rfl
  | some o =>
    by_cases h : R.isDr p
    · rw [h.2, f.drs h.1] at hp; cases hp
    · rw [f.hold p o h q] at hp; cases hp
theorem Fr.liveB (f : Fr R B HB ow σ dr σV H) : Live (Ban B ow σ) H := fun a z => by
  rcases z with z | ⟨i, d, e, z⟩
  · exact f.live a z
  · obtain ⟨h1, h2⟩ := (f.own i d e).2.1.live
    rcases z with rfl | rfl
    · exact h1
    · exact h2
theorem OwnAt.keep {d : D} {a dx : Addr} (h : OwnAt R B H d a dx) (k1 : ∀ o, H a = some o → H' a = some o) (k2 : ∀ o, H dx = some o → H' dx = some o) (s : Stp B H B' H') : OwnAt R B' H' d a dx := by
  cases d <;> (try exact h.elim)
  · obtain ⟨rfl, vs, e, q⟩ := h
    exact ⟨rfl, vs, k1 _ e, q.stp s⟩
  · obtain ⟨ne, us, hi, q⟩ := h
    exact ⟨ne, us, hi.keep k1 k2, q.stp s⟩
/-- new objects alone -/
theorem Fr.ext (f : Fr R B HB ow σ dr σV H) (e : Ext H H') : Fr R B HB ow σ dr σV H' where
  len := f.len
  val := fun i d h => by
    obtain ⟨v, h1, h2⟩ := f.val i d h
    exact ⟨v, h1, h2.ext e⟩
  own := fun i d h => by
    obtain ⟨h1, h2, h3, h4⟩ := f.own i d h
    exact ⟨h1, h2.keep (fun o q => e _ _ q) (fun o q => e _ _ q) (Stp.new e), h3, h4⟩
  sep := f.sep
  live := fun a z => by
    obtain ⟨o, q⟩ := f.live a z
    exact ⟨o, e _ _ q⟩
  hold := fun a o h q => e _ _ (f.hold a o h q)
  drs := fun h => e _ _ (f.drs h)
  drB := f.drB
end

/-! ### outcomes -/
/-- an exception of the class c: its dict at d holds ns, us -/
def ExcAt (R : Rc) (H : Hp) (d : Addr) (ns : List Nat) (us : List V) : Prop :=
  us.length = ns.length ∧ ∃ fs : List (Str × V), H d = some (.xd fs) ∧ ∀ (j n : Nat) (u : V), ns[j]? = some n → us[j]? = some u → ∃ x, R.atts[n]? = some x ∧ fs.lookup x = some u
/-- from the frame (B, ow, σ, H) the result r is come to: K of a value, W of an exception -/
def Out {α : Type} (R : Rc) (W : WX) (B : Bn) (HB : Hp) (B0 : Bn) (H0 : Hp) (σV : L2.St) (r : Res α) (K : α → S → Ow → Hp → Prop) : Prop := match r with
  | .ok a s => ∀ ow H, Fr R B HB ow s.σ s.dr σV H → Stp B0 H0 (Ban B ow s.σ) H → K a s ow H
  | .ex c ns vs s => ∀ ow H us d, Fr R B HB ow s.σ s.dr σV H → Stp B0 H0 (Ban B ow s.σ) H → IsL R (Ban B ow s.σ) H vs us → ExcAt R H d ns us → W (.ref (R.ca c)) (some d) σV H
  | .no => False
theorem Out.mono {α : Type} {R : Rc} {W : WX} {B B0 : Bn} {HB H0 : Hp} {σV : L2.St} {r : Res α} {K K' : α → S → Ow → Hp → Prop} (h : Out R W B HB B0 H0 σV r K) (k : ∀ a s ow H, Fr R B HB ow s.σ s.dr σV H → Stp B0 H0 (Ban B ow s.σ) H → K a s ow H → K' a s ow H) : Out R W B HB B0 H0 σV r K' := by
  cases r with
  | ok a s => exact fun ow H f st => k a s ow H f st (h ow H f st)
  | ex c ns vs s => exact h
  | no => exact h
/-- the first step of two -/
theorem Out.bind {α β : Type} {R : Rc} {W : WX} {B B0 : Bn} {HB H0 : Hp} {σV : L2.St} {r : Res α} {g : α → M β} {K : β → S → Ow → Hp → Prop} (h : Out R W B HB B0 H0 σV (r.then g) K) :
    Out R W B HB B0 H0 σV r fun a s ow H => Out R W B HB (Ban B ow s.σ) H σV (g a s) K := by
  cases r with
  | no => exact h
  | ex c ns vs s => exact h
  | ok a s =>
    intro ow H f st
    have h' : Out R W B HB B0 H0 σV (g a s) K := h
    cases e : g a s with
    | ok b s2 =>
      rw [e] at h'
      exact fun ow2 H2 f2 st2 => h' ow2 H2 f2 (st.trans st2)
    | ex c ns vs s2 =>
      rw [e] at h'
      exact fun ow2 H2 us d f2 st2 => h' ow2 H2 us d f2 (st.trans st2)
    | no =>
      rw [e] at h'
      exact h'
/-- a value, or a list read in place -/
def HdIs (R : Rc) (B : Bn) (H : Hp) (σV : L2.St) : Hd → V → Prop
  | .at i, v => σV[i]? = some (some v)
  | .dat d, v => Is R B H d v
theorem HdIs.stp {R : Rc} {B B' : Bn} {H H' : Hp} {σV : L2.St} (s : Stp B H B' H') {h : Hd} {v : V} (x : HdIs R B H σV h v) : HdIs R B' H' σV h v := by
  cases h with
  | «at» i => exact x
  | dat d => exact Is.stp s x
/-- the readings of programs in data: a value; an operand; read in place; a test; values -/
def tM {α : Type} (R : Rc) (W : WX) (f : M α) (K : α → Bn → Hp → L2.St → Prop) (σV : L2.St) (H : Hp) : Prop := ∃ (B : Bn) (HB : Hp) (ow : Ow) (σ : List SV) (dr : List Int), Fr R B HB ow σ dr σV H ∧
  Out R W B HB (Ban B ow σ) H σV (f ⟨σ, dr⟩) fun d s ow' H' => K d (Ban B ow' s.σ) H' σV
def tE (R : Rc) (W : WX) (f : M D) : TE := fun σV H Q => tM R W f (fun d B H' _ => ∀ v, Is R B H' d v → Q v H') σV H
def tH (R : Rc) (W : WX) (f : M Hd) : TE := fun σV H Q => tM R W f (fun d B H' σV => ∀ v, HdIs R B H' σV d v → Q v H') σV H
def tP (R : Rc) (W : WX) (f : M D) : TE := fun σV H Q => tM R W f (fun d B H' _ => ∀ v, IsP R B H' d v → Q v H') σV H
def tT (R : Rc) (W : WX) (f : M Bool) : TT := fun σV H Q => tM R W f (fun b _ H' _ => Q b H') σV H
def tA (R : Rc) (W : WX) (f : M (List D)) : TA := fun σV H Q => tM R W f (fun ds B H' _ => ∀ vs, IsL R B H' ds vs → Q vs H') σV H

/-! ### steps of a frame -/
section
variable {R : Rc} {B : Bn} {HB : Hp} {ow : Ow} {σ σ' : List SV} {dr : List Int} {σV σV' : L2.St} {H H' : Hp}
theorem heldAt_set_self {i : Nat} {x : SV} (hi : i < σ.length) : heldAt (σ.set i x) i = x.held := by
  unfold heldAt
  rw [List.getElem?_set_self hi]
  rfl
theorem heldAt_set_ne {i j : Nat} {x : SV} (h : i ≠ j) : heldAt (σ.set i x) j = heldAt σ j := by
  unfold heldAt
  rw [List.getElem?_set_ne h]
theorem heldAt_lt {i : Nat} {d : D} (h : heldAt σ i = some d) : i < σ.length := by
  unfold heldAt at h
  cases e : σ[i]? with
  | none => rw [e] at h; cases h
  | some x => exact (List.getElem?_eq_some_iff.mp e).1
theorem Ban.sub (h : ∀ i d, heldAt σ' i = some d → ∃ d', heldAt σ i = some d') : ∀ a, Ban B ow σ' a → Ban B ow σ a := fun a z => by
  rcases z with z | ⟨i, d, e, z⟩
  · exact .inl z
  · obtain ⟨d', e'⟩ := h i d e
    exact .inr ⟨i, d', e', z⟩
/-- slots change that hold nothing that is being built -/
theorem Fr.reval (f : Fr R B HB ow σ dr σV H) (len : σV'.length = σ'.length) (hh : ∀ i, heldAt σ' i = heldAt σ i) (hv : ∀ (i : Nat) (d : D), σ'[i]? = some (.val d) → ∃ v, σV'[i]? = some (some v) ∧ Is R (Ban B ow σ) H d v)
    (ho : ∀ (i : Nat) (d : D), heldAt σ i = some d → σV'[i]? = σV[i]?) : Fr R B HB ow σ' dr σV' H := by
  have s1 : ∀ a, Ban B ow σ' a → Ban B ow σ a := Ban.sub fun i d e => ⟨d, by rw [← hh]; exact e⟩
  exact {
    len := len
    val := fun i d e => by
      obtain ⟨v, h1, h2⟩ := hv i d e
      exact ⟨v, h1, h2.less s1⟩
    own := fun i d e => by
      rw [hh] at e
      obtain ⟨h1, h2, h3⟩ := f.own i d e
      exact ⟨by rw [ho i d e]; exact h1, h2.keep (fun o q => q) (fun o q => q) (Stp.less s1), h3⟩
    sep := fun i j d e h1 h2 => f.sep i j d e (by rw [← hh]; exact h1) (by rw [← hh]; exact h2)
    live := f.live
    hold := f.hold
    drs := f.drs
    drB := f.drB }
theorem held_set_sub {i : Nat} {x : SV} (hx : x.held = none) : ∀ (j : Nat) (d : D), heldAt (σ.set i x) j = some d → i ≠ j ∧ heldAt σ j = some d := fun j d e => by
  by_cases h : i = j
  · subst h
    rw [heldAt_set_self (by have := heldAt_lt e; simpa using this), hx] at e
    cases e
  · rw [heldAt_set_ne h] at e
    exact ⟨h, e⟩
theorem ban_put {i : Nat} {d : D} : ∀ a, Ban B ow (σ.set i (.val d)) a → Ban B ow σ a := Ban.sub fun j e q => ⟨e, (held_set_sub rfl j e q).2⟩
/-- a value in the slot i -/
theorem Fr.put {i : Nat} {d : D} {v : V} (f : Fr R B HB ow σ dr σV H) (hi : i < σ.length) (h : Is R (Ban B ow σ) H d v) : Fr R B HB ow (σ.set i (.val d)) dr (σV.set i (some v)) H where
  len := by simpa using f.len
  val := fun j e q => by
    by_cases hj : i = j
    · subst hj
      rw [List.getElem?_set_self hi] at q
      cases q
      exact ⟨v, List.getElem?_set_self (by rw [f.len]; exact hi), h.less ban_put⟩
    · rw [List.getElem?_set_ne hj] at q ⊢
      obtain ⟨u, h1, h2⟩ := f.val j e q
      exact ⟨u, h1, h2.less ban_put⟩
  own := fun j e q => by
    obtain ⟨hj, q⟩ := held_set_sub rfl j e q
    obtain ⟨h1, h2, h3⟩ := f.own j e q
    exact ⟨by rw [List.getElem?_set_ne hj]; exact h1, h2.keep (fun o q => q) (fun o q => q) (Stp.less ban_put), h3⟩
  sep := fun j k d e h1 h2 => f.sep j k d e (held_set_sub rfl j d h1).2 (held_set_sub rfl k e h2).2
  live := f.live
  hold := f.hold
  drs := f.drs
  drB := f.drB
theorem OwnAt.is {B' : Bn} {d : D} {a dx : Addr} (h : OwnAt R B H d a dx) (n1 : ¬ B' a) (n2 : ¬ B' dx) (l : ∀ b, B' b → B b) : Is R B' H d (.ref a) := by
  cases d <;> (try exact h.elim)
  · obtain ⟨rfl, vs, e, q⟩ := h
    unfold Is
    exact ⟨dx, vs, rfl, n1, e, q.less l⟩
  · obtain ⟨ne, us, hi, q⟩ := h
    unfold Is
    exact ⟨a, dx, us, rfl, n1, n2, hi, q.less l⟩
/-- what was being built in the slot i is finished -/
theorem Fr.freeze {i : Nat} {d : D} (f : Fr R B HB ow σ dr σV H) (h : heldAt σ i = some d) : Fr R B HB ow (σ.set i (.val d)) dr σV H ∧ ∃ v, σV[i]? = some (some v) ∧ Is R (Ban B ow (σ.set i (.val d))) H d v := by
  obtain ⟨h1, h2, h3, h4⟩ := f.own i d h
  have hi := heldAt_lt h
  have no : ∀ a, (a = (ow i).1 ∨ a = (ow i).2) → ¬ Ban B ow (σ.set i (.val d)) a := fun a ha z => by
    rcases z with z | ⟨j, e, q, z⟩
    · rcases ha with rfl | rfl
      · exact h3.1 z
      · exact h4.1 z
    · obtain ⟨hj, q⟩ := held_set_sub rfl j e q
      obtain ⟨s1, s2, s3, s4⟩ := f.sep i j d e h q hj
      rcases ha with rfl | rfl <;> rcases z with z | z
      · exact s1 z
      · exact s2 z
      · exact s3 z
      · exact s4 z
  have hI : Is R (Ban B ow (σ.set i (.val d))) H d (.ref (ow i).1) := h2.is (no _ (.inl rfl)) (no _ (.inr rfl)) ban_put
  refine ⟨?_, _, h1, hI⟩
  exact {
    len := by simpa using f.len
    val := fun j e q => by
      by_cases hj : i = j
      · subst hj
        rw [List.getElem?_set_self hi] at q
        cases q
        exact ⟨_, h1, hI⟩
      · rw [List.getElem?_set_ne hj] at q
        obtain ⟨u, q1, q2⟩ := f.val j e q
        exact ⟨u, q1, q2.less ban_put⟩
    own := fun j e q => by
      obtain ⟨hj, q⟩ := held_set_sub rfl j e q
      obtain ⟨q1, q2, q3⟩ := f.own j e q
      exact ⟨q1, q2.keep (fun o q => q) (fun o q => q) (Stp.less ban_put), q3⟩
    sep := fun j k d e h1 h2 => f.sep j k d e (held_set_sub rfl j d h1).2 (held_set_sub rfl k e h2).2
    live := f.live
    hold := f.hold
    drs := f.drs
    drB := f.drB }
/-- the list that is built in the slot i changes: its object alone -/
theorem Fr.own_lst {i : Nat} {xs ys : List D} {vs : List V} (f : Fr R B HB ow σ dr σV H) (h : σ[i]? = some (.own (.lst xs))) (hv : IsL R (Ban B ow σ) H ys vs) :
    Fr R B HB ow (σ.set i (.own (.lst ys))) dr σV (upd H (ow i).1 (.lst vs)) ∧ Stp (Ban B ow σ) H (Ban B ow (σ.set i (.own (.lst ys)))) (upd H (ow i).1 (.lst vs)) := by
  have hh : heldAt σ i = some (.lst xs) := by unfold heldAt; rw [h]; rfl
  have hi := heldAt_lt hh
  obtain ⟨h1, ⟨hdx, ws, hw, _⟩, h3, h4⟩ := f.own i _ hh
  have hb : ∀ j d, heldAt (σ.set i (.own (.lst ys))) j = some d → ∃ d', heldAt σ j = some d' := fun j d e => by
    by_cases hj : i = j
    · subst hj; exact ⟨_, hh⟩
    · rw [heldAt_set_ne hj] at e; exact ⟨_, e⟩
  have hb2 : ∀ j d, heldAt σ j = some d → ∃ d', heldAt (σ.set i (.own (.lst ys))) j = some d' := fun j d e => by
    by_cases hj : i = j
    · subst hj; exact ⟨_, heldAt_set_self hi⟩
    · rw [heldAt_set_ne hj]; exact ⟨_, e⟩
  have bi : Ban B ow σ (ow i).1 := .inr ⟨i, _, hh, .inl rfl⟩
  have st : Stp (Ban B ow σ) H (Ban B ow (σ.set i (.own (.lst ys)))) (upd H (ow i).1 (.lst vs)) := ⟨fun a o nb e => by rw [upd_ne (fun z => nb (by rw [z]; exact bi))]; exact e, fun a z => .inl (Ban.sub hb a z)⟩
  refine ⟨?_, st⟩
  have away : ∀ {a : Addr} {o : HO}, a ≠ (ow i).1 → H a = some o → upd H (ow i).1 (.lst vs) a = some o := fun ha e => by rw [upd_ne ha]; exact e
  exact {
    len := by simpa using f.len
    val := fun j e q => by
      by_cases hj : i = j
      · subst hj
        rw [List.getElem?_set_self hi] at q
        cases q
      · rw [List.getElem?_set_ne hj] at q
        obtain ⟨u, q1, q2⟩ := f.val j e q
        exact ⟨u, q1, q2.stp st⟩
    own := fun j e q => by
      by_cases hj : i = j
      · subst hj
        rw [heldAt_set_self hi] at q
        cases q
        refine ⟨h1, ⟨hdx, vs, upd_same, hv.stp st⟩, h3, h4⟩
      · rw [heldAt_set_ne hj] at q
        obtain ⟨q1, q2, q3⟩ := f.own j e q
        obtain ⟨s1, s2, s3, s4⟩ := f.sep i j _ e hh q hj
        exact ⟨q1, q2.keep (fun o z => away (Ne.symm s1) z) (fun o z => away (Ne.symm s2) z) st, q3⟩
    sep := fun j k d e h1 h2 hjk => by
      obtain ⟨d', h1⟩ := hb j d h1
      obtain ⟨e', h2⟩ := hb k e h2
      exact f.sep j k d' e' h1 h2 hjk
    live := fun a z => by
      obtain ⟨o, q⟩ := f.live a z
      exact ⟨o, away (fun w => h3.1 (by rw [← w]; exact z)) q⟩
    hold := fun a o h q => away (fun w => by rw [w, h3.2] at q; cases q) (f.hold a o h q)
    drs := fun h => away (fun w => h3.1 (by rw [← w]; exact f.drB h)) (f.drs h)
    drB := f.drB }
/-- the draws change -/
theorem Fr.draws {dr' : List Int} (hd : R.hd = true) (f : Fr R B HB ow σ dr σV H) : Fr R B HB ow σ dr' σV (upd H R.dr (.lst (dr'.map V.int))) ∧ Stp (Ban B ow σ) H (Ban B ow σ) (upd H R.dr (.lst (dr'.map V.int))) := by
  have bi : Ban B ow σ R.dr := .inl (f.drB hd)
  have st : Stp (Ban B ow σ) H (Ban B ow σ) (upd H R.dr (.lst (dr'.map V.int))) := ⟨fun a o nb e => by rw [upd_ne (fun z => nb (by rw [z]; exact bi))]; exact e, fun a z => .inl z⟩
  refine ⟨?_, st⟩
  exact {
    len := f.len
    val := fun j e q => by
      obtain ⟨u, q1, q2⟩ := f.val j e q
      exact ⟨u, q1, q2.stp st⟩
    own := fun j e q => by
      obtain ⟨q1, q2, q3, q4⟩ := f.own j e q
      have a1 : (ow j).1 ≠ R.dr := fun z => q3.1 (by rw [z]; exact f.drB hd)
      have a2 : (ow j).2 ≠ R.dr := fun z => q4.1 (by rw [z]; exact f.drB hd)
      exact ⟨q1, q2.keep (fun o z => by rw [upd_ne a1]; exact z) (fun o z => by rw [upd_ne a2]; exact z) st, q3, q4⟩
    sep := f.sep
    live := fun a z => by
      by_cases h : a = R.dr
      · exact ⟨_, by rw [h, upd_same]⟩
      · obtain ⟨o, q⟩ := f.live a z
        exact ⟨o, by rw [upd_ne h]; exact q⟩
    hold := fun a o h q => by rw [upd_ne (fun z => h ⟨hd, z⟩)]; exact f.hold a o h q
    drs := fun _ => upd_same
    drB := f.drB }
/-- behind a call: all but the draws is kept -/
theorem Fr.after {dr' : List Int} (f : Fr R B HB ow σ dr σV H) (e : ∀ a o, ¬ R.isDr a → H a = some o → H' a = some o) (hd : R.hd = true → H' R.dr = some (.lst (dr'.map V.int))) : Fr R B HB ow σ dr' σV H' ∧ Stp (Ban B ow σ) H (Ban B ow σ) H' := by
  have st : Stp (Ban B ow σ) H (Ban B ow σ) H' := ⟨fun a o nb q => e a o (fun z => nb (.inl (by rw [z.2]; exact f.drB z.1))) q, fun a z => .inl z⟩
  refine ⟨?_, st⟩
  exact {
    len := f.len
    val := fun j d q => by
      obtain ⟨u, q1, q2⟩ := f.val j d q
      exact ⟨u, q1, q2.stp st⟩
    own := fun j d q => by
      obtain ⟨q1, q2, q3, q4⟩ := f.own j d q
      have a1 : ¬ R.isDr (ow j).1 := fun z => q3.1 (by rw [z.2]; exact f.drB z.1)
      have a2 : ¬ R.isDr (ow j).2 := fun z => q4.1 (by rw [z.2]; exact f.drB z.1)
      exact ⟨q1, q2.keep (fun o z => e _ _ a1 z) (fun o z => e _ _ a2 z) st, q3, q4⟩
    sep := f.sep
    live := fun a z => by
      by_cases h : R.isDr a
      · exact ⟨_, by rw [h.2]; exact hd h.1⟩
      · obtain ⟨o, q⟩ := f.live a z
        exact ⟨o, e _ _ h q⟩
    hold := fun a o h q => e _ _ h (f.hold a o h q)
    drs := hd
    drB := f.drB }
/-- the new list at p is built in the slot i from now on -/
theorem Fr.begin {i : Nat} {xs : List D} {vs : List V} {p : Addr} (f : Fr R B HB ow σ dr σV H) (hi : i < σ.length) (hp : H p = none) (hv : IsL R (Ban B ow σ) H xs vs) :
    ∃ ow', Fr R B HB ow' (σ.set i (.own (.lst xs))) dr (σV.set i (some (.ref p))) (upd H p (.lst vs)) ∧ Stp (Ban B ow σ) H (Ban B ow' (σ.set i (.own (.lst xs)))) (upd H p (.lst vs)) := by
  let ow' : Ow := fun j => if j = i then (p, p) else ow j
  have owi : ow' i = (p, p) := if_pos rfl
  have owj : ∀ j, i ≠ j → ow' j = ow j := fun j h => if_neg (Ne.symm h)
  have hb : ∀ j d, i ≠ j → heldAt (σ.set i (.own (.lst xs))) j = some d → heldAt σ j = some d := fun j d h e => by rw [heldAt_set_ne h] at e; exact e
  have e0 : Ext H (upd H p (.lst vs)) := ext_upd hp
  have st : Stp (Ban B ow σ) H (Ban B ow' (σ.set i (.own (.lst xs)))) (upd H p (.lst vs)) := ⟨fun a o _ e => e0 a o e, fun a z => by
    rcases z with z | ⟨j, d, q, z⟩
    · exact .inl (.inl z)
    · by_cases hj : i = j
      · subst hj
        rw [owi] at z
        refine .inr ?_
        rcases z with rfl | rfl <;> exact hp
      · rw [owj j hj] at z
        exact .inl (.inr ⟨j, d, hb j d hj q, z⟩)⟩
  have np : ∀ a o, H a = some o → a ≠ p := fun a o e => ne_of_none e hp
  refine ⟨ow', ?_, st⟩
  exact {
    len := by simpa using f.len
    val := fun j e q => by
      by_cases hj : i = j
      · subst hj
        rw [List.getElem?_set_self hi] at q
        cases q
      · rw [List.getElem?_set_ne hj] at q ⊢
        obtain ⟨u, q1, q2⟩ := f.val j e q
        exact ⟨u, q1, q2.stp st⟩
    own := fun j e q => by
      by_cases hj : i = j
      · subst hj
        rw [heldAt_set_self hi] at q
        cases q
        rw [owi]
        have hbp : Free B HB p := ⟨fun z => (f.live p z).elim (fun o q => by rw [hp] at q; cases q), f.fresh hp⟩
        exact ⟨List.getElem?_set_self (by rw [f.len]; exact hi), ⟨rfl, vs, upd_same, hv.stp st⟩, hbp, hbp⟩
      · have q' := hb j e hj q
        obtain ⟨q1, q2, q3⟩ := f.own j e q'
        rw [owj j hj, List.getElem?_set_ne hj]
        exact ⟨q1, q2.keep (fun o z => e0 _ _ z) (fun o z => e0 _ _ z) st, q3⟩
    sep := fun j k d e h1 h2 hjk => by
      by_cases hj : i = j
      · subst hj
        have h2' := hb k e hjk h2
        obtain ⟨l1, l2⟩ := (f.own k e h2').2.1.live
        obtain ⟨o1, l1⟩ := l1
        obtain ⟨o2, l2⟩ := l2
        rw [owi, owj k hjk]
        exact ⟨Ne.symm (np _ _ l1), Ne.symm (np _ _ l2), Ne.symm (np _ _ l1), Ne.symm (np _ _ l2)⟩
      · by_cases hk : i = k
        · subst hk
          have h1' := hb j d hj h1
          obtain ⟨l1, l2⟩ := (f.own j d h1').2.1.live
          obtain ⟨o1, l1⟩ := l1
          obtain ⟨o2, l2⟩ := l2
          rw [owi, owj j hj]
          exact ⟨np _ _ l1, np _ _ l1, np _ _ l2, np _ _ l2⟩
        · rw [owj j hj, owj k hk]
          exact f.sep j k d e (hb j d hj h1) (hb k e hk h2) hjk
    live := fun a z => by
      obtain ⟨o, q⟩ := f.live a z
      exact ⟨o, e0 _ _ q⟩
    hold := fun a o h q => e0 _ _ (f.hold a o h q)
    drs := fun h => e0 _ _ (f.drs h)
    drB := f.drB }
/-- p is shut too -/
def Shut (B : Bn) (p : Addr) : Bn := fun a => B a ∨ a = p
theorem ban_shut {p : Addr} : ∀ a, Ban (Shut B p) ow σ a ↔ Ban B ow σ a ∨ a = p := fun a => by
  unfold Ban Shut
  constructor
  · rintro ((h | h) | h)
    · exact .inl (.inl h)
    · exact .inr h
    · exact .inl (.inr h)
  · rintro ((h | h) | h)
    · exact .inl (.inl h)
    · exact .inr h
    · exact .inl (.inr h)
/-- a new object of ours, shut -/
theorem Fr.shut {p : Addr} {o : HO} (f : Fr R B HB ow σ dr σV H) (hp : H p = none) : Fr R (Shut B p) HB ow σ dr σV (upd H p o) ∧ Stp (Ban B ow σ) H (Ban (Shut B p) ow σ) (upd H p o) := by
  have e0 : Ext H (upd H p o) := ext_upd hp
  have st : Stp (Ban B ow σ) H (Ban (Shut B p) ow σ) (upd H p o) := ⟨fun a u _ e => e0 a u e, fun a z => by
    rcases (ban_shut a).mp z with z | rfl
    · exact .inl z
    · exact .inr hp⟩
  refine ⟨?_, st⟩
  exact {
    len := f.len
    val := fun j d q => by
      obtain ⟨u, q1, q2⟩ := f.val j d q
      exact ⟨u, q1, q2.stp st⟩
    own := fun j d q => by
      obtain ⟨q1, q2, q3, q4⟩ := f.own j d q
      obtain ⟨⟨o1, l1⟩, ⟨o2, l2⟩⟩ := q2.live
      exact ⟨q1, q2.keep (fun o z => e0 _ _ z) (fun o z => e0 _ _ z) st, ⟨fun z => z.elim q3.1 (ne_of_none l1 hp), q3.2⟩, ⟨fun z => z.elim q4.1 (ne_of_none l2 hp), q4.2⟩⟩
    sep := f.sep
    live := fun a z => by
      rcases z with z | rfl
      · obtain ⟨o, q⟩ := f.live a z
        exact ⟨o, e0 _ _ q⟩
      · exact ⟨_, upd_same⟩
    hold := fun a o h q => e0 _ _ (f.hold a o h q)
    drs := fun h => e0 _ _ (f.drs h)
    drB := fun h => .inl (f.drB h) }
/-- .. it changes -/
theorem Fr.shutW {p : Addr} {o : HO} (f : Fr R (Shut B p) HB ow σ dr σV H) (hb : HB p = none) (hd : ¬ R.isDr p) : Fr R (Shut B p) HB ow σ dr σV (upd H p o) ∧ Stp (Ban (Shut B p) ow σ) H (Ban (Shut B p) ow σ) (upd H p o) := by
  have k : ∀ {a : Addr} {u : HO}, a ≠ p → H a = some u → upd H p o a = some u := fun h q => by rw [upd_ne h]; exact q
  have st : Stp (Ban (Shut B p) ow σ) H (Ban (Shut B p) ow σ) (upd H p o) := ⟨fun a u nb e => k (fun z => nb ((ban_shut a).mpr (.inr z))) e, fun a z => .inl z⟩
  refine ⟨?_, st⟩
  exact {
    len := f.len
    val := fun j d q => by
      obtain ⟨u, q1, q2⟩ := f.val j d q
      exact ⟨u, q1, q2.stp st⟩
    own := fun j d q => by
      obtain ⟨q1, q2, q3, q4⟩ := f.own j d q
      exact ⟨q1, q2.keep (fun o z => k (fun w => q3.1 (.inr w)) z) (fun o z => k (fun w => q4.1 (.inr w)) z) st, q3, q4⟩
    sep := f.sep
    live := fun a z => by
      by_cases h : a = p
      · exact ⟨_, by rw [h, upd_same]⟩
      · obtain ⟨o, q⟩ := f.live a z
        exact ⟨o, k h q⟩
    hold := fun a o h q => k (fun z => by rw [z, hb] at q; cases q) (f.hold a o h q)
    drs := fun h => k (fun z => hd ⟨h, z.symm⟩) (f.drs h)
    drB := f.drB }
/-- .. it is open again -/
theorem Fr.open {p : Addr} (f : Fr R (Shut B p) HB ow σ dr σV H) (hd : ∀ h : R.hd = true, B R.dr) : Fr R B HB ow σ dr σV H ∧ Stp (Ban (Shut B p) ow σ) H (Ban B ow σ) H ∧ (¬ B p → ¬ Ban B ow σ p) := by
  have l : ∀ a, Ban B ow σ a → Ban (Shut B p) ow σ a := fun a z => (ban_shut a).mpr (.inl z)
  refine ⟨?_, Stp.less l, fun nb z => ?_⟩
  · exact {
      len := f.len
      val := fun j d q => by
        obtain ⟨u, q1, q2⟩ := f.val j d q
        exact ⟨u, q1, q2.less l⟩
      own := fun j d q => by
        obtain ⟨q1, q2, q3, q4⟩ := f.own j d q
        exact ⟨q1, q2.keep (fun o z => z) (fun o z => z) (Stp.less l), ⟨fun z => q3.1 (.inl z), q3.2⟩, ⟨fun z => q4.1 (.inl z), q4.2⟩⟩
      sep := f.sep
      live := fun a z => f.live a (.inl z)
      hold := f.hold
      drs := f.drs
      drB := hd }
  · rcases z with z | ⟨j, d, q, z⟩
    · exact nb z
    · obtain ⟨_, _, q3, q4⟩ := f.own j d q
      rcases z with z | z
      · exact q3.1 (.inr z.symm)
      · exact q4.1 (.inr z.symm)
end
end Mi
set_option linter.all false
/-! Mi5: sorting, in plain Lean. -/
namespace Mi
theorem ins1_perm (a : Int) : ∀ l : List Int, (ins1 a l).Perm (a :: l)
  | [] => .refl _
  | b :: r => by
    unfold ins1
    split
    · exact .refl _
    · exact ((ins1_perm a r).cons b).trans (.swap a b r)
theorem isort_perm : ∀ l : List Int, (isort l).Perm l
  | [] => .refl _
  | a :: r => (ins1_perm a (isort r)).trans ((isort_perm r).cons a)
theorem ins1_sorted (a : Int) : ∀ l : List Int, l.Pairwise (· ≤ ·) → (ins1 a l).Pairwise (· ≤ ·)
  | [], _ => by unfold ins1; exact List.pairwise_singleton _ _
  | b :: r, h => by
    obtain ⟨h1, h2⟩ := List.pairwise_cons.mp h
    unfold ins1
    split
    · rename_i hb
      refine List.pairwise_cons.mpr ⟨fun c hc => ?_, h⟩
      rcases List.mem_cons.mp hc with rfl | hc
      · exact hb
      · exact Int.le_trans hb (h1 c hc)
    · rename_i hb
      refine List.pairwise_cons.mpr ⟨fun c hc => ?_, ins1_sorted a r h2⟩
      rcases List.mem_cons.mp ((ins1_perm a r).mem_iff.mp hc) with rfl | hc
      · omega
      · exact h1 c hc
theorem isort_sorted : ∀ l : List Int, (isort l).Pairwise (· ≤ ·)
  | [] => .nil
  | a :: r => ins1_sorted a _ (isort_sorted r)
/-- sorted lists of the same members are the same -/
theorem sorted_unique {α : Type} {R : α → α → Prop} (anti : ∀ x y, R x y → R y x → x = y) : ∀ {l m : List α}, l.Perm m → l.Pairwise R → m.Pairwise R → l = m
  | [], m, p, _, _ => (List.Perm.nil_eq p)
  | a :: l, [], p, _, _ => absurd p.length_eq (by simp)
  | a :: l, b :: m, p, h1, h2 => by
    obtain ⟨a1, a2⟩ := List.pairwise_cons.mp h1
    obtain ⟨b1, b2⟩ := List.pairwise_cons.mp h2
    have e : a = b := by
      rcases List.mem_cons.mp (p.mem_iff.mp List.mem_cons_self) with e | ha
      · exact e
      · rcases List.mem_cons.mp (p.mem_iff.mpr List.mem_cons_self) with e | hb
        · exact e.symm
        · exact anti _ _ (a1 b hb) (b1 a ha)
    subst e
    rw [sorted_unique anti ((List.perm_cons a).mp p) a2 b2]
theorem isort_of {l m : List Int} (p : m.Perm l) (s : m.Pairwise (· ≤ ·)) : m = isort l :=
  sorted_unique (fun _ _ a b => Int.le_antisymm a b) (p.trans (isort_perm l).symm) s (isort_sorted l)
theorem isort_id {l : List Int} (s : l.Pairwise (· ≤ ·)) : isort l = l := (isort_of (.refl l) s).symm

theorem rle_refl : ∀ a : List Int, rle a a = true
  | [] => rfl
  | a :: r => by unfold rle; simp [rle_refl r]
theorem rle_total : ∀ a b : List Int, rle a b = true ∨ rle b a = true
  | [], _ => .inl (by unfold rle; rfl)
  | _ :: _, [] => .inr (by unfold rle; rfl)
  | a :: r, b :: t => by
    unfold rle
    by_cases h1 : a < b
    · simp [h1]
    · by_cases h2 : b < a
      · simp [h1, h2]
      · simp [h1, h2]
        exact rle_total r t
theorem rle_anti : ∀ a b : List Int, rle a b = true → rle b a = true → a = b
  | [], [], _, _ => rfl
  | [], _ :: _, _, h => by unfold rle at h; cases h
  | _ :: _, [], h, _ => by unfold rle at h; cases h
  | a :: r, b :: t, h1, h2 => by
    unfold rle at h1 h2
    by_cases q1 : a < b
    · have q2 : ¬ b < a := by omega
      simp [q1, q2] at h2
    · by_cases q2 : b < a
      · simp [q1, q2] at h1
      · simp only [q1, q2, if_false] at h1 h2
        have e : a = b := by omega
        rw [e, rle_anti r t h1 h2]
theorem rle_trans : ∀ a b c : List Int, rle a b = true → rle b c = true → rle a c = true
  | [], _, _, _, _ => by unfold rle; rfl
  | _ :: _, [], _, h, _ => by unfold rle at h; cases h
  | _ :: _, _ :: _, [], _, h => by unfold rle at h; cases h
  | a :: r, b :: t, c :: u, h1, h2 => by
    unfold rle at h1 h2 ⊢
    by_cases q1 : a < b
    · by_cases q2 : b < c
      · have q3 : a < c := by omega
        simp [q3]
      · by_cases q4 : c < b
        · simp [q2, q4] at h2
        · have q3 : a < c := by omega
          simp [q3]
    · by_cases q1' : b < a
      · simp [q1, q1'] at h1
      · simp only [q1, q1', if_false] at h1
        by_cases q2 : b < c
        · have q3 : a < c := by omega
          simp [q3]
        · by_cases q4 : c < b
          · simp [q2, q4] at h2
          · simp only [q2, q4, if_false] at h2
            have q5 : ¬ a < c := by omega
            have q6 : ¬ c < a := by omega
            simp only [q5, q6, if_false]
            exact rle_trans r t u h1 h2
theorem ins2_perm (a : List Int) : ∀ l : List (List Int), (ins2 a l).Perm (a :: l)
  | [] => .refl _
  | b :: r => by
    unfold ins2
    split
    · exact .refl _
    · exact ((ins2_perm a r).cons b).trans (.swap a b r)
theorem rsort_perm : ∀ l : List (List Int), (rsort l).Perm l
  | [] => .refl _
  | a :: r => (ins2_perm a (rsort r)).trans ((rsort_perm r).cons a)
def rLe (a b : List Int) : Prop := rle a b = true
theorem ins2_sorted (a : List Int) : ∀ l : List (List Int), l.Pairwise rLe → (ins2 a l).Pairwise rLe
  | [], _ => by unfold ins2; exact List.pairwise_singleton _ _
  | b :: r, h => by
    obtain ⟨h1, h2⟩ := List.pairwise_cons.mp h
    unfold ins2
    split
    · rename_i hb
      refine List.pairwise_cons.mpr ⟨fun c hc => ?_, h⟩
      rcases List.mem_cons.mp hc with rfl | hc
      · exact hb
      · exact rle_trans _ _ _ hb (h1 c hc)
    · rename_i hb
      have hb' : rLe b a := (rle_total b a).resolve_right hb
      refine List.pairwise_cons.mpr ⟨fun c hc => ?_, ins2_sorted a r h2⟩
      rcases List.mem_cons.mp ((ins2_perm a r).mem_iff.mp hc) with rfl | hc
      · exact hb'
      · exact h1 c hc
theorem rsort_sorted : ∀ l : List (List Int), (rsort l).Pairwise rLe
  | [] => .nil
  | a :: r => ins2_sorted a _ (rsort_sorted r)
theorem rsort_of {l m : List (List Int)} (p : m.Perm l) (s : m.Pairwise rLe) : m = rsort l :=
  sorted_unique rle_anti (p.trans (rsort_perm l).symm) s (rsort_sorted l)

theorem nub_mem {α : Type} [BEq α] [LawfulBEq α] : ∀ {l : List α} {x : α}, x ∈ nub l ↔ x ∈ l
  | [], x => by simp [nub]
  | a :: r, x => by
    unfold nub
    simp only [List.mem_cons, List.mem_filter, nub_mem (l := r)]
    by_cases e : x = a
    · simp [e]
    · simp [e]
theorem nub_nodup {α : Type} [BEq α] [LawfulBEq α] : ∀ l : List α, (nub l).Nodup
  | [] => by simp [nub]
  | a :: r => by
    unfold nub
    refine List.nodup_cons.mpr ⟨fun h => ?_, (nub_nodup r).filter _⟩
    have := (List.mem_filter.mp h).2
    simp at this
theorem nub_len {α : Type} [BEq α] [LawfulBEq α] : ∀ l : List α, (nub l).length ≤ l.length
  | [] => Nat.le_refl _
  | a :: r => by
    unfold nub
    have := List.length_filter_le (fun b => !(b == a)) (nub r)
    have := nub_len r
    simp only [List.length_cons]
    omega
/-- the least, the greatest -/
theorem lmin_le : ∀ (r : List Int) (m : Int), lmin r m ≤ m ∧ ∀ x ∈ r, lmin r m ≤ x
  | [], m => ⟨Int.le_refl _, fun _ h => absurd h (by simp)⟩
  | a :: r, m => by
    unfold lmin
    obtain ⟨h1, h2⟩ := lmin_le r (if a < m then a else m)
    have h3 : (if a < m then a else m) ≤ m ∧ (if a < m then a else m) ≤ a := by split <;> omega
    refine ⟨by omega, fun x hx => ?_⟩
    rcases List.mem_cons.mp hx with rfl | hx
    · omega
    · exact h2 x hx
theorem lmin_mem : ∀ (r : List Int) (m : Int), lmin r m ∈ m :: r
  | [], m => by simp [lmin]
  | a :: r, m => by
    unfold lmin
    have h := lmin_mem r (if a < m then a else m)
    split at h
    · rename_i q
      rw [if_pos q]
      rcases List.mem_cons.mp h with h | h
      · rw [h]; simp
      · exact List.mem_cons_of_mem _ (List.mem_cons_of_mem _ h)
    · rename_i q
      rw [if_neg q]
      rcases List.mem_cons.mp h with h | h
      · rw [h]; simp
      · exact List.mem_cons_of_mem _ (List.mem_cons_of_mem _ h)
theorem lmax_ge : ∀ (r : List Int) (m : Int), m ≤ lmax r m ∧ ∀ x ∈ r, x ≤ lmax r m
  | [], m => ⟨Int.le_refl _, fun _ h => absurd h (by simp)⟩
  | a :: r, m => by
    unfold lmax
    obtain ⟨h1, h2⟩ := lmax_ge r (if m < a then a else m)
    have h3 : m ≤ (if m < a then a else m) ∧ a ≤ (if m < a then a else m) := by split <;> omega
    refine ⟨by omega, fun x hx => ?_⟩
    rcases List.mem_cons.mp hx with rfl | hx
    · omega
    · exact h2 x hx
theorem lmax_mem : ∀ (r : List Int) (m : Int), lmax r m ∈ m :: r
  | [], m => by simp [lmax]
  | a :: r, m => by
    unfold lmax
    have h := lmax_mem r (if m < a then a else m)
    split at h
    · rename_i q
      rw [if_pos q]
      rcases List.mem_cons.mp h with h | h
      · rw [h]; simp
      · exact List.mem_cons_of_mem _ (List.mem_cons_of_mem _ h)
    · rename_i q
      rw [if_neg q]
      rcases List.mem_cons.mp h with h | h
      · rw [h]; simp
      · exact List.mem_cons_of_mem _ (List.mem_cons_of_mem _ h)
theorem lmin_uniq {r : List Int} {m x : Int} (h : x ∈ m :: r) (hl : ∀ y ∈ m :: r, x ≤ y) : x = lmin r m := by
  obtain ⟨h1, h2⟩ := lmin_le r m
  have h3 := hl _ (lmin_mem r m)
  rcases List.mem_cons.mp h with rfl | h
  · omega
  · have := h2 x h; omega
theorem lmax_uniq {r : List Int} {m x : Int} (h : x ∈ m :: r) (hl : ∀ y ∈ m :: r, y ≤ x) : x = lmax r m := by
  obtain ⟨h1, h2⟩ := lmax_ge r m
  have h3 := hl _ (lmax_mem r m)
  rcases List.mem_cons.mp h with rfl | h
  · omega
  · have := h2 x h; omega
end Mi
set_option Elab.async false
set_option linter.all false
set_option maxRecDepth 100000
set_option maxHeartbeats 4000000
/-! Mi6: comparisons, subscripts, slices, built-ins on data. -/
namespace Mi
open PySem L2 PyProof.Rows

structure TxOk (R : Rc) : Prop where
  nd : R.txts.Nodup
  ok : ∀ x ∈ R.txts, PyData.strOk x = true
section
variable {R : Rc} {B : Bn} {H H' : Hp}
theorem IsP.ext (e : Ext H H') {d : D} {v : V} (h : IsP R B H d v) : IsP R B H' d v := by
  cases d with
  | lst xs =>
    obtain ⟨a, vs, e1, ha, hl⟩ := h
    exact ⟨a, vs, e1, e _ _ ha, hl.ext e⟩
  | _ => exact Is.ext (B := B) e h
theorem IsP.kn {d : D} {v : V} (h : IsP R B H d v) : kn R d = true := by
  cases d with
  | lst xs =>
    obtain ⟨a, vs, e1, ha, hl⟩ := h
    exact IsL.kn hl
  | _ => exact Is.kn (B := B) (H := H) h
theorem IsP.dp {K : PySem.W.Frag} {n : Nat} {d : D} {v : V} (l : d.lay n = true) (h : IsP R B H d v) : Dp K H v (py R d) := by
  cases d with
  | lst xs =>
    obtain ⟨a, vs, e1, ha, hl⟩ := h
    cases n with
    | zero => cases l
    | succ n =>
      rw [e1]
      exact .lst (SqL.of ha) (IsL.dp (n := n) l hl)
  | _ => exact Is.dp (B := B) l h
end

def p1 (R : Rc) (g : D → Option D) : List V → Hp → VK → Prop := fun vs H Q => ∃ (B : Bn) (d1 d : D) (x : V), vs = [x] ∧ IsP R B H d1 x ∧ Live B H ∧ g d1 = some d ∧ ∀ v H', Ext H H' → Is R B H' d v → Q v H'
def p2 (R : Rc) (g : D → D → Option D) : List V → Hp → VK → Prop := fun vs H Q => ∃ (B : Bn) (d1 d2 d : D) (x y : V), vs = [x, y] ∧ IsP R B H d1 x ∧ IsP R B H d2 y ∧ Live B H ∧ g d1 d2 = some d ∧ ∀ v H', Ext H H' → Is R B H' d v → Q v H'
def cop : Cop → CmpOp
  | .eq => .Eq | .ne => .NotEq | .lt => .Lt | .le => .LtE | .gt => .Gt | .ge => .GtE | .mem => .In | .nmem => .NotIn
def cmpD (o : Cop) (x y : D) : Option D := (cmp o x y).map .bl
theorem lay_up : ∀ {n : Nat} {xs : List D}, D.layL n xs = true → (D.lst xs).lay (n + 1) = true := fun h => h
theorem any_py {R : Rc} (ok : TxOk R) {n : Nat} {x : D} (lx : x.lay n = true) (kx : kn R x = true) : ∀ {ys : List D}, D.layL n ys = true → knL R ys = true → (pyL R ys).any (fun z => PyData.eqv z (py R x)) = ys.any fun z => z.eqv x
  | [], _, _ => rfl
  | y :: ys, ly, ky => by
    have a1 := Bool.and_eq_true_iff.mp (show (y.lay n && D.layL n ys) = true from ly)
    have a2 := Bool.and_eq_true_iff.mp (show (Mi.kn R y && knL R ys) = true from ky)
    show (PyData.eqv (py R y) (py R x) || (pyL R ys).any _) = _
    rw [List.any_cons, any_py ok lx kx a1.2 a2.2, py_eqv ok.nd a1.1 lx a2.1 kx]
theorem IsP.seqL {R : Rc} {B : Bn} {H : Hp} {d : D} {v : V} {xs : List D} (h : IsP R B H d v) (e : d.seq = some xs) : knL R xs = true := by
  cases d <;> cases e
  · exact h.kn
  · exact h.kn
section
variable {X : Cx} {R : Rc}
theorem inner {t : Hp → Prop} {Q : VK} {H : Hp} {b : Bool} {B : Bn} {R : Rc} (q : ∀ v H', Ext H H' → Is R B H' (.bl b) v → Q v H') : Q (.bl b) H := q _ _ (fun _ _ z => z) blIs
theorem op_cmp (hK : X.K = R.K) (ok : TxOk R) (hu : X.A.units + 65 < cLine) (o : Cop) : OpR X (compareOp (cop o)) (pB R (cmpD o)) := by
  intro pins s σ H x y v u Q I rx ry h
  obtain ⟨B, d1, d2, d, h1, h2, lv, e, q⟩ := h
  obtain ⟨b, eb, rfl⟩ := Option.map_eq_some_iff.mp e
  replace e := eb
  have fin : Q (.bl b) H := q _ _ (fun _ _ z => z) blIs
  cases o with
  | eq =>
    unfold cmp at e
    dsimp only at e
    split at e
    · rename_i hc
      rw [Bool.and_eq_true] at hc
      cases e
      refine op_eqD (by omega) pins s σ H x y v u Q I rx ry ⟨py R d1, py R d2, h1.dp hc.1, h2.dp hc.2, py_shaped ok.ok hc.1 h1.kn, py_shaped ok.ok hc.2 h2.kn, ?_⟩
      rw [py_eqv ok.nd hc.1 hc.2 h1.kn h2.kn]
      exact fin
    · cases e
  | ne =>
    unfold cmp at e
    dsimp only at e
    split at e
    · rename_i hc
      rw [Bool.and_eq_true] at hc
      cases e
      refine op_neD (by omega) pins s σ H x y v u Q I rx ry ⟨py R d1, py R d2, h1.dp hc.1, h2.dp hc.2, py_shaped ok.ok hc.1 h1.kn, py_shaped ok.ok hc.2 h2.kn, ?_⟩
      rw [py_eqv ok.nd hc.1 hc.2 h1.kn h2.kn]
      exact fin
    · cases e
  | lt =>
    unfold cmp at e
    dsimp only at e
    split at e <;> cases e
    exact op_lt pins s σ H x y v u Q I rx ry ⟨_, _, isInt h1, isInt h2, fin⟩
  | le =>
    unfold cmp at e
    dsimp only at e
    split at e <;> cases e
    exact op_le pins s σ H x y v u Q I rx ry ⟨_, _, isInt h1, isInt h2, fin⟩
  | gt =>
    unfold cmp at e
    dsimp only at e
    split at e <;> cases e
    exact op_gt pins s σ H x y v u Q I rx ry ⟨_, _, isInt h1, isInt h2, fin⟩
  | ge =>
    unfold cmp at e
    dsimp only at e
    split at e <;> cases e
    exact op_ge pins s σ H x y v u Q I rx ry ⟨_, _, isInt h1, isInt h2, fin⟩
  | mem =>
    unfold cmp at e
    dsimp only at e
    split at e
    · rename_i ys hs
      split at e
      · rename_i hc
        rw [Bool.and_eq_true] at hc
        cases e
        have sx := py_shaped ok.ok hc.1 h1.kn
        have ky := h2.seqL hs
        obtain ⟨ly, dy⟩ := py_layL ok.ok hc.2 ky
        obtain ⟨as, r1⟩ := Dp.reads I _ x v (h1.dp (K := X.K) hc.1) rx
        obtain ⟨a, vs, rfl, hl, hh⟩ := h2.seq hs
        have fin' : EP X pins σ Q (.bool ((pyL R ys).any fun z => PyData.eqv z (py R d1))) s := by
          rw [any_py ok hc.1 h1.kn hc.2 ky]
          exact ⟨.bl _, H, I, rfl, fin⟩
        have room : X.A.units + 1 + min (PyData.depthAll (pyL R ys)) (py R d1).depth < cLine := by
          have := Nat.min_le_left (PyData.depthAll (pyL R ys)) (py R d1).depth
          omega
        rcases hh with ⟨_, ha⟩ | ⟨_, ha⟩
        · obtain ⟨bs, r2⟩ := Dp.reads I (.list (pyL R ys)) _ u (.lst (SqL.of ha) (IsL.dp hc.2 hl)) ry
          exact SeqAt.in_list_reads r2 r1 ly (SeqAt.canLay_of_shaped sx) room fin'
        · obtain ⟨bs, r2⟩ := Dp.reads I (.tuple (pyL R ys)) _ u (.tup (SqT.of ha) (IsL.dp hc.2 hl)) ry
          exact SeqAt.in_tuple_reads r2 r1 ly (SeqAt.canLay_of_shaped sx) room fin'
      · cases e
    · cases e
  | nmem =>
    unfold cmp at e
    dsimp only at e
    split at e
    · rename_i ys hs
      split at e
      · rename_i hc
        rw [Bool.and_eq_true] at hc
        cases e
        have sx := py_shaped ok.ok hc.1 h1.kn
        have ky := h2.seqL hs
        obtain ⟨ly, dy⟩ := py_layL ok.ok hc.2 ky
        obtain ⟨as, r1⟩ := Dp.reads I _ x v (h1.dp (K := X.K) hc.1) rx
        obtain ⟨a, vs, rfl, hl, hh⟩ := h2.seq hs
        have fin' : EP X pins σ Q (.bool (!(pyL R ys).any fun z => PyData.eqv z (py R d1))) s := by
          rw [any_py ok hc.1 h1.kn hc.2 ky]
          exact ⟨.bl _, H, I, rfl, fin⟩
        have room : X.A.units + 1 + min (PyData.depthAll (pyL R ys)) (py R d1).depth < cLine := by
          have := Nat.min_le_left (PyData.depthAll (pyL R ys)) (py R d1).depth
          omega
        rcases hh with ⟨_, ha⟩ | ⟨_, ha⟩
        · obtain ⟨bs, r2⟩ := Dp.reads I (.list (pyL R ys)) _ u (.lst (SqL.of ha) (IsL.dp hc.2 hl)) ry
          exact SeqAt.notIn_list_reads r2 r1 ly (SeqAt.canLay_of_shaped sx) room fin'
        · obtain ⟨bs, r2⟩ := Dp.reads I (.tuple (pyL R ys)) _ u (.tup (SqT.of ha) (IsL.dp hc.2 hl)) ry
          exact SeqAt.notIn_tuple_reads r2 r1 ly (SeqAt.canLay_of_shaped sx) room fin'
      · cases e
    · cases e

/-! ### subscripts, slices -/
theorem ixN_eq (n : Nat) (i : Int) : L2.ixN n i = Mi.ixN n i := by unfold L2.ixN Mi.ixN; rfl
theorem ix_sub (hK : R.K = X.K) : IxR X (pB R sub) := by
  intro value slice pins s σ H x y v u Q I rx ry h hs
  obtain ⟨B, d1, d2, d, h1, h2, lv, e, q⟩ := h
  unfold sub at e
  split at e
  · rename_i i
    have ey := isInt h2
    subst ey
    split at e
    · rename_i xs hq
      split at e
      · rename_i k hk
        obtain ⟨a, vs, rfl, hl, hh⟩ : ∃ a vs, x = .ref a ∧ IsL R B H xs vs ∧ (SqL X.K H a vs ∨ SqT X.K H a vs) := by
          cases d1 with
          | frl zs =>
            cases hq
            have h1' : Is R B H (.frl xs) x := h1
            unfold Is at h1'
            obtain ⟨a, vs, rfl, ha, hl⟩ := h1'
            exact ⟨a, vs, rfl, hl, .inl (ha.elim (fun ha => .inl ha.2) fun ha => hK ▸ ha H)⟩
          | tup zs =>
            obtain ⟨a, vs, rfl, hl, hh⟩ := h1.seq hq
            refine ⟨a, vs, rfl, hl, ?_⟩
            rcases hh with ⟨_, ha⟩ | ⟨_, ha⟩
            · exact .inl (SqL.of ha)
            · exact .inr (SqT.of ha)
          | lst zs =>
            obtain ⟨a, vs, rfl, hl, hh⟩ := h1.seq hq
            refine ⟨a, vs, rfl, hl, ?_⟩
            rcases hh with ⟨_, ha⟩ | ⟨_, ha⟩
            · exact .inl (SqL.of ha)
            · exact .inr (SqT.of ha)
          | _ => cases hq
        obtain ⟨w, hw, hi⟩ := hl.get e
        have at' : atI vs i = some w := by
          unfold atI
          rw [ixN_eq, hl.len, hk]
          exact hw
        have fin : Q w H := q _ _ (fun _ _ z => z) hi
        rcases hh with ha | ha
        · exact ix_list value slice pins s σ H _ _ v u Q I rx ry ⟨a, vs, i, w, rfl, rfl, ha, at', fin⟩ hs
        · exact ix_tup value slice pins s σ H _ _ v u Q I rx ry ⟨a, vs, i, w, rfl, rfl, ha, at', fin⟩ hs
      · cases e
    · cases e
  · cases e
theorem clip_eq (n d : Nat) (o : Option Int) : HT.sIx n d o = clip n d o := by cases o <;> rfl
theorem cut_eq (xs : List V) (lo hi : Option Int) : cutV xs lo hi = slice xs lo hi := by
  unfold cutV slice
  rw [clip_eq, clip_eq]
theorem slice_is {B : Bn} {H : Hp} {xs : List D} {vs : List V} (h : IsL R B H xs vs) (lo hi : Option Int) : IsL R B H (slice xs lo hi) (slice vs lo hi) := by
  unfold slice
  rw [h.len]
  exact (h.drop _).take _
def pSl (R : Rc) : V → Option Int → Option Int → Hp → VK → Prop := fun x lo hi H Q => ∃ (B : Bn) (d1 d : D), IsP R B H d1 x ∧ Live B H ∧ sliD d1 lo hi = some d ∧ ∀ v H', Ext H H' → Is R B H' d v → Q v H'
theorem sl_sli : SlR X (pSl R) := by
  intro pins s σ H x v vl vu lo hi sl Q I rx hs pl pu h
  obtain ⟨B, d1, d, h1, lv, e, q⟩ := h
  unfold sliD at e
  split at e
  · rename_i xs
    cases e
    have h1' : Is R B H (.tup xs) x := h1
    unfold Is at h1'
    obtain ⟨a, vs, rfl, nb, ha, hl⟩ := h1'
    refine sl_tupA pins s σ H _ v vl vu lo hi sl Q I rx hs pl pu ⟨a, vs, rfl, SqT.of ha, fun hz => ?_, fun _ p hp => ?_⟩
    · refine q _ _ (fun _ _ z => z) ?_
      have e0 : slice xs lo hi = xs := by
        unfold slice
        rw [← clip_eq, ← clip_eq, ← hl.len, hz.1, hz.2]
        simp [hl.len]
      rw [e0]
      exact h1
    · exact q _ _ (ext_upd hp) (mkTup lv hp (by rw [cut_eq]; exact slice_is hl lo hi))
  · rename_i xs
    cases e
    obtain ⟨a, vs, rfl, ha, hl⟩ := h1
    exact sl_list pins s σ H _ v vl vu lo hi sl Q I rx hs pl pu ⟨a, vs, rfl, SqL.of ha, fun p hp => q _ _ (ext_upd hp) (mkLst lv hp (by rw [cut_eq]; exact slice_is hl lo hi))⟩
  · cases e

/-! ### built-ins of one argument -/
theorem call_lenD (hK : R.K = X.K) : CallR X (.builtin "len") (p1 R (bi .len)) := by
  intro pins s σ H xs us Q I r h
  obtain ⟨B, d1, d, x, rfl, h1, lv, e, q⟩ := h
  cases d1 with
  | tup ys =>
    cases e
    have h1' : Is R B H (.tup ys) x := h1
    unfold Is at h1'
    obtain ⟨a, vs, rfl, nb, ha, hl⟩ := h1'
    exact call_len pins s σ H _ us Q I r ⟨_, vs.length, rfl, .inr ⟨vs, SqT.of ha, rfl⟩, by rw [hl.len]; exact q _ _ (fun _ _ z => z) intIs⟩
  | lst ys =>
    cases e
    obtain ⟨a, vs, rfl, ha, hl⟩ := h1
    exact call_len pins s σ H _ us Q I r ⟨_, vs.length, rfl, .inl ⟨vs, SqL.of ha, rfl⟩, by rw [hl.len]; exact q _ _ (fun _ _ z => z) intIs⟩
  | frl ys =>
    cases e
    have h1' : Is R B H (.frl ys) x := h1
    unfold Is at h1'
    obtain ⟨a, vs, rfl, ha, hl⟩ := h1'
    exact call_len pins s σ H _ us Q I r ⟨_, vs.length, rfl, .inl ⟨vs, ha.elim (fun ha => .inl ha.2) fun ha => hK ▸ ha H, rfl⟩, by rw [hl.len]; exact q _ _ (fun _ _ z => z) intIs⟩
  | rng lo hi =>
    unfold bi at e
    dsimp only at e
    split at e
    · rename_i hc
      cases e
      have h1' : Is R B H (.rng lo hi) x := h1
      unfold Is at h1'
      obtain ⟨a, rfl, nb, ha⟩ := h1'
      obtain ⟨u, rfl, ru⟩ := vals1 r
      cases ru
      obtain ⟨t, t2, t3, hob⟩ := I.hok a _ ha
      refine PySem.call_len_range (n := (hi - lo).toNat) (a := lo) (b := hi) (c := 1) hob ?_ (by omega) ?_
      · rw [rangeSize_one]; split <;> omega
      · exact ⟨.int _, H, I.tok _, ⟨_, rfl⟩, q _ _ (fun _ _ z => z) intIs⟩
    · cases e
  | _ => cases e
theorem rng_ok {lo hi : Int} (h : rngOk lo hi = true) : RgOk lo hi := by
  unfold rngOk at h
  rw [Bool.and_eq_true, Bool.and_eq_true] at h
  obtain ⟨⟨a, b⟩, c⟩ := h
  have c' : (hi - lo).toNat ≤ line := of_decide_eq_true c
  unfold small62 at a b
  rw [Bool.and_eq_true, decide_eq_true_eq, decide_eq_true_eq] at a b
  unfold line at c'
  exact ⟨by omega, by omega, by omega, by omega, by omega⟩
theorem isL_rng {B : Bn} {H : Hp} (lo hi : Int) : IsL R B H (rngL lo (hi - lo).toNat) (rgV lo hi) := by
  have e1 : rngL lo (hi - lo).toNat = ((List.range (hi - lo).toNat).map fun (k : Nat) => lo + (k : Int)).map D.int := by unfold rngL; rw [List.map_map]; rfl
  have e2 : rgV lo hi = ((List.range (hi - lo).toNat).map fun (k : Nat) => lo + (k : Int)).map V.int := by unfold rgV; rw [List.map_map]; rfl
  rw [e1, e2]
  exact isL_ints _
theorem rng_at {B : Bn} {H : Hp} {lo hi : Int} {x : V} {s : Shared} {pins : List (Addr × Obj)} {σ : L2.St} (I : Inv X pins σ H s) (h : IsP R B H (.rng lo hi) x) : ∃ a t u v, x = .ref a ∧ IsRange s.heap a lo hi 1 t u v := by
  have h1' : Is R B H (.rng lo hi) x := h
  unfold Is at h1'
  obtain ⟨a, rfl, nb, ha⟩ := h1'
  obtain ⟨t, u, v, hob⟩ := I.hok a _ ha
  exact ⟨a, t, u, v, rfl, hob⟩
theorem call_listD (hc : X.calm = true) : CallR X (.type "list") (p1 R (bi .list)) := by
  intro pins s σ H xs us Q I r h
  obtain ⟨B, d1, d, x, rfl, h1, lv, e, q⟩ := h
  cases d1 with
  | tup ys =>
    cases e
    have h1' : Is R B H (.tup ys) x := h1
    unfold Is at h1'
    obtain ⟨a, vs, rfl, nb, ha, hl⟩ := h1'
    exact call_list_of pins s σ H _ us Q I r ⟨a, vs, rfl, .inr (SqT.of ha), fun p hp => q _ _ (ext_upd hp) (mkLst lv hp hl)⟩
  | lst ys =>
    cases e
    obtain ⟨a, vs, rfl, ha, hl⟩ := h1
    exact call_list_of pins s σ H _ us Q I r ⟨a, vs, rfl, .inl (SqL.of ha), fun p hp => q _ _ (ext_upd hp) (mkLst lv hp hl)⟩
  | rng lo hi =>
    unfold bi at e
    dsimp only at e
    split at e
    · rename_i hok
      cases e
      obtain ⟨b1, b2, b3, b4, b5⟩ := rng_ok hok
      obtain ⟨a, t, t2, t3, rfl, hr⟩ := rng_at I h1
      obtain ⟨u, rfl, ru⟩ := vals1 r
      cases ru
      refine call_list_range (n := (hi - lo).toNat) (I.ok.hd hc) hr (small_one b1 b2 b3 b4) (rangeSize_nat lo hi) b5 fun h' tk acc c' hk e' hi' => ?_
      have hn := I.hok.fresh (Nat.le_refl _)
      refine ⟨.ref s.heap.objs.size, upd H s.heap.objs.size (.lst (rgV lo hi)), I.laid hk (Nat.le_refl _) (show ObjOk X.prog X.w _ _ _ (.lst (rgV lo hi)) from ⟨by rw [rgV_length, sizeLine_eq]; omega, acc.toList, c', vals_rg hi', by rw [Array.toArray_toList]; exact e'⟩), rfl, q _ _ (ext_upd hn) (mkLst lv hn (isL_rng lo hi))⟩
    · cases e
  | _ => cases e
theorem call_tupleD (hc : X.calm = true) : CallR X (.type "tuple") (p1 R (bi .tuple)) := by
  intro pins s σ H xs us Q I r h
  obtain ⟨B, d1, d, x, rfl, h1, lv, e, q⟩ := h
  cases d1 with
  | tup ys =>
    cases e
    have h1' : Is R B H (.tup ys) x := h1
    unfold Is at h1'
    obtain ⟨a, vs, rfl, nb, ha, hl⟩ := h1'
    exact call_tuple_of pins s σ H _ us Q I r ⟨a, vs, rfl, .inr ⟨SqT.of ha, q _ _ (fun _ _ z => z) h1⟩⟩
  | lst ys =>
    cases e
    obtain ⟨a, vs, rfl, ha, hl⟩ := h1
    exact call_tuple_of pins s σ H _ us Q I r ⟨a, vs, rfl, .inl ⟨SqL.of ha, fun p hp => q _ _ (ext_upd hp) (mkTup lv hp hl)⟩⟩
  | rng lo hi =>
    unfold bi at e
    dsimp only at e
    split at e
    · rename_i hok
      cases e
      obtain ⟨b1, b2, b3, b4, b5⟩ := rng_ok hok
      obtain ⟨a, t, t2, t3, rfl, hr⟩ := rng_at I h1
      obtain ⟨u, rfl, ru⟩ := vals1 r
      cases ru
      refine call_tuple_range (n := (hi - lo).toNat) (I.ok.hd hc) hr (small_one b1 b2 b3 b4) (rangeSize_nat lo hi) b5 fun h' tk acc hk hi' => ?_
      have I2 : Inv X pins σ H { s with heap := h', toks := tk } := I.kept hk
      have hn : H h'.objs.size = none := I2.hok.fresh (Nat.le_refl _)
      refine ⟨.ref h'.objs.size, upd H h'.objs.size (.tup (rgV lo hi)), I2.laid (t' := tk) (fun c o e => Heap.get?_push_of_some _ e) (Nat.le_refl _) (show ObjOk X.prog X.w _ _ _ (.tup (rgV lo hi)) from ⟨by rw [rgV_length, sizeLine_eq]; omega, acc.toList, vals_rg hi', by rw [Array.toArray_toList]; exact IsTup.new _ _⟩), rfl, q _ _ (ext_upd hn) (mkTup lv hn (isL_rng lo hi))⟩
    · cases e
  | _ => cases e
theorem lstInts {B : Bn} {H : Hp} {ys : List D} {x : V} {is : List Int} (h : IsP R B H (.lst ys) x) (e : Mi.intsD ys = some is) : ∃ a, x = .ref a ∧ H a = some (.lst (is.map V.int)) := by
  obtain ⟨a, vs, rfl, ha, hl⟩ := h
  rw [hl.intsD e] at ha
  exact ⟨a, rfl, ha⟩
theorem call_sumD (hc : X.calm = true) : CallR X (.builtin "sum") (p1 R (bi .sum)) := by
  intro pins s σ H xs us Q I r h
  obtain ⟨B, d1, d, x, rfl, h1, lv, e, q⟩ := h
  cases d1 with
  | lst ys =>
    unfold bi at e
    dsimp only at e
    split at e
    · rename_i is hi
      cases e
      obtain ⟨a, rfl, ha⟩ := lstInts h1 hi
      exact cr_sum hc pins s σ H _ us Q I r ⟨a, is, rfl, SqL.of ha, q _ _ (fun _ _ z => z) intIs⟩
    · cases e
  | _ => cases e
theorem call_minD (hc : X.calm = true) : CallR X (.builtin "min") (p1 R (bi .min)) := by
  intro pins s σ H xs us Q I r h
  obtain ⟨B, d1, d, x, rfl, h1, lv, e, q⟩ := h
  cases d1 with
  | lst ys =>
    unfold bi at e
    dsimp only at e
    split at e
    · rename_i m t hi
      cases e
      obtain ⟨a, rfl, ha⟩ := lstInts h1 hi
      exact cr_min hc pins s σ H _ us Q I r ⟨a, m :: t, rfl, SqL.of ha, by simp, fun z h2 h3 => by rw [lmin_uniq h2 h3]; exact q _ _ (fun _ _ z => z) intIs⟩
    · cases e
  | _ => cases e
theorem call_maxD (hc : X.calm = true) : CallR X (.builtin "max") (p1 R (bi .max)) := by
  intro pins s σ H xs us Q I r h
  obtain ⟨B, d1, d, x, rfl, h1, lv, e, q⟩ := h
  cases d1 with
  | lst ys =>
    unfold bi at e
    dsimp only at e
    split at e
    · rename_i m t hi
      cases e
      obtain ⟨a, rfl, ha⟩ := lstInts h1 hi
      exact cr_max hc pins s σ H _ us Q I r ⟨a, m :: t, rfl, SqL.of ha, by simp, fun z h2 h3 => by rw [lmax_uniq h2 h3]; exact q _ _ (fun _ _ z => z) intIs⟩
    · cases e
  | _ => cases e
theorem lstBools {B : Bn} {H : Hp} {ys : List D} {x : V} {is : List Bool} (h : IsP R B H (.lst ys) x) (e : bools ys = some is) : ∃ a, x = .ref a ∧ H a = some (.lst (is.map V.bl)) := by
  obtain ⟨a, vs, rfl, ha, hl⟩ := h
  rw [hl.bools e] at ha
  exact ⟨a, rfl, ha⟩
theorem call_allD (hc : X.calm = true) : CallR X (.builtin "all") (p1 R (bi .all)) := by
  intro pins s σ H xs us Q I r h
  obtain ⟨B, d1, d, x, rfl, h1, lv, e, q⟩ := h
  cases d1 with
  | lst ys =>
    obtain ⟨bs, hb, rfl⟩ := Option.map_eq_some_iff.mp (show (bools ys).map (fun bs => D.bl (bs.all id)) = some d from e)
    obtain ⟨a, rfl, ha⟩ := lstBools h1 hb
    exact cr_all hc pins s σ H _ us Q I r ⟨a, bs, rfl, SqL.of ha, q _ _ (fun _ _ z => z) blIs⟩
  | _ => cases e
theorem call_anyD (hc : X.calm = true) : CallR X (.builtin "any") (p1 R (bi .any)) := by
  intro pins s σ H xs us Q I r h
  obtain ⟨B, d1, d, x, rfl, h1, lv, e, q⟩ := h
  cases d1 with
  | lst ys =>
    obtain ⟨bs, hb, rfl⟩ := Option.map_eq_some_iff.mp (show (bools ys).map (fun bs => D.bl (bs.any id)) = some d from e)
    obtain ⟨a, rfl, ha⟩ := lstBools h1 hb
    exact cr_any hc pins s σ H _ us Q I r ⟨a, bs, rfl, SqL.of ha, q _ _ (fun _ _ z => z) blIs⟩
  | _ => cases e
theorem call_intD : CallR X (.type "int") (p1 R (bi .int)) := by
  intro pins s σ H xs us Q I r h
  obtain ⟨B, d1, d, x, rfl, h1, lv, e, q⟩ := h
  cases d1 with
  | int i =>
    cases e
    have ex := isInt h1
    subst ex
    exact call_int1 pins s σ H _ us Q I r (.inl ⟨i, rfl, q _ _ (fun _ _ z => z) intIs⟩)
  | bl b =>
    cases e
    have ex : x = .bl b := by
      have h1' : Is R B H (.bl b) x := h1
      unfold Is at h1'
      exact h1'
    subst ex
    exact call_int1 pins s σ H _ us Q I r (.inr ⟨b, rfl, q _ _ (fun _ _ z => z) intIs⟩)
  | _ => cases e
theorem call_absD : CallR X (.builtin "abs") (p1 R (bi .abs)) := by
  intro pins s σ H xs us Q I r h
  obtain ⟨B, d1, d, x, rfl, h1, lv, e, q⟩ := h
  cases d1 with
  | int i =>
    cases e
    have ex := isInt h1
    subst ex
    exact call_abs pins s σ H _ us Q I r ⟨i, rfl, q _ _ (fun _ _ z => z) intIs⟩
  | _ => cases e
theorem mkRng {B : Bn} {H : Hp} {p : Addr} {lo hi : Int} (l : Live B H) (hp : H p = none) : Is R B (upd H p (.rng lo hi)) (.rng lo hi) (.ref p) := by
  unfold Is
  exact ⟨p, rfl, l.new hp, upd_same⟩
theorem call_rangeD : CallR X (.type "range") (p1 R (bi .range)) := by
  intro pins s σ H xs us Q I r h
  obtain ⟨B, d1, d, x, rfl, h1, lv, e, q⟩ := h
  cases d1 with
  | int i =>
    unfold bi at e
    dsimp only at e
    split at e
    · cases e
      have ex := isInt h1
      subst ex
      obtain ⟨u, rfl, t, rfl⟩ := vals1 r
      refine call_range_1 ⟨.ref s.heap.objs.size, upd H s.heap.objs.size (.rng 0 i), I.laid (t' := _) (fun b o e => Heap.get?_push_of_some _ e) (Nat.le_refl _) ?_, rfl, q _ _ (ext_upd (I.hok.fresh (Nat.le_refl _))) (mkRng lv (I.hok.fresh (Nat.le_refl _)))⟩
      exact ⟨_, _, _, Heap.get?_push_size _ rfl⟩
    · cases e
  | _ => cases e
theorem call_range2D : CallR X (.type "range") (p2 R (bi2 .range)) := by
  intro pins s σ H xs us Q I r h
  obtain ⟨B, d1, d2, d, x, y, rfl, h1, h2, lv, e, q⟩ := h
  unfold bi2 at e
  split at e
  · rename_i i j
    dsimp only at e
    split at e
    · cases e
      exact cr_range2 pins s σ H _ us Q I r ⟨i, j, by rw [isInt h1, isInt h2], fun p hp => q _ _ (ext_upd hp) (mkRng lv hp)⟩
    · cases e
  · cases e
theorem call_min2D (hc : X.calm = true) : CallR X (.builtin "min") (p2 R (bi2 .min)) := by
  intro pins s σ H xs us Q I r h
  obtain ⟨B, d1, d2, d, x, y, rfl, h1, h2, lv, e, q⟩ := h
  unfold bi2 at e
  split at e
  · rename_i i j
    cases e
    exact call_min2 hc pins s σ H _ us Q I r ⟨i, j, by rw [isInt h1, isInt h2], q _ _ (fun _ _ z => z) intIs⟩
  · cases e
theorem call_max2D (hc : X.calm = true) : CallR X (.builtin "max") (p2 R (bi2 .max)) := by
  intro pins s σ H xs us Q I r h
  obtain ⟨B, d1, d2, d, x, y, rfl, h1, h2, lv, e, q⟩ := h
  unfold bi2 at e
  split at e
  · rename_i i j
    cases e
    exact call_max2 hc pins s σ H _ us Q I r ⟨i, j, by rw [isInt h1, isInt h2], q _ _ (fun _ _ z => z) intIs⟩
  · cases e

/-! ### truth -/
theorem tru_is {B : Bn} {H : Hp} {d : D} {v : V} {b : Bool} (K : PySem.W.Frag) (h : IsP R B H d v) (e : d.tru = some b) : TruV K v H b := by
  cases d with
  | non =>
    cases e
    have h' : Is R B H .non v := h
    unfold Is at h'
    rw [h']
    exact rfl
  | bl c =>
    cases e
    have h' : Is R B H (.bl b) v := h
    unfold Is at h'
    rw [h']
    exact rfl
  | int i =>
    cases e
    rw [isInt h]
    exact rfl
  | tup xs =>
    cases e
    have h' : Is R B H (.tup xs) v := h
    unfold Is at h'
    obtain ⟨a, vs, rfl, nb, ha, hl⟩ := h'
    refine .inr (.inl ⟨vs, SqT.of ha, ?_⟩)
    have hl := hl.len
    cases xs <;> cases vs <;> first | rfl | (simp at hl)
  | lst xs =>
    cases e
    obtain ⟨a, vs, rfl, ha, hl⟩ := h
    refine .inl ⟨vs, SqL.of ha, ?_⟩
    have hl := hl.len
    cases xs <;> cases vs <;> first | rfl | (simp at hl)
  | _ => cases e
end
end Mi
set_option Elab.async false
set_option linter.all false
set_option maxRecDepth 100000
set_option maxHeartbeats 4000000
/-! Mi7: expressions. -/
namespace Mi
open PySem L2 PySem.Spec PyProof.Rows

/-- the context of code -/
structure Ct (X : Cx) (R : Rc) (W : WX) (N : List Str) (sc : Scope) (k : Nat) : Prop where
  prog : X.prog = R.P
  w : X.w = R.w
  K : X.K = R.K
  mg : X.mg = R.mg
  base : X.base = R.base
  eN : X.N = N
  nd : N.Nodup
  esc : X.env.scope = sc
  calm : X.calm = true
  room : Room k X.A
  tk : Takes X W
  tx : TxOk R
/-- where names are stored: the scope so -/
def Fs (X : Cx) (so : Scope) : Prop := ∀ x, so.names.lookup x = some .cell → X.fn x = true
def visB (sc : Scope) (x : Str) : Bool := match sc.names.lookup x with
  | some .local => true
  | some .cell => true
  | some .free => true
  | _ => false
def locB (sc : Scope) (x : Str) : Bool := match sc.names.lookup x with
  | some .local => true
  | some .cell => true
  | _ => false
def stB (so sc : Scope) (x : Str) : Bool := match so.names.lookup x with
  | some .local => sc.names.lookup x == some .local
  | some .cell => locB sc x
  | _ => false
theorem vis_of {sc : Scope} {x : Str} (h : visB sc x = true) : Vis sc x := by
  unfold visB at h
  unfold Vis
  split at h <;> simp_all
theorem loc_of {sc : Scope} {x : Str} (h : locB sc x = true) : L2.Loc sc x := by
  unfold locB at h
  unfold L2.Loc
  split at h <;> simp_all
section
variable {X : Cx} {R : Rc} {W : WX} {N : List Str} {sc : Scope} {k : Nat}
theorem Ct.gl (C : Ct X R W N sc k) {x : Str} (h : sc.names.lookup x = some .globalImplicit) : Gl X x := by
  unfold Gl Env.kindOf
  rw [C.esc]; exact h
theorem _root_.L2.PE.imp {e : Expr} {t t' : TE} (h : PE X e t) (i : ∀ σ H Q, t' σ H Q → t σ H Q) : PE X e t' := ⟨fun pins s σ H Q I q => h.run pins s σ H Q I (i σ H Q q)⟩
theorem _root_.L2.PT.imp {e : Expr} {t t' : TT} (h : PT X e t) (i : ∀ σ H Q, t' σ H Q → t σ H Q) : PT X e t' := ⟨fun pins s σ H Q I q => h.run pins s σ H Q I (i σ H Q q)⟩
theorem _root_.L2.PW.imp {e : Expr} {t t' : TT} (h : PW X e t) (i : ∀ σ H Q, t' σ H Q → t σ H Q) : PW X e t' := ⟨fun wh pins s σ H Q I q => h.run wh pins s σ H Q I (i σ H Q q)⟩
theorem _root_.L2.PA.imp {es : List Expr} {t t' : TA} (h : PA X es t) (i : ∀ σ H Q, t' σ H Q → t σ H Q) : PA X es t' := ⟨fun pos pins s σ H Q I q => h.run pos pins s σ H Q I (i σ H Q q)⟩
theorem _root_.L2.PO.imp {e : Option Expr} {t t' : TO} (h : PO X e t) (i : ∀ σ H Q, t' σ H Q → t σ H Q) : PO X e t' := ⟨fun pins s σ H Q I q => h.run pins s σ H Q I (i σ H Q q)⟩

/-! ### outcomes -/
variable {B B0 : Bn} {HB H0 H : Hp} {σV : L2.St} {ow : Ow} {s : S}
theorem Out.get {α : Type} {a : α} {K : α → S → Ow → Hp → Prop} (h : Out R W B HB B0 H σV (.ok a s) K) (F : Fr R B HB ow s.σ s.dr σV H) (st : Stp B0 H (Ban B ow s.σ) H) : K a s ow H := h ow H F st
theorem Out.oget {α : Type} {o : Option α} {K : α → S → Ow → Hp → Prop} (h : Out R W B HB (Ban B ow s.σ) H σV (oget o s) K) (F : Fr R B HB ow s.σ s.dr σV H) : ∃ a, o = some a ∧ ∀ H', Ext H H' → K a s ow H' := by
  cases o with
  | none => exact h.elim
  | some a => exact ⟨a, rfl, fun H' e => h ow H' (F.ext e) (Stp.new e)⟩
theorem force_is {α : Type} {h : Hd} {v : V} {g : D → M α} {K : α → S → Ow → Hp → Prop} (F : Fr R B HB ow s.σ s.dr σV H) (hv : HdIs R (Ban B ow s.σ) H σV h v) (o : Out R W B HB (Ban B ow s.σ) H σV ((force h s).then g) K) :
    ∃ d, IsP R (Ban B ow s.σ) H d v ∧ Out R W B HB (Ban B ow s.σ) H σV (g d s) K := by
  cases h with
  | dat d => exact ⟨d, Is.p hv, o⟩
  | «at» i =>
    have o' : Out R W B HB (Ban B ow s.σ) H σV ((mP i s).then g) K := o
    unfold mP at o'
    split at o'
    · rename_i d e
      obtain ⟨w, h1, h2⟩ := F.val i d e
      have hv' : σV[i]? = some (some v) := hv
      rw [h1] at hv'
      cases hv'
      exact ⟨d, h2.p, o'⟩
    · rename_i xs e
      obtain ⟨h1, ⟨_, vs, h2, h3⟩, _⟩ := F.own i _ (show heldAt s.σ i = some (.lst xs) by unfold heldAt; rw [e]; rfl)
      have hv' : σV[i]? = some (some v) := hv
      rw [h1] at hv'
      cases hv'
      exact ⟨.lst xs, ⟨_, vs, rfl, h2, h3⟩, o'⟩
    · rename_i xs e
      obtain ⟨h1, ⟨_, vs, h2, h3⟩, _⟩ := F.own i _ (show heldAt s.σ i = some (.lst xs) by unfold heldAt; rw [e]; rfl)
      have hv' : σV[i]? = some (some v) := hv
      rw [h1] at hv'
      cases hv'
      exact ⟨.lst xs, ⟨_, vs, rfl, h2, h3⟩, o'⟩
    · exact o'.elim

/-! ### names, constants -/
theorem m_v (C : Ct X R W N sc k) {i : Nat} {x : Str} {pos : Pos} (hN : N[i]? = some x) (hv : visB sc x = true) (hd : (x == ("__debug__" : Str)) = false) (hcd : (x == ("__classdict__" : Str)) = false) : PE X (.Name x pos) (tE R W (mV i)) := by
  refine (pe_var (by rw [C.eN]; exact hN) (by rw [C.esc]; exact vis_of hv) hd hcd).imp fun σV H Q h => ?_
  obtain ⟨B, HB, ow, σ, dr, F, h⟩ := h
  unfold mV at h
  dsimp only at h
  split at h
  · rename_i d e
    obtain ⟨v, h1, h2⟩ := F.val i d e
    exact ⟨v, h1, h ow H F (Stp.refl _ _) v h2⟩
  · rename_i d e
    have hh : heldAt σ i = some d := by unfold heldAt; rw [e]; rfl
    obtain ⟨F', v, h1, h2⟩ := F.freeze hh
    exact ⟨v, h1, h ow H F' (Stp.less ban_put) v h2⟩
  · exact h.elim
theorem m_p (C : Ct X R W N sc k) {i : Nat} {x : Str} {pos : Pos} (hN : N[i]? = some x) (hv : visB sc x = true) (hd : (x == ("__debug__" : Str)) = false) (hcd : (x == ("__classdict__" : Str)) = false) : PE X (.Name x pos) (tP R W (mP i)) := by
  refine (pe_var (by rw [C.eN]; exact hN) (by rw [C.esc]; exact vis_of hv) hd hcd).imp fun σV H Q h => ?_
  obtain ⟨B, HB, ow, σ, dr, F, h⟩ := h
  unfold mP at h
  dsimp only at h
  split at h
  · rename_i d e
    obtain ⟨v, h1, h2⟩ := F.val i d e
    exact ⟨v, h1, h ow H F (Stp.refl _ _) v h2.p⟩
  · rename_i xs e
    obtain ⟨h1, ⟨_, vs, h2, h3⟩, _⟩ := F.own i _ (show heldAt σ i = some (.lst xs) by unfold heldAt; rw [e]; rfl)
    exact ⟨_, h1, h ow H F (Stp.refl _ _) _ ⟨_, vs, rfl, h2, h3⟩⟩
  · rename_i xs e
    obtain ⟨h1, ⟨_, vs, h2, h3⟩, _⟩ := F.own i _ (show heldAt σ i = some (.lst xs) by unfold heldAt; rw [e]; rfl)
    exact ⟨_, h1, h ow H F (Stp.refl _ _) _ ⟨_, vs, rfl, h2, h3⟩⟩
  · exact h.elim
theorem h_p (C : Ct X R W N sc k) {i : Nat} {x : Str} {pos : Pos} (hN : N[i]? = some x) (hv : visB sc x = true) (hd : (x == ("__debug__" : Str)) = false) (hcd : (x == ("__classdict__" : Str)) = false) : PE X (.Name x pos) (tH R W (hP i)) := by
  refine (pe_var (by rw [C.eN]; exact hN) (by rw [C.esc]; exact vis_of hv) hd hcd).imp fun σV H Q h => ?_
  obtain ⟨B, HB, ow, σ, dr, F, h⟩ := h
  unfold hP at h
  dsimp only at h
  split at h
  · rename_i d e
    obtain ⟨v, h1, h2⟩ := F.val i d e
    exact ⟨v, h1, h ow H F (Stp.refl _ _) v h1⟩
  · rename_i d e
    obtain ⟨h1, _⟩ := F.own i d (by unfold heldAt; rw [e]; rfl)
    exact ⟨_, h1, h ow H F (Stp.refl _ _) _ h1⟩
  · rename_i d e
    obtain ⟨h1, _⟩ := F.own i d (by unfold heldAt; rw [e]; rfl)
    exact ⟨_, h1, h ow H F (Stp.refl _ _) _ h1⟩
  · exact h.elim
theorem h_e {e : Expr} {m : M D} (h : PE X e (tE R W m)) : PE X e (tH R W (hE m)) := h.imp fun σV H Q q => by
  obtain ⟨B, HB, ow, σ, dr, F, q⟩ := q
  exact ⟨B, HB, ow, σ, dr, F, Out.mono (Out.bind q) fun d s ow1 H1 F1 st1 h1 v hv => h1 ow1 H1 F1 (Stp.refl _ _) v hv⟩
theorem p_e {e : Expr} {m : M D} (h : PE X e (tE R W m)) : PE X e (tP R W m) := h.imp fun σV H Q q => by
  obtain ⟨B, HB, ow, σ, dr, F, q⟩ := q
  exact ⟨B, HB, ow, σ, dr, F, Out.mono q fun d s ow1 H1 F1 st1 h1 v hv => h1 v hv.p⟩
theorem tE_k {d : D} {v : V} {σV : L2.St} {H : Hp} {Q : VK} (hv : ∀ B H, Is R B H d v) (h : tE R W (mK d) σV H Q) : Q v H := by
  obtain ⟨B, HB, ow, σ, dr, F, h⟩ := h
  exact h ow H F (Stp.refl _ _) v (hv _ _)
theorem m_int {i : Int} {j : Nat} {pos : Pos} : PE X (.Constant (.int i) j pos) (tE R W (mK (.int i))) := pe_int.imp fun σV H Q h => tE_k (fun _ _ => intIs) h
theorem m_bl {b : Bool} {j : Nat} {pos : Pos} : PE X (.Constant (.bool b) j pos) (tE R W (mK (.bl b))) := pe_bl.imp fun σV H Q h => tE_k (fun _ _ => blIs) h
theorem m_non {j : Nat} {pos : Pos} : PE X (.Constant .none j pos) (tE R W (mK .non)) := pe_non.imp fun σV H Q h => tE_k (v := .non) (fun _ _ => by unfold Is; rfl) h
theorem m_str {n : Nat} {x : Str} {j : Nat} {pos : Pos} (e : R.txts[n]? = some x) : PE X (.Constant (.str x) j pos) (tE R W (mK (.str n))) := pe_str.imp fun σV H Q h => tE_k (v := .str x) (fun _ _ => by unfold Is; exact ⟨x, e, rfl⟩) h
theorem m_cls (C : Ct X R W N sc k) {c : Nat} {x : Str} {pos : Pos} (hg : sc.names.lookup x = some .globalImplicit) (hm : R.mg x = some (.ref (R.ca c))) (hd : (x == ("__debug__" : Str)) = false) : PE X (.Name x pos) (tE R W (mK (.cls c))) :=
  (pe_glob (v := .ref (R.ca c)) (C.gl hg) (by rw [C.mg]; exact hm) rfl hd).imp fun σV H Q h => tE_k (fun _ _ => by unfold Is; rfl) h

/-! ### operators -/
variable {a b c : Expr} {ma mb mc : M D} {ha hb : M Hd} {pos : Pos}
theorem m_bin (C : Ct X R W N sc k) {o : Bop} {op : Operator} (eo : op = bop o) (h1 : PE X a (tE R W ma)) (h2 : PE X b (tE R W mb)) : PE X (.BinOp a op b pos) (tE R W (mBin o ma mb)) := by
  subst eo
  refine (pe_op (op_bin C.K o) h1 h2).imp fun σV H Q h => ?_
  obtain ⟨B, HB, ow, σ, dr, F, h⟩ := h
  refine ⟨B, HB, ow, σ, dr, F, Out.mono (Out.bind h) fun x s ow1 H1 F1 st1 h1 v hv => ?_⟩
  refine ⟨B, HB, ow1, s.σ, s.dr, F1, Out.mono (Out.bind h1) fun y s2 ow2 H2 F2 st2 h2 u hu => ?_⟩
  obtain ⟨d, e, q⟩ := Out.oget h2 F2
  exact ⟨_, x, y, d, (hv.stp st2).p, hu.p, F2.liveB, e, fun v H' ex hi => q H' ex v hi⟩
theorem m_neg (h1 : PE X a (tE R W ma)) : PE X (.UnaryOp .USub a pos) (tE R W (mNeg ma)) := by
  refine (pe_un un_neg h1).imp fun σV H Q h => ?_
  obtain ⟨B, HB, ow, σ, dr, F, h⟩ := h
  refine ⟨B, HB, ow, σ, dr, F, Out.mono (Out.bind h) fun x s ow1 H1 F1 st1 h1 v hv => ?_⟩
  cases x with
  | int i =>
    have ev := isInt hv.p
    subst ev
    exact ⟨i, rfl, h1 ow1 H1 F1 (Stp.refl _ _) _ intIs⟩
  | _ => exact h1.elim
theorem m_cmp (C : Ct X R W N sc k) {o : Cop} {op : CmpOp} (eo : op = cop o) (h1 : PE X a (tH R W ha)) (h2 : PE X b (tH R W hb)) (hm : behindInMarks op b = false) : PE X (.Compare a [op] [b] pos) (tE R W (mCmp o ha hb)) := by
  subst eo
  refine (pe_cmpR (op_cmp C.K C.tx (by have := C.room.un; omega) o) h1 h2 hm).imp fun σV H Q h => ?_
  obtain ⟨B, HB, ow, σ, dr, F, h⟩ := h
  refine ⟨B, HB, ow, σ, dr, F, Out.mono (Out.bind h) fun x s ow1 H1 F1 st1 h1 v hv => ?_⟩
  refine ⟨B, HB, ow1, s.σ, s.dr, F1, Out.mono (Out.bind h1) fun y s2 ow2 H2 F2 st2 h2 u hu => ?_⟩
  obtain ⟨d, hd, h3⟩ := force_is F2 (hv.stp st2) h2
  obtain ⟨e, he, h4⟩ := force_is F2 hu h3
  obtain ⟨r, hr, q⟩ := Out.oget (Out.bind h4) F2
  refine ⟨_, d, e, .bl r, hd, he, F2.liveB, by unfold cmpD; rw [hr]; rfl, fun w H' ex hi => ?_⟩
  exact (q H' ex) ow2 H' (F2.ext ex) (Stp.refl _ _) w hi
theorem m_isN (neg : Bool) {op : CmpOp} (eo : op = if neg then .IsNot else .Is) {j : Nat} {p2 : Pos} (h1 : PE X a (tP R W ma)) : PE X (.Compare a [op] [.Constant .none j p2] pos) (tE R W (mIsN neg ma)) := by
  have key : ∀ σV H Q, tE R W (mIsN neg ma) σV H Q → tP R W ma σV H fun x H1 => Q (.bl ((decide (x = V.non)) != neg)) H1 := fun σV H Q h => by
    obtain ⟨B, HB, ow, σ, dr, F, h⟩ := h
    refine ⟨B, HB, ow, σ, dr, F, Out.mono (Out.bind h) fun x s ow1 H1 F1 st1 h1 v hv => ?_⟩
    have en : decide (v = V.non) = x.isNon := by
      cases x with
      | non =>
        have hv' : Is R (Ban B ow1 s.σ) H1 .non v := hv
        unfold Is at hv'
        subst hv'
        rfl
      | lst xs => obtain ⟨a, vs, rfl, _⟩ := hv; rfl
      | bl b => have hv' : Is R (Ban B ow1 s.σ) H1 (.bl b) v := hv; unfold Is at hv'; subst hv'; rfl
      | int i => rw [isInt hv]; rfl
      | str n => have hv' : Is R (Ban B ow1 s.σ) H1 (.str n) v := hv; unfold Is at hv'; obtain ⟨_, _, rfl⟩ := hv'; rfl
      | tup n => have hv' : Is R (Ban B ow1 s.σ) H1 (.tup n) v := hv; unfold Is at hv'; obtain ⟨_, _, rfl, _⟩ := hv'; rfl
      | rng n m => have hv' : Is R (Ban B ow1 s.σ) H1 (.rng n m) v := hv; unfold Is at hv'; obtain ⟨_, rfl, _⟩ := hv'; rfl
      | ins n m l => have hv' : Is R (Ban B ow1 s.σ) H1 (.ins n m l) v := hv; unfold Is at hv'; obtain ⟨_, _, _, rfl, _⟩ := hv'; rfl
      | cls n => have hv' : Is R (Ban B ow1 s.σ) H1 (.cls n) v := hv; unfold Is at hv'; subst hv'; rfl
      | dr => have hv' : Is R (Ban B ow1 s.σ) H1 .dr v := hv; unfold Is at hv'; rw [hv'.2]; rfl
      | frl n => have hv' : Is R (Ban B ow1 s.σ) H1 (.frl n) v := hv; unfold Is at hv'; obtain ⟨_, _, rfl, _⟩ := hv'; rfl
    show Q (.bl (decide (v = V.non) != neg)) H1
    rw [en]
    exact h1 ow1 H1 F1 (Stp.refl _ _) _ blIs
  subst eo
  cases neg with
  | false =>
    refine (pe_cmp (pc_isN h1)).imp fun σV H Q h => ?_
    have := key σV H Q h
    simpa [tIsN] using this
  | true =>
    refine (pe_cmp (pc_notN h1)).imp fun σV H Q h => ?_
    have := key σV H Q h
    simpa [tNotN] using this
theorem isBl {B : Bn} {H : Hp} {b : Bool} {v : V} (h : Is R B H (.bl b) v) : v = .bl b := by unfold Is at h; exact h
theorem m_and1 {op : BoolOp} (h1 : PE X a (tE R W ma)) : PE X (.BoolOp op [a] pos) (tE R W ma) := pe_one h1
theorem m_and {rest : List Expr} (h1 : PE X a (tE R W ma)) (h2 : PE X (.BoolOp .And (b :: rest) pos) (tE R W mb)) : PE X (.BoolOp .And (a :: b :: rest) pos) (tE R W (mAnd ma mb)) := by
  refine (pe_and h1 h2).imp fun σV H Q h => ?_
  obtain ⟨B, HB, ow, σ, dr, F, h⟩ := h
  refine ⟨B, HB, ow, σ, dr, F, Out.mono (Out.bind h) fun x s ow1 H1 F1 st1 h1 v hv => ?_⟩
  cases x with
  | bl c =>
    refine ⟨c, isBl hv, ?_⟩
    cases c with
    | true => exact ⟨B, HB, ow1, s.σ, s.dr, F1, h1⟩
    | false => exact h1 ow1 H1 F1 (Stp.refl _ _) _ blIs
  | _ => exact h1.elim
theorem m_or {rest : List Expr} (h1 : PE X a (tE R W ma)) (h2 : PE X (.BoolOp .Or (b :: rest) pos) (tE R W mb)) : PE X (.BoolOp .Or (a :: b :: rest) pos) (tE R W (mOr ma mb)) := by
  refine (pe_or h1 h2).imp fun σV H Q h => ?_
  obtain ⟨B, HB, ow, σ, dr, F, h⟩ := h
  refine ⟨B, HB, ow, σ, dr, F, Out.mono (Out.bind h) fun x s ow1 H1 F1 st1 h1 v hv => ?_⟩
  cases x with
  | bl c =>
    refine ⟨c, isBl hv, ?_⟩
    cases c with
    | false => exact ⟨B, HB, ow1, s.σ, s.dr, F1, h1⟩
    | true => exact h1 ow1 H1 F1 (Stp.refl _ _) _ blIs
  | _ => exact h1.elim

/-! ### tests -/
variable {ta tb : M Bool}
theorem t_v (h1 : PE X a (tP R W ma)) (he : ∀ whole, isTrue a X.env whole = (do let v ← whole; standAt a.pos; holding [v] (truthy v))) : PT X a (tT R W (tV ma)) := by
  refine (pt_truth h1 he).imp fun σV H Q h => ?_
  obtain ⟨B, HB, ow, σ, dr, F, h⟩ := h
  refine ⟨B, HB, ow, σ, dr, F, Out.mono (Out.bind h) fun x s ow1 H1 F1 st1 h1 v hv => ?_⟩
  obtain ⟨r, e, q⟩ := Out.oget h1 F1
  exact ⟨r, tru_is X.K hv e, q H1 fun _ _ z => z⟩
/-- a value that is a bool, as a test of another form -/
theorem tV_bl {σV : L2.St} {H : Hp} {Q : Bool → Hp → Prop} (h : tT R W (tV ma) σV H Q) (hb : ∀ s d s', ma s = .ok d s' → ∃ b, d = .bl b) : tE R W ma σV H fun x H' => ∃ k, x = .bl k ∧ Q k H' := by
  obtain ⟨B, HB, ow, σ, dr, F, h⟩ := h
  refine ⟨B, HB, ow, σ, dr, F, ?_⟩
  have h' := Out.bind h
  cases e : ma ⟨σ, dr⟩ with
  | no => rw [e] at h'; exact h'
  | ex c ns vs s => rw [e] at h'; exact h'
  | ok d s =>
    rw [e] at h'
    obtain ⟨b, rfl⟩ := hb _ _ _ e
    intro ow1 H1 F1 st1 v hv
    obtain ⟨r, e2, q⟩ := Out.oget (h' ow1 H1 F1 st1) F1
    cases e2
    exact ⟨b, isBl hv, q H1 fun _ _ z => z⟩
theorem then_ok {α β : Type} {r : Res α} {f : α → M β} {d : β} {s : S} (h : r.then f = .ok d s) : ∃ a s', r = .ok a s' ∧ f a s' = .ok d s := by
  cases r with
  | ok a s' => exact ⟨a, s', rfl, h⟩
  | ex c ns vs s' => cases h
  | no => cases h
theorem cmp_bl {o : Cop} : ∀ s d s', mCmp o ha hb s = .ok d s' → ∃ b, d = .bl b := fun s d s' h => by
  obtain ⟨_, _, _, h⟩ := then_ok h
  obtain ⟨_, _, _, h⟩ := then_ok h
  obtain ⟨_, _, _, h⟩ := then_ok h
  obtain ⟨_, _, _, h⟩ := then_ok h
  obtain ⟨b, _, _, h⟩ := then_ok h
  cases h
  exact ⟨b, rfl⟩
theorem t_cmp (C : Ct X R W N sc k) {o : Cop} {op : CmpOp} (eo : op = cop o) (h1 : PE X a (tH R W ha)) (h2 : PE X b (tH R W hb)) (hm : behindInMarks op b = false) : PT X (.Compare a [op] [b] pos) (tT R W (tV (mCmp o ha hb))) := by
  subst eo
  refine (pt_cmpR (op_cmp C.K C.tx (by have := C.room.un; omega) o) h1 h2 hm).imp fun σV H Q h => ?_
  have h := tV_bl h cmp_bl
  obtain ⟨B, HB, ow, σ, dr, F, h⟩ := h
  refine ⟨B, HB, ow, σ, dr, F, Out.mono (Out.bind h) fun x s ow1 H1 F1 st1 h1 v hv => ?_⟩
  refine ⟨B, HB, ow1, s.σ, s.dr, F1, Out.mono (Out.bind h1) fun y s2 ow2 H2 F2 st2 h2 u hu => ?_⟩
  obtain ⟨d, hd, h3⟩ := force_is F2 (hv.stp st2) h2
  obtain ⟨e, he, h4⟩ := force_is F2 hu h3
  obtain ⟨r, hr, q⟩ := Out.oget (Out.bind h4) F2
  refine ⟨_, d, e, .bl r, hd, he, F2.liveB, by unfold cmpD; rw [hr]; rfl, fun w H' ex hi => ?_⟩
  exact (q H' ex) ow2 H' (F2.ext ex) (Stp.refl _ _) w hi
theorem t_isN (neg : Bool) {op : CmpOp} (eo : op = if neg then .IsNot else .Is) {j : Nat} {p2 : Pos} (h1 : PE X a (tP R W ma)) : PT X (.Compare a [op] [.Constant .none j p2] pos) (tT R W (tV (mIsN neg ma))) := by
  have h := m_isN (pos := pos) neg eo (j := j) (p2 := p2) h1
  have bl : ∀ s d s', mIsN neg ma s = .ok d s' → ∃ b, d = .bl b := fun s d s' h => by
    obtain ⟨x, _, _, h⟩ := then_ok h
    cases h
    exact ⟨_, rfl⟩
  refine ⟨fun pins s σ H Q I hw => ?_⟩
  have hm : behindInMarks op (.Constant .none j p2) = false := nobehind _ (by subst eo; cases neg <;> decide) (by subst eo; cases neg <;> decide)
  have key : PC X op a (.Constant .none j p2) (tE R W (mIsN neg ma)) := by
    subst eo
    refine ⟨fun pins s σ H Q I hq => ?_⟩
    have hh : tP R W ma σ H fun x H1 => Q (.bl ((decide (x = V.non)) != neg)) H1 := by
      obtain ⟨B, HB, ow, σ', dr, F, hq⟩ := hq
      refine ⟨B, HB, ow, σ', dr, F, Out.mono (Out.bind hq) fun x s ow1 H1 F1 st1 h1 v hv => ?_⟩
      have en : decide (v = V.non) = x.isNon := by
        cases x with
        | non => have hv' : Is R (Ban B ow1 s.σ) H1 .non v := hv; unfold Is at hv'; subst hv'; rfl
        | lst xs => obtain ⟨a, vs, rfl, _⟩ := hv; rfl
        | bl b => have hv' : Is R (Ban B ow1 s.σ) H1 (.bl b) v := hv; unfold Is at hv'; subst hv'; rfl
        | int i => rw [isInt hv]; rfl
        | str n => have hv' : Is R (Ban B ow1 s.σ) H1 (.str n) v := hv; unfold Is at hv'; obtain ⟨_, _, rfl⟩ := hv'; rfl
        | tup n => have hv' : Is R (Ban B ow1 s.σ) H1 (.tup n) v := hv; unfold Is at hv'; obtain ⟨_, _, rfl, _⟩ := hv'; rfl
        | rng n m => have hv' : Is R (Ban B ow1 s.σ) H1 (.rng n m) v := hv; unfold Is at hv'; obtain ⟨_, rfl, _⟩ := hv'; rfl
        | ins n m l => have hv' : Is R (Ban B ow1 s.σ) H1 (.ins n m l) v := hv; unfold Is at hv'; obtain ⟨_, _, _, rfl, _⟩ := hv'; rfl
        | cls n => have hv' : Is R (Ban B ow1 s.σ) H1 (.cls n) v := hv; unfold Is at hv'; subst hv'; rfl
        | dr => have hv' : Is R (Ban B ow1 s.σ) H1 .dr v := hv; unfold Is at hv'; rw [hv'.2]; rfl
        | frl n => have hv' : Is R (Ban B ow1 s.σ) H1 (.frl n) v := hv; unfold Is at hv'; obtain ⟨_, _, rfl, _⟩ := hv'; rfl
      show Q (.bl (decide (v = V.non) != neg)) H1
      rw [en]
      exact h1 ow1 H1 F1 (Stp.refl _ _) _ blIs
    cases neg with
    | false => exact (pc_isN h1).run pins s σ H Q I (by simpa [tIsN] using hh)
    | true => exact (pc_notN h1).run pins s σ H Q I (by simpa [tNotN] using hh)
  exact (pt_cmp key hm).run pins s σ H Q I (tV_bl hw bl)
theorem t_not (h1 : PT X a (tT R W ta)) : PT X (.UnaryOp .Not a pos) (tT R W (tNot ta)) := by
  refine (pt_not h1).imp fun σV H Q h => ?_
  obtain ⟨B, HB, ow, σ, dr, F, h⟩ := h
  exact ⟨B, HB, ow, σ, dr, F, Out.mono (Out.bind h) fun x s ow1 H1 F1 st1 h1 => h1 ow1 H1 F1 (Stp.refl _ _)⟩
theorem w_pt {e : Expr} (h : PW X e (tT R W ta)) : PT X e (tT R W ta) := h.pt
theorem w_and1 (h : PT X a (tT R W ta)) : PW X (.BoolOp .And [a] pos) (tT R W ta) := pw_and1 h
theorem w_or1 (h : PT X a (tT R W ta)) : PW X (.BoolOp .Or [a] pos) (tT R W ta) := pw_or1 h
theorem w_and {rest : List Expr} (h1 : PT X a (tT R W ta)) (h2 : PW X (.BoolOp .And (b :: rest) pos) (tT R W tb)) : PW X (.BoolOp .And (a :: b :: rest) pos) (tT R W (tAnd ta tb)) := by
  refine (pw_and h1 h2).imp fun σV H Q h => ?_
  obtain ⟨B, HB, ow, σ, dr, F, h⟩ := h
  refine ⟨B, HB, ow, σ, dr, F, Out.mono (Out.bind h) fun c s ow1 H1 F1 st1 h1 => ?_⟩
  cases c with
  | true => exact ⟨B, HB, ow1, s.σ, s.dr, F1, h1⟩
  | false => exact h1 ow1 H1 F1 (Stp.refl _ _)
theorem w_or {rest : List Expr} (h1 : PT X a (tT R W ta)) (h2 : PW X (.BoolOp .Or (b :: rest) pos) (tT R W tb)) : PW X (.BoolOp .Or (a :: b :: rest) pos) (tT R W (tOr ta tb)) := by
  refine (pw_or h1 h2).imp fun σV H Q h => ?_
  obtain ⟨B, HB, ow, σ, dr, F, h⟩ := h
  refine ⟨B, HB, ow, σ, dr, F, Out.mono (Out.bind h) fun c s ow1 H1 F1 st1 h1 => ?_⟩
  cases c with
  | false => exact ⟨B, HB, ow1, s.σ, s.dr, F1, h1⟩
  | true => exact h1 ow1 H1 F1 (Stp.refl _ _)
theorem pe_notT {tv : TE} (ha : PE X a tv) : PE X (.UnaryOp .Not a pos) (fun σ H Q => tv σ H fun x H1 => ∃ k, TruV X.K x H1 k ∧ Q (.bl (!k)) H1) := by
  refine ⟨fun pins s σ H Q I h => ?_⟩
  refine UnaryOp_ (thn (ha.run pins s σ H _ I h) fun v s1 ⟨x, H1, I1, r1, k, e, q⟩ => ?_)
  exact not_of (thn (tru_ok pins s1 σ H1 x v (fun b H' => Q (.bl (!b)) H') I1 r1 ⟨k, e, q⟩) fun b s2 ⟨H2, I2, q2⟩ => ⟨.bl (!b), H2, I2, rfl, q2⟩)
theorem m_not (h1 : PE X a (tP R W ma)) : PE X (.UnaryOp .Not a pos) (tE R W (mNot (tV ma))) := by
  refine (pe_notT h1).imp fun σV H Q h => ?_
  obtain ⟨B, HB, ow, σ, dr, F, h⟩ := h
  refine ⟨B, HB, ow, σ, dr, F, ?_⟩
  have e : (mNot (tV ma)) ⟨σ, dr⟩ = (ma ⟨σ, dr⟩).then fun x s => (oget x.tru s).then fun b s => .ok (D.bl !b) s := by
    unfold mNot tV
    cases ma ⟨σ, dr⟩ <;> rfl
  rw [e] at h
  refine Out.mono (Out.bind h) fun x s ow1 H1 F1 st1 h1 v hv => ?_
  obtain ⟨r, hr, q⟩ := Out.oget (Out.bind h1) F1
  exact ⟨r, tru_is X.K hv hr, (q H1 fun _ _ z => z) ow1 H1 F1 (Stp.refl _ _) _ blIs⟩
theorem m_if (h1 : PT X c (tT R W ta)) (h2 : PE X a (tE R W ma)) (h3 : PE X b (tE R W mb)) : PE X (.IfExp c a b pos) (tE R W (mIf ta ma mb)) := by
  refine (pe_ifExp h1 h2 h3).imp fun σV H Q h => ?_
  obtain ⟨B, HB, ow, σ, dr, F, h⟩ := h
  refine ⟨B, HB, ow, σ, dr, F, Out.mono (Out.bind h) fun c s ow1 H1 F1 st1 h1 => ?_⟩
  cases c with
  | true => exact ⟨B, HB, ow1, s.σ, s.dr, F1, h1⟩
  | false => exact ⟨B, HB, ow1, s.σ, s.dr, F1, h1⟩

/-! ### argument lists, displays -/
variable {es : List Expr} {mr mr2 : M (List D)}
theorem a_nil : PA X [] (tA R W mNil) := pa_nil.imp fun σV H Q h => by
  obtain ⟨B, HB, ow, σ, dr, F, h⟩ := h
  exact h ow H F (Stp.refl _ _) [] IsL.nil
theorem a_cons (h1 : PE X a (tE R W ma)) (h2 : PA X es (tA R W mr)) (hs : starEach (a :: es) X.env = (false, eval a X.env) :: starEach es X.env := by rfl) : PA X (a :: es) (tA R W (mCons ma mr)) := by
  refine (pa_cons h1 h2 hs).imp fun σV H Q h => ?_
  obtain ⟨B, HB, ow, σ, dr, F, h⟩ := h
  refine ⟨B, HB, ow, σ, dr, F, Out.mono (Out.bind h) fun x s ow1 H1 F1 st1 h1 v hv => ?_⟩
  refine ⟨B, HB, ow1, s.σ, s.dr, F1, Out.mono (Out.bind h1) fun y s2 ow2 H2 F2 st2 h2 u hu => ?_⟩
  exact h2 ow2 H2 F2 (Stp.refl _ _) _ (IsL.cons (hv.stp st2) hu)
theorem m_tup {j : Nat} (h1 : PA X es (tA R W mr)) : PE X (.Tuple es j pos) (tE R W (mTup mr)) := by
  refine (pe_tup h1).imp fun σV H Q h => ?_
  obtain ⟨B, HB, ow, σ, dr, F, h⟩ := h
  refine ⟨B, HB, ow, σ, dr, F, Out.mono (Out.bind h) fun x s ow1 H1 F1 st1 h1 v hv => ?_⟩
  split at h1
  · rename_i hl
    refine ⟨by rw [hv.len, ← line_eq]; exact hl, fun p hp => ?_⟩
    exact h1 ow1 _ (F1.ext (ext_upd hp)) (Stp.new (ext_upd hp)) _ (mkTup F1.liveB hp hv)
  · exact h1.elim
theorem m_lst (h1 : PA X es (tA R W mr)) : PE X (.List es pos) (tE R W (mLst mr)) := by
  refine (pe_lst h1).imp fun σV H Q h => ?_
  obtain ⟨B, HB, ow, σ, dr, F, h⟩ := h
  refine ⟨B, HB, ow, σ, dr, F, Out.mono (Out.bind h) fun x s ow1 H1 F1 st1 h1 v hv => ?_⟩
  split at h1
  · rename_i hl
    refine ⟨by rw [hv.len, ← line_eq]; exact hl, fun p hp => ?_⟩
    exact h1 ow1 _ (F1.ext (ext_upd hp)) (Stp.new (ext_upd hp)) _ (mkLst F1.liveB hp hv)
  · exact h1.elim

/-! ### subscripts, slices -/
theorem m_sub (C : Ct X R W N sc k) (h1 : PE X a (tH R W ha)) (h2 : PE X b (tE R W mb)) (hs : PlainIx b) : PE X (.Subscript a b pos) (tE R W (mSub ha mb)) := by
  refine (pe_ix (ix_sub (R := R) C.K.symm) h1 h2 hs).imp fun σV H Q h => ?_
  obtain ⟨B, HB, ow, σ, dr, F, h⟩ := h
  refine ⟨B, HB, ow, σ, dr, F, Out.mono (Out.bind h) fun x s ow1 H1 F1 st1 h1 v hv => ?_⟩
  refine ⟨B, HB, ow1, s.σ, s.dr, F1, Out.mono (Out.bind h1) fun y s2 ow2 H2 F2 st2 h2 u hu => ?_⟩
  obtain ⟨d, hd, h3⟩ := force_is F2 (hv.stp st2) h2
  obtain ⟨r, hr, q⟩ := Out.oget h3 F2
  exact ⟨_, d, y, r, hd, hu.p, F2.liveB, hr, fun w H' ex hi => q H' ex w hi⟩
def tOo (R : Rc) (W : WX) (f : M (Option Int)) : TO := fun σV H Q => tM R W f (fun o _ H' _ => Q o H') σV H
theorem o_no : PO X none (tOo R W oNo) := po_none.imp fun σV H Q h => by
  obtain ⟨B, HB, ow, σ, dr, F, h⟩ := h
  exact h ow H F (Stp.refl _ _)
theorem o_yes (h1 : PE X a (tE R W ma)) : PO X (some a) (tOo R W (oYes ma)) := by
  refine (po_some h1).imp fun σV H Q h => ?_
  obtain ⟨B, HB, ow, σ, dr, F, h⟩ := h
  refine ⟨B, HB, ow, σ, dr, F, Out.mono (Out.bind h) fun x s ow1 H1 F1 st1 h1 v hv => ?_⟩
  cases x with
  | int i => exact ⟨i, isInt hv.p, h1 ow1 H1 F1 (Stp.refl _ _)⟩
  | _ => exact h1.elim
theorem m_sli {lo hi : Option Expr} {ol oh : M (Option Int)} {p2 : Pos} (h1 : PE X a (tH R W ha)) (h2 : PO X lo (tOo R W ol)) (h3 : PO X hi (tOo R W oh)) : PE X (.Subscript a (.Slice lo hi none p2) pos) (tE R W (mSli ha ol oh)) := by
  refine (pe_slice (sl_sli (R := R)) h1 h2 h3).imp fun σV H Q h => ?_
  obtain ⟨B, HB, ow, σ, dr, F, h⟩ := h
  refine ⟨B, HB, ow, σ, dr, F, Out.mono (Out.bind h) fun x s ow1 H1 F1 st1 h1 v hv => ?_⟩
  refine ⟨B, HB, ow1, s.σ, s.dr, F1, Out.mono (Out.bind h1) fun l s2 ow2 H2 F2 st2 h2 => ?_⟩
  refine ⟨B, HB, ow2, s2.σ, s2.dr, F2, Out.mono (Out.bind h2) fun u s3 ow3 H3 F3 st3 h3 => ?_⟩
  obtain ⟨d, hd, h4⟩ := force_is F3 (hv.stp (st2.trans st3)) h3
  obtain ⟨r, hr, q⟩ := Out.oget h4 F3
  exact ⟨_, d, r, hd, F3.liveB, hr, fun w H' ex hi => q H' ex w hi⟩

/-! ### built-ins -/
/-- the built-in names are none of the text's -/
structure Bl (R : Rc) : Prop where
  no : ∀ x : Str, x ∈ (["len", "list", "tuple", "sorted", "set", "sum", "min", "max", "all", "any", "int", "range", "abs", "isinstance", "enumerate", "zip", "reversed", "bool", "str", "Exception", "ValueError", "type", "dict", "iter", "NotImplemented"] : List Str) → R.mg x = none
theorem m_biB (C : Ct X R W N sc k) (bl : Bl R) {b : Bi} {x : Str} {id : String} {p : Pos} (hc : CallR X (.builtin id) (p1 R (bi b))) (hx : x ∈ (["len", "sorted", "sum", "min", "max", "all", "any", "abs"] : List Str)) (hv : bootBuiltins x = some (.builtin id)) (hg : sc.names.lookup x = some .globalImplicit)
    (h1 : PE X a (tP R W ma)) (hn : x ≠ "__name__") (hdb : (x == ("__debug__" : Str)) = false) (hs : starEach [a] X.env = [(false, eval a X.env)] := by rfl) : PE X (.Call (.Name x p) [a] [] pos) (tE R W (mBi b ma)) := by
  have hm : X.mg x = none := by
    rw [C.mg]
    refine bl.no x ?_
    simp only [List.mem_cons, List.not_mem_nil, or_false] at hx ⊢
    rcases hx with h | h | h | h | h | h | h | h <;> simp [h]
  refine (pe_callB hc (C.gl hg) hm hv (pa_cons h1 pa_nil hs) hn hdb hs rfl).imp fun σV H Q h => ?_
  obtain ⟨B, HB, ow, σ, dr, F, h⟩ := h
  refine ⟨B, HB, ow, σ, dr, F, Out.mono (Out.bind h) fun x s ow1 H1 F1 st1 h1 v hv => ?_⟩
  obtain ⟨r, hr, q⟩ := Out.oget h1 F1
  exact ⟨_, x, r, v, rfl, hv, F1.liveB, hr, fun w H' ex hi => q H' ex w hi⟩
theorem m_biT (C : Ct X R W N sc k) (bl : Bl R) {b : Bi} {x : Str} {T : String} {p : Pos} (hc : CallR X (.type T) (p1 R (bi b))) (hx : x ∈ (["list", "tuple", "int", "range"] : List Str)) (hv : bootBuiltins x = some (.type T)) (hg : sc.names.lookup x = some .globalImplicit)
    (h1 : PE X a (tP R W ma)) (hn : x ≠ "__name__") (hdb : (x == ("__debug__" : Str)) = false) (hs : starEach [a] X.env = [(false, eval a X.env)] := by rfl) : PE X (.Call (.Name x p) [a] [] pos) (tE R W (mBi b ma)) := by
  have hm : X.mg x = none := by
    rw [C.mg]
    refine bl.no x ?_
    simp only [List.mem_cons, List.not_mem_nil, or_false] at hx ⊢
    rcases hx with h | h | h | h <;> simp [h]
  refine (pe_callTy hc (C.gl hg) hm hv (pa_cons h1 pa_nil hs) hn hdb hs rfl).imp fun σV H Q h => ?_
  obtain ⟨B, HB, ow, σ, dr, F, h⟩ := h
  refine ⟨B, HB, ow, σ, dr, F, Out.mono (Out.bind h) fun x s ow1 H1 F1 st1 h1 v hv => ?_⟩
  obtain ⟨r, hr, q⟩ := Out.oget h1 F1
  exact ⟨_, x, r, v, rfl, hv, F1.liveB, hr, fun w H' ex hi => q H' ex w hi⟩
end
end Mi
set_option Elab.async false
set_option linter.all false
set_option maxRecDepth 100000
set_option maxHeartbeats 4000000
/-! Mi8: calls, instances. -/
namespace Mi
open PySem L2 PySem.Spec PyProof.Rows

/-- all but the draws is kept -/
def Kp (R : Rc) (H H' : Hp) : Prop := ∀ a o, ¬ R.isDr a → H a = some o → H' a = some o
def DrAt (R : Rc) (H : Hp) (dr : List Int) : Prop := R.hd = true → H R.dr = some (.lst (dr.map V.int))
/-- what a function's result asks of the wishes -/
def RetD (R : Rc) (B : Bn) (H : Hp) (r : FR) (Q : VK) (E : XK) : Prop := match r with
  | .ok d dr' => ∀ v H', Kp R H H' → DrAt R H' dr' → Is R B H' d v → Q v H'
  | .ex c ns vs dr' => ∀ H' us d, Kp R H H' → DrAt R H' dr' → IsL R B H' vs us → ExcAt R H' d ns us → E (.ref (R.ca c)) (some d) H'
  | .no => False
/-- a function's promise in data -/
def spD (R : Rc) (G : FM) : Sp := fun vs H Q E => ∃ (B : Bn) (ds : List D) (dr : List Int), IsL R B H ds vs ∧ Live B H ∧ (R.hd = true → B R.dr) ∧ DrAt R H dr ∧ RetD R B H (G ds dr) Q E
/-- an __init__'s: the instance at x was just made -/
def spI (R : Rc) (C : Addr) (G : FM) : Sp := fun vs H Q E => ∃ (B : Bn) (H0 : Hp) (x dx : Addr) (ws : List V) (ds : List D) (dr : List Int), vs = .ref x :: ws ∧ H = upd (upd H0 dx (.own x)) x (.ins C dx []) ∧ H0 x = none ∧ H0 dx = none ∧ dx ≠ x ∧
  IsL R B H0 ds ws ∧ Live B H0 ∧ (R.hd = true → B R.dr) ∧ DrAt R H0 dr ∧ RetD R B H0 (G ds dr) (fun v H' => v = .ref x → Q .non H') E
abbrev FnI (R : Rc) (f : Addr) (k : Nat) (G : FM) : Prop := FnR R.P R.w R.K R.mg R.base (L2.CX R.P R.w) k f (spD R G)
abbrev InI (R : Rc) (c : Nat) (f : Addr) (k : Nat) (G : FM) : Prop := FnR R.P R.w R.K R.mg R.base (L2.CX R.P R.w) k f (spI R (R.ca c) G)
/-- the end of a call -/
def CEnd (X : Cx) (pins : List (Addr × Obj)) (σV : L2.St) (Q : VK) (r : Result) (s' : Shared) : Prop := match r with
  | .ok (.ret v) => EP X pins σV Q v s'
  | .ok _ => False
  | .error e => X.xe e s'
/-- the value u may be called: G -/
def Cal (R : Rc) (u : Value) (k : Nat) (G : FM) : Prop := ∀ {X : Cx} {W : WX} {N : List Str} {sc : Scope} {k' : Nat} (C : Ct X R W N sc k') (hk : k ≤ k') (pins : List (Addr × Obj)) (s : Shared) (σV : L2.St) (H : Hp) (us : List Value) (vs : List V) (Q : VK),
  Inv X pins σV H s → Vals vs us → spD R G vs H Q (fun c d H' => W c d σV H') → codeAny (model X.prog X.w) X.A (.call u ⟨us, []⟩) (CEnd X pins σV Q) s
section
variable {X : Cx} {R : Rc} {W : WX} {N : List Str} {sc : Scope} {k : Nat} {B B0 : Bn} {HB H0 H : Hp} {σV : L2.St} {ow : Ow} {s : S}
theorem Ct.fnr (C : Ct X R W N sc k) {f : Addr} {kf : Nat} {sp : Sp} (F : FnR R.P R.w R.K R.mg R.base (L2.CX R.P R.w) kf f sp) : FnR X.prog X.w X.K X.mg X.base (L2.CX X.prog X.w) kf f sp := by
  rw [C.prog, C.w, C.K, C.mg, C.base]; exact F
theorem FnI.cal {f : Addr} {kf : Nat} {G : FM} (F : FnI R f kf G) : Cal R (.ref f) kf G := by
  intro X W N sc k' C hk pins s σV H us vs Q I r h
  refine codeAny_mono (C.fnr F X.A X.stack s H us vs Q _ (C.room.mono hk) I.env0 r h) fun res s' hq => ?_
  cases res with
  | error e => exact C.tk e s' (XE.of_call I (fun _ _ _ z => z) hq)
  | ok fl =>
    cases fl with
    | ret u => exact I.after hq
    | _ => exact hq.elim
theorem FnI.raw0 {f : Addr} {kf : Nat} {G : FM} {fd : FuncData} {ps : List Str} (F : FnOk R.P R.w R.K R.mg R.base (L2.CX R.P R.w) kf f fd ps (spD R G)) (hb : Binds R.K fd ps []) : FnI R f kf G := by
  have h := F.raw hb .nil
  refine h.imp fun vs H Q E q => ?_
  show spD R G (vs ++ []) H Q E
  rw [List.append_nil]; exact q
/-- .. with defaults -/
theorem FnI.rawD {f : Addr} {kf : Nat} {G : FM} {fd : FuncData} {ps : List Str} {ds : List Value} {dvs : List V} {l : List D} (F : FnOk R.P R.w R.K R.mg R.base (L2.CX R.P R.w) kf f fd ps (spD R G)) (hb : Binds R.K fd ps ds) (hd : Vals dvs ds) (hl : ∀ B H, IsL R B H l dvs) : FnI R f kf (dflt G l) := by
  refine (F.raw hb hd).imp fun vs H Q E ⟨B, ds', dr, h1, h2⟩ => ?_
  exact ⟨B, ds' ++ l, dr, h1.append (hl _ _), h2⟩
theorem InI.raw0 {c : Nat} {f : Addr} {kf : Nat} {G : FM} {fd : FuncData} {ps : List Str} (F : FnOk R.P R.w R.K R.mg R.base (L2.CX R.P R.w) kf f fd ps (spI R (R.ca c) G)) (hb : Binds R.K fd ps []) : InI R c f kf G := by
  have h := F.raw hb .nil
  refine h.imp fun vs H Q E q => ?_
  show spI R (R.ca c) G (vs ++ []) H Q E
  rw [List.append_nil]; exact q
theorem InI.cal {c : Nat} {f : Addr} {kf : Nat} {G : FM} (Mk : L2.Mk R.K (R.ca c) f) (F : InI R c f kf G) : Cal R (.ref (R.ca c)) (kf + 1) G := by
  intro X W N sc k' C hk pins s σV H us vs Q I r h
  obtain ⟨B, ds, dr, h1, h2, h3, h4, h5⟩ := h
  have fx : H (s.heap.objs.size + 1) = none := I.hok.fresh (Nat.le_succ _)
  have fd : H s.heap.objs.size = none := I.hok.fresh (Nat.le_refl _)
  have promise : spI R (R.ca c) G (V.ref (s.heap.objs.size + 1) :: vs) (upd (upd H s.heap.objs.size (.own (s.heap.objs.size + 1))) (s.heap.objs.size + 1) (.ins (R.ca c) s.heap.objs.size [])) (fun v H2 => v = .non ∧ Q (.ref (s.heap.objs.size + 1)) H2) (fun c d H' => W c d σV H') := by
    refine ⟨B, H, _, _, vs, ds, dr, rfl, rfl, fx, fd, Nat.ne_of_lt (Nat.lt_succ_self _), h1, h2, h3, h4, ?_⟩
    cases e : G ds dr with
    | ok d dr' =>
      rw [e] at h5
      exact fun v H' k1 k2 k3 ev => ⟨rfl, by rw [← ev]; exact h5 v H' k1 k2 k3⟩
    | ex c' ns ws dr' => rw [e] at h5; exact h5
    | no => rw [e] at h5; exact h5.elim
  have J := Inv.made (C := R.ca c) I
  have kk : X.K = R.K := C.K
  have room := (C.room.mono hk).make (R.ca c) us []
  refine make_map (f := f) (K := X.K) I.kIn (by rw [kk]; exact Mk.makes) (by rw [kk]; exact Mk.init) (beq_iff_eq.mp (by rw [kk]; exact Mk.fn)) ?_
  refine codeAny_mono (C.fnr F _ X.stack _ _ (Value.ref (s.heap.objs.size + 1) :: us) _ _ _ room (J.env0.make (R.ca c) us []) (.cons (show RelV (V.ref (s.heap.objs.size + 1)) _ from rfl) r) promise) fun res s' hq => ?_
  cases res with
  | error e => exact C.tk e s' (XE.of_call J (fun _ _ _ z => z) hq)
  | ok fl =>
    cases fl with
    | ret u =>
      obtain ⟨v, H', I3, rv, ev, q3⟩ := J.after hq
      rw [ev] at rv
      exact ⟨rv, ⟨V.ref (s.heap.objs.size + 1), H', I3, rfl, q3⟩⟩
    | _ => exact hq.elim
/-- from a frame -/
theorem spD_of {ds : List D} {vs : List V} {G : FM} {Q : VK} (F : Fr R B HB ow s.σ s.dr σV H) (hv : IsL R (Ban B ow s.σ) H ds vs)
    (o : Out R W B HB (Ban B ow s.σ) H σV (callF G ds s) fun d s' ow' H' => ∀ v, Is R (Ban B ow' s'.σ) H' d v → Q v H') : spD R G vs H Q (fun c d H' => W c d σV H') := by
  refine ⟨_, ds, s.dr, hv, F.liveB, fun h => .inl (F.drB h), F.drs, ?_⟩
  unfold callF at o
  cases e : G ds s.dr with
  | ok d dr' =>
    rw [e] at o
    intro v H' k1 k2 k3
    obtain ⟨F', st⟩ := F.after k1 k2
    exact o ow H' F' st v k3
  | ex c ns ws dr' =>
    rw [e] at o
    intro H' us d k1 k2 k3 k4
    obtain ⟨F', st⟩ := F.after k1 k2
    exact o ow H' us d F' st k3 k4
  | no => rw [e] at o; exact o.elim

variable {a b e o : Expr} {es : List Expr} {ma mb mo : M D} {ha hb : M Hd} {mr mk : M (List D)} {pos p apos : Pos} {x m : Str} {f : Addr} {kf : Nat} {G : FM}
/-! ### calls by name -/
theorem m_call (C : Ct X R W N sc k) (F : Cal R (.ref f) kf G) (hm : R.mg x = some (.ref f)) (hkp : PySem.W.keepIn R.K (.ref f) = true) (hk : kf ≤ k) (hg : sc.names.lookup x = some .globalImplicit) (h1 : PA X (e :: es) (tA R W mr))
    (hdb : (x == ("__debug__" : Str)) = false) (he : starEach (e :: es) X.env = (false, eval e X.env) :: starEach es X.env := by rfl) (hpl : (backTo pos (starEach es X.env)).any (·.1) = false := by rfl) :
    PE X (.Call (.Name x p) (e :: es) [] pos) (tE R W (mCall G mr)) := by
  refine ⟨fun pins s σV H Q I h => ?_⟩
  obtain ⟨B, HB, ow, σ, dr, Fm, h⟩ := h
  refine wpAny_Call_Name_kw (ld_glob I (C.gl hg) (by rw [C.mg]; exact hm) ?_ hdb)
  refine PySem.W.callWith_K (h₀ := X.base) (K := X.K) I.ok.mod.kin (by rw [C.K]; exact hkp) (thn (h1.run pos pins s σV H (fun vs H1 => spD R G vs H1 Q fun c d H' => W c d σV H') I ?_) fun us s1 ⟨vs, H1, I1, r, q⟩ => ⟨I1.kIn, ?_⟩) he hpl
  · exact ⟨B, HB, ow, σ, dr, Fm, Out.mono (Out.bind h) fun ds s1 ow1 H1 F1 st1 h1 vs hv => spD_of F1 hv h1⟩
  · exact wpAny_call (F C hk pins s1 σV H1 us vs Q I1 r q)
theorem m_call0 (C : Ct X R W N sc k) (F : Cal R (.ref f) kf G) (hm : R.mg x = some (.ref f)) (hkp : PySem.W.keepIn R.K (.ref f) = true) (hk : kf ≤ k) (hg : sc.names.lookup x = some .globalImplicit)
    (hdb : (x == ("__debug__" : Str)) = false) : PE X (.Call (.Name x p) [] [] pos) (tE R W (mCall G mNil)) := by
  refine ⟨fun pins s σV H Q I h => ?_⟩
  obtain ⟨B, HB, ow, σ, dr, Fm, h⟩ := h
  refine wpAny_Call_Name_kw (ld_glob I (C.gl hg) (by rw [C.mg]; exact hm) ?_ hdb)
  refine PySem.W.callWith_K0 (K := X.K) I.kIn (by rw [C.K]; exact hkp) (wpAny_call ?_)
  exact F C hk pins s σV H [] [] Q I .nil (spD_of (s := ⟨σ, dr⟩) Fm IsL.nil h)
/-! ### calls of a class in hand -/
def TabC (R : Rc) (k : Nat) (tab : List (Nat × FM)) : Prop := ∀ c G, tab.lookup c = some G → Cal R (.ref (R.ca c)) k G ∧ PySem.W.keepIn R.K (.ref (R.ca c)) = true
theorem m_mkv (C : Ct X R W N sc k) {tab : List (Nat × FM)} (T : TabC R kf tab) (hk : kf ≤ k) {i : Nat} (hN : N[i]? = some x) (hv : visB sc x = true) (hd : (x == ("__debug__" : Str)) = false) (hcd : (x == ("__classdict__" : Str)) = false) (h1 : PA X (e :: es) (tA R W mr))
    (he : starEach (e :: es) X.env = (false, eval e X.env) :: starEach es X.env := by rfl) (hpl : (backTo pos (starEach es X.env)).any (·.1) = false := by rfl) :
    PE X (.Call (.Name x p) (e :: es) [] pos) (tE R W (mMkV tab i mr)) := by
  refine ⟨fun pins s σV H Q I h => ?_⟩
  obtain ⟨B, HB, ow, σ, dr, Fm, h⟩ := h
  unfold mMkV at h
  dsimp only at h
  split at h
  · rename_i c ec
    split at h
    · rename_i G hG
      obtain ⟨hcal, hkp⟩ := T c G hG
      refine wpAny_Call_Name_kw ?_
      obtain ⟨v, h2, h3⟩ := Fm.val i _ ec
      unfold Is at h3
      subst h3
      refine thn ((pe_var (pos := p) (by rw [C.eN]; exact hN) (by rw [C.esc]; exact vis_of hv) hd hcd).run pins s σV H (fun v H' => v = .ref (R.ca c) ∧ H' = H) I ⟨_, h2, rfl, rfl⟩) fun u s0 ⟨v, H', I0, ru, ev, eH⟩ => ?_
      subst ev eH
      obtain rfl : u = Value.ref (R.ca c) := ru
      refine PySem.W.callWith_K (h₀ := X.base) (K := X.K) I0.ok.mod.kin (by rw [C.K]; exact hkp) (thn (h1.run pos pins s0 σV H' (fun vs H1 => spD R G vs H1 Q fun c d H' => W c d σV H') I0 ?_) fun us s1 ⟨vs, H1, I1, r, q⟩ => ⟨I1.kIn, ?_⟩) he hpl
      · exact ⟨B, HB, ow, σ, dr, Fm, Out.mono (Out.bind h) fun ds s1 ow1 H1 F1 st1 h1 vs hv => spD_of F1 hv h1⟩
      · exact wpAny_call (hcal C hk pins s1 σV H1 us vs Q I1 r q)
    · exact h.elim
  · exact h.elim
end
end Mi
set_option Elab.async false
set_option linter.all false
set_option maxRecDepth 100000
set_option maxHeartbeats 4000000
/-! Mi9: methods, attributes, properties, operators of own classes. -/
namespace Mi
open PySem L2 PySem.Spec PyProof.Rows

/-- the method m of the class c: G -/
def MtI (R : Rc) (m : Str) (c k : Nat) (G : FM) : Prop := R.sl c = true ∧ SlX.SCls R.K (R.ca c) ∧ ∃ g, Meth R.K (R.ca c) m g ∧ Cal R (.ref g) k G
def TabM (R : Rc) (m : Str) (k : Nat) (tab : List (Nat × FM)) : Prop := ∀ c G, tab.lookup c = some G → MtI R m c k G
/-- the attribute n, named f -/
def AtI (R : Rc) (n : Nat) (f : Str) : Prop := ∀ c, R.has c n = true → R.sl c = true ∧ SlX.SCls R.K (R.ca c) ∧ ∃ p, SlX.Slot1 R.K (R.ca c) f p (R.six c n)
def PrI (R : Rc) (m : Str) (c k : Nat) (G : FM) : Prop := R.sl c = true ∧ SlX.SCls R.K (R.ca c) ∧ ∃ p g, PySem.W.findIn R.K (.ref (R.ca c)) m = some (some (.ref p)) ∧ PySem.W.specialIn R.K (.ref p) "__get__" = some (some (.builtin "property.__get__")) ∧
  PySem.W.takesIn R.K (.ref p) = some true ∧ (∃ rest, PySem.W.recIn R.K p "property" = some (.ref g :: rest)) ∧ FnI R g k G
def TabP (R : Rc) (m : Str) (k : Nat) (tab : List (Nat × FM)) : Prop := ∀ c G, tab.lookup c = some G → PrI R m c k G
def CmI (R : Rc) (m : Str) (c k : Nat) (G : FM) : Prop := ∃ mc p g, ClX.CRead R.K (R.ca c) mc ∧ ClX.CMet R.K (R.ca c) mc m p g ∧ Cal R (.ref g) k G
section
variable {X : Cx} {R : Rc} {W : WX} {N : List Str} {sc : Scope} {k : Nat} {B B0 : Bn} {HB H0 H : Hp} {σV : L2.St} {ow : Ow} {s : S}
/-- an instance with slots -/
theorem inst_slt {c : Nat} {ns : List Nat} {ds : List D} {v : V} (h : Is R B H (.ins c ns ds) v) (hs : R.sl c = true) : ∃ a dx ws us, v = .ref a ∧ SlX.Slt H a (R.ca c) dx ws ∧ (∀ (j n : Nat) (u : V), ns[j]? = some n → us[j]? = some u → ws[R.six c n]? = some (some u)) ∧ IsL R B H ds us ∧ us.length = ns.length := by
  unfold Is at h
  obtain ⟨a, dx, us, rfl, _, _, hi, hl⟩ := h
  rcases hi.2.2.2 with ⟨_, ws, q1, q2⟩ | ⟨q, _⟩
  · exact ⟨a, dx, ws, us, rfl, q1, q2, hl, hi.1⟩
  · rw [hs] at q; cases q
theorem lookA_get : ∀ {ns : List Nat} {vs : List D} {n : Nat} {d : D}, lookA ns vs n = some d → ∃ j : Nat, ns[j]? = some n ∧ vs[j]? = some d
  | [], _, _, _, h => by simp [lookA] at h
  | _ :: _, [], _, _, h => by simp [lookA] at h
  | m :: ns, v :: vs, n, d, h => by
    unfold lookA at h
    split at h
    · rename_i e
      cases h
      exact ⟨0, by simp [e], by simp⟩
    · obtain ⟨j, h1, h2⟩ := lookA_get h
      exact ⟨j + 1, by simpa using h1, by simpa using h2⟩
theorem ins_has {c : Nat} {ns : List Nat} {ds : List D} {v : V} (h : Is R B H (.ins c ns ds) v) {n : Nat} (hn : n ∈ ns) : R.has c n = true := by
  unfold Is at h
  obtain ⟨a, dx, us, rfl, _, _, hi, hl⟩ := h
  exact hi.2.1 n hn

variable {a b e o : Expr} {es : List Expr} {ma mb mo : M D} {ha hb : M Hd} {mr mk : M (List D)} {pos p apos : Pos} {x m : Str} {f : Addr} {kf : Nat} {G : FM} {tab : List (Nat × FM)} {pl : Sem Bool}
theorem m_mt (C : Ct X R W N sc k) (T : TabM R m kf tab) (hk : kf ≤ k) (ho : PE X o (tE R W mo)) (h1 : PA X (e :: es) (tA R W mr))
    (ht : eval (.Call (.Attribute o m apos) (e :: es) [] pos) X.env = (do
      let ov ← eval o X.env
      standAt apos.atName
      let (f, first) ← holding [ov] (getMethod ov m pl)
      callWith pos f first (backTo pos (starEach (e :: es) X.env)) (backToKw pos (keywordEach [] X.env))) := by rfl)
    (hst : starEach (e :: es) X.env = (false, eval e X.env) :: starEach es X.env := by rfl) (hpl : (backTo pos (starEach es X.env)).any (·.1) = false := by rfl) :
    PE X (.Call (.Attribute o m apos) (e :: es) [] pos) (tE R W (mMt tab mo mr)) := by
  refine ⟨fun pins s σV H Q I h => ?_⟩
  obtain ⟨B, HB, ow, σ, dr, Fm, h⟩ := h
  let K1 : VK := fun v H1 => ∃ (a : Addr) (c : Nat) (G : FM) (dx : Addr) (ws : List (Option V)), v = .ref a ∧ SlX.Slt H1 a (R.ca c) dx ws ∧ MtI R m c kf G ∧ tA R W mr σV H1 fun vs H2 => spD R G (v :: vs) H2 Q fun c d H' => W c d σV H'
  have h1' : tE R W mo σV H K1 := by
    refine ⟨B, HB, ow, σ, dr, Fm, Out.mono (Out.bind h) fun d s1 ow1 H1 F1 st1 h1 v hv => ?_⟩
    cases d with
    | ins c ns vs =>
      dsimp only at h1
      split at h1
      · rename_i G hG
        obtain ⟨hs, hc, g, hm, hcal⟩ := T c G hG
        obtain ⟨a, dx, ws, us, rfl, q1, _⟩ := inst_slt hv hs
        refine ⟨a, c, G, dx, ws, rfl, q1, ⟨hs, hc, g, hm, hcal⟩, B, HB, ow1, s1.σ, s1.dr, F1, Out.mono (Out.bind h1) fun ds s2 ow2 H2 F2 st2 h2 zs hz => ?_⟩
        exact spD_of F2 (IsL.cons (hv.stp st2) hz) h2
      · exact h1.elim
    | _ => exact h1.elim
  refine PySem.W.methodCall_KW (pl := pl) (thn (ho.run pins s σV H K1 I h1') fun u s1 ⟨v, H1, I1, ru, a, c, G, dx, ws, ev, hsl, ⟨hs, hc, g, hm, hcal⟩, q⟩ => ?_) ht
  subst ev
  obtain rfl : u = Value.ref a := ru
  refine SlX.getmethsl_ok I1 hsl (by rw [C.K]; exact hc) (by rw [C.K]; exact hm) ?_
  refine PySem.W.callWith_K (first := [.ref a]) (h₀ := X.base) (K := X.K) I.ok.mod.kin (by rw [C.K]; exact hm.kp) (thn (h1.run pos pins s1 σV H1 _ I1 q) fun us s2 ⟨vs, H2, I2, r, q2⟩ => ⟨I2.kIn, ?_⟩) hst hpl
  exact wpAny_call (hcal C hk pins s2 σV H2 (.ref a :: us) (.ref a :: vs) Q I2 (.cons rfl r) q2)
theorem m_mt0 (C : Ct X R W N sc k) (T : TabM R m kf tab) (hk : kf ≤ k) (ho : PE X o (tE R W mo))
    (ht : eval (.Call (.Attribute o m apos) [] [] pos) X.env = (do
      let ov ← eval o X.env
      standAt apos.atName
      let (f, first) ← holding [ov] (getMethod ov m pl)
      callWith pos f first (backTo pos (starEach [] X.env)) (backToKw pos (keywordEach [] X.env))) := by rfl) :
    PE X (.Call (.Attribute o m apos) [] [] pos) (tE R W (mMt tab mo mNil)) := by
  refine ⟨fun pins s σV H Q I h => ?_⟩
  obtain ⟨B, HB, ow, σ, dr, Fm, h⟩ := h
  let K1 : VK := fun v H1 => ∃ (a : Addr) (c : Nat) (G : FM) (dx : Addr) (ws : List (Option V)), v = .ref a ∧ SlX.Slt H1 a (R.ca c) dx ws ∧ MtI R m c kf G ∧ spD R G [v] H1 Q fun c d H' => W c d σV H'
  have h1' : tE R W mo σV H K1 := by
    refine ⟨B, HB, ow, σ, dr, Fm, Out.mono (Out.bind h) fun d s1 ow1 H1 F1 st1 h1 v hv => ?_⟩
    cases d with
    | ins c ns vs =>
      dsimp only at h1
      split at h1
      · rename_i G hG
        obtain ⟨hs, hc, g, hm, hcal⟩ := T c G hG
        obtain ⟨a, dx, ws, us, rfl, q1, _⟩ := inst_slt hv hs
        exact ⟨a, c, G, dx, ws, rfl, q1, ⟨hs, hc, g, hm, hcal⟩, spD_of F1 (IsL.cons hv IsL.nil) h1⟩
      · exact h1.elim
    | _ => exact h1.elim
  refine PySem.W.methodCall_KW (pl := pl) (thn (ho.run pins s σV H K1 I h1') fun u s1 ⟨v, H1, I1, ru, a, c, G, dx, ws, ev, hsl, ⟨hs, hc, g, hm, hcal⟩, q⟩ => ?_) ht
  subst ev
  obtain rfl : u = Value.ref a := ru
  refine SlX.getmethsl_ok I1 hsl (by rw [C.K]; exact hc) (by rw [C.K]; exact hm) ?_
  refine PySem.W.callWith_K0 (first := [.ref a]) (K := X.K) I1.kIn (by rw [C.K]; exact hm.kp) (wpAny_call ?_)
  exact hcal C hk pins s1 σV H1 [.ref a] [.ref a] Q I1 (.cons rfl .nil) q
/-! ### attributes, properties -/
theorem m_att (C : Ct X R W N sc k) {n : Nat} {fl : Str} (A : AtI R n fl) (ho : PE X o (tE R W mo)) (hbs : attributeBase o fl X.env (eval o X.env) = eval o X.env := by rfl) : PE X (.Attribute o fl pos) (tE R W (mAtt n mo)) := by
  refine (SlX.pe_sl ho hbs).imp fun σV H Q h => ?_
  obtain ⟨B, HB, ow, σ, dr, F, h⟩ := h
  refine ⟨B, HB, ow, σ, dr, F, Out.mono (Out.bind h) fun d s1 ow1 H1 F1 st1 h1 v hv => ?_⟩
  cases d with
  | ins c ns vs =>
    obtain ⟨r, hr, q⟩ := Out.oget h1 F1
    obtain ⟨j, j1, j2⟩ := lookA_get hr
    obtain ⟨hs, hc, p, hp⟩ := A c (ins_has hv (List.mem_of_getElem? j1))
    obtain ⟨a, dx, ws, us, rfl, q1, q2, q3, q4⟩ := inst_slt hv hs
    obtain ⟨u, hu, hi⟩ := q3.get j2
    rw [← C.K] at hc hp
    exact ⟨a, R.ca c, dx, p, ws, R.six c n, u, rfl, q1, hc, hp, q2 j n u j1 hu, q H1 (fun _ _ z => z) u hi⟩
  | _ => exact h1.elim
theorem m_pr (C : Ct X R W N sc k) (T : TabP R m kf tab) (hk : kf + 1 ≤ k) (ho : PE X o (tE R W mo)) (hbs : attributeBase o m X.env (eval o X.env) = eval o X.env := by rfl) : PE X (.Attribute o m pos) (tE R W (mPr tab mo)) := by
  refine ⟨fun pins s σV H Q I h => ?_⟩
  obtain ⟨B, HB, ow, σ, dr, Fm, h⟩ := h
  let K1 : VK := fun v H1 => ∃ (a : Addr) (c : Nat) (G : FM) (dx : Addr) (ws : List (Option V)), v = .ref a ∧ SlX.Slt H1 a (R.ca c) dx ws ∧ PrI R m c kf G ∧ spD R G [v] H1 Q fun _ _ _ => False
  have h1' : tE R W mo σV H K1 := by
    refine ⟨B, HB, ow, σ, dr, Fm, Out.mono (Out.bind h) fun d s1 ow1 H1 F1 st1 h1 v hv => ?_⟩
    cases d with
    | ins c ns vs =>
      dsimp only at h1
      split at h1
      · rename_i G hG
        obtain ⟨hs, hc, p, g, hp⟩ := T c G hG
        obtain ⟨a, dx, ws, us, rfl, q1, _⟩ := inst_slt hv hs
        refine ⟨a, c, G, dx, ws, rfl, q1, ⟨hs, hc, p, g, hp⟩, _, [.ins c ns vs], s1.dr, IsL.cons hv IsL.nil, F1.liveB, fun h => .inl (F1.drB h), F1.drs, ?_⟩
        unfold callF at h1
        cases e : G [.ins c ns vs] s1.dr with
        | ok d dr' =>
          rw [e] at h1
          intro v H' k1 k2 k3
          obtain ⟨F', st⟩ := F1.after k1 k2
          exact h1 ow1 H' F' st v k3
        | ex c ns ws dr' => rw [e] at h1; exact h1.elim
        | no => rw [e] at h1; exact h1.elim
      · exact h1.elim
    | _ => exact h1.elim
  refine attr_of hbs (thn (ho.run pins s σV H K1 I h1') fun u s1 ⟨v, H1, I1, ru, a, c, G, dx, ws, ev, hsl, ⟨hs, hc, p, g, hat, hget, htk, hrc, hF⟩, q⟩ => ?_)
  subst ev
  obtain rfl : u = Value.ref a := ru
  have kk := C.K
  rw [← kk] at hc hat hget htk hrc
  exact SlX.getprop_sl I1 hsl hc hat hget htk hrc (C.fnr hF) (C.room.mono hk) (fun _ _ _ _ z => by obtain ⟨_, _, _, _, _, _, _, _, _, _, _, _, z⟩ := z; exact z) q
/-! ### class methods -/
theorem m_cm (C : Ct X R W N sc k) {c : Nat} {y : Str} (hk : kf ≤ k) (T : CmI R m c kf G) (hg : sc.names.lookup y = some .globalImplicit) (hm : R.mg y = some (.ref (R.ca c))) (hdb : (y == ("__debug__" : Str)) = false) (h1 : PA X (e :: es) (tA R W mr))
    (ht : eval (.Call (.Attribute (.Name y p) m apos) (e :: es) [] pos) X.env = (do
      let ov ← eval (.Name y p) X.env
      standAt apos.atName
      let (f, first) ← holding [ov] (getMethod ov m pl)
      callWith pos f first (backTo pos (starEach (e :: es) X.env)) (backToKw pos (keywordEach [] X.env))) := by rfl)
    (hst : starEach (e :: es) X.env = (false, eval e X.env) :: starEach es X.env := by rfl) (hpl : (backTo pos (starEach es X.env)).any (·.1) = false := by rfl) :
    PE X (.Call (.Attribute (.Name y p) m apos) (e :: es) [] pos) (tE R W (mCm c G mr)) := by
  refine ⟨fun pins s σV H Q I h => ?_⟩
  obtain ⟨B, HB, ow, σ, dr, Fm, h⟩ := h
  obtain ⟨mc, pc, g, hr, hc, hcal⟩ := T
  rw [← C.K] at hr hc
  refine PySem.W.methodCall_KW (pl := pl) (ld_glob I (C.gl hg) (by rw [C.mg]; exact hm) ?_ hdb) ht
  refine ClX.getmethcm_ok I hr hc fun s2 I2 => ?_
  refine ClX.callwith_cm I2 (ClX.base_none I (Nat.le_refl _)) hc.fi (thn (h1.run pos _ s2 σV H (fun vs H1 => spD R G (.ref (R.ca c) :: vs) H1 Q fun c d H' => W c d σV H') I2 ?_) fun us s3 ⟨vs, H2, I3, rv, q2⟩ => ⟨⟨ClX.pin_at I3, I3.kIn⟩, ?_⟩) hst hpl
  · exact ⟨B, HB, ow, σ, dr, Fm, Out.mono (Out.bind h) fun ds s1 ow1 H1 F1 st1 h1 vs hv => spD_of F1 (IsL.cons (by unfold Is; rfl) hv) h1⟩
  · have z : wpAny (model X.prog X.w) X.A (call (.ref s.heap.objs.size) us) (EP X ((s.heap.objs.size, PySem.W.methodObj (.ref g) (.ref (R.ca c))) :: pins) σV Q) X.xe s3 :=
      wpAny_call (PySem.W.method_call (ClX.pin_at I3) (hcal C hk _ s3 σV H2 (.ref (R.ca c) :: us) (.ref (R.ca c) :: vs) Q I3 (.cons rfl rv) q2))
    exact thn z fun _ _ y => ClX.unpinE y
/-! ### operators of own classes -/
/-- == of the class c: G; the other side an own instance or a tuple, a list -/
def EqI (R : Rc) (c k : Nat) (G : FM) : Prop := R.sl c = true ∧ PySem.W.notFirst R.K (R.ca c) (.type "tuple") = true ∧ PySem.W.notFirst R.K (R.ca c) (.type "list") = true ∧ (∀ c' n, R.has c' n = true → R.sl c' = true → PySem.W.notFirst R.K (R.ca c) (.ref (R.ca c')) = true) ∧
  ∃ g, PySem.W.findIn R.K (.ref (R.ca c)) "__eq__" = some (some (.ref g)) ∧ PySem.W.isFn R.K (.ref g) = true ∧ Cal R (.ref g) k G
def TabE (R : Rc) (k : Nat) (tab : List (Nat × FM)) : Prop := ∀ c G, tab.lookup c = some G → EqI R c k G
def D.eqR : D → Bool
  | .tup _ => true
  | .lst _ => true
  | .ins _ (_ :: _) _ => true
  | _ => false
def mEqo (tab : List (Nat × FM)) (x y : M D) : M D := fun s => (x s).then fun x s => (y s).then fun y s => match x with
  | .ins c ns vs => match tab.lookup c with
    | some f => if y.eqR then (callF f [.ins c ns vs, y] s).then fun d s => match d with
        | .bl b => .ok (.bl b) s
        | _ => .no
      else .no
    | none => .no
  | _ => .no
def rEqo (R : Rc) (W : WX) (kf : Nat) (σV : L2.St) : R2 := fun x y H Q => ∃ (a : Addr) (c : Nat) (G : FM) (dx : Addr) (ws : List (Option V)) (B : Bn) (d2 : D), x = .ref a ∧ SlX.Slt H a (R.ca c) dx ws ∧ EqI R c kf G ∧ Is R B H d2 y ∧ d2.eqR = true ∧ (∀ c' ns vs, d2 = .ins c' ns vs → R.sl c' = true) ∧ spD R G [x, y] H (fun v H' => (∃ b, v = .bl b) ∧ Q v H') fun c d H' => W c d σV H'
theorem op_eqo (C : Ct X R W N sc k) (hk : kf ≤ k) {pins : List (Addr × Obj)} {s : Shared} {σV : L2.St} {H : Hp} {x y : V} {v u : Value} {Q : VK} (I : Inv X pins σV H s) (rx : RelV x v) (ry : RelV y u) (h : rEqo R W kf σV x y H Q) :
    wpAny (model X.prog X.w) X.A (compareOp .Eq v u) (EP X pins σV Q) X.xe s := by
  obtain ⟨a, c, G, dx, ws, B, d2, rfl, hsl, ⟨hs, n1, n2, n3, g, hat, hf, hcal⟩, hy, hq, hsc, q⟩ := h
  rw [← C.K] at n1 n2 n3 hat hf
  obtain rfl : v = Value.ref a := rx
  obtain ⟨sl, od, _, J, _⟩ := SlX.slt_inst I hsl
  obtain ⟨m, hF⟩ := I.fr
  have fin : wpAny (model X.prog X.w) X.A (call (.ref g) [.ref a, u]) (PySem.W.CmpBack (EP X pins σV Q)) X.xe s := by
    refine thn (wpAny_call (hcal C hk pins s σV H [.ref a, u] [.ref a, y] _ I (.cons rfl (.cons ry .nil)) q)) fun w s' ⟨z, H', I', rz, ⟨b, eb⟩, qz⟩ => ?_
    subst eb
    obtain rfl : w = Value.bool b := rz
    exact ⟨.bl b, H', I', rfl, qz⟩
  have tyT : ∀ t p, u = .ref p → (∃ ob, s.heap.get? p = some ob ∧ ob.cls = .type t) → PySem.W.Looks (model X.prog X.w) s.heap (typeOf u) (.type t) := fun t p e ⟨ob, h1, h2⟩ => by
    subst e
    intro A Q E s' kk qq
    exact wpAny_typeOf ⟨ob, kk _ _ h1, h2⟩ qq
  cases d2 with
  | tup xs =>
    unfold Is at hy
    obtain ⟨p, vs, rfl, _, hp, _⟩ := hy
    obtain rfl : u = Value.ref p := ry
    obtain ⟨_, its, _, ob, ho, hc, _⟩ := I.hok p _ hp
    exact PySem.W.cmp_K (op := .Eq) (tb := .type "tuple") C.room.units0 hF I.ok.mod.kin J (tyT _ p rfl ⟨ob, ho, hc⟩) n1 hat hf fin
  | lst xs =>
    unfold Is at hy
    obtain ⟨p, vs, rfl, _, hp, _⟩ := hy
    obtain rfl : u = Value.ref p := ry
    obtain ⟨_, its, n, _, ho⟩ := I.hok p _ hp
    exact PySem.W.cmp_K (op := .Eq) (tb := .type "list") C.room.units0 hF I.ok.mod.kin J (tyT _ p rfl ⟨_, ho, rfl⟩) n2 hat hf fin
  | ins c' ns vs =>
    cases ns with
    | nil => cases hq
    | cons n ns =>
      have hn := n3 c' n (ins_has hy List.mem_cons_self) (hsc _ _ _ rfl)
      obtain ⟨b, dy, ws', us, rfl, q1, _⟩ := inst_slt hy (hsc _ _ _ rfl)
      obtain rfl : u = Value.ref b := ry
      obtain ⟨sl', od', _, J', _⟩ := SlX.slt_inst I q1
      exact PySem.W.cmp_K (op := .Eq) (tb := .ref (R.ca c')) C.room.units0 hF I.ok.mod.kin J J'.type hn hat hf fin
  | _ => cases hq
/-- all classes have slots -/
def AllSl (R : Rc) : Prop := ∀ c n, R.has c n = true → R.sl c = true
theorem eqR_sl (A : AllSl R) {d : D} {v : V} (h : Is R B H d v) (e : d.eqR = true) : ∀ c' ns vs, d = .ins c' ns vs → R.sl c' = true := fun c' ns vs ed => by
  subst ed
  cases ns with
  | nil => cases e
  | cons n ns => exact A c' n (ins_has h List.mem_cons_self)
theorem key_eqo (A : AllSl R) (T : TabE R kf tab) {σV : L2.St} {Q : VK} (h : tE R W (mEqo tab ma mb) σV H Q) : tE R W ma σV H fun x H1 => tE R W mb σV H1 fun y H2 => rEqo R W kf σV x y H2 Q := by
  obtain ⟨B, HB, ow, σ, dr, F, h⟩ := h
  refine ⟨B, HB, ow, σ, dr, F, Out.mono (Out.bind h) fun d s1 ow1 H1 F1 st1 h1 v hv => ?_⟩
  refine ⟨B, HB, ow1, s1.σ, s1.dr, F1, Out.mono (Out.bind h1) fun d2 s2 ow2 H2 F2 st2 h2 u hu => ?_⟩
  cases d with
  | ins c ns vs =>
    dsimp only at h2
    split at h2
    · rename_i G hG
      have hE := T c G hG
      split at h2
      · rename_i hq
        obtain ⟨a, dx, ws, us, rfl, q1, _⟩ := inst_slt (hv.stp st2) hE.1
        refine ⟨a, c, G, dx, ws, _, d2, rfl, q1, hE, hu, hq, eqR_sl A hu hq, spD_of F2 (IsL.cons (hv.stp st2) (IsL.cons hu IsL.nil)) (Out.mono (Out.bind h2) fun d s3 ow3 H3 F3 st3 h3 w hw => ?_)⟩
        cases d with
        | bl b =>
          have ew := isBl hw
          subst ew
          exact ⟨⟨b, rfl⟩, h3 ow3 H3 F3 (Stp.refl _ _) _ blIs⟩
        | _ => exact h3.elim
      · exact h2.elim
    · exact h2.elim
  | _ => exact h2.elim
theorem m_eqo (C : Ct X R W N sc k) (A : AllSl R) (T : TabE R kf tab) (hk : kf ≤ k) (h1 : PE X a (tE R W ma)) (h2 : PE X b (tE R W mb)) : PE X (.Compare a [.Eq] [b] pos) (tE R W (mEqo tab ma mb)) := by
  refine ⟨fun pins s σV H Q I h => ?_⟩
  exact wpAny_Compare1 (binT h1 h2 I (key_eqo A T h) fun v u s2 x y H2 I2 rx ry q => op_eqo C hk I2 rx ry q) (nobehind _ (by decide) (by decide))
theorem eqo_bl : ∀ s d s', mEqo tab ma mb s = .ok d s' → ∃ b, d = .bl b := fun s d s' h => by
  obtain ⟨x, _, _, h⟩ := then_ok h
  obtain ⟨y, _, _, h⟩ := then_ok h
  cases x <;> (try (cases h; done))
  dsimp only at h
  split at h
  · split at h
    · obtain ⟨z, _, _, h⟩ := then_ok h
      cases z <;> (try (cases h; done))
      cases h
      exact ⟨_, rfl⟩
    · cases h
  · cases h
theorem t_eqo (C : Ct X R W N sc k) (A : AllSl R) (T : TabE R kf tab) (hk : kf ≤ k) (h1 : PE X a (tE R W ma)) (h2 : PE X b (tE R W mb)) : PT X (.Compare a [.Eq] [b] pos) (tT R W (tV (mEqo tab ma mb))) := by
  refine ⟨fun pins s σV H Q I h => ?_⟩
  have h := key_eqo A T (tV_bl h eqo_bl)
  refine wpAny_isTrue_Compare1 (thn (h1.run pins s σV H _ I h) fun v s1 ⟨x, H1, I1, r1, q1⟩ => thn (h2.run pins s1 σV H1 _ I1 q1) fun u s2 ⟨y, H2, I2, r2, q2⟩ => thn (op_eqo C hk I2 r1 r2 q2) fun c s3 ⟨z, H3, I3, r3, b, e, q3⟩ => ?_) (nobehind _ (by decide) (by decide))
  subst e
  cases r3
  exact wpAny_truthy_bool ⟨H3, I3, q3⟩
/-- * of the class c with itself: G -/
def MuI (R : Rc) (c k : Nat) (G : FM) : Prop := R.sl c = true ∧ PySem.W.selfFirst R.K (R.ca c) = true ∧ ∃ g, PySem.W.findIn R.K (.ref (R.ca c)) "__mul__" = some (some (.ref g)) ∧ PySem.W.isFn R.K (.ref g) = true ∧ Cal R (.ref g) k G
def TabU (R : Rc) (k : Nat) (tab : List (Nat × FM)) : Prop := ∀ c G, tab.lookup c = some G → MuI R c k G
def mMulo (tab : List (Nat × FM)) (x y : M D) : M D := fun s => (x s).then fun x s => (y s).then fun y s => match x, y with
  | .ins c ns vs, .ins c' ns' vs' => if c = c' then match tab.lookup c with
    | some f => (callF f [.ins c ns vs, .ins c' ns' vs'] s).then fun d s => match d with
        | .ins c ns vs => .ok (.ins c ns vs) s
        | _ => .no
    | none => .no
    else .no
  | _, _ => .no
theorem own_mul {prog : Program} {w : World} {A : Around} {E : Value → Shared → Prop} {s : Shared} {K : PySem.W.Frag} {x y C L g : Addr} {h₀ : Heap} {m : Str → Option Value} {ox oy : Obj} {od oe : Option Obj} {Q : Value → Shared → Prop} (F : PyProof.Rows.Fr h₀ L s.heap m) (X₀ : K.In h₀)
    (I : PySem.W.InstAt s.heap x ox C od) (J : PySem.W.InstAt s.heap y oy C oe) (hc : PySem.W.selfFirst K C = true) (hs : PySem.W.findIn K (.ref C) "__mul__" = some (some (.ref g))) (hf : PySem.W.isFn K (.ref g) = true)
    (h : wpAny (model prog w) A (call (.ref g) [.ref x, .ref y]) (PySem.W.CmpBack Q) E s) : wpAny (model prog w) A (binaryOp .Mult (.ref x) (.ref y)) Q E s := by
  have KX := X₀.keeps F.keep
  obtain ⟨cd, rest, hcd, hm⟩ := PySem.W.ksp_first hc
  have hs' : PySem.W.findIn K (.ref C) (PySem.dunder "mul") = some (some (.ref g)) := hs
  have one := PySem.W.ksp_try (name := PySem.dunder "mul") KX I hs' hf h
  obtain ⟨hh, gg, dd, tt, os⟩ := s
  have f1 : PySem.W.Looks (model prog w) hh (typeOf (.ref x)) (.ref C) := I.type
  have f2 : PySem.W.Looks (model prog w) hh (typeOf (.ref y)) (.ref C) := J.type
  have f3 : PySem.W.Looks (model prog w) hh (fillsNumberSlot (.ref C) "mul") true := PySem.W.fills_K KX hcd hm hs'
  unfold binaryOp
  refine wpAny_holding ?_
  show wpAny _ _ (binaryOp1 "mul" (.ref x) (.ref y) >>= _) _ _ _
  refine wpAny_bind ?_
  unfold binaryOp1
  refine wpAny_bind (f1.at (wpAny_bind (f2.at (wpAny_bind (f3.at ?_)))))
  simp only [beq_self_eq_true, if_true, Bool.and_false, Bool.false_eq_true, if_false, Bool.not_false, Bool.false_and]
  refine wpAny_bind (wpAny_pure ?_)
  simp only [Bool.and_false, Bool.false_eq_true, if_false, Bool.false_and]
  refine wpAny_bind (wpAny_pure ?_)
  refine wpAny_bind (wpAny_mono one (fun r s' hr => ?_) fun _ _ e => e)
  obtain ⟨v, rfl, hq⟩ := hr
  exact wpAny_pure (wpAny_pure hq)
theorem m_mulo (C : Ct X R W N sc k) (T : TabU R kf tab) (hk : kf ≤ k) (h1 : PE X a (tE R W ma)) (h2 : PE X b (tE R W mb)) : PE X (.BinOp a .Mult b pos) (tE R W (mMulo tab ma mb)) := by
  refine ⟨fun pins s σV H Q I h => ?_⟩
  let Rl : V → V → Hp → Prop := fun x y H2 => ∃ (ax ay : Addr) (c : Nat) (G : FM) (dx dy : Addr) (ws ws' : List (Option V)), x = .ref ax ∧ y = .ref ay ∧ SlX.Slt H2 ax (R.ca c) dx ws ∧ SlX.Slt H2 ay (R.ca c) dy ws' ∧ MuI R c kf G ∧
    spD R G [x, y] H2 (fun v H' => (∃ q, v = .ref q) ∧ Q v H') fun c d H' => W c d σV H'
  have h' : tE R W ma σV H fun x H1 => tE R W mb σV H1 fun y H2 => Rl x y H2 := by
    obtain ⟨B, HB, ow, σ, dr, F, h⟩ := h
    refine ⟨B, HB, ow, σ, dr, F, Out.mono (Out.bind h) fun d s1 ow1 H1 F1 st1 h1 v hv => ?_⟩
    refine ⟨B, HB, ow1, s1.σ, s1.dr, F1, Out.mono (Out.bind h1) fun d2 s2 ow2 H2 F2 st2 h2 u hu => ?_⟩
    cases d <;> (try exact h2.elim)
    cases d2 <;> (try exact h2.elim)
    rename_i c ns vs c' ns' vs'
    dsimp only at h2
    split at h2
    · rename_i ec
      subst ec
      split at h2
      · rename_i G hG
        have hM := T c G hG
        obtain ⟨ax, dx, ws, us, rfl, q1, _⟩ := inst_slt (hv.stp st2) hM.1
        obtain ⟨ay, dy, ws', us', rfl, q2, _⟩ := inst_slt hu hM.1
        refine ⟨ax, ay, c, G, dx, dy, ws, ws', rfl, rfl, q1, q2, hM, spD_of F2 (IsL.cons (hv.stp st2) (IsL.cons hu IsL.nil)) (Out.mono (Out.bind h2) fun d s3 ow3 H3 F3 st3 h3 w hw => ?_)⟩
        cases d with
        | ins c ns vs =>
          refine ⟨?_, h3 ow3 H3 F3 (Stp.refl _ _) w hw⟩
          unfold Is at hw
          obtain ⟨q, _, _, e, _⟩ := hw
          exact ⟨q, e⟩
        | _ => exact h3.elim
      · exact h2.elim
    · exact h2.elim
  refine wpAny_BinOp (binT h1 h2 I h' fun v u s2 x y H2 I2 rx ry q => ?_)
  obtain ⟨ax, ay, c, G, dx, dy, ws, ws', rfl, rfl, q1, q2, ⟨hs, hc, g, hat, hf, hcal⟩, q⟩ := q
  obtain rfl : v = Value.ref ax := rx
  obtain rfl : u = Value.ref ay := ry
  rw [← C.K] at hc hat hf
  obtain ⟨sl, od, _, J, _⟩ := SlX.slt_inst I2 q1
  obtain ⟨sl', od', _, J', _⟩ := SlX.slt_inst I2 q2
  obtain ⟨mm, hF⟩ := I2.fr
  refine own_mul hF I2.ok.mod.kin J J' hc hat hf (thn (wpAny_call (hcal C hk pins s2 σV H2 [.ref ax, .ref ay] [.ref ax, .ref ay] _ I2 (.cons rfl (.cons rfl .nil)) q)) fun w s' ⟨z, H', I', rz, ⟨r, er⟩, qz⟩ => ?_)
  subst er
  obtain rfl : w = Value.ref r := rz
  exact ⟨.ref r, H', I', rfl, qz⟩
end
end Mi
set_option Elab.async false
set_option linter.all false
set_option maxRecDepth 100000
set_option maxHeartbeats 4000000
/-! Mi10: isinstance, sorted, index, reversed slices, draws, further calls. -/
namespace Mi
open PySem L2 PySem.Spec PyProof.Rows

/-! ### isinstance -/
def tyV (R : Rc) : Ty → V
  | .int => .ty "int" | .bool => .ty "bool" | .tuple => .ty "tuple" | .list => .ty "list" | .str => .ty "str" | .cls c => .ref (R.ca c)
def tyU (R : Rc) : Ty → Value
  | .int => .type "int" | .bool => .type "bool" | .tuple => .type "tuple" | .list => .type "list" | .str => .type "str" | .cls c => .ref (R.ca c)
theorem ty_cls {R : Rc} (t : Ty) : ClsV (tyV R t) (tyU R t) := by cases t <;> constructor
theorem ty_rel {R : Rc} (t : Ty) : RelV (tyV R t) (tyU R t) := by cases t <;> rfl
/-- the class c in an isinstance -/
def ClI (R : Rc) (c : Nat) : Prop := (∀ t : String, t ∈ ["NoneType", "bool", "int", "str", "tuple", "list"] → PySem.W.kitOne R.K (.type t) (.ref (R.ca c)) = some false) ∧ PySem.W.kitOne R.K (.ref (R.ca c)) (.ref (R.ca c)) = some true
def TyI (R : Rc) : Ty → Prop
  | .cls c => ClI R c
  | _ => True
/-- the instances of own classes in an isinstance -/
def InI' (R : Rc) : Prop := ∀ c n, R.has c n = true → R.sl c = true ∧ SlX.SCls R.K (R.ca c) ∧ SlX.SIsi R.K (R.ca c) ∧ ∀ t : String, t ∈ ["int", "bool", "tuple", "list", "str"] → PySem.W.kitOne R.K (.ref (R.ca c)) (.type t) = some false
theorem kb (a b : String) (r : Bool) (h : kitB a b = some r) {K : PySem.W.Frag} : PySem.W.kitOne K (.type a) (.type b) = some r := kit_ty h
section
variable {X : Cx} {R : Rc} {W : WX} {N : List Str} {sc : Scope} {k : Nat} {B B0 : Bn} {HB H0 H : Hp} {σV : L2.St} {ow : Ow} {s : S}
def D.isIns : D → Bool
  | .ins _ _ _ => true
  | _ => false
/-- what is no instance -/
theorem isa_kit {d : D} {v : V} (h : IsP R B H d v) (ni : d.isIns = false) {t0 : Ty} {b0 : Bool} (e0 : d.isa1 t0 = some b0) : ∃ t, TyX R.K H v t ∧ ∀ ty b, TyI R ty → d.isa1 ty = some b → PySem.W.kitOne R.K t (tyU R ty) = some b := by
  cases d with
  | non =>
    have h' : Is R B H .non v := h
    unfold Is at h'
    subst h'
    refine ⟨_, .base .non, fun ty b hT e => ?_⟩
    cases ty <;> cases e
    · exact kb _ _ _ (by decide +kernel)
    · exact kb _ _ _ (by decide +kernel)
    · exact kb _ _ _ (by decide +kernel)
    · exact kb _ _ _ (by decide +kernel)
    · exact kb _ _ _ (by decide +kernel)
    · exact hT.1 _ (by decide)
  | bl c =>
    have h' : Is R B H (.bl c) v := h
    have e := isBl h'
    subst e
    refine ⟨_, .base (.bl c), fun ty b hT e => ?_⟩
    cases ty <;> cases e
    · exact kb _ _ _ (by decide +kernel)
    · exact kb _ _ _ (by decide +kernel)
    · exact kb _ _ _ (by decide +kernel)
    · exact kb _ _ _ (by decide +kernel)
    · exact kb _ _ _ (by decide +kernel)
    · exact hT.1 _ (by decide)
  | int i =>
    have e := isInt h
    subst e
    refine ⟨_, .base (.int i), fun ty b hT e => ?_⟩
    cases ty <;> cases e
    · exact kb _ _ _ (by decide +kernel)
    · exact kb _ _ _ (by decide +kernel)
    · exact kb _ _ _ (by decide +kernel)
    · exact kb _ _ _ (by decide +kernel)
    · exact kb _ _ _ (by decide +kernel)
    · exact hT.1 _ (by decide)
  | str n =>
    have h' : Is R B H (.str n) v := h
    unfold Is at h'
    obtain ⟨x, _, rfl⟩ := h'
    refine ⟨_, .base (.str x), fun ty b hT e => ?_⟩
    cases ty <;> cases e
    · exact kb _ _ _ (by decide +kernel)
    · exact kb _ _ _ (by decide +kernel)
    · exact kb _ _ _ (by decide +kernel)
    · exact kb _ _ _ (by decide +kernel)
    · exact kb _ _ _ (by decide +kernel)
    · exact hT.1 _ (by decide)
  | tup xs =>
    have h' : Is R B H (.tup xs) v := h
    unfold Is at h'
    obtain ⟨a, vs, rfl, _, ha, _⟩ := h'
    refine ⟨_, .base (.tup ha), fun ty b hT e => ?_⟩
    cases ty <;> cases e
    · exact kb _ _ _ (by decide +kernel)
    · exact kb _ _ _ (by decide +kernel)
    · exact kb _ _ _ (by decide +kernel)
    · exact kb _ _ _ (by decide +kernel)
    · exact kb _ _ _ (by decide +kernel)
    · exact hT.1 _ (by decide)
  | lst xs =>
    obtain ⟨a, vs, rfl, ha, _⟩ := h
    refine ⟨_, .base (.lst ha), fun ty b hT e => ?_⟩
    cases ty <;> cases e
    · exact kb _ _ _ (by decide +kernel)
    · exact kb _ _ _ (by decide +kernel)
    · exact kb _ _ _ (by decide +kernel)
    · exact kb _ _ _ (by decide +kernel)
    · exact kb _ _ _ (by decide +kernel)
    · exact hT.1 _ (by decide)
  | ins c ns vs => cases ni
  | rng _ _ => cases t0 <;> cases e0
  | cls _ => cases t0 <;> cases e0
  | dr => cases t0 <;> cases e0
  | frl _ => cases t0 <;> cases e0
def pIsa (R : Rc) (t : Ty) : List V → Hp → VK → Prop := fun vs H Q => ∃ (B : Bn) (d : D) (x : V) (b : Bool), vs = [x, tyV R t] ∧ IsP R B H d x ∧ d.isa1 t = some b ∧ Q (.bl b) H
theorem call_isaD (hK : X.K = R.K) (hi : InI' R) {t : Ty} (ht : TyI R t) : CallR X (.builtin "isinstance") (pIsa R t) := by
  intro pins s σ H xs us Q I r h
  obtain ⟨B, d, x, b, rfl, h1, e, q⟩ := h
  cases hn : d.isIns with
  | false =>
    obtain ⟨t', hx, hk⟩ := isa_kit h1 hn e
    rw [← hK] at hx hk
    exact call_isi pins s σ H _ us Q I r ⟨x, tyV R t, t', tyU R t, b, rfl, ty_cls t, hx, hk t b ht e, q⟩
  | true =>
    cases d with
    | ins c ns vs =>
      cases ns with
      | nil => cases e
      | cons n ns =>
        obtain ⟨hs, hc, hsi, hty⟩ := hi c n (ins_has (show Is R B H (.ins c (n :: ns) vs) x from h1) List.mem_cons_self)
        obtain ⟨a, dx, ws, us', rfl, q1, _⟩ := inst_slt (show Is R B H (.ins c (n :: ns) vs) x from h1) hs
        rw [← hK] at hc hsi hty
        refine SlX.call_isiSl (tyU R t) pins s σ H _ us Q I r ⟨a, R.ca c, dx, ws, tyV R t, b, rfl, ty_rel t, fun w hw => (ty_cls t).eq hw, q1, hc, hsi, ?_, q⟩
        cases t with
        | cls c' =>
          have e' : (if c = c' then some true else none) = some b := e
          split at e'
          · rename_i ec
            subst ec
            cases e'
            rw [hK]
            exact ht.2
          · cases e'
        | int => cases e; exact hty _ (by decide)
        | bool => cases e; exact hty _ (by decide)
        | tuple => cases e; exact hty _ (by decide)
        | list => cases e; exact hty _ (by decide)
        | str => cases e; exact hty _ (by decide)
    | _ => cases hn
variable {a b e o : Expr} {es : List Expr} {ma mb mo : M D} {ha hb : M Hd} {mr mk : M (List D)} {pos p apos p2 p3 : Pos} {x m : Str} {f : Addr} {kf : Nat} {G : FM} {tab : List (Nat × FM)} {pl : Sem Bool}
/-- a built-in type's name -/
theorem pe_tyN (C : Ct X R W N sc k) (bl : Bl R) {T : String} (hx : x ∈ (["list", "tuple", "int", "bool", "str"] : List Str)) (hv : bootBuiltins x = some (.type T)) (hg : sc.names.lookup x = some .globalImplicit) (hn : x ≠ "__name__") (hdb : (x == ("__debug__" : Str)) = false) : PE X (.Name x p) (tC (.ty T)) := by
  refine ⟨fun pins s σ H Q I h => ?_⟩
  refine ld_blt I (C.gl hg) ?_ hv ⟨.ty T, H, I, rfl, h⟩ hn hdb
  rw [C.mg]
  refine bl.no x ?_
  simp only [List.mem_cons, List.not_mem_nil, or_false] at hx ⊢
  rcases hx with h | h | h | h | h <;> simp [h]
theorem pe_clN (C : Ct X R W N sc k) {c : Nat} (hm : R.mg x = some (.ref (R.ca c))) (hg : sc.names.lookup x = some .globalImplicit) (hdb : (x == ("__debug__" : Str)) = false) : PE X (.Name x p) (tC (.ref (R.ca c))) :=
  pe_glob (v := .ref (R.ca c)) (C.gl hg) (by rw [C.mg]; exact hm) rfl hdb
theorem blt_isi (bl : Bl R) : R.mg "isinstance" = none := bl.no _ (by simp)
theorem m_isa (C : Ct X R W N sc k) (bl : Bl R) (hi : InI' R) {t : Ty} (ht : TyI R t) (hg : sc.names.lookup ("isinstance" : Str) = some .globalImplicit) (h1 : PE X a (tP R W ma)) (h2 : PE X b (tC (tyV R t))) (hv : bootBuiltins ("isinstance" : Str) = some (.builtin "isinstance"))
    (hs : starEach [a, b] X.env = (false, eval a X.env) :: starEach [b] X.env := by rfl) (hs2 : starEach [b] X.env = (false, eval b X.env) :: starEach [] X.env := by rfl) (hpl : (backTo pos (starEach [b] X.env)).any (·.1) = false := by rfl) :
    PE X (.Call (.Name ("isinstance" : Str) p) [a, b] [] pos) (tE R W (mIsa [t] ma)) := by
  refine (pe_callB (call_isaD C.K hi ht) (C.gl hg) (by rw [C.mg]; exact blt_isi bl) hv (pa_cons h1 (pa_cons h2 pa_nil hs2) hs) (by decide) (by decide) hs hpl).imp fun σV H Q h => ?_
  obtain ⟨B, HB, ow, σ, dr, F, h⟩ := h
  refine ⟨B, HB, ow, σ, dr, F, Out.mono (Out.bind h) fun d s ow1 H1 F1 st1 h1 v hv => ?_⟩
  obtain ⟨r, hr, q⟩ := Out.oget (Out.bind h1) F1
  exact ⟨_, d, v, r, rfl, hv, hr, (q H1 fun _ _ z => z) ow1 H1 F1 (Stp.refl _ _) _ blIs⟩
/-! ### isinstance of several types -/
theorem kitAny_of {K : PySem.W.Frag} {t : Value} {d : D} (hk : ∀ ty b, TyI R ty → d.isa1 ty = some b → PySem.W.kitOne K t (tyU R ty) = some b) : ∀ {ts : List Ty} {b : Bool}, (∀ ty ∈ ts, TyI R ty) → d.isaL ts = some b → PySem.W.kitAny K t (ts.map (tyU R)) = some b
  | [], b, _, e => by cases e; rfl
  | ty :: ts, b, hT, e => by
    unfold D.isaL at e
    split at e
    · rename_i e1
      cases e
      exact kitAny_cons (hk ty true (hT ty List.mem_cons_self) e1) (fun z => nomatch z) fun _ => rfl
    · rename_i e1
      exact kitAny_cons (hk ty false (hT ty List.mem_cons_self) e1) (fun _ => kitAny_of hk (fun t h => hT t (List.mem_cons_of_mem _ h)) e) fun z => nomatch z
    · cases e
theorem isaL_some {d : D} {t t' : Ty} {ts : List Ty} {b : Bool} (h : d.isaL (t :: ts) = some b) : ∃ b, d.isa1 t = some b := by
  unfold D.isaL at h
  split at h
  · rename_i e; exact ⟨_, e⟩
  · rename_i e; exact ⟨_, e⟩
  · cases h
theorem m_isa2 (C : Ct X R W N sc k) (bl : Bl R) {t1 t2 : Ty} (ht1 : TyI R t1) (ht2 : TyI R t2) {b1 b2 : Expr} {j : Nat} (hg : sc.names.lookup ("isinstance" : Str) = some .globalImplicit) (h1 : PE X a (tP R W ma)) (h2 : PE X b1 (tC (tyV R t1))) (h3 : PE X b2 (tC (tyV R t2))) (hv : bootBuiltins ("isinstance" : Str) = some (.builtin "isinstance"))
    (hs : starEach [a, .Tuple [b1, b2] j p2] X.env = (false, eval a X.env) :: starEach [.Tuple [b1, b2] j p2] X.env := by rfl) (hs2 : starEach [.Tuple [b1, b2] j p2] X.env = (false, eval (.Tuple [b1, b2] j p2) X.env) :: starEach [] X.env := by rfl) (hpl : (backTo pos (starEach [.Tuple [b1, b2] j p2] X.env)).any (·.1) = false := by rfl)
    (hs3 : starEach [b1, b2] X.env = (false, eval b1 X.env) :: starEach [b2] X.env := by rfl) (hs4 : starEach [b2] X.env = (false, eval b2 X.env) :: starEach [] X.env := by rfl) :
    PE X (.Call (.Name ("isinstance" : Str) p) [a, .Tuple [b1, b2] j p2] [] pos) (tE R W (mIsa [t1, t2] ma)) := by
  refine (pe_callB call_isiT (C.gl hg) (by rw [C.mg]; exact blt_isi bl) hv (pa_cons h1 (pa_cons (pe_tup (pa_cons h2 (pa_cons h3 pa_nil hs4) hs3)) pa_nil hs2) hs) (by decide) (by decide) hs hpl).imp fun σV H Q h => ?_
  obtain ⟨B, HB, ow, σ, dr, F, h⟩ := h
  refine ⟨B, HB, ow, σ, dr, F, Out.mono (Out.bind h) fun d s ow1 H1 F1 st1 h1 v hv => ?_⟩
  obtain ⟨r, hr, q⟩ := Out.oget (Out.bind h1) F1
  refine ⟨by show 2 ≤ sizeLine; rw [sizeLine_eq]; omega, fun q2 hq2 => ?_⟩
  have ni : d.isIns = false := by
    cases d with
    | ins c ns vs => cases hr
    | _ => rfl
  have hL : d.isaL [t1, t2] = some r := by
    cases d with
    | ins c ns vs => cases hr
    | _ => exact hr
  obtain ⟨b0, e0⟩ := isaL_some (t' := t1) hL
  obtain ⟨t', hx, hk⟩ := isa_kit (hv.ext (ext_upd (o := .tup [tyV R t1, tyV R t2]) hq2)) ni e0
  rw [← C.K] at hx hk
  refine ⟨v, q2, [tyV R t1, tyV R t2], t', [tyU R t1, tyU R t2], r, rfl, upd_same, .cons (ty_cls t1) (.cons (ty_cls t2) .nil), hx, kitAny_of hk (ts := [t1, t2]) (fun ty hty => ?_) hL, ?_⟩
  · rcases List.mem_cons.mp hty with rfl | hty
    · exact ht1
    · rw [List.mem_singleton.mp hty]; exact ht2
  · have e1 := ext_upd (o := .tup [tyV R t1, tyV R t2]) hq2
    exact (q _ e1) ow1 _ (F1.ext e1) (Stp.refl _ _) _ blIs
end
end Mi
set_option Elab.async false
set_option linter.all false
set_option maxRecDepth 100000
set_option maxHeartbeats 4000000
/-! Mi11: what is walked. -/
namespace Mi
open PySem L2 PySem.Spec PyProof.Rows

/-- J gives the values of xs, one by one -/
def Goes (R : Rc) (J : It) (xs : List D) (B : Bn) (H : Hp) : Prop := ∀ i : Nat, (∀ d, xs[i]? = some d → J.go i H ∧ ∀ x H2, J.yld i H x H2 → Ext H H2 ∧ Is R B H2 d x) ∧ (xs.length ≤ i → J.stop i H)
/-- J walks k now and later -/
def WkIs (R : Rc) (k : Wk) (J : It) (B : Bn) (H : Hp) (σV : L2.St) : Prop := ∃ d v, (k.sl = none → Is R B H d v) ∧ (∀ j d', k.sl = some (j, d') → d' = d ∧ d.isLst = true ∧ σV[j]? = some (some v)) ∧ ∀ B' H', IsP R B' H' d v → Live B' H' → Goes R J k.xs B' H'
def tW (R : Rc) (W : WX) (w : M Wk) : TI := fun σV H Rr => tM R W w (fun k B H' σV => ∀ J, WkIs R k J B H' σV → Rr J H') σV H
section
variable {X : Cx} {R : Rc} {W : WX} {N : List Str} {sc : Scope} {k : Nat} {B B0 B' : Bn} {HB H0 H H' : Hp} {σV : L2.St} {ow : Ow} {s : S}
theorem goes_lst {K : PySem.W.Frag} {a : Addr} {ys : List D} (hi : ∀ {xs zs : List V}, SqL K H' a xs → SqL K H' a zs → xs = zs) (h : IsP R B' H' (.lst ys) (.ref a)) : Goes R (Itl K a) ys B' H' := by
  obtain ⟨_, vs, e, ha, hl⟩ := h
  cases e
  intro i
  refine ⟨fun d hd => ?_, fun hn => ⟨vs, SqL.of ha, by rw [hl.len]; exact hn⟩⟩
  obtain ⟨v, hv, hI⟩ := hl.get hd
  refine ⟨⟨vs, v, SqL.of ha, hv⟩, fun x H2 hy => ?_⟩
  obtain ⟨rfl, hx⟩ := hy
  have := hx vs (SqL.of ha)
  rw [hv] at this
  cases this
  exact ⟨fun _ _ z => z, hI⟩
theorem goes_lst' {K : PySem.W.Frag} {a : Addr} {ys : List D} (h : IsP R B' H' (.lst ys) (.ref a)) : Goes R (Itl K a) ys B' H' := by
  obtain ⟨_, vs, e, ha, hl⟩ := h
  cases e
  intro i
  refine ⟨fun d hd => ?_, fun hn => ⟨vs, SqL.of ha, by rw [hl.len]; exact hn⟩⟩
  obtain ⟨v, hv, hI⟩ := hl.get hd
  refine ⟨⟨vs, v, SqL.of ha, hv⟩, fun x H2 hy => ?_⟩
  obtain ⟨rfl, hx⟩ := hy
  have := hx vs (SqL.of ha)
  rw [hv] at this
  cases this
  exact ⟨fun _ _ z => z, hI⟩
theorem goes_tup {K : PySem.W.Frag} {a : Addr} {ys : List D} (h : IsP R B' H' (.tup ys) (.ref a)) : Goes R (Itt K a) ys B' H' := by
  have h' : Is R B' H' (.tup ys) (.ref a) := h
  unfold Is at h'
  obtain ⟨_, vs, e, _, ha, hl⟩ := h'
  cases e
  intro i
  refine ⟨fun d hd => ?_, fun hn => ⟨vs, SqT.of ha, by rw [hl.len]; exact hn⟩⟩
  obtain ⟨v, hv, hI⟩ := hl.get hd
  refine ⟨⟨vs, v, SqT.of ha, hv⟩, fun x H2 hy => ?_⟩
  obtain ⟨rfl, hx⟩ := hy
  have := hx vs (SqT.of ha)
  rw [hv] at this
  cases this
  exact ⟨fun _ _ z => z, hI⟩
theorem rngL_get {lo : Int} {n i : Nat} {d : D} (h : (rngL lo n)[i]? = some d) : i < n ∧ d = .int (lo + i) := by
  unfold rngL at h
  rw [List.getElem?_map] at h
  obtain ⟨j, hj, rfl⟩ := Option.map_eq_some_iff.mp h
  obtain ⟨h1, h2⟩ := List.getElem?_eq_some_iff.mp hj
  simp at h1 h2
  exact ⟨h1, by rw [← h2]⟩
theorem rngL_len {lo : Int} {n : Nat} : (rngL lo n).length = n := by simp [rngL]
theorem goes_rng {lo : Int} {n : Nat} : Goes R (Itr lo n) (rngL lo n) B' H' := by
  intro i
  refine ⟨fun d hd => ?_, fun hn => by rw [rngL_len] at hn; exact hn⟩
  obtain ⟨h1, rfl⟩ := rngL_get hd
  refine ⟨h1, fun x H2 hy => ?_⟩
  obtain ⟨rfl, rfl⟩ := hy
  exact ⟨fun _ _ z => z, intIs⟩
theorem enumD_len : ∀ (n : Nat) (xs : List D), (enumD n xs).length = xs.length
  | _, [] => rfl
  | n, x :: xs => by simp [enumD, enumD_len (n + 1) xs]
theorem enumD_get : ∀ {n i : Nat} {xs : List D} {d : D}, (enumD n xs)[i]? = some d → ∃ x, xs[i]? = some x ∧ d = .tup [.int ((n + i : Nat) : Int), x]
  | _, _, [], _, h => by simp [enumD] at h
  | n, 0, x :: xs, d, h => by
    simp [enumD] at h
    exact ⟨x, rfl, by rw [← h]; simp⟩
  | n, i + 1, x :: xs, d, h => by
    have h' : (enumD (n + 1) xs)[i]? = some d := by simpa [enumD] using h
    obtain ⟨y, h1, h2⟩ := enumD_get h'
    refine ⟨y, by simpa using h1, ?_⟩
    rw [h2]
    have e : n + 1 + i = n + (i + 1) := by omega
    rw [e]
/-- enumerate over a tuple -/
def IteT (K : PySem.W.Frag) (a : Addr) : It :=
  ⟨fun i H => ∃ (xs : List V) (x : V), SqT K H a xs ∧ xs[i]? = some x, fun i H v H' => ∃ T x, v = .ref T ∧ H T = none ∧ H' = upd H T (.tup [.int (i : Nat), x]) ∧ ∀ xs, SqT K H a xs → xs[i]? = some x, fun i H => ∃ xs : List V, SqT K H a xs ∧ xs.length ≤ i⟩
theorem goes_enL {K : PySem.W.Frag} {a : Addr} {ys : List D} (h : IsP R B' H' (.lst ys) (.ref a)) (lv : Live B' H') : Goes R (Ite K a) (enumD 0 ys) B' H' := by
  obtain ⟨_, vs, e, ha, hl⟩ := h
  cases e
  intro i
  refine ⟨fun d hd => ?_, fun hn => ⟨vs, SqL.of ha, by rw [hl.len, ← enumD_len 0]; exact hn⟩⟩
  obtain ⟨x0, hx0, rfl⟩ := enumD_get hd
  obtain ⟨v, hv, hI⟩ := hl.get hx0
  refine ⟨⟨vs, v, SqL.of ha, hv⟩, fun x H2 hy => ?_⟩
  obtain ⟨T, x1, rfl, hT, rfl, hx⟩ := hy
  have := hx vs (SqL.of ha)
  rw [hv] at this
  cases this
  refine ⟨ext_upd hT, ?_⟩
  rw [Nat.zero_add]
  exact mkTup lv hT (IsL.cons intIs (IsL.cons hI IsL.nil))
theorem goes_enT {K : PySem.W.Frag} {a : Addr} {ys : List D} (h : IsP R B' H' (.tup ys) (.ref a)) (lv : Live B' H') : Goes R (IteT K a) (enumD 0 ys) B' H' := by
  have h' : Is R B' H' (.tup ys) (.ref a) := h
  unfold Is at h'
  obtain ⟨_, vs, e, _, ha, hl⟩ := h'
  cases e
  intro i
  refine ⟨fun d hd => ?_, fun hn => ⟨vs, SqT.of ha, by rw [hl.len, ← enumD_len 0]; exact hn⟩⟩
  obtain ⟨x0, hx0, rfl⟩ := enumD_get hd
  obtain ⟨v, hv, hI⟩ := hl.get hx0
  refine ⟨⟨vs, v, SqT.of ha, hv⟩, fun x H2 hy => ?_⟩
  obtain ⟨T, x1, rfl, hT, rfl, hx⟩ := hy
  have := hx vs (SqT.of ha)
  rw [hv] at this
  cases this
  refine ⟨ext_upd hT, ?_⟩
  rw [Nat.zero_add]
  exact mkTup lv hT (IsL.cons intIs (IsL.cons hI IsL.nil))

/-! ### iterators made -/
section
variable {pins : List (Addr × Obj)} {σ : L2.St} {s' : Shared} {tg : Expr} {Rr : It → Hp → Prop} {a : Addr} {xs : List V}
theorem it_lst (I : Inv X pins σ H s') (hq : SqL X.K H a xs) (q : Rr (Itl X.K a) H) : wpAny (model X.prog X.w) X.A (pyIter (.ref a)) (PIE X pins σ tg Rr) X.xe s' := by
  obtain ⟨its, _, pl, _⟩ := I.list hq
  refine wpAny_pyIter_list pl.isList ⟨_, [s'.heap.objs.size], _, _, H, rfl, I.kept (t' := s'.toks) fun b o e => Heap.get?_push_of_some _ e, turn_list a _, ⟨_, Heap.get?_push_size _ rfl, rfl, rfl⟩, fun b hb => ?_, q⟩
  obtain rfl : b = s'.heap.objs.size := by simpa using hb
  exact I.fpOk (Nat.le_refl _) (I.hok.fresh (Nat.le_refl _))
theorem it_tup (I : Inv X pins σ H s') (hq : SqT X.K H a xs) (q : Rr (Itt X.K a) H) : wpAny (model X.prog X.w) X.A (pyIter (.ref a)) (PIE X pins σ tg Rr) X.xe s' := by
  obtain ⟨its, _, pl, _⟩ := I.tuple hq
  refine wpAny_pyIter_tuple (show s'.heap.IsTuple a its.toArray from pl) ⟨_, [s'.heap.objs.size], _, _, H, rfl, I.kept (t' := s'.toks) fun b o e => Heap.get?_push_of_some _ e, turn_tuple a _, ⟨_, Heap.get?_push_size _ rfl, rfl, rfl⟩, fun b hb => ?_, q⟩
  obtain rfl : b = s'.heap.objs.size := by simpa using hb
  exact I.fpOk (Nat.le_refl _) (I.hok.fresh (Nat.le_refl _))
theorem small62_of {i : Int} (h : small62 i = true) : -(2 ^ 62) ≤ i ∧ i < 2 ^ 62 := by
  unfold small62 at h
  rw [Bool.and_eq_true, decide_eq_true_eq, decide_eq_true_eq] at h
  exact h
theorem it_rng (I : Inv X pins σ H s') {lo hi : Int} (ha : H a = some (.rng lo hi)) (h1 : small62 lo = true) (h2 : small62 hi = true) (q : Rr (Itr lo (hi - lo).toNat) H) : wpAny (model X.prog X.w) X.A (pyIter (.ref a)) (PIE X pins σ tg Rr) X.xe s' := by
  obtain ⟨t, u, v, hob⟩ := I.hok a _ ha
  obtain ⟨a1, a2⟩ := small62_of h1
  obtain ⟨b1, b2⟩ := small62_of h2
  refine wpAny_pyIter_range (a := lo) (b := hi) (c := 1) hob (small_one a1 a2 b1 b2) ⟨_, [s'.heap.objs.size], _, _, H, rfl, I.kept (t' := _) fun b o e => Heap.get?_push_of_some _ e, turn_range _ lo (hi - lo).toNat, ?_, fun b hb => ?_, q⟩
  · show IsRangeIter _ _ (lo + ((0 : Nat) : Int) * 1) ((((hi - lo).toNat : Nat) : Int) - ((0 : Nat) : Int)) 1
    rw [show lo + ((0 : Nat) : Int) * 1 = lo by simp, show (((hi - lo).toNat : Nat) : Int) - ((0 : Nat) : Int) = Builtin.Range.rangeSize lo hi 1 by rw [rangeSize_one]; split <;> omega]
    exact Heap.get?_push_size _ rfl
  · obtain rfl : b = s'.heap.objs.size := by simpa using hb
    exact I.fpOk (Nat.le_refl _) (I.hok.fresh (Nat.le_refl _))
end
/-- what is walked is held -/
theorem wk_is {h : Hd} {v : V} {f : D → Option (List D)} {K : Wk → S → Ow → Hp → Prop} (F : Fr R B HB ow s.σ s.dr σV H) (hv : HdIs R (Ban B ow s.σ) H σV h v) (o : Out R W B HB (Ban B ow s.σ) H σV (wkOf h s f) K) :
    ∃ (d : D) (xs : List D) (sl : Option (Nat × D)), IsP R (Ban B ow s.σ) H d v ∧ f d = some xs ∧ (sl = none → Is R (Ban B ow s.σ) H d v) ∧ (∀ j d', sl = some (j, d') → d' = d ∧ d.isLst = true ∧ σV[j]? = some (some v)) ∧ K ⟨xs, sl⟩ s ow H := by
  cases h with
  | dat d =>
    obtain ⟨xs, e, q⟩ := Out.oget (Out.bind o) F
    exact ⟨d, xs, none, Is.p hv, e, fun _ => hv, fun _ _ z => (nomatch z), (q H fun _ _ z => z) ow H F (Stp.refl _ _)⟩
  | «at» i =>
    have hv' : σV[i]? = some (some v) := hv
    unfold wkOf at o
    dsimp only at o
    split at o
    · rename_i d e
      obtain ⟨w, h1, h2⟩ := F.val i d e
      rw [h1] at hv'
      cases hv'
      obtain ⟨xs, e, q⟩ := Out.oget (Out.bind o) F
      exact ⟨d, xs, none, h2.p, e, fun _ => h2, fun _ _ z => (nomatch z), (q H fun _ _ z => z) ow H F (Stp.refl _ _)⟩
    · rename_i ys e
      obtain ⟨h1, ⟨_, vs, h2, h3⟩, _⟩ := F.own i _ (show heldAt s.σ i = some (.lst ys) by unfold heldAt; rw [e]; rfl)
      rw [h1] at hv'
      cases hv'
      obtain ⟨xs, e, q⟩ := Out.oget (Out.bind o) F
      refine ⟨.lst ys, xs, some (i, .lst ys), ⟨_, vs, rfl, h2, h3⟩, e, (fun z => nomatch z), fun j d' z => ?_, (q H fun _ _ z => z) ow H F (Stp.refl _ _)⟩
      cases z
      exact ⟨rfl, rfl, h1⟩
    · rename_i ys e
      obtain ⟨h1, ⟨_, vs, h2, h3⟩, _⟩ := F.own i _ (show heldAt s.σ i = some (.lst ys) by unfold heldAt; rw [e]; rfl)
      rw [h1] at hv'
      cases hv'
      obtain ⟨xs, e, q⟩ := Out.oget (Out.bind o) F
      refine ⟨.lst ys, xs, some (i, .lst ys), ⟨_, vs, rfl, h2, h3⟩, e, (fun z => nomatch z), fun j d' z => ?_, (q H fun _ _ z => z) ow H F (Stp.refl _ _)⟩
      cases z
      exact ⟨rfl, rfl, h1⟩
    · exact o.elim
variable {a b e : Expr} {es : List Expr} {ma mb : M D} {ha : M Hd} {pos p tpos : Pos} {tg : Expr}
theorem w_one (h1 : PE X a (tH R W ha)) : PI X tg a (tW R W (wOne ha)) := by
  refine ⟨fun pins s σV H Rr I h => ?_⟩
  obtain ⟨B, HB, ow, σ, dr, F, h⟩ := h
  let K1 : VK := fun v H1 => (∃ q xs, v = .ref q ∧ SqL X.K H1 q xs ∧ Rr (Itl X.K q) H1) ∨ (∃ q xs, v = .ref q ∧ SqT X.K H1 q xs ∧ Rr (Itt X.K q) H1) ∨ ∃ q lo hi, v = .ref q ∧ H1 q = some (.rng lo hi) ∧ small62 lo = true ∧ small62 hi = true ∧ Rr (Itr lo (hi - lo).toNat) H1
  have h' : tH R W ha σV H K1 := by
    refine ⟨B, HB, ow, σ, dr, F, Out.mono (Out.bind h) fun hd s1 ow1 H1 F1 st1 h1 v hv => ?_⟩
    obtain ⟨d, xs, sl, hp, e, i1, i2, q⟩ := wk_is F1 hv h1
    cases d with
    | lst ys =>
      cases e
      obtain ⟨q0, vs, rfl, ha, hl⟩ := id hp
      exact .inl ⟨q0, vs, rfl, SqL.of ha, q _ ⟨.lst xs, _, i1, i2, fun B' H' hp lv => goes_lst' hp⟩⟩
    | tup ys =>
      cases e
      have hp' : Is R (Ban B ow1 s1.σ) H1 (.tup xs) v := hp
      unfold Is at hp'
      obtain ⟨q0, vs, rfl, _, ha, hl⟩ := hp'
      exact .inr (.inl ⟨q0, vs, rfl, SqT.of ha, q _ ⟨.tup xs, _, i1, i2, fun B' H' hp lv => goes_tup hp⟩⟩)
    | rng lo hi =>
      unfold D.items at e
      dsimp only at e
      split at e
      · rename_i hc
        rw [Bool.and_eq_true] at hc
        cases e
        have hp' : Is R (Ban B ow1 s1.σ) H1 (.rng lo hi) v := hp
        unfold Is at hp'
        obtain ⟨q0, rfl, _, ha⟩ := hp'
        exact .inr (.inr ⟨q0, lo, hi, rfl, ha, hc.1, hc.2, q _ ⟨.rng lo hi, _, i1, i2, fun B' H' hp lv => goes_rng⟩⟩)
      · cases e
    | _ => cases e
  refine thn (h1.run pins s σV H K1 I h') fun v s1 ⟨x, H1, I1, r1, q1⟩ => ?_
  rcases q1 with ⟨q, xs, rfl, hq, qq⟩ | ⟨q, xs, rfl, hq, qq⟩ | ⟨q, lo, hi, rfl, hq, b1, b2, qq⟩
  · obtain rfl : v = Value.ref q := r1
    exact it_lst I1 hq qq
  · obtain rfl : v = Value.ref q := r1
    exact it_tup I1 hq qq
  · obtain rfl : v = Value.ref q := r1
    exact it_rng I1 hq b1 b2 qq
theorem w_r1 (C : Ct X R W N sc k) (bl : Bl R) (hg : sc.names.lookup ("range" : Str) = some .globalImplicit) (h1 : PE X a (tE R W ma)) (hs : starEach [a] X.env = [(false, eval a X.env)] := by rfl) : PI X tg (.Call (.Name ("range" : Str) p) [a] [] pos) (tW R W (wR1 ma)) := by
  refine ⟨fun pins s σV H Rr I h => (pi_range1 (C.gl hg) (by rw [C.mg]; exact bl.no _ (by simp)) (pa_cons h1 pa_nil hs) hs).run pins s σV H Rr I ?_⟩
  obtain ⟨B, HB, ow, σ, dr, F, h⟩ := h
  refine ⟨B, HB, ow, σ, dr, F, Out.mono (Out.bind h) fun d s1 ow1 H1 F1 st1 h1 v hv => ?_⟩
  cases d with
  | int j =>
    have ev := isInt hv.p
    subst ev
    dsimp only at h1
    split at h1
    · rename_i hc
      obtain ⟨c1, c2⟩ := small62_of hc
      exact ⟨j, rfl, c1, c2, h1 ow1 H1 F1 (Stp.refl _ _) _ ⟨.non, .non, fun _ => by unfold Is; rfl, fun _ _ z => (nomatch z), fun B' H' _ _ => goes_rng⟩⟩
    · exact h1.elim
  | _ => exact h1.elim
theorem w_r2 (C : Ct X R W N sc k) (bl : Bl R) (hg : sc.names.lookup ("range" : Str) = some .globalImplicit) (h1 : PE X a (tE R W ma)) (h2 : PE X b (tE R W mb)) (hs : starEach [a, b] X.env = [(false, eval a X.env), (false, eval b X.env)] := by rfl) (hs2 : starEach [b] X.env = [(false, eval b X.env)] := by rfl) :
    PI X tg (.Call (.Name ("range" : Str) p) [a, b] [] pos) (tW R W (wR2 ma mb)) := by
  refine ⟨fun pins s σV H Rr I h => (pi_range2 (C.gl hg) (by rw [C.mg]; exact bl.no _ (by simp)) (pa_cons h1 (pa_cons h2 pa_nil hs2) (by rw [hs, hs2])) hs hs2).run pins s σV H Rr I ?_⟩
  obtain ⟨B, HB, ow, σ, dr, F, h⟩ := h
  refine ⟨B, HB, ow, σ, dr, F, Out.mono (Out.bind h) fun d s1 ow1 H1 F1 st1 h1 v hv => ?_⟩
  refine ⟨B, HB, ow1, s1.σ, s1.dr, F1, Out.mono (Out.bind h1) fun d2 s2 ow2 H2 F2 st2 h2 u hu => ?_⟩
  cases d <;> (try exact h2.elim)
  cases d2 <;> (try exact h2.elim)
  rename_i i j
  have ev := isInt hv.p
  have eu := isInt hu.p
  subst ev eu
  dsimp only at h2
  split at h2
  · rename_i hc
    rw [Bool.and_eq_true] at hc
    obtain ⟨c1, c2⟩ := small62_of hc.1
    obtain ⟨c3, c4⟩ := small62_of hc.2
    exact ⟨i, j, rfl, ⟨c1, c2, c3, c4⟩, h2 ow2 H2 F2 (Stp.refl _ _) _ ⟨.non, .non, fun _ => by unfold Is; rfl, fun _ _ z => (nomatch z), fun B' H' _ _ => goes_rng⟩⟩
  · exact h2.elim
end
end Mi
set_option Elab.async false
set_option linter.all false
set_option maxRecDepth 100000
set_option maxHeartbeats 4000000
/-! Mi12: enumerate over lists and tuples; targets. -/
namespace PySem
/-- enumerate(v), v told by its iterator -/
theorem miEnumNew {v : Value} {io : Obj} {Hv : Heap → Prop} (Bg : Begins v io Hv) : Meets (Builtin.«enumerate.__new__» ⟨[.type "enumerate", v], []⟩) fun _ K s => Hv s.heap ∧
    K (.ok (.ret (.ref (s.heap.push io).objs.size))) { s with heap := (s.heap.push io).push { cls := .type "enumerate", data := .fields #[.none, .bool false, .ref s.heap.objs.size, rawInt 0, .none, .none] } } :=
  .of_wp fun prog w A K st0 hyp => by
    obtain ⟨h0, g0, d0, t0, o0⟩ := st0
    obtain ⟨hv, hyp⟩ := hyp
    have hsub := sub_enumerate
    have itr : ∀ {A' : Around} {E' : Value → Shared → Prop} {Q' : Value → Shared → Prop}, Q' (.ref h0.objs.size) ⟨h0.push io, g0, d0, t0, o0⟩ → wpAny (model prog w) A' (pyIter v) Q' E' ⟨h0, g0, d0, t0, o0⟩ := fun z => Bg.iter prog w _ _ ⟨h0, g0, d0, t0, o0⟩ _ hv z
    wp_walk using itr
    refine wpAny_stack_any fun stk => wpAny_pure ?_
    split
    · rename_i cc _ _ _ _ _
      cases (cc == Value.type "enumerate") <;> (wp_walk using itr; exact ⟨_, rfl, hyp⟩)
    · (wp_walk using itr; exact ⟨_, rfl, hyp⟩)
theorem miEnumCall {prog : Program} {w : World} {A : Around} {E : Value → Shared → Prop} {s : Shared} {v : Value} {io : Obj} {Hv : Heap → Prop} {Q : Value → Shared → Prop} (Bg : Begins v io Hv) (hv : Hv s.heap)
    (h : ∀ h', IsEnum h' (s.heap.objs.size + 1) s.heap.objs.size 0 .none → h'.get? s.heap.objs.size = some io → (∀ b o, s.heap.get? b = some o → h'.get? b = some o) → Q (.ref (s.heap.objs.size + 1)) { s with heap := h' }) : wpAny (model prog w) A (call (.type "enumerate") [v]) Q E s := by
  have sz : (s.heap.push io).objs.size = s.heap.objs.size + 1 := Heap.size_push ..
  refine callType_new F.called_enumerate (by decide) (F.typeCall_enumerate_1 _) (F.newCall_enumerate_1 _) (fun ob => F.args_object_init_2 ob _) F.entry_enumerate_new (miEnumNew Bg) ⟨hv, ?_⟩
  let eo : Obj := { cls := .type "enumerate", data := .fields #[.none, .bool false, .ref s.heap.objs.size, rawInt 0, .none, .none] }
  have en : ((s.heap.push io).push eo).get? (s.heap.objs.size + 1) = some eo := by
    rw [← sz]; exact Heap.get?_push_size _ rfl
  show _ ∧ _
  rw [sz]
  exact ⟨⟨_, en, rfl⟩, h _ en (Heap.get?_push_of_some _ (Heap.get?_push_size _ Bg.free)) fun b o z => Heap.get?_push_of_some _ (Heap.get?_push_of_some _ z)⟩
end PySem
namespace Mi
open PySem L2 PySem.Spec PyProof.Rows
mutual
def Tg.slots : Tg → List Nat
  | .n i => [i]
  | .t ts => Tg.slotsL ts
def Tg.slotsL : List Tg → List Nat
  | [] => []
  | g :: gs => g.slots ++ Tg.slotsL gs
end
theorem turnEnT {P : Program} {w : World} {K : PySem.W.Frag} {elts : List Expr} {kk : Nat} {tpos : Pos} (t e it : Addr) :
    Turn P w K (.Tuple elts kk tpos) (IteT K t) [e, it] e (fun i h => (∃ old, IsEnum h e it ((i : Nat) : Int) old) ∧ h.IsTupleIter it t i ∧ e ≠ it) where
  mem := List.mem_cons_self
  obj := fun i h ⟨⟨old, he⟩, ⟨oi, hoi, _, hdi⟩, _⟩ b hb => by
    rcases List.mem_cons.mp hb with rfl | hb
    · exact ⟨_, he, fun v z => nomatch z⟩
    · rw [List.mem_singleton.mp hb]; exact ⟨oi, hoi, fun v z => by rw [hdi] at z; cases z⟩
  keep := fun i h h' ⟨⟨old, he⟩, hi, hne⟩ kk => ⟨⟨old, kk e List.mem_cons_self _ he⟩, hi.at fun o q => kk it (List.mem_cons_of_mem _ List.mem_cons_self) o q, hne⟩
  item := by
    intro X hP hw hK hc i pins s σ H E I hf ⟨⟨old, he⟩, hit, hne⟩ ⟨xs, x, hq, hx⟩
    subst hP hw hK
    obtain ⟨its, rv, pt, hz⟩ := I.tuple hq
    have tt : s.heap.IsTuple t its.toArray := pt
    have lt_e : e < s.heap.objs.size := Heap.lt_size he
    have lt_i : it < s.heap.objs.size := by obtain ⟨_, q, _⟩ := hit; exact Heap.lt_size q
    obtain ⟨u0, hu0, ru0⟩ := rv.get hx
    have hne_t : ∀ b, b ∈ [e, it] → t ≠ b := fun b hb z => by
      obtain ⟨o, ho, hcl, n, hd⟩ := pt
      rcases List.mem_cons.mp hb with rfl | hb
      · rw [z] at ho
        have he' : s.heap.get? b = _ := he
        rw [he'] at ho
        cases ho
        injection hcl with q
        exact absurd q (by decide)
      · rw [List.mem_singleton.mp hb] at z
        rw [z] at ho
        obtain ⟨oi, hoi, hci, hdi⟩ := hit
        rw [hoi] at ho
        cases ho
        rw [hdi] at hd
        cases hd
    have il : i < its.toArray.size := by
      have := (List.getElem?_eq_some_iff.mp hu0).1
      simpa using this
    refine wpAny_pyNext_enum_itemD (P := fun i v => its.toArray[i]? = some v) (Draws.tuple (show X.A.in1.handled = none from I.ok.hd hc) it t (hne_t it (by simp)) its.toArray) he ⟨hit, tt⟩ il hne (fun z => by
      rcases List.mem_cons.mp z with z | z
      · exact hne z
      · exact hne_t e List.mem_cons_self (List.mem_singleton.mp z).symm) fun u h' tk hu ho hst hT hsz hkeep => ?_
    have eu : u = u0 := by
      have q : its[i]? = some u := by simpa using hu
      rw [hu0] at q
      exact (Option.some.inj q).symm
    subst eu
    refine ⟨_, rfl, wpAny_letOwnedTupleGo_enum (s := { s with heap := h', toks := tk + 1 }) ho fun h2 he2 sb => ?_⟩
    have T2 : h2.get? s.heap.objs.size = some { cls := .type "tuple", data := .seq #[.int i tk, u] } := (sb.2 _ (Nat.ne_of_gt lt_e)).trans hT
    let np : HO := .tup [.int (i : Nat), x]
    have okp : ObjOk X.prog X.w (upd H s.heap.objs.size np) h2 s.heap.objs.size np := ⟨by show 2 ≤ sizeLine; decide, [.int i tk, u], .cons ⟨_, rfl⟩ (.cons ru0 .nil), ⟨_, T2, rfl, _, rfl⟩⟩
    have J : Inv X pins σ (upd H s.heap.objs.size np) { s with heap := h2, toks := tk + 1 } := I.turnedNew (ch := [e, it]) (fun b ob hb q => (sb.2 b (fun z => hb (by simp [z]))).trans (hkeep b ob (fun z => hb (by simp [z])) (fun z => hb (by simp [z])) q)) hf (Nat.le_refl _) okp
    refine ⟨.ref s.heap.objs.size, _, J, rfl, ⟨_, x, rfl, I.hok.fresh (Nat.le_refl _), rfl, fun ys hy => by rw [I.tuple_inj hy hq]; exact hx⟩, ⟨⟨u, ?_⟩, hst.1.at fun o q => (sb.2 it (Ne.symm hne)).trans q, hne⟩, fun b hb => ?_⟩
    · rw [show ((i + 1 : Nat) : Int) = (i : Int) + 1 by omega]; exact he2
    · have lb : b < s.heap.objs.size := by
        rcases List.mem_cons.mp hb with rfl | hb
        · exact lt_e
        · rw [List.mem_singleton.mp hb]; exact lt_i
      rw [upd_ne (Nat.ne_of_lt lb)]
      exact (hf b hb).1
  done := by
    intro X hP hw hK hc i pins s σ H E I hf ⟨⟨old, he⟩, hit, hne⟩ ⟨xs, hq, hx⟩
    subst hP hw hK
    obtain ⟨its, rv, pt, hz⟩ := I.tuple hq
    have tt : s.heap.IsTuple t its.toArray := pt
    obtain ⟨f0, f1, f2, f3, f4, f5⟩ := hf it (by simp)
    have hnt : t ≠ it := fun z => by
      obtain ⟨o, ho, hcl, n, hd⟩ := pt
      rw [z] at ho
      obtain ⟨oi, hoi, hci, hdi⟩ := hit
      rw [hoi] at ho
      cases ho
      rw [hdi] at hd
      cases hd
    have hsz : its.toArray.size ≤ i := by
      have := rv.length
      simp
      omega
    have hT : s.TypeIs (.ref e) "enumerate" := ⟨_, he, rfl⟩
    unfold pyNext
    refine wpAny_bind (wpAny_attempt (wpAny_callSpecial?_slot (name := Str.ofString "__next__") hT F.slot_enumerate_next (wpAny_call_entry F.slot_enumerate_next hT F.entry_enumerate_next ?_ (F.args_enumerate_next_1 _))))
    show wpAny _ _ (field (.ref e) 2 >>= _) _ _ s
    refine wpAny_bind (wpAny_field he rfl (x := .ref it) rfl (wpAny_bind (wpAny_nextOf_tuple_end (show X.A.in1.in1.handled = none from I.ok.hd hc) hit tt (by simp; simpa using hsz) fun h' x he' hx' => ?_)))
    obtain ⟨o, ho, hc'⟩ := hx'
    refine wpAny_bind (wpAny_isInstance (T := "StopIteration") (b := true) ⟨o, ho, hc'⟩ isSubtype_stop (wpAny_pure ⟨rfl, ?_⟩))
    exact I.turned (t' := s.toks) (fun b o hb q => he' b o hb q) f0 f1 f3 f4 f5
  self := fun A i s Q E ⟨⟨_, he⟩, _⟩ h => wpAny_pyIter_enum he h
section
variable {X : Cx} {R : Rc} {W : WX} {N : List Str} {sc : Scope} {k : Nat} {a : Expr} {ha : M Hd} {pos p tpos : Pos} {elts : List Expr} {kk : Nat}
theorem w_enum (C : Ct X R W N sc k) (bl : Bl R) (hg : sc.names.lookup ("enumerate" : Str) = some .globalImplicit) (h1 : PE X a (tH R W ha)) (hs : starEach [a] X.env = [(false, eval a X.env)] := by rfl) :
    PI X (.Tuple elts kk tpos) (.Call (.Name ("enumerate" : Str) p) [a] [] pos) (tW R W (wEnum ha)) := by
  refine ⟨fun pins s σV H Rr I h => ?_⟩
  obtain ⟨B, HB, ow, σ, dr, F, h⟩ := h
  have hm : X.mg ("enumerate" : Str) = none := by rw [C.mg]; exact bl.no _ (by simp)
  let K1 : List V → Hp → Prop := fun vs H1 => (∃ q xs, vs = [.ref q] ∧ SqL X.K H1 q xs ∧ Rr (Ite X.K q) H1) ∨ (∃ q xs, vs = [.ref q] ∧ SqT X.K H1 q xs ∧ Rr (IteT X.K q) H1)
  have h' : tCons (tH R W ha) tNil σV H K1 := by
    refine ⟨B, HB, ow, σ, dr, F, Out.mono (Out.bind h) fun hd s1 ow1 H1 F1 st1 h1 v hv => ?_⟩
    obtain ⟨d, xs, sl, hp, e, i1, i2, q⟩ := wk_is F1 hv h1
    obtain ⟨ys, hys, rfl⟩ := Option.map_eq_some_iff.mp e
    cases d with
    | lst zs =>
      cases hys
      obtain ⟨q0, vs, rfl, ha, hl⟩ := id hp
      exact .inl ⟨q0, vs, rfl, SqL.of ha, q _ ⟨.lst ys, _, i1, i2, fun B' H' hp lv => goes_enL hp lv⟩⟩
    | tup zs =>
      cases hys
      have hp' : Is R (Ban B ow1 s1.σ) H1 (.tup ys) v := hp
      unfold Is at hp'
      obtain ⟨q0, vs, rfl, _, ha, hl⟩ := hp'
      exact .inr ⟨q0, vs, rfl, SqT.of ha, q _ ⟨.tup ys, _, i1, i2, fun B' H' hp lv => goes_enT hp lv⟩⟩
    | _ => cases hys
  refine Call_ (ld_blt I (C.gl hg) hm boot_enumerate (PyProof.Rows.callWith_type1 (thn ((pa_cons h1 pa_nil hs).run pos pins s σV H K1 I h') fun us s1 ⟨vs, H1, I1, r1, q1⟩ => ?_) hs rfl))
  have fp2 : ∀ b, b ∈ [s1.heap.objs.size + 1, s1.heap.objs.size] → s1.heap.objs.size ≤ b := fun b hb => by
    rcases List.mem_cons.mp hb with z | z
    · rw [z]; exact Nat.le_succ _
    · rw [List.mem_singleton.mp z]; exact Nat.le_refl _
  rcases q1 with ⟨q, xs, rfl, hq, qq⟩ | ⟨q, xs, rfl, hq, qq⟩
  · obtain ⟨u, rfl, ru⟩ := vals1 r1
    obtain rfl : u = Value.ref q := ru
    obtain ⟨its, rv, pl, _⟩ := I1.list hq
    refine miEnumCall (begins_list q its.toArray) pl.isList fun h' he hit hkeep => wpAny_pyIter_enum he ?_
    exact ⟨_, [_, _], _, _, H1, rfl, I1.kept (t' := s1.toks) hkeep, turn_enum q _ s1.heap.objs.size, ⟨⟨.none, he⟩, ⟨_, hit, rfl, rfl⟩, Nat.succ_ne_self _⟩, fun b hb => I1.fpOk (fp2 b hb) (I1.hok.fresh (fp2 b hb)), qq⟩
  · obtain ⟨u, rfl, ru⟩ := vals1 r1
    obtain rfl : u = Value.ref q := ru
    obtain ⟨its, rv, pl, _⟩ := I1.tuple hq
    refine miEnumCall (begins_tuple q its.toArray) pl fun h' he hit hkeep => wpAny_pyIter_enum he ?_
    exact ⟨_, [_, _], _, _, H1, rfl, I1.kept (t' := s1.toks) hkeep, turnEnT q _ s1.heap.objs.size, ⟨⟨.none, he⟩, ⟨_, hit, rfl, rfl⟩, Nat.succ_ne_self _⟩, fun b hb => I1.fpOk (fp2 b hb) (I1.hok.fresh (fp2 b hb)), qq⟩

/-! ### targets -/
/-- a target's reading: the slots that it sets -/
def tTg (R : Rc) (g : Tg) : TG := fun v σV H Q => ∃ (B : Bn) (HB : Hp) (ow : Ow) (σ σ' : List SV) (dr : List Int) (d : D), Fr R B HB ow σ dr σV H ∧ Is R (Ban B ow σ) H d v ∧ bindT g d σ = some σ' ∧
  ∀ σV', Fr R B HB ow σ' dr σV' H → (∀ a, Ban B ow σ' a → Ban B ow σ a) → σV'.length = σV.length → (∀ i, i ∉ g.slots → σV'[i]? = σV[i]? ∧ σ'[i]? = σ[i]?) → Q σV' H
def tTgs (R : Rc) (gs : List Tg) : TGs := fun vs σV H Q => ∃ (B : Bn) (HB : Hp) (ow : Ow) (σ σ' : List SV) (dr : List Int) (ds : List D), Fr R B HB ow σ dr σV H ∧ IsL R (Ban B ow σ) H ds vs ∧ bindTs gs ds σ = some σ' ∧
  ∀ σV', Fr R B HB ow σ' dr σV' H → (∀ a, Ban B ow σ' a → Ban B ow σ a) → σV'.length = σV.length → (∀ i, i ∉ Tg.slotsL gs → σV'[i]? = σV[i]? ∧ σ'[i]? = σ[i]?) → Q σV' H
theorem Fr.put' {B : Bn} {HB H : Hp} {σV : L2.St} {ow : Ow} {σ : List SV} {dr : List Int} {i : Nat} {d : D} {v : V} (f : Fr R B HB ow σ dr σV H) (h : Is R (Ban B ow σ) H d v) : Fr R B HB ow (σ.set i (.val d)) dr (σV.set i (some v)) H := by
  by_cases hi : i < σ.length
  · exact f.put hi h
  · rw [List.set_eq_of_length_le (by omega), List.set_eq_of_length_le (by rw [f.len]; omega)]
    exact f
theorem st_of (C : Ct X R W N sc k) {so : Scope} (S : Fs X so) {x : Str} (hl : stB so sc x = true) : L2.Loc X.env.scope x ∧ (X.fn x = true ∨ X.env.scope.names.lookup x = some .local) := by
  rw [C.esc]
  unfold stB at hl
  split at hl
  · have e : sc.names.lookup x = some .local := by simpa using hl
    exact ⟨.inl e, .inr e⟩
  · rename_i e
    exact ⟨loc_of hl, .inl (S x e)⟩
  · cases hl
theorem g_n (C : Ct X R W N sc k) {so : Scope} (S : Fs X so) {i : Nat} {x : Str} (hN : N[i]? = some x) (hl : stB so sc x = true) : PG X (.Name x pos) (tTg R (.n i)) := by
  obtain ⟨hlo, hf⟩ := st_of C S hl
  have h0 := pg_name (X := X) (pos := pos) (by rw [C.eN]; exact C.nd) (by rw [C.eN]; exact hN) hlo hf
  refine ⟨fun pins s σV H v u Q I r h => h0.run pins s σV H v u Q I r ?_⟩
  obtain ⟨B, HB, ow, σ, σ', dr, d, F, hd, hb, q⟩ := h
  cases (Option.some.inj (show some (σ.set i (.val d)) = some σ' from hb))
  refine q _ (F.put' hd) ban_put (by simp) fun j hj => ?_
  have hj' : i ≠ j := fun e => hj (by unfold Tg.slots; simp [e])
  exact ⟨List.getElem?_set_ne hj', List.getElem?_set_ne hj'⟩
theorem g_nil : PGs X [] (tTgs R []) := by
  refine ⟨fun pins s σV H vs us Q I r h => pgs_nil.run pins s σV H vs us Q I r ?_⟩
  obtain ⟨B, HB, ow, σ, σ', dr, ds, F, hd, hb, q⟩ := h
  cases ds with
  | nil =>
    cases hb
    unfold IsL at hd
    exact ⟨hd, q σV F (fun _ z => z) rfl fun _ _ => ⟨rfl, rfl⟩⟩
  | cons d ds => cases hb
theorem g_cons {e : Expr} {es : List Expr} {g : Tg} {gs : List Tg} (h1 : PG X e (tTg R g)) (h2 : PGs X es (tTgs R gs)) (hs : (assignEach (e :: es) X.env).map (·.2) = assign e X.env :: (assignEach es X.env).map (·.2) := by rfl) : PGs X (e :: es) (tTgs R (g :: gs)) := by
  refine ⟨fun pins s σV H vs us Q I r h => (pgs_cons h1 h2 hs).run pins s σV H vs us Q I r ?_⟩
  obtain ⟨B, HB, ow, σ, σ', dr, ds, F, hd, hb, q⟩ := h
  cases ds with
  | nil => cases hb
  | cons d ds =>
    obtain ⟨v, rs, rfl, hv, hr⟩ := hd.uncons
    obtain ⟨σ1, hb1, hb2⟩ := Option.bind_eq_some_iff.mp (show (bindT g d σ).bind (bindTs gs ds) = some σ' from hb)
    refine ⟨v, rs, rfl, B, HB, ow, σ, σ1, dr, d, F, hv, hb1, fun σV1 F1 sb1 l1 k1 => ?_⟩
    refine ⟨B, HB, ow, σ1, σ', dr, ds, F1, hr.less sb1, hb2, fun σV2 F2 sb2 l2 k2 => ?_⟩
    refine q σV2 F2 (fun a z => sb1 a (sb2 a z)) (l2.trans l1) fun i hi => ?_
    have hi1 : i ∉ g.slots := fun z => hi (by unfold Tg.slotsL; exact List.mem_append_left _ z)
    have hi2 : i ∉ Tg.slotsL gs := fun z => hi (by unfold Tg.slotsL; exact List.mem_append_right _ z)
    exact ⟨(k2 i hi2).1.trans (k1 i hi1).1, (k2 i hi2).2.trans (k1 i hi1).2⟩
theorem bindTs_len : ∀ {gs : List Tg} {ds : List D} {σ σ' : List SV}, bindTs gs ds σ = some σ' → ds.length = gs.length
  | [], [], _, _, _ => rfl
  | [], _ :: _, _, _, h => by cases h
  | _ :: _, [], _, _, h => by cases h
  | g :: gs, d :: ds, σ, σ', h => by
    obtain ⟨σ1, _, hb2⟩ := Option.bind_eq_some_iff.mp (show (bindT g d σ).bind (bindTs gs ds) = some σ' from h)
    simp [bindTs_len hb2]
theorem g_t (C : Ct X R W N sc k) {es : List Expr} {j : Nat} {gs : List Tg} (h : PGs X es (tTgs R gs)) (hn : (assignEach es X.env).length = gs.length := by rfl) (hst : (assignEach es X.env).findIdx? (·.1) = none := by rfl) : PG X (.Tuple es j pos) (tTg R (.t gs)) := by
  refine ⟨fun pins s σV H v u Q I r h' => (pg_tup C.calm h hn hst).run pins s σV H v u Q I r ?_⟩
  obtain ⟨B, HB, ow, σ, σ', dr, d, F, hd, hb, q⟩ := h'
  cases d with
  | tup ds =>
    unfold Is at hd
    obtain ⟨a, vs, rfl, _, ha, hl⟩ := hd
    have hb' : bindTs gs ds σ = some σ' := hb
    exact ⟨a, vs, rfl, SqT.of ha, by rw [hl.len, bindTs_len hb'], B, HB, ow, σ, σ', dr, ds, F, hl, hb', q⟩
  | _ => cases hb
end
end Mi
set_option Elab.async false
set_option linter.all false
set_option maxRecDepth 100000
set_option maxHeartbeats 4000000
/-! Mi13: list comprehensions. -/
namespace Mi
open PySem L2 PySem.Spec PyProof.Rows

/-! ### slots forgotten, set back -/
theorem wipeS_len (σ : List SV) : ∀ vs, (wipeS σ vs).length = σ.length
  | [] => rfl
  | v :: vs => by unfold wipeS; rw [List.length_set, wipeS_len σ vs]
theorem wipeS_out {σ : List SV} {i : Nat} : ∀ {vs : List Nat}, i ∉ vs → (wipeS σ vs)[i]? = σ[i]?
  | [], _ => rfl
  | v :: vs, h => by
    unfold wipeS
    rw [List.getElem?_set_ne (fun e => h (by simp [e]))]
    exact wipeS_out fun z => h (List.mem_cons_of_mem _ z)
theorem wipeS_in {σ : List SV} {i : Nat} : ∀ {vs : List Nat} {x : SV}, i ∈ vs → (wipeS σ vs)[i]? = some x → x = .em
  | [], _, h, _ => absurd h (by simp)
  | v :: vs, x, h, e => by
    unfold wipeS at e
    by_cases hv : v = i
    · subst hv
      by_cases hl : v < (wipeS σ vs).length
      · rw [List.getElem?_set_self hl] at e
        exact (Option.some.inj e).symm
      · rw [List.getElem?_eq_none (by simpa using hl)] at e
        cases e
    · rw [List.getElem?_set_ne hv] at e
      exact wipeS_in ((List.mem_cons.mp h).resolve_left fun z => hv z.symm) e
theorem backS_len (σ0 σ : List SV) : ∀ vs, (backS σ0 σ vs).length = σ.length
  | [] => rfl
  | v :: vs => by unfold backS; rw [List.length_set, backS_len σ0 σ vs]
theorem backS_out {σ0 σ : List SV} {i : Nat} : ∀ {vs : List Nat}, i ∉ vs → (backS σ0 σ vs)[i]? = σ[i]?
  | [], _ => rfl
  | v :: vs, h => by
    unfold backS
    rw [List.getElem?_set_ne (fun e => h (by simp [e]))]
    exact backS_out fun z => h (List.mem_cons_of_mem _ z)
theorem backS_in {σ0 σ : List SV} {i : Nat} : ∀ {vs : List Nat} {x : SV}, i ∈ vs → (backS σ0 σ vs)[i]? = some x → x = σ0.getD i .em
  | [], _, h, _ => absurd h (by simp)
  | v :: vs, x, h, e => by
    unfold backS at e
    by_cases hv : v = i
    · subst hv
      by_cases hl : v < (backS σ0 σ vs).length
      · rw [List.getElem?_set_self hl] at e
        exact (Option.some.inj e).symm
      · rw [List.getElem?_eq_none (by simpa using hl)] at e
        cases e
    · rw [List.getElem?_set_ne hv] at e
      exact backS_in ((List.mem_cons.mp h).resolve_left fun z => hv z.symm) e
theorem wipe_same {σ τ : L2.St} {vs : List Nat} (hl : σ.length = τ.length) (h : ∀ i, i ∉ vs → σ[i]? = τ[i]?) : wipe σ vs = wipe τ vs := by
  apply List.ext_getElem?
  intro i
  by_cases hi : i ∈ vs
  · have key : ∀ (ρ : L2.St), i < ρ.length → (wipe ρ vs)[i]? = some none := fun ρ hρ => by
      cases e : (wipe ρ vs)[i]? with
      | none =>
        rw [List.getElem?_eq_none_iff, wipe_length] at e
        omega
      | some x =>
        cases x with
        | none => rfl
        | some v => exact absurd hi (wipe_some e).2
    by_cases hl' : i < σ.length
    · rw [key σ hl', key τ (by omega)]
    · rw [List.getElem?_eq_none (by rw [wipe_length]; omega), List.getElem?_eq_none (by rw [wipe_length]; omega)]
  · rw [wipe_out hi, wipe_out hi, h i hi]
theorem wipe_wipe (σ : L2.St) (vs : List Nat) : wipe (wipe σ vs) vs = wipe σ vs := wipe_same (wipe_length _ _) fun i hi => wipe_out hi
section
variable {R : Rc} {B : Bn} {HB : Hp} {ow : Ow} {σ σ' : List SV} {dr : List Int} {σV σV' : L2.St} {H H' : Hp}
theorem held_val {σ : List SV} {i : Nat} (h : (σ.getD i .em).isVal = true) : heldAt σ i = none := by
  unfold heldAt
  rw [List.getD_eq_getElem?_getD] at h
  cases e : σ[i]? with
  | none => rfl
  | some x =>
    rw [e] at h
    cases x <;> first | rfl | cases h
theorem free_at {σ : List SV} {vs : List Nat} (h : freeS σ vs = true) {i : Nat} (hi : i ∈ vs) : heldAt σ i = none := held_val (List.all_eq_true.mp h i hi)
theorem held_wipe {vs : List Nat} (h : ∀ i ∈ vs, heldAt σ i = none) (i : Nat) : heldAt (wipeS σ vs) i = heldAt σ i := by
  by_cases hi : i ∈ vs
  · rw [h i hi]
    unfold heldAt
    cases e : (wipeS σ vs)[i]? with
    | none => rfl
    | some x => rw [wipeS_in hi e]; rfl
  · unfold heldAt; rw [wipeS_out hi]
theorem held_back {σ0 : List SV} {vs : List Nat} (h0 : freeS σ0 vs = true) (h : ∀ i ∈ vs, heldAt σ i = none) (i : Nat) : heldAt (backS σ0 σ vs) i = heldAt σ i := by
  by_cases hi : i ∈ vs
  · rw [h i hi]
    unfold heldAt
    cases e : (backS σ0 σ vs)[i]? with
    | none => rfl
    | some x =>
      rw [backS_in hi e]
      have hv := List.all_eq_true.mp h0 i hi
      cases q : σ0.getD i .em <;> rw [q] at hv <;> first | rfl | cases hv
  · unfold heldAt; rw [backS_out hi]
/-- p is ours, shut, and stays as it is -/
theorem Fr.shut2 {p : Addr} {o : HO} (f : Fr R B HB ow σ dr σV H) (hp : H p = none) : Fr R (Shut B p) (upd HB p o) ow σ dr σV (upd H p o) ∧ Stp (Ban B ow σ) H (Ban (Shut B p) ow σ) (upd H p o) := by
  obtain ⟨g, st⟩ := f.shut (o := o) hp
  refine ⟨?_, st⟩
  exact {
    len := g.len
    val := g.val
    own := fun j d q => by
      obtain ⟨q1, q2, q3, q4⟩ := g.own j d q
      exact ⟨q1, q2, ⟨q3.1, by rw [upd_ne fun z => q3.1 (.inr z)]; exact q3.2⟩, ⟨q4.1, by rw [upd_ne fun z => q4.1 (.inr z)]; exact q4.2⟩⟩
    sep := g.sep
    live := g.live
    hold := fun a u h q => by
      by_cases ha : a = p
      · rw [ha, upd_same] at q ⊢; exact q
      · rw [upd_ne ha] at q; exact g.hold a u h q
    drs := g.drs
    drB := g.drB }
theorem Fr.shutW2 {p : Addr} {o o' : HO} (f : Fr R (Shut B p) (upd HB p o) ow σ dr σV H) (hd : ¬ R.isDr p) : Fr R (Shut B p) (upd HB p o') ow σ dr σV (upd H p o') ∧ Stp (Ban (Shut B p) ow σ) H (Ban (Shut B p) ow σ) (upd H p o') := by
  have k : ∀ {a : Addr} {u : HO}, a ≠ p → H a = some u → upd H p o' a = some u := fun h q => by rw [upd_ne h]; exact q
  have st : Stp (Ban (Shut B p) ow σ) H (Ban (Shut B p) ow σ) (upd H p o') := ⟨fun a u nb e => k (fun z => nb ((ban_shut a).mpr (.inr z))) e, fun a z => .inl z⟩
  refine ⟨?_, st⟩
  exact {
    len := f.len
    val := fun j d q => by
      obtain ⟨u, q1, q2⟩ := f.val j d q
      exact ⟨u, q1, q2.stp st⟩
    own := fun j d q => by
      obtain ⟨q1, q2, q3, q4⟩ := f.own j d q
      have n3 : (ow j).1 ≠ p := fun w => q3.1 (.inr w)
      have n4 : (ow j).2 ≠ p := fun w => q4.1 (.inr w)
      exact ⟨q1, q2.keep (fun o z => k n3 z) (fun o z => k n4 z) st, ⟨q3.1, by have := q3.2; rw [upd_ne n3] at this ⊢; exact this⟩, ⟨q4.1, by have := q4.2; rw [upd_ne n4] at this ⊢; exact this⟩⟩
    sep := f.sep
    live := fun a z => by
      by_cases h : a = p
      · exact ⟨_, by rw [h, upd_same]⟩
      · obtain ⟨o, q⟩ := f.live a z
        exact ⟨o, k h q⟩
    hold := fun a u h q => by
      by_cases ha : a = p
      · rw [ha, upd_same] at q ⊢; exact q
      · rw [upd_ne ha] at q; exact k ha (f.hold a u h (by rw [upd_ne ha]; exact q))
    drs := fun h => k (fun z => hd ⟨h, z.symm⟩) (f.drs h)
    drB := f.drB }
theorem Fr.open2 {p : Addr} {o : HO} (f : Fr R (Shut B p) (upd HB p o) ow σ dr σV H) (hp : HB p = none) (nb : ¬ B p) (hd : R.hd = true → B R.dr) : Fr R B HB ow σ dr σV H ∧ Stp (Ban (Shut B p) ow σ) H (Ban B ow σ) H ∧ ¬ Ban B ow σ p := by
  have l : ∀ a, Ban B ow σ a → Ban (Shut B p) ow σ a := fun a z => (ban_shut a).mpr (.inl z)
  refine ⟨?_, Stp.less l, fun z => ?_⟩
  · exact {
      len := f.len
      val := fun j d q => by
        obtain ⟨u, q1, q2⟩ := f.val j d q
        exact ⟨u, q1, q2.less l⟩
      own := fun j d q => by
        obtain ⟨q1, q2, q3, q4⟩ := f.own j d q
        have n3 : (ow j).1 ≠ p := fun w => q3.1 (.inr w)
        have n4 : (ow j).2 ≠ p := fun w => q4.1 (.inr w)
        exact ⟨q1, q2.keep (fun o z => z) (fun o z => z) (Stp.less l), ⟨fun z => q3.1 (.inl z), by have := q3.2; rw [upd_ne n3] at this; exact this⟩, ⟨fun z => q4.1 (.inl z), by have := q4.2; rw [upd_ne n4] at this; exact this⟩⟩
      sep := f.sep
      live := fun a z => f.live a (.inl z)
      hold := fun a u h q => f.hold a u h (by rw [upd_ne (fun z => by rw [z, hp] at q; cases q)]; exact q)
      drs := f.drs
      drB := hd }
  · rcases z with z | ⟨j, d, q, z⟩
    · exact nb z
    · obtain ⟨_, _, q3, q4⟩ := f.own j d q
      rcases z with z | z
      · exact q3.1 (.inr z.symm)
      · exact q4.1 (.inr z.symm)
end

/-! ### the rule -/
def NoW : WX := fun _ _ _ _ => False
theorem takes_no {X : Cx} : Takes X NoW := fun u s' h => by
  obtain ⟨_, _, _, _, _, _, _, _, _, _, _, _, _, _, _, _, z⟩ := h
  exact z.elim
section
variable {X : Cx} {R : Rc} {W : WX} {N : List Str} {sc : Scope} {k : Nat}
theorem Ct.blk (C : Ct X R W N sc k) (s : Shared) (H : Hp) (scope : Scope) (Ca : Addr) (cl : List (Str × Addr)) (fp : List Addr) : Ct (X.blk s H scope (compEnvC scope cl Ca X.env) fp) R NoW N (relS scope sc) k where
  prog := C.prog
  w := C.w
  K := C.K
  mg := C.mg
  base := C.base
  eN := C.eN
  nd := C.nd
  esc := by show relS scope X.env.scope = relS scope sc; rw [C.esc]
  calm := C.calm
  room := C.room
  tk := takes_no
  tx := C.tx
theorem lend_held {o : Option (Nat × D)} {σ : List SV} {vs : List Nat} (h : LendOk o σ) (hf : freeS σ vs = true) : (∀ i, heldAt (lendO o σ) i = heldAt σ i) ∧ (lendO o σ).length = σ.length ∧ ∀ j d, o = some (j, d) → j ∉ vs := by
  cases o with
  | none => exact ⟨fun _ => rfl, rfl, fun _ _ z => nomatch z⟩
  | some p =>
    obtain ⟨j, d⟩ := p
    have hh : heldAt σ j = some d := by
      rcases h with e | e <;> (unfold heldAt; rw [e]; rfl)
    refine ⟨fun i => ?_, by show (σ.set j (.lnt d)).length = _; simp, fun j' d' e hi => ?_⟩
    · show heldAt (σ.set j (.lnt d)) i = _
      by_cases hij : j = i
      · subst hij
        rw [heldAt_set_self (heldAt_lt hh), hh]; rfl
      · rw [heldAt_set_ne hij]
    · cases e
      rw [free_at hf hi] at hh
      cases hh
theorem lend_val {o : Option (Nat × D)} {σ : List SV} {i : Nat} {d : D} (e : (lendO o σ)[i]? = some (.val d)) : σ[i]? = some (.val d) := by
  cases o with
  | none => exact e
  | some p =>
    obtain ⟨j, d'⟩ := p
    have e' : (σ.set j (.lnt d'))[i]? = some (.val d) := e
    by_cases hij : j = i
    · subst hij
      by_cases hl : j < σ.length
      · rw [List.getElem?_set_self hl] at e'; cases e'
      · rw [List.getElem?_eq_none (by simpa using hl)] at e'; cases e'
    · rw [List.getElem?_set_ne hij] at e'; exact e'
theorem unlend_len {o : Option (Nat × D)} {σ0 σ : List SV} : (unlendO o σ0 σ).length = σ.length := by
  cases o with
  | none => rfl
  | some p =>
    obtain ⟨j, d⟩ := p
    unfold unlendO
    dsimp only
    split <;> simp
theorem unlend_held {o : Option (Nat × D)} {σ0 τ σ1 : List SV} {vs : List Nat} (h : Lent o τ) (jv : ∀ j d, o = some (j, d) → j ∉ vs) {i : Nat} : heldAt (unlendO o σ0 (backS σ1 τ vs)) i = heldAt (backS σ1 τ vs) i := by
  cases o with
  | none => rfl
  | some p =>
    obtain ⟨j, d⟩ := p
    have hj := jv j d rfl
    have h' : τ[j]? = some (.lnt d) := h
    have hb : (backS σ1 τ vs)[j]? = some (.lnt d) := by rw [backS_out hj]; exact h'
    unfold unlendO
    dsimp only
    split
    · by_cases hij : j = i
      · subst hij
        rw [heldAt_set_self (List.getElem?_eq_some_iff.mp hb).1]
        unfold heldAt
        rw [hb]; rfl
      · rw [heldAt_set_ne hij]
    · rfl
theorem unlend_val {o : Option (Nat × D)} {σ0 σ : List SV} {i : Nat} {d : D} (e : (unlendO o σ0 σ)[i]? = some (.val d)) : σ[i]? = some (.val d) := by
  cases o with
  | none => exact e
  | some p =>
    obtain ⟨j, d'⟩ := p
    unfold unlendO at e
    dsimp only at e
    split at e
    · by_cases hij : j = i
      · subst hij
        by_cases hl : j < σ.length
        · rw [List.getElem?_set_self hl] at e; cases e
        · rw [List.getElem?_eq_none (by simpa using hl)] at e; cases e
      · rw [List.getElem?_set_ne hij] at e; exact e
    · exact e
/-- the tests of a comprehension: none, one -/
structure PTsM (X : Cx) (R : Rc) (W : WX) (ifs : List Expr) (t : M Bool) : Prop where
  run : PTs X ifs (tT R W t)
theorem if_no : PTsM X R W [] tYes := ⟨by
  refine ⟨fun pins s σ H Q I h => pts_nil.run pins s σ H Q I ?_⟩
  obtain ⟨B, HB, ow, σ, dr, F, h⟩ := h
  exact h ow H F (Stp.refl _ _)⟩
theorem if_one {c : Expr} {t : M Bool} (h : PT X c (tT R W t)) : PTsM X R W [c] t := ⟨pts_one h⟩
/-- what comes of a list just made -/
def OutF (R : Rc) (W : WX) (B : Bn) (HB : Hp) (B0 : Bn) (H0 : Hp) (σV : L2.St) (r : Res D) (Q : VK) : Prop := match r with
  | .ok (.lst xs) s => ∀ p vs ow H, Fr R (Shut B p) (upd HB p (.lst vs)) ow s.σ s.dr σV H → Stp B0 H0 (Ban (Shut B p) ow s.σ) H → HB p = none → ¬ B p → IsL R (Ban (Shut B p) ow s.σ) H xs vs → H p = some (.lst vs) → Q (.ref p) H
  | .ok _ _ => False
  | .ex c ns vs s => ∀ ow H us d, Fr R B HB ow s.σ s.dr σV H → Stp B0 H0 (Ban B ow s.σ) H → IsL R (Ban B ow s.σ) H vs us → ExcAt R H d ns us → W (.ref (R.ca c)) (some d) σV H
  | .no => False
theorem OutF.later {R : Rc} {W : WX} {B B0 B1 : Bn} {HB H0 H1 : Hp} {σV : L2.St} {r : Res D} {Q : VK} (st : Stp B0 H0 B1 H1) (h : OutF R W B HB B0 H0 σV r Q) : OutF R W B HB B1 H1 σV r Q := by
  cases r with
  | no => exact h
  | ex c ns vs s => exact fun ow H us d F st' => h ow H us d F (st.trans st')
  | ok d s =>
    cases d with
    | lst xs => exact fun p vs ow H F st' => h p vs ow H F (st.trans st')
    | _ => exact h
theorem OutF.bind {α : Type} {R : Rc} {W : WX} {B B0 : Bn} {HB H0 : Hp} {σV : L2.St} {r : Res α} {f : α → M D} {Q : VK} (h : OutF R W B HB B0 H0 σV (r.then f) Q) : Out R W B HB B0 H0 σV r fun a s ow H => OutF R W B HB (Ban B ow s.σ) H σV (f a s) Q := by
  cases r with
  | no => exact h
  | ex c ns vs s => exact h
  | ok a s => exact fun ow H F st => OutF.later st (show OutF R W B HB B0 H0 σV (f a s) Q from h)
/-- a list just made, seen by none: its reading -/
def tF (R : Rc) (W : WX) (m : M D) : TE := fun σV H Q => ∃ (B : Bn) (HB : Hp) (ow : Ow) (σ : List SV) (dr : List Int), Fr R B HB ow σ dr σV H ∧ OutF R W B HB (Ban B ow σ) H σV (m ⟨σ, dr⟩) Q
theorem comp_key {g : Tg} {t : M Bool} {el : M D} {vs : List Nat} {w : M Wk} (hsl : ∀ i, i ∈ g.slots → i ∈ vs) {σV : L2.St} {H : Hp} {Q : VK} (h : tF R W (mComp vs g w t el) σV H Q) : tLc (tW R W w) (tTg R g) (tT R NoW t) (tE R NoW el) vs σV H Q := by
  obtain ⟨B, HB, ow, σ, dr, F, h⟩ := h
  refine ⟨B, HB, ow, σ, dr, F, Out.mono (OutF.bind h) fun wk s1 ow1 H1 F1 st1 h1 J hJ DA hD => ?_⟩
  obtain ⟨d0, v0, hd1, hd2, hd3⟩ := hJ
  obtain ⟨xs, sl⟩ := wk
  dsimp only at h1 hd1 hd2 hd3
  split at h1
  case isFalse => exact h1.elim
  rename_i hfr
  obtain ⟨hfree, hlend⟩ := hfr
  have nD : HB DA = none := F1.fresh hD
  have nB : ¬ B DA := fun z => by
    obtain ⟨o, q⟩ := F1.live DA z
    rw [hD] at q; cases q
  have nDr : ¬ R.isDr DA := fun z => by
    have := F1.drs z.1
    rw [← z.2, hD] at this
    cases this
  have hl1 : s1.σ.length = σV.length := F1.len.symm
  obtain ⟨heldL, lenL, jv⟩ := lend_held hlend hfree
  -- behind the turns
  let Fin : Res (List D) → Prop := fun r => OutF R W B HB (Ban B ow1 s1.σ) H1 σV (r.then fun ds s' => .ok (.lst ds) { s' with σ := unlendO sl s1.σ (backS s1.σ s'.σ vs) }) Q
  have fin0 : Fin (compL vs sl (turnC vs g t el) xs [] { s1 with σ := lendO sl s1.σ }) := h1
  -- the turns
  let Wi : Nat → Nat → Hp → Prop := fun i m H => m = xs.length - i ∧ i ≤ xs.length ∧ ∃ (ow : Ow) (τ : List SV) (dr : List Int) (acc : List D) (va : List V), τ.length = s1.σ.length ∧ (∀ i ∈ vs, heldAt τ i = none) ∧
    Fr R (Shut B DA) (upd HB DA (.lst va)) ow (wipeS τ vs) dr (wipe σV vs) H ∧ Stp (Ban B ow1 s1.σ) H1 (Ban (Shut B DA) ow (wipeS τ vs)) H ∧ IsL R (Ban (Shut B DA) ow (wipeS τ vs)) H acc va ∧ acc.length ≤ line ∧
    Fin (compL vs sl (turnC vs g t el) (xs.drop i) acc ⟨τ, dr⟩)
  have wipeR : ∀ (ow : Ow) (τ : List SV) (dr : List Int) (H : Hp) (B : Bn) (HB : Hp) (σV : L2.St), (∀ i ∈ vs, heldAt τ i = none) → Fr R B HB ow τ dr σV H → Fr R B HB ow (wipeS τ vs) dr (wipe σV vs) H := fun ow τ dr H B HB σV hn F => by
    refine F.reval (by rw [wipe_length, wipeS_len]; exact F.len) (held_wipe hn) (fun i d e => ?_) fun i d e => ?_
    · by_cases hi : i ∈ vs
      · cases wipeS_in hi e
      · rw [wipeS_out hi] at e
        rw [wipe_out hi]
        exact F.val i d e
    · have hi : i ∉ vs := fun z => by rw [hn i z] at e; cases e
      exact wipe_out hi
  refine ⟨Wi, ⟨xs.length, rfl, Nat.zero_le _, ?_⟩, ?_⟩
  · have hn : ∀ i ∈ vs, heldAt (lendO sl s1.σ) i = none := fun i hi => by rw [heldL]; exact free_at hfree hi
    have F2 : Fr R B HB ow1 (lendO sl s1.σ) s1.dr σV H1 := F1.reval (by rw [lenL]; exact F1.len) heldL (fun i d e => ?_) fun i d e => rfl
    · have F3 := wipeR ow1 _ s1.dr H1 B HB σV hn F2
      obtain ⟨F4, st4⟩ := F3.shut2 (o := .lst []) hD
      have st3 : Stp (Ban B ow1 s1.σ) H1 (Ban B ow1 (wipeS (lendO sl s1.σ) vs)) H1 := Stp.less (Ban.sub fun i d e => ⟨d, by rw [held_wipe hn, heldL] at e; exact e⟩)
      exact ⟨ow1, lendO sl s1.σ, s1.dr, [], [], lenL, hn, F4, st3.trans st4, IsL.nil, Nat.zero_le _, fin0⟩
    · have e' : s1.σ[i]? = some (.val d) := lend_val e
      exact F1.val i d e'
  · rintro i m H ⟨rfl, hi, ow2, τ, dr2, acc, va, lenT, hnT, F2, st2, hacc, hal, hfin⟩
    have isp : IsP R (Ban (Shut B DA) ow2 (wipeS τ vs)) H d0 v0 ∧ Lent sl τ := by
      have hL : Lent sl τ := by
        cases hd : xs.drop i with
        | nil =>
          rw [hd] at hfin
          unfold compL at hfin
          split at hfin
          · assumption
          · exact hfin.elim
        | cons y ys =>
          rw [hd] at hfin
          unfold compL at hfin
          split at hfin
          · assumption
          · exact hfin.elim
      refine ⟨?_, hL⟩
      cases sl with
      | none => exact ((hd1 rfl).stp st2).p
      | some p =>
        obtain ⟨j, d⟩ := p
        obtain ⟨rfl, hlst, hv⟩ := hd2 j d rfl
        have hj := jv j d rfl
        have hL' : τ[j]? = some (.lnt d) := hL
        obtain ⟨q1, q2, _⟩ := F2.own j d (by unfold heldAt; rw [wipeS_out hj, hL']; rfl)
        rw [wipe_out hj, hv] at q1
        cases d with
        | lst ys =>
          obtain ⟨_, us, h1, h2⟩ := q2
          exact ⟨_, us, Option.some.inj (Option.some.inj q1), h1, h2⟩
        | _ => cases hlst
    obtain ⟨isp, hL⟩ := isp
    have goes := hd3 _ H isp F2.liveB i
    by_cases hlt : i < xs.length
    · have ex0 : xs[i]? = some xs[i] := by simp [hlt]
      obtain ⟨go, yl⟩ := goes.1 _ ex0
      have hdrop : xs.drop i = xs[i] :: xs.drop (i + 1) := List.drop_eq_getElem_cons hlt
      rw [hdrop] at hfin
      unfold compL at hfin
      rw [if_pos hL] at hfin
      refine .inr ⟨go, fun H' => Wi (i + 1) (xs.length - (i + 1)) H', fun H' h => ⟨_, by omega, h⟩, fun x H' hy => ?_⟩
      obtain ⟨ex, hx⟩ := yl x H' hy
      have F3 := F2.ext ex
      unfold turnC at hfin
      dsimp only at hfin
      cases hb : bindT g xs[i] (wipeS τ vs) with
      | none => rw [hb] at hfin; exact hfin.elim
      | some σ' =>
        rw [hb] at hfin
        dsimp only at hfin
        refine ⟨Shut B DA, upd HB DA (.lst va), ow2, wipeS τ vs, σ', dr2, xs[i], F3, hx, hb, fun σ2 F4 sub4 len4 keep4 => ⟨?_, ?_⟩⟩
        · exact wipe_same (by rw [len4, wipe_length]) fun q hq => by rw [(keep4 q fun z => hq (hsl q z)).1, wipe_out hq]
        have w2 : wipe σ2 vs = wipe σV vs := wipe_same (by rw [len4, wipe_length]) fun q hq => by rw [(keep4 q fun z => hq (hsl q z)).1, wipe_out hq]
        refine ⟨_, _, ow2, σ', dr2, F4, ?_⟩
        have stA : Stp (Ban B ow1 s1.σ) H1 (Ban (Shut B DA) ow2 σ') H' := (st2.trans (Stp.new ex)).trans (Stp.less sub4)
        have accA : IsL R (Ban (Shut B DA) ow2 σ') H' acc va := (hacc.ext ex).less sub4
        cases et : t ⟨σ', dr2⟩ with
        | no => rw [et] at hfin; exact hfin.elim
        | ex c ns us s => rw [et] at hfin; exact hfin.elim
        | ok bb s3 =>
          rw [et] at hfin
          intro ow3 H3 F5 st5
          have len3 : s3.σ.length = s1.σ.length := by rw [← F5.len, len4, wipe_length, F1.len]
          have accB := accA.stp st5
          cases bb with
          | false =>
            have hfin' : Fin (if freeS s3.σ vs = true then compL vs sl (turnC vs g t el) (xs.drop (i + 1)) acc s3 else .no) := hfin
            split at hfin'
            · rename_i hfv
              have hn3 : ∀ i ∈ vs, heldAt s3.σ i = none := fun i hi => free_at hfv hi
              have F7 := wipeR ow3 s3.σ s3.dr H3 _ _ σ2 hn3 F5
              rw [w2] at F7
              have lw : ∀ a, Ban (Shut B DA) ow3 (wipeS s3.σ vs) a → Ban (Shut B DA) ow3 s3.σ a := Ban.sub fun i d e => ⟨d, by rw [held_wipe hn3] at e; exact e⟩
              exact ⟨rfl, hlt, ow3, s3.σ, s3.dr, acc, va, len3, hn3, F7, (stA.trans st5).trans (Stp.less lw), accB.less lw, hal, hfin'⟩
            · exact hfin'.elim
          | true =>
            refine ⟨_, _, ow3, s3.σ, s3.dr, F5, ?_⟩
            dsimp only [Res.then] at hfin
            cases ee : el s3 with
            | no => rw [ee] at hfin; exact hfin.elim
            | ex c ns us s => rw [ee] at hfin; exact hfin.elim
            | ok d s4 =>
              rw [ee] at hfin
              intro ow4 H4 F6 st6 y hy
              have hfin' : Fin (if acc.length < line ∧ freeS s4.σ vs = true then compL vs sl (turnC vs g t el) (xs.drop (i + 1)) (acc ++ [d]) s4 else .no) := hfin
              split at hfin'
              · rename_i hc
                obtain ⟨hlen, hfv⟩ := hc
                have hn4 : ∀ i ∈ vs, heldAt s4.σ i = none := fun i hi => free_at hfv hi
                have hD4 : H4 DA = some (.lst va) := F6.hold DA _ nDr upd_same
                have accC := accB.stp st6
                refine ⟨va, hD4, by rw [accC.len, ← line_eq]; exact hlen, ?_⟩
                obtain ⟨F8, st8⟩ := F6.shutW2 (o' := .lst (va ++ [y])) nDr
                have F9 := wipeR ow4 s4.σ s4.dr _ _ _ σ2 hn4 F8
                rw [w2] at F9
                have lw : ∀ a, Ban (Shut B DA) ow4 (wipeS s4.σ vs) a → Ban (Shut B DA) ow4 s4.σ a := Ban.sub fun i d e => ⟨d, by rw [held_wipe hn4] at e; exact e⟩
                have len5 : s4.σ.length = s1.σ.length := by rw [← F6.len, len4, wipe_length, F1.len]
                refine ⟨rfl, hlt, ow4, s4.σ, s4.dr, acc ++ [d], va ++ [y], len5, hn4, F9, (((stA.trans st5).trans st6).trans st8).trans (Stp.less lw), ?_, by simp only [List.length_append, List.length_cons, List.length_nil]; omega, hfin'⟩
                exact ((accC.append (IsL.cons hy IsL.nil)).stp st8).less lw
              · exact hfin'.elim
    · have ei : i = xs.length := by omega
      subst ei
      refine .inl ⟨goes.2 (Nat.le_refl _), ?_⟩
      rw [List.drop_length] at hfin
      unfold compL at hfin
      rw [if_pos hL] at hfin
      have hDA : H DA = some (.lst va) := F2.hold DA _ nDr upd_same
      have eh : ∀ i, heldAt (unlendO sl s1.σ (backS s1.σ τ vs)) i = heldAt (wipeS τ vs) i := fun i => by
        rw [unlend_held hL jv, held_back hfree hnT, held_wipe hnT]
      have F4 : Fr R (Shut B DA) (upd HB DA (.lst va)) ow2 (unlendO sl s1.σ (backS s1.σ τ vs)) dr2 σV H := by
        refine F2.reval (by rw [unlend_len, backS_len, lenT]; exact F1.len) eh (fun i d e => ?_) fun i d e => ?_
        · have e' := unlend_val e
          by_cases hi : i ∈ vs
          · have e2 := backS_in hi e'
            have e3 : s1.σ[i]? = some (.val d) := by
              rw [List.getD_eq_getElem?_getD] at e2
              cases q : s1.σ[i]? with
              | none => rw [q] at e2; cases e2
              | some z => rw [q] at e2; rw [e2]; rfl
            obtain ⟨v, h1, h2⟩ := F1.val i d e3
            exact ⟨v, h1, h2.stp st2⟩
          · rw [backS_out hi] at e'
            obtain ⟨v, h1, h2⟩ := F2.val i d (by rw [wipeS_out hi]; exact e')
            exact ⟨v, by rw [wipe_out hi] at h1; exact h1, h2⟩
        · have hi : i ∉ vs := fun z => by rw [held_wipe hnT, hnT i z] at e; cases e
          exact (wipe_out hi).symm
      have lb : ∀ a, Ban (Shut B DA) ow2 (unlendO sl s1.σ (backS s1.σ τ vs)) a → Ban (Shut B DA) ow2 (wipeS τ vs) a := Ban.sub fun i d e => ⟨d, by rw [← eh]; exact e⟩
      exact hfin DA va ow2 H F4 (st2.trans (Stp.less lb)) nD nB (hacc.less lb) hDA
theorem f_comp (C : Ct X R W N sc k) {elt tg iter : Expr} {ifs : List Expr} {scope : Scope} {own : List (Str × Nat)} {pos : Pos} {w : M Wk} {g : Tg} {t : M Bool} {el : M D} {vs : List Nat}
    (hi : PI X tg iter (tW R W w)) (ok : blkC N sc scope own = true) (ev : own.map (·.2) = vs)
    (hg : ∀ X', Ct X' R NoW N (relS scope sc) k → Fs X' scope → PG X' tg (tTg R g)) (ht : ∀ X', Ct X' R NoW N (relS scope sc) k → Fs X' scope → PTsM X' R NoW ifs t)
    (he : ∀ X', Ct X' R NoW N (relS scope sc) k → Fs X' scope → PE X' elt (tE R NoW el)) (hsl : ∀ i, i ∈ g.slots → i ∈ vs) (hs : ∀ x, foldedSetIterable iter X.env x = pure x := by intro _; rfl) :
    PE X (.ListComp elt [⟨tg, iter, ifs, 0⟩] scope pos) (tF R W (mComp vs g w t el)) := by
  have fs : ∀ s H Ca cl fp, Fs (X.blk s H scope (compEnvC scope cl Ca X.env) fp) scope := fun s H Ca cl fp x h => by
    show (scope.names.lookup x == some .cell) = true
    rw [h]; rfl
  refine (pe_lc C.calm (by rw [C.eN]; exact C.nd) hi (by rw [C.eN, C.esc]; exact blkOk_by ok) (fun s H Ca cl fp => hg _ (C.blk s H scope Ca cl fp) (fs s H Ca cl fp)) (fun s H Ca cl fp => (ht _ (C.blk s H scope Ca cl fp) (fs s H Ca cl fp)).run) (fun s H Ca cl fp => he _ (C.blk s H scope Ca cl fp) (fs s H Ca cl fp)) hs).imp fun σV H Q h => ?_
  rw [ev]
  exact comp_key hsl h
theorem m_f {e : Expr} {m : M D} (hf : PE X e (tF R W m)) (hl : ∀ s d s', m s = .ok d s' → ∃ xs, d = .lst xs) : PE X e (tE R W m) := hf.imp fun σV H Q h => by
  obtain ⟨B, HB, ow, σ, dr, F, h⟩ := h
  refine ⟨B, HB, ow, σ, dr, F, ?_⟩
  cases e : m ⟨σ, dr⟩ with
  | no => rw [e] at h; exact h
  | ex c ns us s => rw [e] at h; exact h
  | ok d s =>
    rw [e] at h
    obtain ⟨xs, rfl⟩ := hl _ _ _ e
    intro p vs ow' H' F' st nD nB hl hp
    obtain ⟨F3, st3, nb3⟩ := F'.open2 nD nB F.drB
    refine h ow' H' F3 (st.trans st3) _ ?_
    unfold Is
    exact ⟨p, vs, rfl, nb3, hp, hl.stp st3⟩
theorem comp_lst {vs : List Nat} {g : Tg} {w : M Wk} {t : M Bool} {el : M D} : ∀ s d s', mComp vs g w t el s = .ok d s' → ∃ xs, d = .lst xs := fun s d s' h => by
  obtain ⟨k, _, _, h⟩ := then_ok h
  split at h
  · obtain ⟨ds, _, _, h⟩ := then_ok h
    cases h
    exact ⟨ds, rfl⟩
  · cases h
theorem m_comp (C : Ct X R W N sc k) {elt tg iter : Expr} {ifs : List Expr} {scope : Scope} {own : List (Str × Nat)} {pos : Pos} {w : M Wk} {g : Tg} {t : M Bool} {el : M D} {vs : List Nat}
    (hi : PI X tg iter (tW R W w)) (ok : blkC N sc scope own = true) (ev : own.map (·.2) = vs)
    (hg : ∀ X', Ct X' R NoW N (relS scope sc) k → Fs X' scope → PG X' tg (tTg R g)) (ht : ∀ X', Ct X' R NoW N (relS scope sc) k → Fs X' scope → PTsM X' R NoW ifs t)
    (he : ∀ X', Ct X' R NoW N (relS scope sc) k → Fs X' scope → PE X' elt (tE R NoW el)) (hsl : ∀ i, i ∈ g.slots → i ∈ vs) (hs : ∀ x, foldedSetIterable iter X.env x = pure x := by intro _; rfl) :
    PE X (.ListComp elt [⟨tg, iter, ifs, 0⟩] scope pos) (tE R W (mComp vs g w t el)) := by
  exact m_f (f_comp C hi ok ev hg ht he hsl hs) comp_lst
end
end Mi
set_option Elab.async false
set_option linter.all false
set_option maxRecDepth 100000
set_option maxHeartbeats 4000000
/-! Mi14: statements. -/
namespace Mi
open PySem L2 PySem.Spec PyProof.Rows

/-- what slots hold for good: an __init__'s self, a list that is walked -/
abbrev ZK := List (Nat × V)
def Zs (z : ZK) (σV : L2.St) : Prop := ∀ p, p ∈ z → σV[p.1]? = some (some p.2)
def Zo (z : ZK) (i : Nat) : Prop := ∀ p, p ∈ z → p.1 ≠ i
theorem Zs.set {z : ZK} {σV : L2.St} {i : Nat} {x : Option V} (h : Zs z σV) (o : Zo z i) : Zs z (σV.set i x) := fun p e => by
  rw [List.getElem?_set_ne (Ne.symm (o p e))]; exact h p e
theorem Zo.nil {i : Nat} : Zo [] i := fun _ h => absurd h (by simp)
theorem Zo.cons {z : ZK} {i j : Nat} {v : V} (h : j ≠ i) (t : Zo z i) : Zo ((j, v) :: z) i := fun p e => by
  rcases List.mem_cons.mp e with rfl | e
  · exact h
  · exact t p e
theorem Zs.tg {z : ZK} {σV σV' : L2.St} {l : List Nat} (h : Zs z σV) (o : ∀ i, i ∈ l → Zo z i) (k : ∀ i, i ∉ l → σV'[i]? = σV[i]?) : Zs z σV' := fun p e => by
  rw [k p.1 (fun w => o _ w p e rfl)]; exact h p e
/-- what comes of a statement -/
def OutS (R : Rc) (W : WX) (z : ZK) (B : Bn) (HB : Hp) (B0 : Bn) (H0 : Hp) (r : Rs) (D : Ends) : Prop := match r with
  | .nx s => ∀ ow σV H, Fr R B HB ow s.σ s.dr σV H → Zs z σV → Stp B0 H0 (Ban B ow s.σ) H → D.nx σV H
  | .bk s => ∀ ow σV H, Fr R B HB ow s.σ s.dr σV H → Zs z σV → Stp B0 H0 (Ban B ow s.σ) H → D.bk σV H
  | .ct s => ∀ ow σV H, Fr R B HB ow s.σ s.dr σV H → Zs z σV → Stp B0 H0 (Ban B ow s.σ) H → D.ct σV H
  | .rt d s => ∀ ow σV H v, Fr R B HB ow s.σ s.dr σV H → Zs z σV → Stp B0 H0 (Ban B ow s.σ) H → Is R (Ban B ow s.σ) H d v → D.rt v H
  | .ex c ns vs s => ∀ ow σV H us d, Fr R B HB ow s.σ s.dr σV H → Zs z σV → Stp B0 H0 (Ban B ow s.σ) H → IsL R (Ban B ow s.σ) H vs us → ExcAt R H d ns us → W (.ref (R.ca c)) (some d) σV H
  | .no => False
/-- a statement's reading in data -/
def tS (R : Rc) (W : WX) (z : ZK) (m : Sm) : TS := fun D σV H => ∃ (B : Bn) (HB : Hp) (ow : Ow) (σ : List SV) (dr : List Int), Fr R B HB ow σ dr σV H ∧ Zs z σV ∧ OutS R W z B HB (Ban B ow σ) H (m ⟨σ, dr⟩) D
section
variable {R : Rc} {W : WX} {z : ZK} {B B0 B1 : Bn} {HB H0 H1 H : Hp} {σV : L2.St} {D D' : Ends}
theorem OutS.later {r : Rs} (st : Stp B0 H0 B1 H1) (h : OutS R W z B HB B0 H0 r D) : OutS R W z B HB B1 H1 r D := by
  cases r with
  | nx s => exact fun ow σV H F Z st' => h ow σV H F Z (st.trans st')
  | bk s => exact fun ow σV H F Z st' => h ow σV H F Z (st.trans st')
  | ct s => exact fun ow σV H F Z st' => h ow σV H F Z (st.trans st')
  | rt d s => exact fun ow σV H v F Z st' => h ow σV H v F Z (st.trans st')
  | ex c ns vs s => exact fun ow σV H us d F Z st' => h ow σV H us d F Z (st.trans st')
  | no => exact h
/-- an expression ahead of a statement's rest -/
theorem OutS.bind {α : Type} {r : Res α} {f : α → S → Rs} (Z : Zs z σV) (h : OutS R W z B HB B0 H0 (r.st f) D) : Out R W B HB B0 H0 σV r fun a s ow H => OutS R W z B HB (Ban B ow s.σ) H (f a s) D := by
  cases r with
  | no => exact h
  | ex c ns vs s => exact fun ow H us d F st => h ow σV H us d F Z st
  | ok a s => exact fun ow H F st => OutS.later st (show OutS R W z B HB B0 H0 (f a s) D from h)
end
section
variable {X : Cx} {R : Rc} {W : WX} {z : ZK} {N : List Str} {sc so : Scope} {k : Nat}
theorem _root_.L2.PS.imp {st : Stmt} {t t' : TS} (h : PS X st t) (i : ∀ D σ H, t' D σ H → t D σ H) : PS X st t' := ⟨fun pins s σ H D I q => h.run pins s σ H D I (i D σ H q)⟩
theorem _root_.L2.PSs.imp {st : List Stmt} {t t' : TS} (h : PSs X st t) (i : ∀ D σ H, t' D σ H → t D σ H) : PSs X st t' := ⟨fun pins s σ H D I q => h.run pins s σ H D I (i D σ H q)⟩
variable {st : Stmt} {sts : List Stmt} {a b : Sm} {e c : Expr} {m m2 : M D} {t : M Bool} {pos pos' : Pos} {x y : Str} {i j : Nat}
theorem s_nil : PSs X [] (tS R W z sNil) := pss_nil.imp fun D σV H h => by
  obtain ⟨B, HB, ow, σ, dr, F, Z, h⟩ := h
  exact h ow σV H F Z (Stp.refl _ _)
theorem s_cons (h1 : PS X st (tS R W z a)) (h2 : PSs X sts (tS R W z b)) : PSs X (st :: sts) (tS R W z (sSeq a b)) := (pss_cons h1 h2).imp fun D σV H h => by
  obtain ⟨B, HB, ow, σ, dr, F, Z, h⟩ := h
  refine ⟨B, HB, ow, σ, dr, F, Z, ?_⟩
  have h' : OutS R W z B HB (Ban B ow σ) H ((a ⟨σ, dr⟩).seq b) D := h
  cases q : a ⟨σ, dr⟩ with
  | nx s =>
    rw [q] at h'
    exact fun ow1 σV1 H1 F1 Z1 st1 => ⟨B, HB, ow1, s.σ, s.dr, F1, Z1, OutS.later st1 h'⟩
  | bk s => rw [q] at h'; exact h'
  | ct s => rw [q] at h'; exact h'
  | rt d s => rw [q] at h'; exact h'
  | ex c ns vs s => rw [q] at h'; exact h'
  | no => rw [q] at h'; exact h'
theorem s_one (h1 : PS X st (tS R W z a)) : PSs X [st] (tS R W z a) := pss_one h1
theorem s_pas : PS X (.Pass pos) (tS R W z sNil) := ps_pass.imp fun D σV H h => by
  obtain ⟨B, HB, ow, σ, dr, F, Z, h⟩ := h
  exact h ow σV H F Z (Stp.refl _ _)
theorem s_brk : PS X (.Break pos) (tS R W z sBrk) := ps_break.imp fun D σV H h => by
  obtain ⟨B, HB, ow, σ, dr, F, Z, h⟩ := h
  exact h ow σV H F Z (Stp.refl _ _)
theorem s_cnt : PS X (.Continue pos) (tS R W z sCnt) := ps_continue.imp fun D σV H h => by
  obtain ⟨B, HB, ow, σ, dr, F, Z, h⟩ := h
  exact h ow σV H F Z (Stp.refl _ _)
theorem s_doc {d : Str} {j : Nat} : PS X (.Expr (.Constant (.str d) j pos') pos) (tS R W z sNil) := ps_doc.imp fun D σV H h => by
  obtain ⟨B, HB, ow, σ, dr, F, Z, h⟩ := h
  exact h ow σV H F Z (Stp.refl _ _)
theorem s_nev : PS X st (tS R W z sNev) := ps_never.imp fun D σV H h => by
  obtain ⟨B, HB, ow, σ, dr, F, Z, h⟩ := h
  exact h
theorem s_exp (he : PE X e (tE R W m)) (hs : swapsWith e none pos.line X.env = pure false := by rfl) : PS X (.Expr e pos) (tS R W z (sExp m)) := (ps_expr he hs).imp fun D σV H h => by
  obtain ⟨B, HB, ow, σ, dr, F, Z, h⟩ := h
  exact ⟨B, HB, ow, σ, dr, F, Out.mono (OutS.bind Z h) fun d s ow1 H1 F1 st1 h1 v hv => h1 ow1 σV H1 F1 Z (Stp.refl _ _)⟩
theorem s_ret (he : PE X e (tE R W m)) : PS X (.Return (some e) pos) (tS R W z (sRet m)) := (ps_ret he).imp fun D σV H h => by
  obtain ⟨B, HB, ow, σ, dr, F, Z, h⟩ := h
  exact ⟨B, HB, ow, σ, dr, F, Out.mono (OutS.bind Z h) fun d s ow1 H1 F1 st1 h1 v hv => h1 ow1 σV H1 v F1 Z (Stp.refl _ _) hv⟩
theorem s_rtn : PS X (.Return none pos) (tS R W z sRtn) := ps_retN.imp fun D σV H h => by
  obtain ⟨B, HB, ow, σ, dr, F, Z, h⟩ := h
  exact h ow σV H .non F Z (Stp.refl _ _) (by unfold Is; rfl)
theorem s_if {as bs : List Stmt} (hc : PT X c (tT R W t)) (h1 : PSs X as (tS R W z a)) (h2 : PSs X bs (tS R W z b)) : PS X (.If c as bs pos) (tS R W z (sIf t a b)) := (ps_if hc h1 h2).imp fun D σV H h => by
  obtain ⟨B, HB, ow, σ, dr, F, Z, h⟩ := h
  refine ⟨B, HB, ow, σ, dr, F, Out.mono (OutS.bind Z h) fun r s ow1 H1 F1 st1 h1 => ?_⟩
  cases r with
  | true => exact ⟨B, HB, ow1, s.σ, s.dr, F1, Z, h1⟩
  | false => exact ⟨B, HB, ow1, s.σ, s.dr, F1, Z, h1⟩
theorem s_set (C : Ct X R W N sc k) (S : Fs X so) (hN : N[i]? = some x) (hl : stB so sc x = true) (zo : Zo z i) (he : PE X e (tE R W m)) (hs : swapsWith e (some (.Name x pos')) pos.line X.env = pure false := by rfl) : PS X (.Assign [.Name x pos'] e pos) (tS R W z (sSet i m)) := by
  obtain ⟨hlo, hf⟩ := st_of C S hl
  refine (ps_set (by rw [C.eN]; exact C.nd) (by rw [C.eN]; exact hN) hlo he hs hf).imp fun D σV H h => ?_
  obtain ⟨B, HB, ow, σ, dr, F, Z, h⟩ := h
  exact ⟨B, HB, ow, σ, dr, F, Out.mono (OutS.bind Z h) fun d s ow1 H1 F1 st1 h1 v hv => h1 ow1 _ H1 (F1.put' hv) (Z.set zo) (Stp.less ban_put)⟩
/-- a comprehension's value set on one line -/
theorem s_setC (C : Ct X R W N sc k) (S : Fs X so) (hN : N[i]? = some x) (hyl : sc.names.lookup x = some .local) (zo : Zo z i) {elt tg iter : Expr} {ifs : List Expr} {scope : Scope} {own : List (Str × Nat)} {w : M Wk} {g : Tg} {el : M D} {vs : List Nat} {py : Pos}
    (hsw : swapsWith (.ListComp elt [⟨tg, iter, ifs, 0⟩] scope pos) (some (.Name x py)) pos'.line X.env = pure true) (hi : PI X tg iter (tW R W w)) (ok : blkC N sc scope own = true) (ev : own.map (·.2) = vs)
    (hg : ∀ X', Ct X' R NoW N (relS scope sc) k → Fs X' scope → PG X' tg (tTg R g)) (ht : ∀ X', Ct X' R NoW N (relS scope sc) k → Fs X' scope → PTsM X' R NoW ifs t)
    (he : ∀ X', Ct X' R NoW N (relS scope sc) k → Fs X' scope → PE X' elt (tE R NoW el)) (hsl : ∀ i, i ∈ g.slots → i ∈ vs) (hs : ∀ x, foldedSetIterable iter X.env x = pure x := by intro _; rfl) :
    PS X (.Assign [.Name x py] (.ListComp elt [⟨tg, iter, ifs, 0⟩] scope pos) pos') (tS R W z (sSet i (mComp vs g w t el))) := by
  have fs : ∀ s H Ca cl fp, Fs (X.blk s H scope (compEnvC scope cl Ca X.env) fp) scope := fun s H Ca cl fp x h => by
    show (scope.names.lookup x == some .cell) = true
    rw [h]; rfl
  refine (ps_setLc C.calm (by rw [C.eN]; exact C.nd) (by rw [C.eN]; exact hN) (by rw [C.esc]; exact hyl) hsw hi (by rw [C.eN, C.esc]; exact blkOk_by ok) (fun s H Ca cl fp => hg _ (C.blk s H scope Ca cl fp) (fs s H Ca cl fp)) (fun s H Ca cl fp => (ht _ (C.blk s H scope Ca cl fp) (fs s H Ca cl fp)).run) (fun s H Ca cl fp => he _ (C.blk s H scope Ca cl fp) (fs s H Ca cl fp)) hs).imp fun D σV H h => ?_
  rw [ev]
  obtain ⟨B, HB, ow, σ, dr, F, Z, h⟩ := h
  refine comp_key hsl ⟨B, HB, ow, σ, dr, F, ?_⟩
  have h' := OutS.bind Z h
  cases e : mComp vs g w t el ⟨σ, dr⟩ with
  | no => rw [e] at h'; exact h'
  | ex c ns us s => rw [e] at h'; exact h'
  | ok d s =>
    rw [e] at h'
    obtain ⟨xs, rfl⟩ := comp_lst _ _ _ e
    intro p vs ow' H' F' st nD nB hl hp
    obtain ⟨F3, st3, nb3⟩ := F'.open2 nD nB F.drB
    have hv : Is R (Ban B ow' s.σ) H' (.lst xs) (.ref p) := by
      unfold Is
      exact ⟨p, vs, rfl, nb3, hp, hl.stp st3⟩
    exact h' ow' H' F3 (st.trans st3) ow' _ H' (F3.put' hv) (Z.set zo) (Stp.less ban_put)
theorem s_unp (C : Ct X R W N sc k) {tg : Expr} {g : Tg} (zo : ∀ i, i ∈ g.slots → Zo z i) (hg : PG X tg (tTg R g)) (he : PE X e (tE R W m)) (hs : swapsWithSole [tg] e pos.line X.env = pure false := by rfl) (hw : swappedStores [tg] e X.env = pure none := by rfl)
    (h1 : (assignEach [tg] X.env).map (·.2) = [assign tg X.env] := by rfl) : PS X (.Assign [tg] e pos) (tS R W z (sUnp g m)) := (ps_asg he hg hs hw h1).imp fun D σV H h => by
  obtain ⟨B, HB, ow, σ, dr, F, Z, h⟩ := h
  refine ⟨B, HB, ow, σ, dr, F, Out.mono (OutS.bind Z h) fun d s ow1 H1 F1 st1 h1 v hv => ?_⟩
  cases hb : bindT g d s.σ with
  | none => rw [hb] at h1; exact h1.elim
  | some σ' =>
    rw [hb] at h1
    exact ⟨B, HB, ow1, s.σ, σ', s.dr, d, F1, hv, hb, fun σV' F' sub l kk => h1 ow1 σV' H1 F' (Z.tg zo fun i hi => (kk i hi).1) (Stp.less sub)⟩
/-! ### lists that are built -/
theorem Fr.begin2 {B : Bn} {HB H : Hp} {ow : Ow} {σ : List SV} {dr : List Int} {σV : L2.St} {p : Addr} {xs : List D} {vs : List V} (f : Fr R (Shut B p) (upd HB p (.lst vs)) ow σ dr σV H) (hi : i < σ.length) (hp : H p = some (.lst vs)) (hv : IsL R (Ban (Shut B p) ow σ) H xs vs) (nD : HB p = none) (nB : ¬ B p) (drB : R.hd = true → B R.dr) :
    ∃ ow', Fr R B HB ow' (σ.set i (.own (.lst xs))) dr (σV.set i (some (.ref p))) H ∧ Stp (Ban (Shut B p) ow σ) H (Ban B ow' (σ.set i (.own (.lst xs)))) H := by
  let ow' : Ow := fun j => if j = i then (p, p) else ow j
  have owi : ow' i = (p, p) := if_pos rfl
  have owj : ∀ j, i ≠ j → ow' j = ow j := fun j h => if_neg (Ne.symm h)
  have hb : ∀ j d, i ≠ j → heldAt (σ.set i (.own (.lst xs))) j = some d → heldAt σ j = some d := fun j d h e => by rw [heldAt_set_ne h] at e; exact e
  have l : ∀ a, Ban B ow' (σ.set i (.own (.lst xs))) a → Ban (Shut B p) ow σ a := fun a q => by
    rcases q with q | ⟨j, d, q, w⟩
    · exact .inl (.inl q)
    · by_cases hj : i = j
      · subst hj
        rw [owi] at w
        exact .inl (.inr (by rcases w with w | w <;> exact w))
      · rw [owj j hj] at w
        exact .inr ⟨j, d, hb j d hj q, w⟩
  have np : ∀ j d, heldAt σ j = some d → (ow j).1 ≠ p ∧ (ow j).2 ≠ p := fun j d q => by
    obtain ⟨_, _, q3, q4⟩ := f.own j d q
    exact ⟨fun w => q3.1 (.inr w), fun w => q4.1 (.inr w)⟩
  refine ⟨ow', ?_, Stp.less l⟩
  exact {
    len := by simpa using f.len
    val := fun j d q => by
      by_cases hj : i = j
      · subst hj
        rw [List.getElem?_set_self hi] at q
        cases q
      · rw [List.getElem?_set_ne hj] at q ⊢
        obtain ⟨u, h1, h2⟩ := f.val j d q
        exact ⟨u, h1, h2.less l⟩
    own := fun j d q => by
      by_cases hj : i = j
      · subst hj
        rw [heldAt_set_self hi] at q
        cases q
        rw [owi]
        exact ⟨List.getElem?_set_self (by rw [f.len]; exact hi), ⟨rfl, vs, hp, hv.less l⟩, ⟨nB, nD⟩, ⟨nB, nD⟩⟩
      · have q' := hb j d hj q
        obtain ⟨q1, q2, q3, q4⟩ := f.own j d q'
        obtain ⟨n3, n4⟩ := np j d q'
        rw [owj j hj, List.getElem?_set_ne hj]
        exact ⟨q1, q2.keep (fun o w => w) (fun o w => w) (Stp.less l), ⟨fun w => q3.1 (.inl w), by have := q3.2; rw [upd_ne n3] at this; exact this⟩, ⟨fun w => q4.1 (.inl w), by have := q4.2; rw [upd_ne n4] at this; exact this⟩⟩
    sep := fun j k d e h1 h2 hjk => by
      by_cases hj : i = j
      · subst hj
        obtain ⟨n3, n4⟩ := np k e (hb k e hjk h2)
        rw [owi, owj k hjk]
        exact ⟨Ne.symm n3, Ne.symm n4, Ne.symm n3, Ne.symm n4⟩
      · by_cases hk : i = k
        · subst hk
          obtain ⟨n3, n4⟩ := np j d (hb j d hj h1)
          rw [owi, owj j hj]
          exact ⟨n3, n3, n4, n4⟩
        · rw [owj j hj, owj k hk]
          exact f.sep j k d e (hb j d hj h1) (hb k e hk h2) hjk
    live := fun a w => f.live a (.inl w)
    hold := fun a u h q => f.hold a u h (by rw [upd_ne (fun w => by rw [w, nD] at q; cases q)]; exact q)
    drs := f.drs
    drB := drB }
theorem OutS.own {B : Bn} {HB H0 : Hp} {B0 : Bn} {r : Res D} {σV : L2.St} {D : Ends} (zo : Zo z i) (Z : Zs z σV) (drB : R.hd = true → B R.dr)
    (h : OutS R W z B HB B0 H0 (r.st fun d s => match d with
      | .lst xs => .nx { s with σ := s.σ.set i (.own (.lst xs)) }
      | _ => .no) D) : OutF R W B HB B0 H0 σV r fun v H => D.nx (σV.set i (some v)) H := by
  cases r with
  | no => exact h
  | ex c ns vs s => exact fun ow H us d F st => h ow σV H us d F Z st
  | ok d s =>
    cases d with
    | lst xs =>
      intro p vs ow H F st nD nB hl hp
      have h' : ∀ ow σV H, Fr R B HB ow (s.σ.set i (.own (.lst xs))) s.dr σV H → Zs z σV → Stp B0 H0 (Ban B ow (s.σ.set i (.own (.lst xs)))) H → D.nx σV H := h
      by_cases hi : i < s.σ.length
      · obtain ⟨ow', F', st'⟩ := F.begin2 hi hp hl nD nB drB
        exact h' ow' _ H F' (Z.set zo) (st.trans st')
      · obtain ⟨F3, st3, nb3⟩ := F.open2 nD nB drB
        rw [List.set_eq_of_length_le (by omega)] at h'
        rw [List.set_eq_of_length_le (by rw [F.len]; omega)]
        exact h' ow σV H F3 Z (st.trans st3)
    | _ => exact h
theorem s_own (C : Ct X R W N sc k) (S : Fs X so) (hN : N[i]? = some x) (hl : stB so sc x = true) (zo : Zo z i) (he : PE X e (tF R W m)) (hs : swapsWith e (some (.Name x pos')) pos.line X.env = pure false := by rfl) : PS X (.Assign [.Name x pos'] e pos) (tS R W z (sOwn i m)) := by
  obtain ⟨hlo, hf⟩ := st_of C S hl
  refine (ps_set (by rw [C.eN]; exact C.nd) (by rw [C.eN]; exact hN) hlo he hs hf).imp fun D σV H h => ?_
  obtain ⟨B, HB, ow, σ, dr, F, Z, h⟩ := h
  exact ⟨B, HB, ow, σ, dr, F, OutS.own zo Z F.drB h⟩
theorem f_lst {es : List Expr} {mr : M (List D)} (h1 : PA X es (tA R W mr)) : PE X (.List es pos) (tF R W (mLst mr)) := (pe_lst h1).imp fun σV H Q h => by
  obtain ⟨B, HB, ow, σ, dr, F, h⟩ := h
  refine ⟨B, HB, ow, σ, dr, F, Out.mono (OutF.bind h) fun ds s ow1 H1 F1 st1 h1 vs hv => ?_⟩
  split at h1
  · rename_i hl
    refine ⟨by rw [hv.len, ← line_eq]; exact hl, fun p hp => ?_⟩
    obtain ⟨F2, st2⟩ := F1.shut2 (o := .lst vs) hp
    exact h1 p vs ow1 _ F2 st2 (F1.fresh hp) (fun w => (F1.live p w).elim fun o q => by rw [hp] at q; cases q) (hv.stp st2) upd_same
  · exact h1.elim
/-- xs.append(e) -/
theorem s_app (C : Ct X R W N sc k) {pn pa : Pos} (hN : N[i]? = some x) (hv : visB sc x = true) (hd : (x == ("__debug__" : Str)) = false) (hcd : (x == ("__classdict__" : Str)) = false) (he : PE X e (tE R W m))
    (hbase : attributeBase (.Name x pn) "append" X.env (eval (.Name x pn) X.env) = eval (.Name x pn) X.env := by rfl)
    (hfew : ((backTo pos (starEach [e] X.env)).all (fun x => !x.1) && (backToKw pos (keywordEach [] X.env)).all (fun x => x.1.isSome)
      && decide (([e] : List Expr).length + ([] : List Keyword).length + (if ([] : List Keyword).isEmpty then 0 else 1) < 30)) = true := by rfl)
    (hline : (pa.endLine == pos.line) = true := by rfl) (hst : starEach [e] X.env = (false, eval e X.env) :: starEach [] X.env := by rfl)
    (hs : swapsWith (.Call (.Attribute (.Name x pn) "append" pa) [e] [] pos) none pos'.line X.env = pure false := by rfl) :
    PS X (.Expr (.Call (.Attribute (.Name x pn) "append" pa) [e] [] pos) pos') (tS R W z (sApp i m)) := by
  refine (ps_expr (pe_bm PySem.F.plainAttrs_list PySem.F.slot_list_append PySem.F.type_list_append mt_append (pe_var (by rw [C.eN]; exact hN) (by rw [C.esc]; exact vis_of hv) hd hcd) (pa_cons he pa_nil hst) hbase hfew hline hst rfl) hs).imp fun D σV H h => ?_
  obtain ⟨B, HB, ow, σ, dr, F, Z, h⟩ := h
  unfold sApp at h
  dsimp only at h
  split at h
  · rename_i xs0' e00
    have hb := OutS.bind Z h
    obtain ⟨h1, ⟨_, xs0, h2, _⟩, _⟩ := F.own i _ (show heldAt σ i = some (.lst xs0') by unfold heldAt; rw [e00]; rfl)
    generalize hlw : (ow i).1 = l at h1 h2
    refine ⟨_, h1, .inl ⟨rfl, xs0, SqL.of h2⟩, B, HB, ow, σ, dr, F, Out.mono hb fun d s ow1 H1 F1 st1 h3 v hv => ?_⟩
    unfold onOwn at h3
    split at h3
    · rename_i d0 e0
      cases d0 with
      | lst xs =>
        unfold appD at h3
        dsimp only at h3
        split at h3
        · rename_i d' ed
          split at ed
          · rename_i hlen
            cases ed
            obtain ⟨q1, ⟨_, us, q2, q3⟩, _⟩ := F1.own i _ (show heldAt s.σ i = some (.lst xs) by unfold heldAt; rw [e0]; rfl)
            rw [h1] at q1
            have el : l = (ow1 i).1 := V.ref.inj (Option.some.inj (Option.some.inj q1))
            subst el
            obtain ⟨F2, st2⟩ := F1.own_lst (ys := xs ++ [d]) (vs := us ++ [v]) e0 (q3.append (IsL.cons hv IsL.nil))
            exact ⟨_, us, v, rfl, rfl, q2, by rw [q3.len, ← line_eq]; exact hlen, h3 ow1 σV _ F2 Z st2⟩
          · cases ed
        · exact h3.elim
      | _ => exact h3.elim
    · exact h3.elim
  · exact h.elim
end
end Mi
set_option Elab.async false
set_option linter.all false
set_option maxRecDepth 100000
set_option maxHeartbeats 4000000
/-! Mi15: loops, functions. -/
namespace Mi
open PySem L2 PySem.Spec PyProof.Rows
theorem OutS.zmono {R : Rc} {W : WX} {z z' : ZK} {B B0 : Bn} {HB H0 : Hp} {D : Ends} {r : Rs} (hz : ∀ p, p ∈ z → p ∈ z') (h : OutS R W z B HB B0 H0 r D) : OutS R W z' B HB B0 H0 r D := by
  have q : ∀ {σV : L2.St}, Zs z' σV → Zs z σV := fun Z p hp => Z p (hz p hp)
  cases r with
  | nx s => exact fun ow σV H F Z st => h ow σV H F (q Z) st
  | bk s => exact fun ow σV H F Z st => h ow σV H F (q Z) st
  | ct s => exact fun ow σV H F Z st => h ow σV H F (q Z) st
  | rt d s => exact fun ow σV H v F Z st => h ow σV H v F (q Z) st
  | ex c ns vs s => exact fun ow σV H us d F Z st => h ow σV H us d F (q Z) st
  | no => exact h
theorem unlend_held' {o : Option (Nat × D)} {σ0 τ : List SV} (h : Lent o τ) {i : Nat} : heldAt (unlendO o σ0 τ) i = heldAt τ i := by
  cases o with
  | none => rfl
  | some p =>
    obtain ⟨j, d⟩ := p
    have h' : τ[j]? = some (.lnt d) := h
    unfold unlendO
    dsimp only
    split
    · by_cases hij : j = i
      · subst hij
        rw [heldAt_set_self (List.getElem?_eq_some_iff.mp h').1]
        unfold heldAt
        rw [h']; rfl
      · rw [heldAt_set_ne hij]
    · rfl
section
variable {R : Rc} {W : WX} {z : ZK} {B B0 : Bn} {HB H0 H : Hp} {σV : L2.St} {ow : Ow} {τ σ0 : List SV} {dr : List Int}
theorem Fr.unlend {sl : Option (Nat × D)} (F : Fr R B HB ow τ dr σV H) (hL : Lent sl τ) : Fr R B HB ow (unlendO sl σ0 τ) dr σV H ∧ ∀ a, Ban B ow (unlendO sl σ0 τ) a → Ban B ow τ a := by
  refine ⟨F.reval (by rw [unlend_len]; exact F.len) (fun i => unlend_held' hL) (fun i d e => F.val i d (unlend_val e)) fun i d e => rfl, Ban.sub fun i d e => ⟨d, by rw [unlend_held' hL] at e; exact e⟩⟩
theorem Fr.lend {sl : Option (Nat × D)} (F : Fr R B HB ow τ dr σV H) (hL : LendOk sl τ) : Fr R B HB ow (lendO sl τ) dr σV H ∧ ∀ a, Ban B ow (lendO sl τ) a → Ban B ow τ a := by
  obtain ⟨h1, h2, _⟩ := lend_held (vs := []) hL rfl
  exact ⟨F.reval (by rw [h2]; exact F.len) h1 (fun i d e => F.val i d (lend_val e)) fun i d e => rfl, Ban.sub fun i d e => ⟨d, by rw [h1] at e; exact e⟩⟩
open Classical in
/-- a loop's turns: k walked by J; the slot of a lent list keeps its value -/
theorem for_key {g : Tg} {b : Sm} {wk : Wk} {J : It} {s1 : S} {ow1 : Ow} {D : Ends} (F1 : Fr R B HB ow1 s1.σ s1.dr σV H) (Z : Zs z σV) (hz : ∀ j d v, wk.sl = some (j, d) → σV[j]? = some (some v) → (j, v) ∈ z) (hJ : WkIs R wk J (Ban B ow1 s1.σ) H σV) (zg : ∀ i, i ∈ g.slots → Zo z i)
    (h : OutS R W z B HB (Ban B ow1 s1.σ) H (if LendOk wk.sl s1.σ then (forL wk.sl (turnF g b) wk.xs { s1 with σ := lendO wk.sl s1.σ }).unl wk.sl s1.σ else .no) D) :
    ∃ W' : Nat → Nat → L2.St → Hp → Prop, (∃ m, W' 0 m σV H) ∧ ∀ i m σV H, W' i m σV H → (J.stop i H ∧ D.nx σV H) ∨ (J.go i H ∧ ∃ N : L2.St → Hp → Prop, (∀ σ' H', N σ' H' → ∃ m', m' < m ∧ W' (i + 1) m' σ' H') ∧ ∀ x H', J.yld i H x H' →
      tTg R g x σV H' fun σ2 H2 => tS R W z b { D with nx := N, ct := N, bk := D.nx } σ2 H2) := by
  obtain ⟨xs, sl⟩ := wk
  obtain ⟨d0, v0, hd1, hd2, hd3⟩ := hJ
  dsimp only at h hd1 hd2 hd3 hz
  split at h
  case isFalse => exact h.elim
  rename_i hlend
  obtain ⟨F2, l2⟩ := F1.lend hlend
  let Wi : Nat → Nat → L2.St → Hp → Prop := fun i m σV' H' => m = xs.length - i ∧ i ≤ xs.length ∧ ∃ (ow : Ow) (τ : List SV) (dr : List Int), Fr R B HB ow τ dr σV' H' ∧ Zs z σV' ∧ Stp (Ban B ow1 s1.σ) H (Ban B ow τ) H' ∧
    OutS R W z B HB (Ban B ow1 s1.σ) H ((forL sl (turnF g b) (xs.drop i) ⟨τ, dr⟩).unl sl s1.σ) D
  refine ⟨Wi, ⟨xs.length, rfl, Nat.zero_le _, ow1, _, _, F2, Z, Stp.less l2, h⟩, ?_⟩
  rintro i m σV' H' ⟨rfl, hi, ow2, τ, dr2, F3, Z3, st3, hfin⟩
  have hL : Lent sl τ := by
    cases hd : xs.drop i with
    | nil =>
      rw [hd] at hfin
      unfold forL at hfin
      split at hfin
      · assumption
      · exact hfin.elim
    | cons y ys =>
      rw [hd] at hfin
      unfold forL at hfin
      split at hfin
      · assumption
      · exact hfin.elim
  have isp : IsP R (Ban B ow2 τ) H' d0 v0 := by
    cases sl with
    | none => exact ((hd1 rfl).stp st3).p
    | some p =>
      obtain ⟨j, d⟩ := p
      obtain ⟨rfl, hlst, hv⟩ := hd2 j d rfl
      have hmem := hz j d v0 rfl hv
      have hv' := Z3 _ hmem
      have hL' : τ[j]? = some (.lnt d) := hL
      obtain ⟨q1, q2, _⟩ := F3.own j d (by unfold heldAt; rw [hL']; rfl)
      have hv2 : σV'[j]? = some (some v0) := hv'
      rw [hv2] at q1
      cases d with
      | lst ys =>
        obtain ⟨_, us, h1, h2⟩ := q2
        exact ⟨_, us, Option.some.inj (Option.some.inj q1), h1, h2⟩
      | _ => cases hlst
  have goes := hd3 _ H' isp F3.liveB i
  -- the loop's own end
  have fine : ∀ {s : S} {ow : Ow} {σV : L2.St} {H2 : Hp}, OutS R W z B HB (Ban B ow1 s1.σ) H ((Rs.nx s).unl sl s1.σ) D → Fr R B HB ow s.σ s.dr σV H2 → Zs z σV → Stp (Ban B ow1 s1.σ) H (Ban B ow s.σ) H2 → D.nx σV H2 := fun {s ow σV H2} hq F Z st => by
    unfold Rs.unl at hq
    dsimp only at hq
    split at hq
    · rename_i hL2
      obtain ⟨F', l'⟩ := F.unlend (σ0 := s1.σ) hL2
      exact hq ow σV H2 F' Z (st.trans (Stp.less l'))
    · exact hq.elim
  by_cases hlt : i < xs.length
  · have ex0 : xs[i]? = some xs[i] := by simp [hlt]
    obtain ⟨go, yl⟩ := goes.1 _ ex0
    rw [List.drop_eq_getElem_cons hlt] at hfin
    unfold forL at hfin
    rw [if_pos hL] at hfin
    refine .inr ⟨go, fun σ' H' => Wi (i + 1) (xs.length - (i + 1)) σ' H', fun σ' H' h => ⟨_, by omega, h⟩, fun x H2 hy => ?_⟩
    obtain ⟨ex, hx⟩ := yl x H2 hy
    have F4 := F3.ext ex
    unfold turnF at hfin
    dsimp only at hfin
    cases hb : bindT g xs[i] τ with
    | none => rw [hb] at hfin; exact hfin.elim
    | some σ' =>
      rw [hb] at hfin
      dsimp only at hfin
      refine ⟨B, HB, ow2, τ, σ', dr2, xs[i], F4, hx, hb, fun σ2 F5 sub5 len5 keep5 => ?_⟩
      have Z5 : Zs z σ2 := Z3.tg zg fun q hq => (keep5 q hq).1
      have stA : Stp (Ban B ow1 s1.σ) H (Ban B ow2 σ') H2 := (st3.trans (Stp.new ex)).trans (Stp.less sub5)
      refine ⟨B, HB, ow2, σ', dr2, F5, Z5, ?_⟩
      cases e : b ⟨σ', dr2⟩ with
      | nx s =>
        rw [e] at hfin
        exact fun ow σV H3 F6 Z6 st6 => ⟨rfl, hlt, ow, s.σ, s.dr, F6, Z6, stA.trans st6, hfin⟩
      | ct s =>
        rw [e] at hfin
        exact fun ow σV H3 F6 Z6 st6 => ⟨rfl, hlt, ow, s.σ, s.dr, F6, Z6, stA.trans st6, hfin⟩
      | bk s =>
        rw [e] at hfin
        exact fun ow σV H3 F6 Z6 st6 => fine hfin F6 Z6 (stA.trans st6)
      | rt d s =>
        rw [e] at hfin
        exact fun ow σV H3 v F6 Z6 st6 hv => hfin ow σV H3 v F6 Z6 (stA.trans st6) hv
      | ex c ns vs s =>
        rw [e] at hfin
        exact fun ow σV H3 us d F6 Z6 st6 hv he => hfin ow σV H3 us d F6 Z6 (stA.trans st6) hv he
      | no => rw [e] at hfin; exact hfin.elim
  · have ei : i = xs.length := by omega
    subst ei
    rw [List.drop_length] at hfin
    unfold forL at hfin
    rw [if_pos hL] at hfin
    exact .inl ⟨goes.2 (Nat.le_refl _), fine hfin F3 Z3 st3⟩
end
section
variable {X : Cx} {R : Rc} {W : WX} {z : ZK} {N : List Str} {sc so : Scope} {k : Nat}
variable {st : Stmt} {sts : List Stmt} {a b : Sm} {e c : Expr} {m m2 : M D} {t : M Bool} {pos pos' : Pos} {x y : Str} {i j : Nat}
theorem s_for (C : Ct X R W N sc k) (hp : PassesOwn (model X.prog X.w) X.A X.env X.xe) {tg iter : Expr} {body : List Stmt} {g : Tg} {w : M Wk} (hw : ∀ s k s', w s = .ok k s' → k.sl = none) (zg : ∀ i, i ∈ g.slots → Zo z i) (hi : PI X tg iter (tW R W w)) (hg : PG X tg (tTg R g)) (hb : PSs X body (tS R W z b))
    (hs : ∀ x, foldedSetIterable iter X.env x = pure x := by intro _; rfl) : PS X (.For tg iter body [] pos) (tS R W z (sFor g w b)) := (ps_for hp C.calm hi hg hb hs).imp fun D σV H h => by
  obtain ⟨B, HB, ow, σ, dr, F, Z, h⟩ := h
  refine ⟨B, HB, ow, σ, dr, F, ?_⟩
  have h' := OutS.bind Z h
  cases e : w ⟨σ, dr⟩ with
  | no => rw [e] at h'; exact h'
  | ex c ns us s => rw [e] at h'; exact h'
  | ok wk s =>
    rw [e] at h'
    have hn := hw _ _ _ e
    exact fun ow1 H1 F1 st1 J hJ => for_key F1 Z (fun j d v e1 _ => by rw [hn] at e1; cases e1) hJ zg (h' ow1 H1 F1 st1)
/-- the list in the slot j walked in place -/
theorem s_forL (C : Ct X R W N sc k) (hp : PassesOwn (model X.prog X.w) X.A X.env X.xe) {tg iter : Expr} {body : List Stmt} {g : Tg} {f : D → Option (List D)} (zg : ∀ i, i ∈ g.slots → Zo z i) (zj : ∀ i, i ∈ g.slots → j ≠ i) (hi : PI X tg iter (tW R W fun s => (hP j s).then fun h s => wkOf h s f)) (hg : PG X tg (tTg R g))
    (hb : ∀ v, PSs X body (tS R W ((j, v) :: z) b))
    (hs : ∀ x, foldedSetIterable iter X.env x = pure x := by intro _; rfl) : PS X (.For tg iter body [] pos) (tS R W z (sFor g (fun s => (hP j s).then fun h s => wkOf h s f) b)) := by
  refine ⟨fun pins s0 σV H D I h => ?_⟩
  -- the slot's value
  by_cases hv : ∃ v, σV[j]? = some (some v)
  · obtain ⟨v, hv⟩ := hv
    refine ((ps_for hp C.calm hi hg (hb v) hs).imp (t' := fun D σV' H => (σV' = σV) ∧ tS R W z (sFor g (fun s => (hP j s).then fun h s => wkOf h s f) b) D σV' H) fun D σV' H h => ?_).run pins s0 σV H D I ⟨rfl, h⟩
    obtain ⟨rfl, B, HB, ow, σ, dr, F, Z, h⟩ := h
    refine ⟨B, HB, ow, σ, dr, F, ?_⟩
    have h' := OutS.bind Z h
    have Z2 : Zs ((j, v) :: z) σV' := fun p hp => by
      rcases List.mem_cons.mp hp with rfl | hp
      · exact hv
      · exact Z p hp
    have zg2 : ∀ i, i ∈ g.slots → Zo ((j, v) :: z) i := fun i hi => Zo.cons (zj i hi) (zg i hi)
    change Out R W B HB (Ban B ow σ) H σV' ((hP j ⟨σ, dr⟩).then fun h s => wkOf h s f) _ at h'
    change Out R W B HB (Ban B ow σ) H σV' ((hP j ⟨σ, dr⟩).then fun h s => wkOf h s f) _
    cases e : ((hP j ⟨σ, dr⟩).then fun h s => wkOf h s f) with
    | no => rw [e] at h'; exact h'
    | ex c ns us s => rw [e] at h'; exact h'
    | ok wk s =>
      rw [e] at h'
      intro ow1 H1 F1 st1 J hJ
      refine for_key F1 Z2 (fun j' d v' e1 e2 => ?_) hJ zg2 ?_
      · have ej : j' = j := by
          obtain ⟨h0, s0, e0, e3⟩ := then_ok e
          unfold hP at e0
          dsimp only at e0
          have : h0 = .at j := by split at e0 <;> cases e0 <;> rfl
          subst this
          unfold wkOf at e3
          dsimp only at e3
          split at e3
          · obtain ⟨_, _, _, e3⟩ := then_ok e3
            cases e3
            cases e1
          · obtain ⟨_, _, _, e3⟩ := then_ok e3
            cases e3
            cases e1
            rfl
          · obtain ⟨_, _, _, e3⟩ := then_ok e3
            cases e3
            cases e1
            rfl
          · cases e3
        subst ej
        rw [hv] at e2
        cases e2
        exact List.mem_cons_self
      · -- the wish below does not see the slot
        have h2 := h' ow1 H1 F1 st1
        exact OutS.zmono (fun p hp => List.mem_cons_of_mem _ hp) h2
  · exfalso
    obtain ⟨B, HB, ow, σ, dr, F, Z, h⟩ := h
    have h' : OutS R W z B HB (Ban B ow σ) H (((hP j ⟨σ, dr⟩).then fun h s => wkOf h s f).st _) D := h
    unfold hP at h'
    dsimp only at h'
    split at h'
    · rename_i d e
      obtain ⟨v, h1, _⟩ := F.val j d e
      exact hv ⟨v, h1⟩
    · rename_i d e
      obtain ⟨h1, _⟩ := F.own j d (by unfold heldAt; rw [e]; rfl)
      exact hv ⟨_, h1⟩
    · rename_i d e
      obtain ⟨h1, _⟩ := F.own j d (by unfold heldAt; rw [e]; rfl)
      exact hv ⟨_, h1⟩
    · exact h'
end
end Mi
set_option Elab.async false
set_option linter.all false
set_option maxRecDepth 100000
set_option maxHeartbeats 4000000
/-! Mi16: functions, new instances, the draws. -/
namespace Mi
open PySem L2 PySem.Spec PyProof.Rows
def s0 (np nn : Nat) (ds : List D) : List SV := ds.map .val ++ List.replicate (nn - np) .em
section
variable {R : Rc} {B : Bn} {H : Hp} {ds : List D} {vs : List V} {N : List Str} {np nn : Nat} {dr : List Int}
theorem s0_held {i : Nat} : heldAt (s0 np nn ds) i = none := by
  unfold heldAt s0
  by_cases hi : i < ds.length
  · rw [List.getElem?_append_left (by simpa using hi), List.getElem?_map]
    cases ds[i]? <;> rfl
  · rw [List.getElem?_append_right (by simpa using hi), List.getElem?_replicate]
    split <;> rfl
theorem s0_val {i : Nat} {d : D} (h : (s0 np nn ds)[i]? = some (.val d)) : ds[i]? = some d := by
  unfold s0 at h
  by_cases hi : i < ds.length
  · rw [List.getElem?_append_left (by simpa using hi), List.getElem?_map] at h
    cases e : ds[i]? with
    | none => rw [e] at h; cases h
    | some x => rw [e] at h; cases h; rfl
  · rw [List.getElem?_append_right (by simpa using hi), List.getElem?_replicate] at h
    split at h <;> cases h
theorem start_get {i : Nat} {v : V} (h : vs[i]? = some v) : (L2.start N vs)[i]? = some (some v) := by
  unfold L2.start
  have hi := (List.getElem?_eq_some_iff.mp h).1
  rw [List.getElem?_append_left (by simpa using hi), List.getElem?_map, h]
  rfl
theorem fr_start (hl : IsL R B H ds vs) (lv : Live B H) (hB : R.hd = true → B R.dr) (hdr : DrAt R H dr) (hnp : ds.length = np) (hnn : N.length = nn) : Fr R B H (fun _ => (0, 0)) (s0 np nn ds) dr (L2.start N vs) H where
  len := by
    unfold L2.start s0
    simp only [List.length_append, List.length_map, List.length_replicate]
    rw [hl.len, hnp, hnn]
  val := fun i d h => by
    obtain ⟨v, h1, h2⟩ := hl.get (s0_val h)
    exact ⟨v, start_get h1, h2.less fun a z => by
      rcases z with z | ⟨j, e, q, _⟩
      · exact z
      · rw [s0_held] at q; cases q⟩
  own := fun i d h => by rw [s0_held] at h; cases h
  sep := fun i j d e h => by rw [s0_held] at h; cases h
  live := lv
  hold := fun _ _ _ h => h
  drs := hdr
  drB := hB
end
section
variable {R : Rc} {k : Nat} {f : Addr} {name qual : Str} {params : Arguments} {body : List Stmt} {scope : Scope} {dV kV doc pm cdv ct oc : Value} {an od : Option Addr} {osl : Array (Option Value)} {N ps : List Str} {np nn : Nat} {m : Sm}
theorem ct_of (tx : TxOk R) {A : Around} {outer : List Env} {s : Shared} {H : Hp} {E : XK} (S : FnScope N ps scope) (hr : Room k (A.deeper (envOfC qual scope s.heap.objs.size f cdv))) :
    Ct (cxOf (L2.CX R.P R.w) R.P R.w R.K R.mg R.base N qual scope f cdv A outer s H E) R (fun c d _ H => E c d H) N scope k :=
  ⟨rfl, rfl, rfl, rfl, rfl, rfl, S.nd, rfl, rfl, hr, takes_of rfl rfl rfl rfl, tx⟩
/-- a def's own frame is on top -/
abbrev OwnFr (X : Cx) : Prop := X.stack = X.env :: X.outer ∧ X.env.frame = some X.env.locals
/-- a def's body, in every context -/
def BodyOk (R : Rc) (N : List Str) (scope : Scope) (k : Nat) (body : List Stmt) (zs : V → ZK) (m : Sm) : Prop := ∀ (X : Cx) (E : XK) (v : V), Ct X R (fun c d _ H => E c d H) N scope k → Fs X scope → PassesOwn (model X.prog X.w) X.A X.env X.xe → OwnFr X → PSs X body (tS R (fun c d _ H => E c d H) (zs v) m)
/-- a def's body, run -/
theorem body_run {A : Around} {outer : List Env} {s : Shared} {H : Hp} {vs : List V} {Q : VK} {E : XK} (S : FnScope N ps scope) (hnn : N.length = nn) (tx : TxOk R) (hb : BodyOk R N scope k body (fun _ => []) m) (hr : Room k (A.deeper (envOfC qual scope s.heap.objs.size f cdv))) (hsp : spD R (fnD np nn m) vs H Q E) :
    ∃ t, PSs (cxOf (L2.CX R.P R.w) R.P R.w R.K R.mg R.base N qual scope f cdv A outer s H E) body t ∧ t { nx := fun _ H' => Q .non H', rt := Q } (L2.start N vs) H := by
  refine ⟨_, hb _ E .non (ct_of tx S hr) (fun _ _ => rfl) (passes_of rfl) ⟨rfl, rfl⟩, ?_⟩
  obtain ⟨B, ds, dr, h1, h2, h3, h4, h5⟩ := hsp
  unfold fnD at h5
  split at h5
  case isFalse => exact h5.elim
  rename_i hl
  refine ⟨B, H, fun _ => (0, 0), s0 np nn ds, dr, fr_start h1 h2 h3 h4 hl hnn, fun p hp => absurd hp (by simp), ?_⟩
  have lb : ∀ (ow : Ow) (τ : List SV) a, B a → Ban B ow τ a := fun _ _ a z => .inl z
  have h5' : RetD R B H (m ⟨s0 np nn ds, dr⟩).fr Q E := h5
  cases e : m ⟨s0 np nn ds, dr⟩ with
  | nx s =>
    rw [e] at h5'
    exact fun ow σV H' F Z st => h5' .non H' F.hold F.drs (by unfold Is; rfl)
  | rt d s =>
    rw [e] at h5'
    exact fun ow σV H' v F Z st hv => h5' v H' F.hold F.drs (hv.less (lb _ _))
  | ex c ns us s =>
    rw [e] at h5'
    exact fun ow σV H' us d F Z st hv he => h5' H' us d F.hold F.drs (hv.less (lb _ _)) he
  | bk s => rw [e] at h5'; exact h5'.elim
  | ct s => rw [e] at h5'; exact h5'.elim
  | no => rw [e] at h5'; exact h5'
theorem fn_ok (lk : R.K.lookup f = some ⟨oc, od, .func (PySem.W.fnOf name qual params body scope dV kV doc pm an cdv ct), osl⟩) (hcd : PySem.W.codeIn R.K cdv qual = true) (S : FnScope N ps scope) (hnp : ps.length = np) (hnn : N.length = nn) (tx : TxOk R)
    (hb : BodyOk R N scope k body (fun _ => []) m) :
    FnOk R.P R.w R.K R.mg R.base (L2.CX R.P R.w) (k + 1) f (PySem.W.fnOf name qual params body scope dV kV doc pm an cdv ct) ps (spD R (fnD np nn m)) := by
  have isnp : ∀ {vs : List V} {H : Hp} {Q : VK} {E : XK}, spD R (fnD np nn m) vs H Q E → vs.length = np := fun {vs H Q E} ⟨B, ds, dr, h1, _, _, _, h5⟩ => by
    unfold fnD at h5
    split at h5
    · rename_i hl
      rw [h1.len]; exact hl
    · exact h5.elim
  exact fn_of lk hcd S (fun vs H Q E h => by rw [isnp h, hnp]) fun A outer s H vs Q E hr hsp => body_run S hnn tx hb hr hsp
theorem ini_ok {c : Nat} (hsl : R.sl c = true) (lk : R.K.lookup f = some ⟨oc, od, .func (PySem.W.fnOf name qual params body scope dV kV doc pm an cdv ct), osl⟩) (hcd : PySem.W.codeIn R.K cdv qual = true) (S : FnScope N ps scope) (hnp : ps.length = np + 1) (hnn : N.length = nn) (tx : TxOk R)
    (hb : BodyOk R N scope k body (fun v => [(0, v)]) m) :
    FnOk R.P R.w R.K R.mg R.base (L2.CX R.P R.w) (k + 1) f (PySem.W.fnOf name qual params body scope dV kV doc pm an cdv ct) ps (spI R (R.ca c) (iniD c np nn m)) := by
  have hN : np + 1 ≤ nn := by
    have := congrArg List.length S.pre
    rw [List.length_take] at this
    omega
  have isnp : ∀ {vs : List V} {H : Hp} {Q : VK} {E : XK}, spI R (R.ca c) (iniD c np nn m) vs H Q E → vs.length = np + 1 := fun {vs H Q E} ⟨B, H0, x, dx, ws, ds, dr, e1, _, _, _, _, h1, _, _, _, h5⟩ => by
    unfold iniD at h5
    split at h5
    · rename_i hl
      rw [e1, List.length_cons, h1.len, hl]
    · exact h5.elim
  refine fn_of lk hcd S (fun vs H Q E h => by rw [isnp h, hnp]) fun A outer s H vs Q E hr hsp => ?_
  obtain ⟨B, H0, x, dx, ws, ds, dr, rfl, rfl, fx, fd, ne, h1, h2, h3, h4, h5⟩ := hsp
  refine ⟨_, hb _ E (.ref x) (ct_of tx S hr) (fun _ _ => rfl) (passes_of rfl) ⟨rfl, rfl⟩, ?_⟩
  unfold iniD at h5
  split at h5
  case isFalse => exact h5.elim
  rename_i hl
  have ex : Ext H0 (upd (upd H0 dx (.own x)) x (.ins (R.ca c) dx [])) := fun a o q => by
    rw [upd_ne (ne_of_none q fx), upd_ne (ne_of_none q fd)]; exact q
  let τ : List SV := .own (.ins c [] []) :: (ds.map .val ++ List.replicate (nn - np - 1) .em)
  have hτ : ∀ i, heldAt τ (i + 1) = none := fun i => s0_held (np := np) (nn := nn - 1) (ds := ds) (i := i) ▸ (by
    show (τ[i + 1]?).bind SV.held = ((s0 np (nn - 1) ds)[i]?).bind SV.held
    have e : nn - 1 - np = nn - np - 1 := by omega
    unfold s0
    rw [e]
    rfl)
  have h0 : heldAt τ 0 = some (.ins c [] []) := rfl
  have zero : ∀ i d, heldAt τ i = some d → i = 0 ∧ d = .ins c [] [] := fun i d q => by
    cases i with
    | zero => rw [h0] at q; cases q; exact ⟨rfl, rfl⟩
    | succ i => rw [hτ] at q; cases q
  have nBx : ¬ B x := fun w => (h2 x w).elim fun o q => by rw [fx] at q; cases q
  have nBd : ¬ B dx := fun w => (h2 dx w).elim fun o q => by rw [fd] at q; cases q
  have Fst : Fr R B H0 (fun _ => (x, dx)) τ dr (L2.start N (.ref x :: ws)) (upd (upd H0 dx (.own x)) x (.ins (R.ca c) dx [])) := {
    len := by
      show (L2.start N (.ref x :: ws)).length = τ.length
      unfold L2.start
      simp only [List.length_append, List.length_map, List.length_replicate, List.length_cons, τ]
      rw [h1.len, hl, hnn]
      omega
    val := fun i d h => by
      cases i with
      | zero => cases h
      | succ i =>
        have h' : (s0 np (nn - 1) ds)[i]? = some (.val d) := by
          have e : nn - 1 - np = nn - np - 1 := by omega
          unfold s0
          rw [e]
          exact h
        obtain ⟨v, q1, q2⟩ := h1.get (s0_val h')
        refine ⟨v, start_get (by simpa using q1), q2.stp ⟨fun a o _ q => ex a o q, fun a z => ?_⟩⟩
        rcases z with z | ⟨j, e, q, w⟩
        · exact .inl z
        · rcases w with rfl | rfl
          · exact .inr fx
          · exact .inr fd
    own := fun i d h => by
      obtain ⟨rfl, rfl⟩ := zero i d h
      refine ⟨start_get rfl, ⟨ne, [], ⟨rfl, fun n hn => absurd hn (by simp), ⟨_, by rw [upd_ne ne, upd_same]⟩, .inl ⟨hsl, [], .inl ⟨upd_same, rfl⟩, fun j n u q => by simp at q⟩⟩, IsL.nil⟩, ⟨nBx, fx⟩, ⟨nBd, fd⟩⟩
    sep := fun i j d e q1 q2 hij => by
      obtain ⟨rfl, _⟩ := zero i d q1
      obtain ⟨rfl, _⟩ := zero j e q2
      exact absurd rfl hij
    live := fun a w => by
      obtain ⟨o, q⟩ := h2 a w
      exact ⟨o, ex a o q⟩
    hold := fun a o _ q => ex a o q
    drs := fun w => ex _ _ (h4 w)
    drB := h3 }
  refine ⟨B, H0, fun _ => (x, dx), τ, dr, Fst, fun p hp => by rw [List.mem_singleton.mp hp]; exact start_get rfl, ?_⟩
  have h5' : RetD R B H0 (iniR (m ⟨τ, dr⟩)) (fun v H' => v = .ref x → Q .non H') E := h5
  cases e : m ⟨τ, dr⟩ with
  | nx s =>
    rw [e] at h5'
    intro ow σV H' F Z st
    unfold iniR at h5'
    dsimp only at h5'
    split at h5'
    · rename_i d e0
      obtain ⟨q1, q2, q3, q4⟩ := F.own 0 d (by unfold heldAt; rw [e0]; rfl)
      have q5 := Z (0, .ref x) List.mem_cons_self
      rw [q1] at q5
      have ea : (ow 0).1 = x := V.ref.inj (Option.some.inj (Option.some.inj q5))
      rw [ea] at q2
      exact h5' (.ref x) H' F.hold F.drs (q2.is nBx q4.1 fun b w => .inl w) rfl
    · exact h5'.elim
  | rt d s => rw [e] at h5'; exact h5'.elim
  | ex c ns us s =>
    rw [e] at h5'
    exact fun ow σV H' us d F Z st hv he => h5' H' us d F.hold F.drs (hv.less fun a w => .inl w) he
  | bk s => rw [e] at h5'; exact h5'.elim
  | ct s => rw [e] at h5'; exact h5'.elim
  | no => rw [e] at h5'; exact h5'
end
/-! ### self.f = value -/
section
variable {R : Rc} {W : WX} {z : ZK} {B : Bn} {HB H : Hp} {σV : L2.St} {ow : Ow} {σ : List SV} {dr : List Int}
theorem contains_not {ns : List Nat} {n : Nat} (h : ns.contains n = false) : n ∉ ns := fun w => by
  rw [List.contains_iff_mem.mpr w] at h; cases h
/-- an attribute put into the instance that is made in the slot i -/
theorem Fr.own_ins {i c n : Nat} {ns : List Nat} {ds : List D} {d : D} {v : V} (f : Fr R B HB ow σ dr σV H) (h : σ[i]? = some (.own (.ins c ns ds))) (hv : Is R (Ban B ow σ) H d v) (hn : n ∉ ns) (hs : R.sl c = true) (hh : R.has c n = true) (inj : ∀ n', R.has c n' = true → R.six c n' = R.six c n → n' = n) :
    ∃ ws, SlX.Slt H (ow i).1 (R.ca c) (ow i).2 ws ∧ Fr R B HB ow (σ.set i (.own (.ins c (ns ++ [n]) (ds ++ [d])))) dr σV (SlX.slH H (ow i).1 (R.ca c) (ow i).2 (SlX.putS (R.six c n) v ws)) ∧
      Stp (Ban B ow σ) H (Ban B ow (σ.set i (.own (.ins c (ns ++ [n]) (ds ++ [d]))))) (SlX.slH H (ow i).1 (R.ca c) (ow i).2 (SlX.putS (R.six c n) v ws)) := by
  have hh0 : heldAt σ i = some (.ins c ns ds) := by unfold heldAt; rw [h]; rfl
  have hi := heldAt_lt hh0
  obtain ⟨h1, ⟨ne, us, hin, hl⟩, h3, h4⟩ := f.own i _ hh0
  obtain ⟨e1, e2, e3, e4⟩ := hin
  obtain ⟨ws, q1, q2⟩ : ∃ ws, SlX.Slt H (ow i).1 (R.ca c) (ow i).2 ws ∧ ∀ (j n : Nat) (u : V), ns[j]? = some n → us[j]? = some u → ws[R.six c n]? = some (some u) := by
    rcases e4 with ⟨_, ws, a, b⟩ | ⟨w, _⟩
    · exact ⟨ws, a, b⟩
    · rw [hs] at w; cases w
  refine ⟨ws, q1, ?_⟩
  generalize hH : SlX.slH H (ow i).1 (R.ca c) (ow i).2 (SlX.putS (R.six c n) v ws) = H'
  have away : ∀ {a : Addr} {o : HO}, a ≠ (ow i).1 → a ≠ (ow i).2 → H a = some o → H' a = some o := fun a1 a2 q => by rw [← hH, SlX.slH_ne a1 a2]; exact q
  have hb : ∀ j e, heldAt (σ.set i (.own (.ins c (ns ++ [n]) (ds ++ [d])))) j = some e → ∃ e', heldAt σ j = some e' := fun j e q => by
    by_cases hj : i = j
    · subst hj; exact ⟨_, hh0⟩
    · rw [heldAt_set_ne hj] at q; exact ⟨_, q⟩
  have b1 : Ban B ow σ (ow i).1 := .inr ⟨i, _, hh0, .inl rfl⟩
  have b2 : Ban B ow σ (ow i).2 := .inr ⟨i, _, hh0, .inr rfl⟩
  have st : Stp (Ban B ow σ) H (Ban B ow (σ.set i (.own (.ins c (ns ++ [n]) (ds ++ [d]))))) H' := ⟨fun a o nb q => away (fun w => nb (by rw [w]; exact b1)) (fun w => nb (by rw [w]; exact b2)) q, fun a w => .inl (Ban.sub hb a w)⟩
  have at1 : H' (ow i).1 = some (SlX.SlO (ow i).1 (R.ca c) (ow i).2 (SlX.putS (R.six c n) v ws)) := by rw [← hH]; unfold SlX.slH; exact upd_same
  have at2 : H' (ow i).2 = some (.xd []) := by rw [← hH]; unfold SlX.slH; rw [upd_ne ne, upd_same]
  refine ⟨?_, st⟩
  exact {
    len := by simpa using f.len
    val := fun j e q => by
      by_cases hj : i = j
      · subst hj
        rw [List.getElem?_set_self hi] at q
        cases q
      · rw [List.getElem?_set_ne hj] at q
        obtain ⟨u, a, b⟩ := f.val j e q
        exact ⟨u, a, b.stp st⟩
    own := fun j e q => by
      by_cases hj : i = j
      · subst hj
        rw [heldAt_set_self hi] at q
        cases q
        refine ⟨h1, ⟨ne, us ++ [v], ⟨by simp [e1], fun n' hn' => ?_, ⟨_, at2⟩, .inl ⟨hs, SlX.putS (R.six c n) v ws, .inr ⟨at1, at2⟩, fun j n' u a b => ?_⟩⟩, (hl.append (IsL.cons hv IsL.nil)).stp st⟩, h3, h4⟩
        · rcases List.mem_append.mp hn' with w | w
          · exact e2 n' w
          · rw [List.mem_singleton.mp w]; exact hh
        · by_cases hj : j < ns.length
          · rw [List.getElem?_append_left hj] at a
            rw [List.getElem?_append_left (by rw [e1]; exact hj)] at b
            have hm : n' ∈ ns := List.mem_of_getElem? a
            exact (SlX.putS_ne fun w => hn (by rw [← inj n' (e2 n' hm) w]; exact hm)).mpr (q2 j n' u a b)
          · rw [List.getElem?_append_right (by omega)] at a
            rw [List.getElem?_append_right (by rw [e1]; omega)] at b
            rw [e1] at b
            have e0 : j - ns.length = 0 := by
              cases q : j - ns.length with
              | zero => rfl
              | succ k => rw [q] at a; simp at a
            rw [e0] at a b
            simp at a b
            subst a b
            exact SlX.putS_get _ _ _
      · rw [heldAt_set_ne hj] at q
        obtain ⟨a, b, x⟩ := f.own j e q
        obtain ⟨s1, s2, s3, s4⟩ := f.sep i j _ e hh0 q hj
        exact ⟨a, b.keep (fun o w => away (Ne.symm s1) (Ne.symm s3) w) (fun o w => away (Ne.symm s2) (Ne.symm s4) w) st, x⟩
    sep := fun j k d e a b hjk => by
      obtain ⟨d', a⟩ := hb j d a
      obtain ⟨e', b⟩ := hb k e b
      exact f.sep j k d' e' a b hjk
    live := fun a w => by
      obtain ⟨o, q⟩ := f.live a w
      exact ⟨o, away (fun y => h3.1 (by rw [← y]; exact w)) (fun y => h4.1 (by rw [← y]; exact w)) q⟩
    hold := fun a o x q => away (fun w => by rw [w, h3.2] at q; cases q) (fun w => by rw [w, h4.2] at q; cases q) (f.hold a o x q)
    drs := fun w => away (fun y => h3.1 (by rw [← y]; exact f.drB w)) (fun y => h4.1 (by rw [← y]; exact f.drB w)) (f.drs w)
    drB := f.drB }
end
end Mi
set_option Elab.async false
set_option linter.all false
set_option maxRecDepth 100000
set_option maxHeartbeats 4000000
/-! Mi17: self's attributes, the draws, calls of other forms. -/
namespace Mi
open PySem L2 PySem.Spec PyProof.Rows
section
variable {X : Cx} {R : Rc} {W : WX} {z : ZK} {N : List Str} {sc so : Scope} {k : Nat}
variable {st : Stmt} {sts : List Stmt} {a b e c : Expr} {es : List Expr} {m ma mb : M D} {ha : M Hd} {mr mk : M (List D)} {t : M Bool} {pos pos' p apos : Pos} {x y : Str} {i j : Nat} {G : FM} {kf : Nat} {f : Addr}
/-- the attributes of a class stand apart -/
def SixI (R : Rc) : Prop := ∀ c n n', R.has c n = true → R.has c n' = true → R.six c n' = R.six c n → n' = n
theorem s_att (C : Ct X R W N sc k) (J : SixI R) {cl n : Nat} {fl : Str} (A : AtI R n fl) (hh : R.has cl n = true) (hN : N[i]? = some x) (hv : visB sc x = true) (hd : (x == ("__debug__" : Str)) = false) (hcd : (x == ("__classdict__" : Str)) = false) (he : PE X e (tE R W m))
    (hs : swapsWith e (some (.Attribute (.Name x p) fl pos')) pos.line X.env = pure false := by rfl) : PS X (.Assign [.Attribute (.Name x p) fl pos'] e pos) (tS R W z (sAtt i cl n m)) := by
  refine (SlX.ps_sl (pe_var (by rw [C.eN]; exact hN) (by rw [C.esc]; exact vis_of hv) hd hcd) he hs).imp fun D σV H h => ?_
  obtain ⟨B, HB, ow, σ, dr, F, Z, h⟩ := h
  refine ⟨B, HB, ow, σ, dr, F, Out.mono (OutS.bind Z h) fun d s ow1 H1 F1 st1 h1 v hv => ?_⟩
  unfold onOwn at h1
  split at h1
  · rename_i d0 e0
    split at h1
    · rename_i d' ed
      cases d0 <;> (try (cases ed; done))
      rename_i c' ns vs
      unfold attD at ed
      dsimp only at ed
      split at ed
      · rename_i hc
        obtain ⟨rfl, hcn⟩ := hc
        cases ed
        obtain ⟨hsl, hcls, pd, hp⟩ := A c' hh
        obtain ⟨q1, _⟩ := F1.own i _ (show heldAt s.σ i = some (.ins c' ns vs) by unfold heldAt; rw [e0]; rfl)
        obtain ⟨ws, w1, F2, st2⟩ := F1.own_ins e0 hv (contains_not hcn) hsl hh (fun n' a b => J c' n n' hh a b)
        rw [← C.K] at hcls hp
        exact ⟨_, q1, (ow1 i).1, R.ca c', (ow1 i).2, pd, ws, R.six c' n, rfl, w1, hcls, hp, h1 ow1 σV _ F2 Z st2⟩
      · cases ed
    · exact h1.elim
  · exact h1.elim
/-! ### the draws -/
theorem m_draw (C : Ct X R W N sc k) {pn pa : Pos} (hN : N[i]? = some x) (hv : visB sc x = true) (hd : (x == ("__debug__" : Str)) = false) (hcd : (x == ("__classdict__" : Str)) = false)
    (hbase : attributeBase (.Name x pn) "pop" X.env (eval (.Name x pn) X.env) = eval (.Name x pn) X.env := by rfl) (hline : (pa.endLine == pos.line) = true := by rfl) :
    PE X (.Call (.Attribute (.Name x pn) "pop" pa) [] [] pos) (tE R W (mDraw i)) := by
  refine (pe_bm0 PySem.F.plainAttrs_list PySem.F.slot_list_pop PySem.F.type_list_pop mt_pop (pe_var (by rw [C.eN]; exact hN) (by rw [C.esc]; exact vis_of hv) hd hcd) hbase hline).imp fun σV H Q h => ?_
  obtain ⟨B, HB, ow, σ, dr, F, h⟩ := h
  unfold mDraw at h
  dsimp only at h
  split at h
  · rename_i e
    split at h
    · rename_i zz hz
      obtain ⟨v, h1, h2⟩ := F.val i _ e
      unfold Is at h2
      obtain ⟨hhd, rfl⟩ := h2
      have hdr := F.drs hhd
      refine ⟨_, h1, .inl ⟨rfl, _, SqL.of hdr⟩, R.dr, _, .int zz, rfl, rfl, hdr, ?_, ?_⟩
      · rw [List.length_map, List.getElem?_map, ← List.getLast?_eq_getElem?, hz]; rfl
      · obtain ⟨F2, st2⟩ := F.draws (dr' := dr.dropLast) hhd
        rw [← List.map_dropLast]
        exact h ow _ F2 st2 _ intIs
    · exact h.elim
  · exact h.elim
theorem m_drLen (C : Ct X R W N sc k) (bl : Bl R) {pn : Pos} (hN : N[i]? = some x) (hv : visB sc x = true) (hd : (x == ("__debug__" : Str)) = false) (hcd : (x == ("__classdict__" : Str)) = false) (hg : sc.names.lookup ("len" : Str) = some .globalImplicit)
    (hbv : bootBuiltins ("len" : Str) = some (.builtin "len")) (hs : starEach [.Name x pn] X.env = [(false, eval (.Name x pn) X.env)] := by rfl) : PE X (.Call (.Name ("len" : Str) p) [.Name x pn] [] pos) (tE R W (mDrLen i)) := by
  refine (pe_callB call_len (C.gl hg) (by rw [C.mg]; exact bl.no _ (by simp)) hbv (pa_cons (pe_var (by rw [C.eN]; exact hN) (by rw [C.esc]; exact vis_of hv) hd hcd) pa_nil hs) (by decide) (by decide) hs rfl).imp fun σV H Q h => ?_
  obtain ⟨B, HB, ow, σ, dr, F, h⟩ := h
  unfold mDrLen at h
  dsimp only at h
  split at h
  · rename_i e
    obtain ⟨v, h1, h2⟩ := F.val i _ e
    unfold Is at h2
    obtain ⟨hhd, rfl⟩ := h2
    have hdr := F.drs hhd
    exact ⟨_, h1, _, dr.length, rfl, .inl ⟨_, SqL.of hdr, by simp⟩, h ow H F (Stp.refl _ _) _ intIs⟩
  · exact h.elim
/-! ### built-ins of two arguments -/
theorem m_bi2B (C : Ct X R W N sc k) (bl : Bl R) {q : Bi2} {id : String} (hc : CallR X (.builtin id) (p2 R (bi2 q))) (hx : x ∈ (["min", "max"] : List Str)) (hbv : bootBuiltins x = some (.builtin id)) (hg : sc.names.lookup x = some .globalImplicit)
    (h1 : PE X a (tE R W ma)) (h2 : PE X b (tE R W mb)) (hn : x ≠ "__name__") (hdb : (x == ("__debug__" : Str)) = false) (hs : starEach [a, b] X.env = (false, eval a X.env) :: starEach [b] X.env := by rfl) (hs2 : starEach [b] X.env = (false, eval b X.env) :: starEach [] X.env := by rfl) (hpl : (backTo pos (starEach [b] X.env)).any (·.1) = false := by rfl) :
    PE X (.Call (.Name x p) [a, b] [] pos) (tE R W (mBi2 q ma mb)) := by
  have hm : X.mg x = none := by
    rw [C.mg]
    refine bl.no x ?_
    simp only [List.mem_cons, List.not_mem_nil, or_false] at hx ⊢
    rcases hx with h | h <;> simp [h]
  refine (pe_callB hc (C.gl hg) hm hbv (pa_cons h1 (pa_cons h2 pa_nil hs2) hs) hn hdb hs hpl).imp fun σV H Q h => ?_
  obtain ⟨B, HB, ow, σ, dr, F, h⟩ := h
  refine ⟨B, HB, ow, σ, dr, F, Out.mono (Out.bind h) fun x s ow1 H1 F1 st1 h1 v hv => ?_⟩
  refine ⟨B, HB, ow1, s.σ, s.dr, F1, Out.mono (Out.bind h1) fun y s2 ow2 H2 F2 st2 h2 u hu => ?_⟩
  obtain ⟨r, hr, q⟩ := Out.oget h2 F2
  exact ⟨_, x, y, r, v, u, rfl, (hv.stp st2).p, hu.p, F2.liveB, hr, fun w H' ex hi => q H' ex w hi⟩
/-- range(a, b) as a value -/
theorem m_rng2 (C : Ct X R W N sc k) (bl : Bl R) (hg : sc.names.lookup ("range" : Str) = some .globalImplicit) (hbv : bootBuiltins ("range" : Str) = some (.type "range")) (h1 : PE X a (tE R W ma)) (h2 : PE X b (tE R W mb))
    (hs : starEach [a, b] X.env = (false, eval a X.env) :: starEach [b] X.env := by rfl) (hs2 : starEach [b] X.env = (false, eval b X.env) :: starEach [] X.env := by rfl) (hpl : (backTo pos (starEach [b] X.env)).any (·.1) = false := by rfl) :
    PE X (.Call (.Name ("range" : Str) p) [a, b] [] pos) (tE R W (mBi2 .range ma mb)) := by
  refine (pe_callTy (call_range2D (R := R)) (C.gl hg) (by rw [C.mg]; exact bl.no _ (by simp)) hbv (pa_cons h1 (pa_cons h2 pa_nil hs2) hs) (by decide) (by decide) hs hpl).imp fun σV H Q h => ?_
  obtain ⟨B, HB, ow, σ, dr, F, h⟩ := h
  refine ⟨B, HB, ow, σ, dr, F, Out.mono (Out.bind h) fun x s ow1 H1 F1 st1 h1 v hv => ?_⟩
  refine ⟨B, HB, ow1, s.σ, s.dr, F1, Out.mono (Out.bind h1) fun y s2 ow2 H2 F2 st2 h2 u hu => ?_⟩
  obtain ⟨r, hr, q⟩ := Out.oget h2 F2
  exact ⟨_, x, y, r, v, u, rfl, (hv.stp st2).p, hu.p, F2.liveB, hr, fun w H' ex hi => q H' ex w hi⟩
/-! ### name op= value -/
def ipB : Bop → Bool
  | .add => true
  | .sub => true
  | _ => false
theorem s_aug (C : Ct X R W N sc k) (S : Fs X so) {o : Bop} {op : Operator} (eo : op = bop o) (ho : ipB o = true) (hN : N[i]? = some x) (hl : stB so sc x = true) (zo : Zo z i) (he : PE X e (tE R W m)) : PS X (.AugAssign (.Name x p) op e pos) (tS R W z (sAug i o m)) := by
  subst eo
  obtain ⟨hlo, hf⟩ := st_of C S hl
  have key : ∀ {ti : TIp} (g : Int → Int → Int), (∀ q r, binI o q r = some (.int (g q r))) → ti = ipI g → PIp X (bop o) ti → PS X (.AugAssign (.Name x p) (bop o) e pos) (tS R W z (sAug i o m)) := fun {ti} g hg et hp => by
    subst et
    refine (ps_aug (by rw [C.eN]; exact C.nd) (by rw [C.eN]; exact hN) hlo he hp hf).imp fun D σV H h => ?_
    obtain ⟨B, HB, ow, σ, dr, F, Z, h⟩ := h
    unfold sAug at h
    dsimp only at h
    split at h
    · rename_i q e0
      obtain ⟨v, h1, h2⟩ := F.val i _ e0
      unfold Is at h2
      subst h2
      refine ⟨_, h1, B, HB, ow, σ, dr, F, Out.mono (OutS.bind Z h) fun d s ow1 H1 F1 st1 h1 v hv => ?_⟩
      cases d with
      | int r =>
        have ev := isInt hv.p
        subst ev
        dsimp only at h1
        rw [hg] at h1
        exact ⟨q, r, rfl, rfl, h1 ow1 _ H1 (F1.put' intIs) (Z.set zo) (Stp.less ban_put)⟩
      | _ => exact h1.elim
    · exact h.elim
  cases o <;> (try (cases ho; done))
  · exact key (fun q r => q + r) (fun _ _ => rfl) rfl ip_add
  · exact key (fun q r => q - r) (fun _ _ => rfl) rfl ip_sub
/-! ### calls with keywords -/
/-- a call's form with keywords: the positional values, then the keywords' in the parameters' order -/
def CalK (R : Rc) (f : Addr) (n : Nat) (ks : List Str) (kf : Nat) (G : FM) : Prop := ∃ fd ps, FnOk R.P R.w R.K R.mg R.base (L2.CX R.P R.w) kf f fd ps (spD R G) ∧ KBn R.K fd ps n ks (fun us ws => us ++ ws) (fun vs zs => vs ++ zs)
theorem k_nil : PK X [] (tA R W mNil) := ⟨fun pos pins s σ H Q I h => pk_nil.run pos pins s σ H Q I (by
  obtain ⟨B, HB, ow, σ, dr, F, h⟩ := h
  exact h ow H F (Stp.refl _ _) [] IsL.nil)⟩
theorem k_cons {nm : Option Str} {kws : List Keyword} (h1 : PE X a (tE R W ma)) (h2 : PK X kws (tA R W mr)) : PK X (⟨nm, a, p⟩ :: kws) (tA R W (mCons ma mr)) := ⟨fun pos pins s σ H Q I h => (pk_cons h1 h2).run pos pins s σ H Q I (by
  obtain ⟨B, HB, ow, σ', dr, F, h⟩ := h
  refine ⟨B, HB, ow, σ', dr, F, Out.mono (Out.bind h) fun x s ow1 H1 F1 st1 h1 v hv => ?_⟩
  refine ⟨B, HB, ow1, s.σ, s.dr, F1, Out.mono (Out.bind h1) fun y s2 ow2 H2 F2 st2 h2 u hu => ?_⟩
  exact h2 ow2 H2 F2 (Stp.refl _ _) _ (IsL.cons (hv.stp st2) hu))⟩
theorem m_callK (C : Ct X R W N sc k) {n nk : Nat} {ks : List Str} {kws : List Keyword} (F : CalK R f n ks kf G) (hnk : ks.length = nk) (hm : R.mg x = some (.ref f)) (hkp : PySem.W.keepIn R.K (.ref f) = true) (hk : kf ≤ k) (hg : sc.names.lookup x = some .globalImplicit) (h1 : PA X (e :: es) (tA R W mr)) (h2 : PK X kws (tA R W mk))
    (hdb : (x == ("__debug__" : Str)) = false) (hall : (backToKw pos (keywordEach kws X.env)).all (·.1.isSome) = true := by rfl) (hks : (backToKw pos (keywordEach kws X.env)).filterMap (·.1) = ks := by rfl)
    (he : starEach (e :: es) X.env = (false, eval e X.env) :: starEach es X.env := by rfl) (hpl : ((backTo pos (starEach (e :: es) X.env)).any (·.1) || (backToKw pos (keywordEach kws X.env)).any (·.1.isNone)) = false := by rfl) :
    PE X (.Call (.Name x p) (e :: es) kws pos) (tE R W (mCallK n nk G mr mk)) := by
  obtain ⟨fd, ps, F, KB⟩ := F
  rw [← C.prog, ← C.w, ← C.K, ← C.mg, ← C.base] at F
  rw [← C.K] at KB hkp
  refine ⟨fun pins s σV H Q I h => ?_⟩
  obtain ⟨B, HB, ow, σ, dr, Fm, h⟩ := h
  refine wpAny_Call_Name_kw (ld_glob I (C.gl hg) (by rw [C.mg]; exact hm) ?_ hdb)
  let P2 : List V → Hp → Prop := fun vs H1 => tA R W mk σV H1 fun zs H2 => vs.length = n ∧ zs.length = ks.length ∧ spD R G (vs ++ zs) H2 Q fun c d H' => W c d σV H'
  have hP : tA R W mr σV H P2 := by
    refine ⟨B, HB, ow, σ, dr, Fm, Out.mono (Out.bind h) fun ds s1 ow1 H1 F1 st1 h1 vs hv => ?_⟩
    refine ⟨B, HB, ow1, s1.σ, s1.dr, F1, Out.mono (Out.bind h1) fun ws s2 ow2 H2 F2 st2 h2 zs hz => ?_⟩
    split at h2
    · rename_i hl
      exact ⟨by rw [hv.len]; exact hl.1, by rw [hz.len, hl.2, hnk], spD_of F2 ((hv.stp st2).append hz) h2⟩
    · exact h2.elim
  refine PySem.W.callWith_KW (h₀ := X.base) (K := X.K) I.ok.mod.kin hkp hall (thn (h1.run pos pins s σV H P2 I hP) fun us s1 ⟨vs, H1, I1, r, q⟩ => ?_) hpl he
  refine thn (h2.run pos pins s1 σV H1 _ I1 q) fun ws s2 ⟨zs, H2, I2, rz, l1, l2, q2⟩ => ⟨I2.kIn, ?_⟩
  rw [hks]
  have r2 := KB.rel r rz
  refine wpAny_call (codeAny_mono (F.run X.A X.stack s2 H2 ⟨us, ks.zip ws⟩ (us ++ ws) (vs ++ zs) Q _ (C.room.mono hk) I2.env0 (KB.to s2 us ws I2.kIn (by rw [← r.length]; exact l1) (by rw [← rz.length]; exact l2)) r2 q2) fun res s' hq => ?_)
  cases res with
  | error er => exact C.tk er s' (XE.of_call I2 (fun _ _ _ w => w) hq)
  | ok fl =>
    cases fl with
    | ret u => exact I2.after hq
    | _ => exact hq.elim
end
end Mi
set_option Elab.async false
set_option linter.all false
set_option maxRecDepth 100000
set_option maxHeartbeats 4000000
/-! Mi18: own exceptions over Exception, whose __init__ keeps its argument. -/
namespace PySem
namespace MiX
open PySem.W PySem.Calls PyProof.Rows PySem.HandSPX
abbrev tl : List Value := [.type "Exception", .type "BaseException", .type "object"]
/-- own classes, then Exception's -/
def own : List Value → Bool
  | .ref _ :: r => own r
  | l => l == tl
theorem own_split : ∀ l : List Value, own l = true → ∃ cs : List Addr, l = cs.map Value.ref ++ tl
  | [], e => absurd e (by decide)
  | .ref c :: r, e => by
    obtain ⟨cs, q⟩ := own_split r e
    exact ⟨c :: cs, by rw [q]; rfl⟩
  | .none :: _, e => ⟨[], beq_iff_eq.mp e⟩
  | .ellipsis :: _, e => ⟨[], beq_iff_eq.mp e⟩
  | .notImplemented :: _, e => ⟨[], beq_iff_eq.mp e⟩
  | .bool _ :: _, e => ⟨[], beq_iff_eq.mp e⟩
  | .int _ _ :: _, e => ⟨[], beq_iff_eq.mp e⟩
  | .float _ _ :: _, e => ⟨[], beq_iff_eq.mp e⟩
  | .str _ _ :: _, e => ⟨[], beq_iff_eq.mp e⟩
  | .bytes _ _ :: _, e => ⟨[], beq_iff_eq.mp e⟩
  | .type _ :: _, e => ⟨[], beq_iff_eq.mp e⟩
  | .builtin _ :: _, e => ⟨[], beq_iff_eq.mp e⟩
theorem pass (self : Value) : ∀ cs : List Addr, refuseLoop self "__setattr__" (cs.map Value.ref ++ tl) = pure ()
  | [] => F.store_Exception.passes self
  | c :: cs => by
    show refuseLoop self "__setattr__" (.ref c :: (cs.map Value.ref ++ tl)) = _
    rw [refuseLoop_ref]; exact pass self cs
theorem has (Y : String) : ∀ cs : List Addr, (cs.map Value.ref ++ tl).contains (.type Y) = tl.contains (.type Y)
  | [] => rfl
  | c :: cs => by
    show (Value.ref c :: (cs.map Value.ref ++ tl)).contains (.type Y) = _
    rw [List.contains_cons, has Y cs]; rfl
theorem own_pass {l : List Value} (e : own l = true) (self : Value) : refuseLoop self "__setattr__" l = pure () := by
  obtain ⟨cs, rfl⟩ := own_split l e
  exact pass self cs
theorem own_has {l : List Value} (e : own l = true) (Y : String) : l.contains (.type Y) = tl.contains (.type Y) := by
  obtain ⟨cs, rfl⟩ := own_split l e
  exact has Y cs
theorem own_ne {l : List Value} (e : own l = true) : l.isEmpty = false := by
  obtain ⟨cs, rfl⟩ := own_split l e
  cases cs <;> rfl
section
open Builtin Builtin.ObjectAttr
variable {prog : Program} {w : World} {A : Around} {R : Result → Shared → Prop} {hp : Heap} {g : Array GenState} {d : Drawn} {t : Nat} {os : OsState}
/-- the first attribute of a new exception -/
theorem osa {K : W.Frag} {name : Str} {tk : Tok} {v : Value} {x C : Addr} {fv : Array Value} {cd : ClassData} (KI : K.In hp) (hx : hp.get? x = some { cls := .ref C, data := .fields fv }) (hcd : W.clsIn K C = some cd) (hm : own cd.mro = true) (hh : cd.hasDict = true) (ha : W.findIn K (.ref C) name = some none)
    (hq : ∀ h' tk' dx, (∀ b o, b ≠ x → hp.get? b = some o → h'.get? b = some o) → hp.objs.size ≤ dx → dx ≠ x → h'.get? x = some { cls := .ref C, dict := some dx, data := .fields fv } → h'.Ns1 dx (fun y => if y = name then some v else none) → R (.ok (.ret .none)) ⟨h', g, d, tk', os⟩) :
    codeAny (model prog w) A (.call (.builtin "object.__setattr__") ⟨[.ref x, .str name tk, v], []⟩) R ⟨hp, g, d, t, os⟩ := by
  have at_ : W.InstAt hp x { cls := .ref C, data := .fields fv } C none := ⟨hx, rfl, rfl, trivial⟩
  have far : x ≠ hp.objs.size := Nat.ne_of_lt (Heap.lt_size hx)
  have isObj : W.Looks (model prog w) hp (isInstance (.ref x) (.type "object")) true := at_.type.andThen (W.looks_mroIn KI (by
    have ob : cd.mro.contains (.type "object") = true := (own_has hm "object").trans (by decide +kernel)
    unfold W.mroIn
    rw [hcd, Option.bind_some, if_neg (by rw [own_ne hm]; decide), ob]))
  have SF := F.store_object
  refine codeAny_call_builtin SF.slot.plain SF.entry (@W.check_slot (model prog w) _ _ ⟨hp, g, d, t, os⟩ "object.__setattr__" "object" "__setattr__" (.ref x) [.str name tk, v] [] _ SF.kind SF.split isObj (SF.args (.ref x) (.str name tk) v) ?_)
  have look1 : W.Looks (model prog w) hp (mroOf (.ref C)) cd.mro := (W.looks_clsIn KI hcd).andThen .now
  have look2 : W.Looks (model prog w) hp (storeTaker? none) none := .now
  have look3 : W.Looks (model prog w) hp (classData C) cd := W.looks_clsIn KI hcd
  rw [W.osa_eq, refuse_eq]
  refine wpAny_bind (wpAny_bind (at_.type.at (wpAny_bind (look1.at ?_))))
  rw [own_pass hm]
  refine wpAny_pure (wpAny_bind (at_.type.at (wpAny_bind ((W.looks_findIn KI ha).at (wpAny_bind (look2.at ?_))))))
  show wpAny _ _ (storeInOwnDict (.ref x) (.ref C) (.str name tk) name v false) _ _ _
  obtain ⟨c1, c2, c3, c4, c5, c6, c7, c8, c9, c10, c11⟩ := cd
  dsimp only at hh
  subst hh
  unfold storeInOwnDict ownDictForStores
  repeat (first | with_reducible refine store_in_new ?_ ?_ | with_reducible refine wpAny_loadPart_at hx ?_ | with_reducible refine look3.at ?_ | wp_step)
  · exact ⟨_, #[], _, (Heap.get?_update_ne _ _ _ _ far.symm).trans (Heap.get?_push_at rfl rfl), rfl, fun e he => absurd he (by simp), fun _ => rfl⟩
  · intro h' tk' hn hs
    have hx1 : (hp.push { cls := .type "dict", data := .dict #[] }).get? x = some { cls := .ref C, data := .fields fv } := Heap.get?_push_of_some _ hx
    exact hq h' tk' hp.objs.size (fun b o hb ho => (hs.2 b (Nat.ne_of_lt (Heap.lt_size ho))).trans ((Heap.get?_update_ne _ _ _ _ hb).trans (Heap.get?_push_of_some _ ho))) (Nat.le_refl _) far.symm ((hs.2 x far).trans (Heap.get?_update_self _ hx1 rfl)) hn
end
end MiX
end PySem
namespace Mi
open PySem L2 PySem.Spec PyProof.Rows
/-- the exception class at C -/
structure ExK (K : PySem.W.Frag) (C : Addr) : Prop where
  cls : ∃ nm q N bs bm sn sub ab col dd k0 k1 k2 k3 k5, K.lookup C = some (excClassObj nm q C N bs bm true sn sub ab col dd k0 k1 k2 k3 k5 "Exception.__new__") ∧ PySem.MiX.own bm = true
  sa : PySem.W.findIn K (.ref C) "__setattr__" = some (some (.builtin "object.__setattr__"))
  exC : PySem.W.subIn K (.ref C) (.type "BaseException") = some true
  tyC : PySem.W.typeIn K (.ref C) = some (.type "type")
  kC : PySem.W.keepIn K (.ref C) = true
section
variable {X : Cx} {pins : List (Addr × Obj)} {σ : L2.St} {H : Hp} {s : Shared} {a C : Addr} {f : Str} {y : V} {u : Value} {Q : Unit → Shared → Prop} {E : Value → Shared → Prop} {A : Around}
theorem exo_ne {b : Addr} {o : HO} {dd : Option Addr} (he : H a = some (exo a C dd)) (hb : H b = some o) (n : exo a C dd ≠ o) : b ≠ a := at_ne he hb n
/-- self.f = y on it -/
theorem ex_store (T : ExK X.K C) (I : Inv X pins σ H s) (e : H a = some (exo a C none)) (hno : PySem.W.findIn X.K (.ref C) f = some none) (ry : RelV y u)
    (h : ∀ dx s', H dx = none → dx ≠ a → Inv X pins σ (upd (upd H dx (exd dx [(f, y)])) a (exo a C (some dx))) s' → Q () s') : wpAny (model X.prog X.w) A (setAttr (.ref a) f u) Q E s := by
  obtain ⟨nm, q, N, bs, bm, sn, sub, ab, col, dd, k0, k1, k2, k3, k5, hC, hbm⟩ := T.cls
  have cdat : PySem.W.clsIn X.K C = some { name := nm, bases := bs, mro := .ref C :: bm, ns := N, qualname := q, hasDict := true, slotNames := sn, subclasses := sub, abstract := ab, collection := col, hasDel := false } := by
    unfold PySem.W.clsIn
    rw [hC]
    all_goals rfl
  obtain ⟨t1, ho⟩ := exo_at I.hok e
  obtain ⟨hp, g, d, t, os⟩ := s
  refine PySem.W.set_plain I.kIn (ox := { cls := .ref C, dict := none, data := .fields #[.ref t1, .none, .none, .none, .bool false, .none] }) (od := none) ⟨ho, rfl, rfl, trivial⟩ T.sa ?_
  refine PySem.MiX.osa I.kIn ho cdat hbm rfl hno fun h' tk' dx kp fresh ne hx hn => ?_
  have hnd : H dx = none := I.hok.fresh fresh
  have old : ∀ {b : Addr} {o : Obj}, hp.get? b = some o → b ≠ dx := fun z => Nat.ne_of_lt (Nat.lt_of_lt_of_le (Heap.lt_size z) fresh)
  have free : ∀ {b : Addr}, H b = none → b ≠ a := fun n w => by rw [w, e] at n; cases n
  have un : Un X.fs [] H (upd (upd H dx (exd dx [(f, y)])) a (exo a C (some dx))) hp h' := {
    keep := fun b o z n _ _ => kp b o (free n) z
    slot := fun b o z n _ _ => ⟨o.slots, kp b o (free n) z⟩
    free := fun b o z n _ => by rw [upd_ne (free n), upd_ne (old z)]; exact n
    there := fun b o z _ => by
      rcases Decidable.em (b = a) with hb | hb
      · exact ⟨_, by rw [hb]; exact hx⟩
      · exact ⟨o, kp b o hb z⟩
    tups := fun b xs z => by rw [upd_ne (exo_ne e z exo_tup), upd_ne (ne_of_none z hnd)]; exact z
    frzs := fun b o v z => by rw [upd_ne (exo_ne e z exo_frz), upd_ne (ne_of_none z hnd)]; exact z
    tbls := fun b ps z => ⟨#[], by rw [upd_ne (exo_ne e z exo_tbl), upd_ne (ne_of_none z hnd), z]; simp⟩ }
  refine h dx _ hnd ne (I.un (t' := tk') un fun b o z => ?_)
  by_cases hb : b = a
  · subst hb
    rw [upd_same] at z
    cases z
    exact exo_ok hx
  · rw [upd_ne hb] at z
    by_cases hd : b = dx
    · subst hd
      rw [upd_same] at z
      cases z
      exact exd_ok hn (relO_put (fs := []) ry fun g => True.intro)
    · rw [upd_ne hd] at z
      refine (I.hok b o z).stay (fun c v hc w => kp c v ?_ w) (fun c hc => by rw [upd_ne (exo_ne e hc exo_own), upd_ne (ne_of_none hc hnd)]; exact hc) fun c xs hc => by rw [upd_ne (exo_ne e hc exo_tup), upd_ne (ne_of_none hc hnd)]; exact hc
      rcases hc with rfl | hc
      · exact hb
      · exact exo_ne e hc exo_own
end
/-- an __init__(self, p): self.f = p -/
def spX (C : Addr) (f : Str) : Sp := fun vs H Q _ => ∃ (a : Addr) (y : V), vs = [.ref a, y] ∧ H a = some (exo a C none) ∧ ∀ dx, H dx = none → dx ≠ a → Q .non (upd (upd H dx (exd dx [(f, y)])) a (exo a C (some dx)))
section
variable {R : Rc} {k : Nat} {fa C : Addr} {name qual : Str} {params : Arguments} {scope : Scope} {dV kV doc pm cdv ct oc : Value} {an od : Option Addr} {osl : Array (Option Value)} {ns np fl : Str} {p1 p2 p3 p4 : Pos}
theorem exi_ok (T : ExK R.K C) (hno : PySem.W.findIn R.K (.ref C) fl = some none)
    (lk : R.K.lookup fa = some ⟨oc, od, .func (PySem.W.fnOf name qual params [.Assign [.Attribute (.Name ns p1) fl p2] (.Name np p3) p4] scope dV kV doc pm an cdv ct), osl⟩) (hcd : PySem.W.codeIn R.K cdv qual = true) (S : FnScope [ns, np] [ns, np] scope)
    (v1 : visB scope ns = true) (v2 : visB scope np = true) (d1 : (ns == ("__debug__" : Str)) = false) (d2 : (np == ("__debug__" : Str)) = false) (c1 : (ns == ("__classdict__" : Str)) = false) (c2 : (np == ("__classdict__" : Str)) = false) :
    FnOk R.P R.w R.K R.mg R.base (L2.CX R.P R.w) (k + 1) fa (PySem.W.fnOf name qual params [.Assign [.Attribute (.Name ns p1) fl p2] (.Name np p3) p4] scope dV kV doc pm an cdv ct) [ns, np] (spX C fl) := by
  refine fn_of lk hcd S (fun vs H Q E ⟨a, y, e, _⟩ => by rw [e]; rfl) fun A outer s H vs Q E hr ⟨a, y, e, ha, hq⟩ => ?_
  subst e
  let X := cxOf (L2.CX R.P R.w) R.P R.w R.K R.mg R.base [ns, np] qual scope fa cdv A outer s H E
  have one : PS X (.Assign [.Attribute (.Name ns p1) fl p2] (.Name np p3) p4) (fun D σ H => σ[1]? = some (some y) ∧ σ[0]? = some (some (.ref a)) ∧ H a = some (exo a C none) ∧ ∀ dx, H dx = none → dx ≠ a → D.nx σ (upd (upd H dx (exd dx [(fl, y)])) a (exo a C (some dx)))) := by
    refine ⟨fun pins s σ H D I h => ?_⟩
    obtain ⟨e1, e0, ea, hD⟩ := h
    refine plainObj_wpAny_Assign_Attribute (thn ((pe_var (X := X) (i := 1) rfl (vis_of v2) d2 c2).run pins s σ H (fun v H' => v = y ∧ H' = H) I ⟨y, e1, rfl, rfl⟩) fun u s1 ⟨v, H1, I1, ru, ev, eH⟩ => ?_) rfl
    subst ev eH
    refine thn ((pe_var (X := X) (i := 0) rfl (vis_of v1) d1 c1).run pins s1 σ H1 (fun w H' => w = .ref a ∧ H' = H1) I1 ⟨_, e0, rfl, rfl⟩) fun ov s2 ⟨w, H2, I2, rw', ew, eH⟩ => ?_
    subst ew eH
    obtain rfl : ov = Value.ref a := rw'
    exact ex_store (X := X) T I2 ea hno ru fun dx s' n ne J => ⟨σ, _, J, hD dx n ne⟩
  exact ⟨_, pss_one one, rfl, rfl, ha, hq⟩
end
/-! ### C(e) -/
section
variable {X : Cx} {R : Rc} {W : WX} {z : ZK} {N : List Str} {sc so : Scope} {k : Nat} {e : Expr} {m : M D} {pos p pos' : Pos} {x : Str}
/-- the exception class c, its attribute n: its __init__ -/
def ExI (R : Rc) (c n kf : Nat) : Prop := ∃ (fl : Str) (fI : Addr) (fd : FuncData) (ps : List Str), R.atts[n]? = some fl ∧ ExK R.K (R.ca c) ∧ PySem.W.findIn R.K (.ref (R.ca c)) "__init__" = some (some (.ref fI)) ∧ PySem.W.typeIn R.K (.ref fI) = some (.type "function") ∧
  FnOk R.P R.w R.K R.mg R.base (L2.CX R.P R.w) kf fI fd ps (spX (R.ca c) fl) ∧ Binds R.K fd ps []
theorem s_rai (C : Ct X R W N sc k) {c n kf : Nat} (T : ExI R c n kf) (hk : kf + 1 ≤ k) (hm : R.mg x = some (.ref (R.ca c))) (hg : sc.names.lookup x = some .globalImplicit) (he : PE X e (tE R W m)) (hdb : (x == ("__debug__" : Str)) = false)
    (hst : starEach [e] X.env = (false, eval e X.env) :: starEach [] X.env := by rfl) (hpl : (backTo pos (starEach [] X.env)).any (·.1) = false := by rfl) :
    PS X (.Raise (some (.Call (.Name x p) [e] [] pos)) none pos') (tS R W z (sRai c n m)) := by
  obtain ⟨fl, fI, fd, ps, hat, T, iC, tI, F1, hb⟩ := T
  have hnd : Raises X (.ref (R.ca c)) := raises_own (by rw [C.K]; exact T.exC) (by rw [C.K]; exact T.tyC)
  have mk : PMk X (.Call (.Name x p) [e] [] pos) (fun σV H Q => tE R W m σV H fun v H1 => ∀ d, H1 d = none → Q (.ref (R.ca c)) (some d) (upd H1 d (.xd [(fl, v)]))) := by
    intro pins s σV H Q I h
    obtain ⟨nm, q, N', bs, bm, sn, sub, ab, col, dd, k0, k1, k2, k3, k5, hC, hbm⟩ := T.cls
    refine wpAny_Call_Name_kw (ld_glob I (C.gl hg) (by rw [C.mg]; exact hm) ?_ hdb)
    refine PySem.W.callWith_K (h₀ := X.base) (K := X.K) I.ok.mod.kin (by rw [C.K]; exact T.kC) (thn ((pa_cons he pa_nil hst).run pos pins s σV H (fun vs H1 => ∃ v, vs = [v] ∧ ∀ d, H1 d = none → Q (.ref (R.ca c)) (some d) (upd H1 d (.xd [(fl, v)]))) I (by
      obtain ⟨B, HB, ow, σ, dr, Fm, h⟩ := h
      exact ⟨B, HB, ow, σ, dr, Fm, Out.mono h fun d s ow' H' F st q v hv => ⟨v, rfl, q v hv⟩⟩)) fun us s1 ⟨vs, H1, I1, r1, v, ev, q1⟩ => ⟨I1.kIn, ?_⟩) hst hpl
    subst ev
    show wpAny _ _ (call (.ref (R.ca c)) us) _ _ _
    obtain ⟨hp, g, dr, tk, os⟩ := s1
    have up1 : hp.objs.size ≤ hp.objs.size + 1 := Nat.le_succ _
    have hn : H1 (hp.objs.size + 1) = none := I1.hok.fresh up1
    let Ca := R.ca c
    let a := hp.objs.size + 1
    have grow : ∀ b o, hp.get? b = some o → ((hp.push (PySem.W.kdv_tup us)).push (PySem.HandSPX.excO Ca hp.objs.size)).get? b = some o := fun b o z => Heap.get?_push_of_some _ (Heap.get?_push_of_some _ z)
    have here : ((hp.push (PySem.W.kdv_tup us)).push (PySem.HandSPX.excO Ca hp.objs.size)).get? (hp.objs.size + 1) = some (PySem.HandSPX.excO Ca hp.objs.size) := by heap_get
    have I2 : Inv X pins σV (upd H1 a (exo a Ca none)) ⟨(hp.push (PySem.W.kdv_tup us)).push (PySem.HandSPX.excO Ca hp.objs.size), g, dr, tk, os⟩ := I1.laid (t' := tk) grow up1 (exo_ok here)
    have promise : spX Ca fl [.ref a, v] (upd H1 a (exo a Ca none)) (fun v' H2 => v' = .non ∧ ∃ d, H1 d = none ∧ d ≠ a ∧ H2 = upd (upd (upd H1 a (exo a Ca none)) d (exd d [(fl, v)])) a (exo a Ca (some d)) ∧ Q (.ref Ca) (some d) (upd H1 d (.xd [(fl, v)]))) (fun _ _ _ => False) :=
      ⟨a, v, rfl, upd_same, fun d hd ne => ⟨rfl, d, by rw [upd_ne ne] at hd; exact hd, ne, rfl, q1 d (by rw [upd_ne ne] at hd; exact hd)⟩⟩
    have r2 : Vals [V.ref a, v] (Value.ref a :: us) := .cons rfl r1
    have hl : (Value.ref a :: us ++ []).length = ps.length := by
      have e1 := r2.length
      rw [F1.len _ _ _ _ promise] at e1
      simpa using e1.symm
    have hus : us.length ≤ sizeLine := by
      rw [← Paired.length r1, sizeLine_eq]
      show 1 ≤ 16777216
      omega
    have FX : FnOk X.prog X.w X.K X.mg X.base (L2.CX X.prog X.w) kf fI fd ps (spX Ca fl) := by rw [C.prog, C.w, C.K, C.mg, C.base]; exact F1
    have room : Room kf (X.A.under (.builtin "type.__call__" ⟨.ref Ca :: us, []⟩)) := (C.room.mono hk).make Ca us []
    refine wpAny_call (PySem.HandSPX.call_own F.excBase_Exception (fun Y => PySem.MiX.own_has hbm Y) (I1.kIn _ _ (by rw [C.K]; exact hC)) (PySem.W.looks_findIn I1.kIn (by rw [C.K]; exact iC)) (fun self => PySem.W.bind_fn I1.kIn self (by rw [C.K]; exact tI)) hus
      (codeAny_mono (FX.run _ X.stack _ _ ⟨Value.ref a :: us, []⟩ (Value.ref a :: us ++ []) _ _ (fun _ _ _ => False) room (I2.env0.make Ca us []) (by have := hb _ (Value.ref a :: us) (by rw [← C.K]; exact I2.kIn) hl; exact this) (by rw [List.append_nil]; exact r2) promise) fun res s' hq => ?_))
    cases res with
    | error er =>
      obtain ⟨_, _, _, _, _, _, _, _, _, _, _, _, w⟩ := hq
      exact w.elim
    | ok fl' =>
      cases fl' with
      | ret u =>
        obtain ⟨v', H2, os2, bare2, un2, hok2, rv, ev, d, hd1, hda, eH2, q2⟩ := hq
        subst ev eH2
        obtain ⟨h2, g2, d2, t2, os'⟩ := s'
        refine ⟨rv, mk_end hnd I1 up1 grow un2 hok2 os2 bare2 upd_same (by rw [upd_ne hda, upd_same]) hd1 ?_⟩
        have eh : upd (del (upd (upd (upd H1 a (exo a Ca none)) d (exd d [(fl, v)])) a (exo a Ca (some d))) a) d (.xd [(fl, v)]) = upd H1 d (.xd [(fl, v)]) := by
          funext b
          by_cases hb : b = d
          · rw [hb, upd_same, upd_same]
          · rw [upd_ne hb, upd_ne hb]
            by_cases hb2 : b = a
            · rw [hb2, del_same, hn]
            · rw [del_ne hb2, upd_ne hb2, upd_ne hb, upd_ne hb2]
        rw [eh]
        exact q2
      | _ => exact hq.elim
  refine (ps_raise C.calm C.tk mk).imp fun D σV H h => ?_
  obtain ⟨B, HB, ow, σ, dr, Fm, Z, h⟩ := h
  refine ⟨B, HB, ow, σ, dr, Fm, Out.mono (OutS.bind Z h) fun d s ow1 H1 F1 st1 h1 v hv d' hd' => ?_⟩
  have ex := ext_upd (o := .xd [(fl, v)]) hd'
  refine h1 ow1 σV _ [v] d' (F1.ext ex) Z (Stp.new ex) (IsL.cons (hv.ext ex) IsL.nil) ⟨rfl, _, upd_same, fun j n' u e1 e2 => ?_⟩
  cases j with
  | zero =>
    simp at e1 e2
    subst e1 e2
    exact ⟨fl, hat, by simp [List.lookup]⟩
  | succ j => simp at e1
end
end Mi
set_option Elab.async false
set_option linter.all false
set_option maxRecDepth 100000
set_option maxHeartbeats 4000000
/-! Mi19: chains of comparisons, functions by their row's def. -/
namespace Mi
open PySem L2 PySem.Spec PyProof.Rows
section
variable {X : Cx} {R : Rc} {W : WX} {N : List Str} {sc : Scope} {k : Nat} {a b c e : Expr} {ma mb mc : M D} {pos : Pos}
theorem key_chn {o o2 : Cop} {σV : L2.St} {H : Hp} {Q : VK} (h : tE R W (mChn o o2 ma mb mc) σV H Q) : tChain (pB R (cmpD o)) (pB R (cmpD o2)) (tE R W ma) (tE R W mb) (tE R W mc) σV H Q := by
  obtain ⟨B, HB, ow, σ, dr, F, h⟩ := h
  refine ⟨B, HB, ow, σ, dr, F, Out.mono (Out.bind h) fun x s ow1 H1 F1 st1 h1 v hv => ?_⟩
  refine ⟨B, HB, ow1, s.σ, s.dr, F1, Out.mono (Out.bind h1) fun y s2 ow2 H2 F2 st2 h2 u hu => ?_⟩
  obtain ⟨r, hr, q⟩ := Out.oget (Out.bind h2) F2
  refine ⟨_, x, y, .bl r, (hv.stp st2).p, hu.p, F2.liveB, by unfold cmpD; rw [hr]; rfl, fun w H' ex hi => ⟨r, isBl hi, ?_⟩⟩
  cases r with
  | false =>
    rw [if_neg (by decide)]
    exact (q H' ex) ow2 H' (F2.ext ex) (Stp.refl _ _) _ blIs
  | true =>
    rw [if_pos rfl]
    refine ⟨B, HB, ow2, s2.σ, s2.dr, F2.ext ex, Out.mono (Out.bind (q H' ex)) fun z s3 ow3 H3 F3 st3 h3 t ht => ?_⟩
    obtain ⟨r', hr', q'⟩ := Out.oget (Out.bind h3) F3
    exact ⟨_, y, z, .bl r', ((hu.ext ex).stp st3).p, ht.p, F3.liveB, by unfold cmpD; rw [hr']; rfl, fun w H'' ex' hi' => (q' H'' ex') ow3 H'' (F3.ext ex') (Stp.refl _ _) w hi'⟩
theorem chn_bl {o o2 : Cop} : ∀ s d s', mChn o o2 ma mb mc s = .ok d s' → ∃ b, d = .bl b := fun s d s' h => by
  obtain ⟨_, _, _, h⟩ := then_ok h
  obtain ⟨_, _, _, h⟩ := then_ok h
  obtain ⟨r, _, _, h⟩ := then_ok h
  cases r with
  | false => cases h; exact ⟨_, rfl⟩
  | true =>
    obtain ⟨_, _, _, h⟩ := then_ok h
    obtain ⟨_, _, _, h⟩ := then_ok h
    cases h
    exact ⟨_, rfl⟩
theorem m_chn (C : Ct X R W N sc k) {o o2 : Cop} {op op2 : CmpOp} (eo : op = cop o) (eo2 : op2 = cop o2) (h1 : PE X a (tE R W ma)) (h2 : PE X b (tE R W mb)) (h3 : PE X c (tE R W mc)) (hm : lastMarks [op, op2] [b, c] = false := by with_unfolding_all rfl) :
    PE X (.Compare a [op, op2] [b, c] pos) (tE R W (mChn o o2 ma mb mc)) := by
  subst eo eo2
  exact (pe_chain (op_cmp C.K C.tx (by have := C.room.un; omega) o) (op_cmp C.K C.tx (by have := C.room.un; omega) o2) h1 h2 h3 hm).imp fun σV H Q h => key_chn h
theorem t_chn (C : Ct X R W N sc k) {o o2 : Cop} {op op2 : CmpOp} (eo : op = cop o) (eo2 : op2 = cop o2) (h1 : PE X a (tE R W ma)) (h2 : PE X b (tE R W mb)) (h3 : PE X c (tE R W mc)) (hm : lastMarks [op, op2] [b, c] = false := by with_unfolding_all rfl) :
    PT X (.Compare a [op, op2] [b, c] pos) (tT R W (tV (mChn o o2 ma mb mc))) := by
  subst eo eo2
  exact (pt_chain (op_cmp C.K C.tx (by have := C.room.un; omega) o) (op_cmp C.K C.tx (by have := C.room.un; omega) o2) h1 h2 h3 hm).imp fun σV H Q h => key_chn (tV_bl h chn_bl)
/-- a comprehension's value goes into its name's slot -/
theorem sw_ok {elt : Expr} {gs : List Comprehension} {scope : Scope} {py : Pos} {y : Str} {l : Nat} {env : Env} (he : env.scope = sc) (hk : (sc.kind == .function) = true) (hy : sc.names.lookup y = some .local) (hl : (py.line == pos.line) = true)
    (ha : (scope.names.any fun (n, k) => n == y && (k == .local || k == .cell)) = false) : swapsWith (.ListComp elt gs scope pos) (some (.Name y py)) l env = pure true :=
  sw_true (by rw [he]; revert hk; cases sc.kind <;> decide) (by rw [he]; exact hy) hl ha
end
/-! ### walks of values -/
theorem hE_at {m : M D} {s s' : S} {h : Hd} (e : hE m s = .ok h s') : ∃ d, h = .dat d := by
  obtain ⟨d, _, _, e⟩ := then_ok e
  cases e
  exact ⟨d, rfl⟩
theorem oget_ok {α : Type} {o : Option α} {s s' : S} {a : α} (h : oget o s = .ok a s') : o = some a ∧ s' = s := by
  cases o with
  | none => cases h
  | some a => cases h; exact ⟨rfl, rfl⟩
theorem wk_dat {d : D} {f : D → Option (List D)} {s s' : S} {k : Wk} (h : wkOf (.dat d) s f = .ok k s') : k.sl = none := by
  obtain ⟨_, _, _, h⟩ := then_ok h
  cases h
  rfl
theorem n_one (m : M D) : ∀ s k s', wOne (hE m) s = .ok k s' → k.sl = none := fun s k s' h => by
  obtain ⟨x, _, e, h⟩ := then_ok h
  obtain ⟨d, rfl⟩ := hE_at e
  exact wk_dat h
theorem n_enum (m : M D) : ∀ s k s', wEnum (hE m) s = .ok k s' → k.sl = none := fun s k s' h => by
  obtain ⟨x, _, e, h⟩ := then_ok h
  obtain ⟨d, rfl⟩ := hE_at e
  exact wk_dat h
theorem n_r1 (m : M D) : ∀ s k s', wR1 m s = .ok k s' → k.sl = none := fun s k s' h => by
  obtain ⟨x, _, e, h⟩ := then_ok h
  cases x <;> first
  | (cases h; done)
  | (dsimp only at h; split at h <;> cases h; rfl)
theorem n_r2 (m m2 : M D) : ∀ s k s', wR2 m m2 s = .ok k s' → k.sl = none := fun s k s' h => by
  obtain ⟨x, _, e, h⟩ := then_ok h
  obtain ⟨y, _, e, h⟩ := then_ok h
  cases x <;> cases y <;> first
  | (cases h; done)
  | (dsimp only at h; split at h <;> cases h; rfl)
/-! ### functions by their def -/
section
variable {R : Rc} {k : Nat} {f : Addr} {fd : FuncData} {name qual : Str} {params : Arguments} {body : List Stmt} {scope : Scope} {dvs : List V} {kws : List (Str × V)} {N ps : List Str} {np nn : Nat} {m : Sm}
theorem fn_okD (F : FunD R.K name qual params body scope dvs kws f fd) (S : FnScope N ps scope) (hnp : ps.length = np) (hnn : N.length = nn) (tx : TxOk R) (hb : BodyOk R N scope k body (fun _ => []) m) :
    FnOk R.P R.w R.K R.mg R.base (L2.CX R.P R.w) (k + 1) f fd ps (spD R (fnD np nn m)) := by
  obtain ⟨oc, od, dV, kV, doc, pm, an, cdv, ct, osl, rfl, lk, hcd, _, _⟩ := F.ex
  exact fn_ok lk hcd S hnp hnn tx hb
theorem ini_okD {c : Nat} (hsl : R.sl c = true) (F : FunD R.K name qual params body scope dvs kws f fd) (S : FnScope N ps scope) (hnp : ps.length = np + 1) (hnn : N.length = nn) (tx : TxOk R) (hb : BodyOk R N scope k body (fun v => [(0, v)]) m) :
    FnOk R.P R.w R.K R.mg R.base (L2.CX R.P R.w) (k + 1) f fd ps (spI R (R.ca c) (iniD c np nn m)) := by
  obtain ⟨oc, od, dV, kV, doc, pm, an, cdv, ct, osl, rfl, lk, hcd, _, _⟩ := F.ex
  exact ini_ok hsl lk hcd S hnp hnn tx hb
end
end Mi
set_option Elab.async false
set_option linter.all false
set_option maxRecDepth 100000
set_option maxHeartbeats 4000000
/-! Mi20: tables of one class. -/
namespace Mi
open PySem L2 PySem.Spec PyProof.Rows
theorem one_at {α : Type} {c c' : Nat} {g g' : α} (h : List.lookup c [(c', g')] = some g) : c = c' ∧ g' = g := by
  unfold List.lookup at h
  split at h
  · rename_i e
    cases h
    exact ⟨beq_iff_eq.mp e, rfl⟩
  · cases h
/-- the function in a classmethod, a property -/
def cmF (K : PySem.W.Frag) (a : Addr) : Addr := match K.lookup a with
  | some ⟨_, _, .fields vs, _⟩ => (match vs.getD 0 .none with
    | .ref b => b
    | _ => 0)
  | _ => 0
def prF (K : PySem.W.Frag) (a : Addr) : Addr := cmF K a
end Mi
set_option Elab.async false
set_option linter.all false
set_option maxRecDepth 100000
set_option maxHeartbeats 4000000
/-! Mi21: set(xs) of intsD, told as a set that can be sorted; a tuple's sorted list. -/
namespace PySem.MiSt
open PySem PySem.Spec PyProof.Rows L2
section
variable {P : Program} {w : World} {A : Around} {E : Value → Shared → Prop} {s : Shared}
section
variable {R : Result → Shared → Prop} {I S : Addr} {fp wr : List Addr} {G : Array GenState → Array GenState → Prop} {n : Nat} {Pv : Nat → Value → Prop} {St : Nat → Shared → Prop} {val : Nat → Int}
abbrev Met (w : World) (val : Nat → Int) (S : Addr) (i : Nat) (h : Heap) : Prop := SetR w h S (fun j => (firstMet val i).any (· == j)) (firstMet val i).length
theorem upd_loop (W : WalksS P w A.in1 I fp wr G n Pv St) (hSf : S ∉ fp) (hval : ∀ i v, Pv i v → ∃ t, v = .int (val i) t) (hb : n + 1 < scanBound) :
    ∀ (k i : Nat) (s : Shared), n - i = k → i ≤ n → St i s → Met w val S i s.heap → (∀ s', Moved (S :: wr) G s s' → Met w val S n s'.heap → R (.ok (.ret .none)) s') →
      codeAny (model P w) A (.builtin "set.update.loop" ⟨[.ref S, .ref I], []⟩) R s := by
  have nw : S ∉ wr := fun q => hSf (W.sub _ q)
  have up : ∀ b ∈ wr, b ∈ S :: wr := fun _ => List.mem_cons_of_mem _
  intro k
  induction k with
  | zero =>
    intro i s ek ei st m0 fin
    obtain rfl : i = n := by omega
    refine codeAny_builtin F.entry_set_update_loop ?_
    rw [Around.under_plainId F.plain_set_update_loop _]
    refine wpAny_bind (W.done s _ _ st fun s2 mv => ?_)
    exact wpAny_pure (fin s2 (mv.mono up) (m0.at fun o q => mv.heap S o nw q))
  | succ k ih =>
    intro i s ek ei st m0 fin
    have li : i < n := by omega
    refine codeAny_builtin F.entry_set_update_loop ?_
    rw [Around.under_plainId F.plain_set_update_loop _]
    refine wpAny_bind (W.item i s _ _ li st fun v s2 pv st2 mv => ?_)
    obtain ⟨tk, rfl⟩ := hval i v pv
    have m1 : Met w val S i s2.heap := m0.at fun o q => mv.heap S o nw q
    refine wpAny_bind (wpAny_holding ?_)
    unfold setAdd
    refine wpAny_holding (wpAny_bind ((intKind P w).pyHash (k := val i) (intKind_is P w _ _) ?_))
    have room : (firstMet val i).length + 1 < scanBound := by
      have := firstMet_length_le val i
      omega
    refine setR_add_hashed (s := { s2 with toks := s2.toks + 1 }) m1 room fun h' sb m2 => ?_
    have m3 : Met w val S (i + 1) h' := by
      unfold Met
      rw [firstMet_succ, step_length]
      exact m2.congr fun j => step_any _ _ _
    have away : ∀ {b : Addr} {o : Obj}, b ≠ S → s2.heap.get? b = some o → h'.get? b = some o := fun hb e => (sb.2 _ hb).trans e
    refine wpAny_pure ⟨plainId_quiet F.plain_set_update_loop _, ih (i + 1) _ (by omega) li (W.frame _ s2 _ _ st2 (Nat.le_succ _) fun b hb o e => away (fun q => hSf (by rw [← q]; exact hb)) e) m3 fun s3 mv3 m4 => ?_⟩
    exact fin s3 (Moved.trans W.gtrans ((mv.mono up).then_heap (Nat.le_succ _) fun b o hb e => away (fun q => hb (by rw [q]; exact List.mem_cons_self)) e) mv3) m4
end
set_option maxRecDepth 100000 in
set_option maxHeartbeats 3200000 in
theorem call_setI {l : Addr} {items : Array Value} {ns : List Int} {Q : Value → Shared → Prop} (hh : A.handled = none) (hl : s.heap.IsList l items) (hi : IntsAre items.toList ns) (hb : items.size + 1 < scanBound)
    (h : ∀ (h' : Heap) (tk : Nat), Met w (fun i => ns.getD i 0) s.heap.objs.size items.size h' → (∀ b o, s.heap.get? b = some o → h'.get? b = some o) → Q (.ref s.heap.objs.size) { s with heap := h', toks := tk }) :
    wpAny (model P w) A (call (.type "set") [.ref l]) Q E s := by
  obtain ⟨c, tl, hmro⟩ := F.called_set.mro
  have hmade := F.called_set.made
  have hsub := F.called_set.sub
  refine wpAny_call (codeAny_of_tree ?_)
  show wpAny _ _ (callAny (.type "set") _) _ _ _
  refine wpAny_pure ⟨Code.quiet_builtin _ (by decide +kernel), codeAny_builtin F.entry_type_call ?_⟩
  rw [Around.under_plain (weight_type_call_type "set" [.ref l] []) rfl]
  have h1 := F.called_set.notType
  have h2 := F.called_set.canCreate
  have hct := F.typeCall_set_1 (.ref l)
  repeat (any_goals (first | assumption | wp_step))
  let new : Obj := { cls := .type "set", dict := none, data := .set #[] 0 (.fresh 0 0 (!w.params.followText "set-order")) }
  refine codeAny_mono (code_set_led1 (.ref l) (E := E) (Q₁ := fun obj s₁ => obj = .ref s.heap.objs.size ∧ s₁ = { s with heap := s.heap.push new }) ⟨rfl, rfl⟩) fun r s₁ hr => ?_
  cases r with
  | error e => exact hr
  | ok fl =>
    cases fl with
    | ret obj =>
      obtain ⟨rfl, rfl⟩ := hr
      have hS : (s.heap.push new).get? s.heap.objs.size = some new := Heap.get?_push_size _ rfl
      have hT : Shared.TypeIs { s with heap := s.heap.push new } (.ref s.heap.objs.size) "set" := ⟨_, hS, rfl⟩
      have hli := F.called_set.init.lookup
      have hbi := F.called_set.init.bind (.ref s.heap.objs.size)
      repeat (any_goals (first | assumption | wp_step))
      refine codeAny_mono (codeAny_call_builtin (R := wants (fun r s₂ => r = .none ∧ ∃ h' tk, s₂ = { s with heap := h', toks := tk } ∧ Met w (fun i => ns.getD i 0) s.heap.objs.size items.size h' ∧
          (∀ b o, s.heap.get? b = some o → h'.get? b = some o)) E) F.called_set.init.plain F.entry_set_init (check_set_init_1 hT ?_)) fun r₂ s₂ hr₂ => ?_
      · obtain ⟨ol, hol, hcl, nl, hdl⟩ := hl
        obtain ⟨ocls, odict, odata, oslots⟩ := ol
        simp only at hcl hdl
        subst hcl; subst hdl
        have hol' : (s.heap.push new).get? l = some { cls := .type "list", dict := odict, data := .seq items nl, slots := oslots } := Heap.get?_push_of_some _ hol
        have hsls := F.sub_list_set
        have hslf := F.sub_list_frozenset
        have hne : (Value.type "list" == Value.type "dict") = false := by decide
        have hl1 : (s.heap.push new).IsList l items := ⟨_, hol', rfl, nl, rfl⟩
        unfold Builtin.«set.__init__» noKeywords Builtin.Frozenset.updateFrom
        generalize hPI : pyIter = PI
        wp_walk
        subst hPI
        refine wpAny_pyIter_list hl1 ?_
        refine wpAny_bind (wpAny_runValue ?_)
        have hlS : l < s.heap.objs.size := Heap.lt_size hol
        have hh3 : A.in1.in1.in1.handled = none := by simp [hh]
        have esz : (s.heap.push new).objs.size = s.heap.objs.size + 1 := Heap.size_push ..
        have hneI : l ≠ (s.heap.push new).objs.size := by
          rw [esz]; exact Nat.ne_of_lt (Nat.lt_succ_of_lt hlS)
        have hSf : s.heap.objs.size ∉ [(s.heap.push new).objs.size, l] := by
          rw [esz]
          simp only [List.mem_cons, List.not_mem_nil, or_false, not_or]
          exact ⟨Nat.ne_of_lt (Nat.lt_succ_self _), Nat.ne_of_gt hlS⟩
        have hval : ∀ (i : Nat) (v : Value), items[i]? = some v → ∃ t, v = .int (ns.getD i 0) t := fun i v hv => IntsAre.int_at hi i v (by rw [Array.getElem?_toList]; exact hv)
        refine upd_loop ((Walks.list hh3 _ l hneI items).toS) hSf hval hb (items.size - 0) 0 _ (by omega) (Nat.zero_le _)
          ⟨⟨_, Heap.get?_push_size _ rfl, rfl, rfl⟩, (hl1.push _)⟩ ?hS0 ?hR
        case hS0 => exact (setR_fresh (h := s.heap) w).at fun o q => Heap.get?_push_of_some _ q
        case hR =>
          intro s' hm m9
          obtain ⟨h', g2, d', tk', os'⟩ := s'
          obtain rfl : g2 = s.gens := hm.gens
          obtain rfl : d' = s.drawn := hm.drawn
          obtain rfl : os' = s.os := hm.os
          refine wpAny_pure ?_
          show wpAny _ _ (ret Value.none) _ _ _
          refine wpAny_pure ⟨rfl, h', tk', rfl, m9, fun b o e => hm.heap b o (fun q => ?_) (Heap.get?_push_of_some _ (Heap.get?_push_of_some _ e))⟩
          have lt := Heap.lt_size e
          rcases List.mem_cons.mp q with q | q
          · exact absurd lt (by rw [q]; exact Nat.lt_irrefl _)
          · rw [List.mem_singleton.mp q, esz] at lt
            exact absurd lt (Nat.not_lt.mpr (Nat.le_succ _))
      · cases r₂ with
        | error e => exact hr₂
        | ok fl₂ =>
          cases fl₂ with
          | ret r =>
            obtain ⟨rfl, h', tk, rfl, m9, hk'⟩ := hr₂
            repeat (any_goals (first | assumption | wp_step))
            exact h _ _ m9 hk'
          | _ => exact hr₂.elim
    | _ => exact hr.elim
end
end PySem.MiSt
namespace Mi
open PySem L2 PySem.Spec PyProof.Rows
/-- set(xs), intsD, fewer than 64 -/
def rSetI (K : PySem.W.Frag) (w : World) : List V → Hp → VK → Prop := fun xs H Q => ∃ (l : Addr) (ns : List Int), xs = [V.ref l] ∧ SqL K H l (ns.map V.int) ∧ ns.length < 64 ∧
  ∀ (a : Addr) (S : Int → Bool) (n : Nat), H a = none → (∀ k, S k = true ↔ k ∈ ns) → n < 64 → Q (.ref a) (upd H a (SetO w a S n))
theorem firstMet_mem (ns : List Int) (j : Int) : (firstMet (fun i => ns.getD i 0) ns.length).any (· == j) = true ↔ j ∈ ns := by
  rw [firstMet_any, List.any_eq_true]
  constructor
  · rintro ⟨x, hx, e⟩
    obtain ⟨i, hi, rfl⟩ := List.mem_map.mp hx
    have hi := List.mem_range.mp hi
    rw [← beq_iff_eq.mp e, List.getD_eq_getElem?_getD, List.getElem?_eq_getElem hi]
    exact List.getElem_mem hi
  · intro h
    obtain ⟨i, hi, e⟩ := List.getElem_of_mem h
    refine ⟨j, List.mem_map.mpr ⟨i, List.mem_range.mpr hi, ?_⟩, by simp⟩
    rw [List.getD_eq_getElem?_getD, List.getElem?_eq_getElem hi, e]
    rfl
theorem cr_setI {X : Cx} (hc : X.calm = true) : CallR X (.type "set") (rSetI X.K X.w) := by
  intro pins s σ H xs us Q I r h
  obtain ⟨l, ns, rfl, hl, hf, q⟩ := h
  rw [Vals.ref1 r]
  obtain ⟨its, rv, pl, hz⟩ := I.list hl
  have hn : H s.heap.objs.size = none := I.hok.fresh (Nat.le_refl _)
  have e1 : its.toArray.size = ns.length := by
    have := rv.length
    rw [List.length_map] at this
    rw [List.size_toArray]
    exact this.symm
  refine PySem.MiSt.call_setI (I.ok.hd hc) pl.isList (ns := ns) (by simpa using rv.ints) (by rw [e1]; unfold scanBound; omega) fun h' tk m k => ?_
  rw [e1] at m
  exact ⟨.ref s.heap.objs.size, _, I.laid (t' := tk) k (Nat.le_refl _) (setO_new m), rfl, q _ _ _ hn (fun j => firstMet_mem ns j) (by have := firstMet_length_le (fun i => ns.getD i 0) ns.length; omega)⟩
end Mi
set_option Elab.async false
set_option linter.all false
set_option maxRecDepth 100000
set_option maxHeartbeats 4000000
/-! Mi22: sorted(..) of intsD and of rows of intsD, of a list, a tuple, a set. -/
namespace PySem.MiSt
open PySem PySem.Spec PyProof.Rows L2
section
variable {P : Program} {w : World} {A : Around} {E : Value → Shared → Prop} {s : Shared}
/-- a tuple's items, in a list of one's own -/
theorem collect_tup {t : Addr} {vs : List Value} {Q : List Value → Shared → Prop} (ht : IsTup s.heap t vs.toArray) (hz : vs.length ≤ sizeLine)
    (h : Q vs { s with heap := (s.heap.push (seqObj "list" #[] 0)).update s.heap.objs.size (Obj.mapSeq (· ++ vs.toArray)) }) : wpAny (model P w) A (collect (.ref t)) Q E s := by
  obtain ⟨o, ho, hc, n, hd⟩ := id ht
  unfold collect
  refine wpAny_bind (wpAny_runValue (codeAny_builtin entry_proto_collect' ?_))
  show wpAny _ _ (do again (.builtin "list.__iadd__" ⟨[← newList [], .ref t], []⟩)) _ _ s
  refine wpAny_bind (wpAny_newList (wpAny_pure ⟨Code.quiet_builtin _ (by decide +kernel), codeAny_builtin entry_list_iadd' ?_⟩))
  let h1 : Heap := s.heap.push (seqObj "list" #[] 0)
  have new : h1.get? s.heap.objs.size = some (seqObj "list" #[] 0) := Heap.get?_push_size _ rfl
  show wpAny _ _ (Builtin.List.listExtendWith (.ref s.heap.objs.size) (.ref t) (.ref s.heap.objs.size)) _ _ { s with heap := h1 }
  unfold Builtin.List.listExtendWith
  have old : h1.get? t = some o := Heap.get?_push_of_some _ ho
  refine wpAny_bind (wpAny_typeOf (T := "tuple") ⟨o, old, hc⟩ ?_)
  have e1 : (Value.type "tuple" == Value.type "tuple") = true := by rfl
  rw [if_pos (by rw [e1]; simp)]
  refine wpAny_bind (listItems_at old hd ?_)
  refine wpAny_bind (listItems_at (xs := #[]) (n := 0) new rfl ?_)
  rw [if_neg (by simp)]
  refine wpAny_bind (listUpdate_at (xs := #[]) (n := 0) new rfl ?_ (Nat.zero_le _) (by show (#[] ++ vs.toArray).size ≤ sizeLine + 1; simp only [Array.size_append, List.size_toArray, List.length_nil]; omega))
  refine wpAny_pure ?_
  show wpAny (model P w) A (do
      let o ← load s.heap.objs.size
      match o.data with
      | .seq xs _ => pure xs.toList
      | _ => unsupported "internal:collect") Q E { s with heap := h1.update s.heap.objs.size (Obj.mapSeq (· ++ vs.toArray)) }
  refine wpAny_bind (wpAny_load (get?_update_seq new _) ?_)
  show wpAny _ _ (pure ((#[] : Array Value) ++ vs.toArray).toList) Q E _
  rw [show ((#[] : Array Value) ++ vs.toArray).toList = vs by simp]
  exact wpAny_pure h
/-- sorted(t), t a tuple -/
theorem sorted_tup {t : Addr} {vs : List Value} {ltv : Value → Value → Bool} {Q : Value → Shared → Prop} (O : SrtO.Swo ltv) (ht : IsTup s.heap t vs.toArray) (hz : vs.length ≤ sizeLine)
    (hS : 2 ≤ vs.length → ∀ (h₁ : Heap) (a : Addr), h₁.get? a = some (seqObj "list" vs.toArray 0) → SrtO.SortableO P w A.in1.in1 { s with heap := h₁ } a vs ltv)
    (h : ∀ out : List Value, SrtO.Srtd ltv out → SrtO.Stb ltv out vs → Q (.ref (s.heap.objs.size + 1)) { s with heap := sortedAll s.heap vs out.toArray }) :
    wpAny (model P w) A (call (.builtin "sorted") [.ref t]) Q E s := by
  refine Calls.call_function_entry kind_sorted plain_sorted entry_sorted (args_sorted1 _) ?_
  unfold Builtin.«sorted»
  refine wpAny_bind (m := checkCount "sorted" 1 1 _) (wpAny_pure ?_)
  refine wpAny_bind (collect_tup ht hz ?_)
  refine wpAny_bind (wpAny_newList ?_ hz)
  let h2 : Heap := (s.heap.push (seqObj "list" #[] 0)).update s.heap.objs.size (Obj.mapSeq (· ++ vs.toArray))
  have sz : h2.objs.size = s.heap.objs.size + 1 := by
    rw [Heap.size_update, size_push']
  have new : (h2.push (seqObj "list" vs.toArray 0)).get? (s.heap.objs.size + 1) = some (seqObj "list" vs.toArray 0) := by
    rw [← sz]; exact Heap.get?_push_size _ rfl
  show wpAny _ _ _ _ _ { s with heap := h2.push (seqObj "list" vs.toArray 0) }
  rw [sz]
  refine wpAny_bind (wpAny_holding (wpAny_call_entry slot_list_sort ⟨_, new, rfl⟩ entry_list_sort (SrtO.list_sort_ord O new hz (fun two => hS two _ _ new) fun out q1 q2 => ⟨_, rfl, ?_⟩) (args_list_sort _)))
  exact wpAny_pure ⟨_, rfl, h out q1 q2⟩
end
end PySem.MiSt
namespace Mi
open PySem L2 PySem.Spec PyProof.Rows
section
variable {X : Cx} {R : Rc} {B : Bn} {H : Hp}
def rSortedIT (K : PySem.W.Frag) : List V → Hp → VK → Prop := fun vs H Q => ∃ (a : Addr) (ns : List Int), vs = [V.ref a] ∧ SqT K H a (ns.map V.int) ∧
  ∀ (ns' : List Int) (p : Addr), ns'.Perm ns → ns'.Pairwise (· ≤ ·) → H p = none → Q (.ref p) (upd H p (.lst (ns'.map V.int)))
theorem cr_sortedIT : CallR X (.builtin "sorted") (rSortedIT X.K) := by
  intro pins s σ H vs us Q I r h
  obtain ⟨a, ns, rfl, hs, q⟩ := h
  obtain ⟨its, rv, ht, hz⟩ := I.tuple hs
  rw [Vals.ref1 r]
  have hi := rv.ints
  refine PySem.MiSt.sorted_tup SrtO.swo_int ht (by rw [← rv.length]; exact hz) (fun two h₁ a' _ => SrtO.ints_sortable hi two) fun out h1 h2 => ?_
  obtain ⟨k1, k2, k3⟩ := SrtO.ints_out hi h1 h2
  obtain ⟨ep, he⟩ := sortedAll_at s.heap its out.toArray
  have hlen : ((out.map SrtO.iv).map V.int).length ≤ sizeLine := by
    rw [List.length_map] at hz ⊢
    rw [k2.length_eq]
    exact hz
  exact ⟨.ref _, upd H (s.heap.objs.size + 1) (.lst ((out.map SrtO.iv).map V.int)), I.laid (t' := s.toks) (fun _ _ => sortedAll_old) (Nat.le_succ _) ⟨hlen, out, ep, vals_of_ints k1, he⟩, rfl, q _ _ k2 k3 (I.hok.fresh (Nat.le_succ _))⟩

/-! ### rows by their code -/
theorem code_le_rle {b : Int} : ∀ {n m : List Int}, n.length = m.length → TS.Bd b n → TS.Bd b m → TS.code b n ≤ TS.code b m → rle n m = true
  | [], [], _, _, _, _ => rfl
  | x :: n, y :: m, hl, h1, h2, h => by
    have hl' : n.length = m.length := by simpa using hl
    unfold rle
    by_cases e1 : x < y
    · rw [if_pos e1]
    · rw [if_neg e1]
      by_cases e2 : y < x
      · have := TS.code_lt hl'.symm h2.tail h1.tail e2
        omega
      · rw [if_neg e2]
        obtain rfl : x = y := by omega
        refine code_le_rle hl' h1.tail h2.tail ?_
        have q := not_congr (TS.code_same (B := b) (d := x) hl'.symm)
        have := q.mp (Int.not_lt.mpr h)
        omega
def rowD (r : List Int) : D := .tup (r.map .int)
theorem rows_is : ∀ {ys : List D} {rs : List (List Int)}, rows ys = some rs → ys = rs.map rowD
  | [], rs, h => by cases h; rfl
  | y :: ys, rs, h => by
    unfold rows at h
    cases y <;> (try (cases h; done))
    rename_i xs
    dsimp only at h
    split at h
    · rename_i a b e1 e2
      cases h
      rw [rows_is e2, List.map_cons]
      congr 1
      unfold rowD
      congr 1
      exact ints_eq e1
    · cases h
where
  ints_eq : ∀ {xs : List D} {is : List Int}, Mi.intsD xs = some is → xs = is.map D.int
  | [], is, h => by cases h; rfl
  | x :: xs, is, h => by
    unfold Mi.intsD at h
    cases x <;> (try (cases h; done))
    dsimp only at h
    cases e : Mi.intsD xs with
    | none => rw [e] at h; cases h
    | some js =>
      rw [e] at h
      cases h
      rw [ints_eq e]
      rfl
theorem ints_int : ∀ r : List Int, Mi.intsD (r.map D.int) = some r
  | [] => rfl
  | x :: r => by
    show (Mi.intsD (r.map D.int)).map (x :: ·) = _
    rw [ints_int r]
    rfl
/-- the rows rs lie at the addresses vs -/
theorem isL_row {B : Bn} {H : Hp} (K : PySem.W.Frag) : ∀ {rs : List (List Int)} {vs : List V}, IsL R B H (rs.map rowD) vs → ∃ ks : List (Addr × List Int), vs = ks.map (fun p => V.ref p.1) ∧ rs = ks.map (·.2) ∧ ∀ p ∈ ks, Is R B H (rowD p.2) (.ref p.1) ∧ SqT K H p.1 (p.2.map V.int)
  | [], vs, h => by
    unfold IsL at h
    exact ⟨[], h, rfl, fun p hp => by cases hp⟩
  | r :: rs, vs, h => by
    obtain ⟨v, vs', rfl, h1, h2⟩ := h.uncons
    obtain ⟨ks, rfl, rfl, h3⟩ := isL_row K h2
    have h1' : Is R B H (rowD r) v := h1
    unfold rowD Is at h1
    obtain ⟨a, us, rfl, nb, ha, hl⟩ := h1
    have eu : us = r.map V.int := hl.intsD (ints_int r)
    refine ⟨(a, r) :: ks, rfl, rfl, fun p hp => ?_⟩
    rcases List.mem_cons.mp hp with e | hp
    · rw [e]
      exact ⟨h1', by rw [eu] at ha; exact SqT.of ha⟩
    · exact h3 p hp
theorem row_isL {B : Bn} {H : Hp} : ∀ {ks : List (Addr × List Int)}, (∀ p ∈ ks, Is R B H (rowD p.2) (.ref p.1)) → IsL R B H ((ks.map (·.2)).map rowD) (ks.map fun p => V.ref p.1)
  | [], _ => IsL.nil
  | p :: ks, h => IsL.cons (h p List.mem_cons_self) (row_isL fun q hq => h q (List.mem_cons_of_mem _ hq))
/-- a bound above all -/
def topB : List (List Int) → Int
  | [] => 1
  | r :: rs => max (r.foldr max 0 + 1) (topB rs)
theorem foldr_ge : ∀ (r : List Int) (i : Int), i ∈ r → i ≤ r.foldr max 0
  | [], i, h => by cases h
  | x :: r, i, h => by
    rw [List.foldr_cons]
    rcases List.mem_cons.mp h with e | h
    · rw [e]; exact Int.le_max_left _ _
    · exact Int.le_trans (foldr_ge r i h) (Int.le_max_right _ _)
theorem topB_bd : ∀ {rs : List (List Int)} {r : List Int} {i : Int}, r ∈ rs → i ∈ r → i < topB rs
  | [], _, _, h, _ => by cases h
  | q :: rs, r, i, h, hi => by
    unfold topB
    rcases List.mem_cons.mp h with e | h
    · subst e
      have := foldr_ge r i hi
      omega
    · have := topB_bd h hi
      omega
theorem rowsOk_use {r0 : List Int} {rs : List (List Int)} (h : rowsOk (r0 :: rs) = true) : (r0 :: rs).length < 64 ∧ 1 ≤ r0.length ∧ ∀ r ∈ r0 :: rs, r.length = r0.length ∧ TS.Bd (topB (r0 :: rs)) r := by
  unfold rowsOk at h
  rw [Bool.and_eq_true, Bool.and_eq_true, decide_eq_true_eq, decide_eq_true_eq, List.all_eq_true] at h
  refine ⟨h.1, h.2.1, fun r hr => ?_⟩
  have q := h.2.2 r hr
  rw [Bool.and_eq_true, decide_eq_true_eq, List.all_eq_true] at q
  exact ⟨q.1, fun i hi => ⟨of_decide_eq_true (q.2 i hi), topB_bd hr hi⟩⟩
theorem pair_fst {ks : List (Addr × List Int)} : ∀ {ys : List V}, ys.Perm (ks.map fun p => V.ref p.1) → ∃ ks' : List (Addr × List Int), ks'.Perm ks ∧ ys = ks'.map fun p => V.ref p.1 := by
  intro ys h
  obtain ⟨l, hl, e⟩ : ∃ l : List (Addr × List Int), l.Perm ks ∧ l.map (fun p => V.ref p.1) = ys := by
    have aux : ∀ {a b : List V}, a.Perm b → ∀ ks : List (Addr × List Int), b = ks.map (fun p => V.ref p.1) → ∃ l : List (Addr × List Int), l.Perm ks ∧ l.map (fun p => V.ref p.1) = a := by
      intro a b hp
      induction hp with
      | nil =>
        intro ks e
        cases ks with
        | nil => exact ⟨[], .nil, rfl⟩
        | cons p ks => cases e
      | cons x _ ih =>
        intro ks e
        cases ks with
        | nil => cases e
        | cons p ks =>
          rw [List.map_cons] at e
          injection e with e1 e2
          obtain ⟨l, h1, h2⟩ := ih ks e2
          exact ⟨p :: l, h1.cons _, by rw [List.map_cons, h2, e1]⟩
      | swap x y l0 =>
        intro ks e
        match ks, e with
        | p :: q :: ks, e =>
          rw [List.map_cons, List.map_cons] at e
          injection e with e1 e2
          injection e2 with e2 e3
          exact ⟨q :: p :: ks, .swap _ _ _, by rw [List.map_cons, List.map_cons, e1, e2, e3]⟩
      | trans _ _ ih1 ih2 =>
        intro ks e
        obtain ⟨l, h1, h2⟩ := ih2 ks e
        obtain ⟨l', h3, h4⟩ := ih1 l h2.symm
        exact ⟨l', h3.trans h1, h4⟩
    exact aux h ks rfl
  exact ⟨l, hl, e.symm⟩
/-- sorted(x) -/
theorem srt_D : CallR X (.builtin "sorted") (p1 R (bi .sorted)) := by
  intro pins s σ H xs us Q I r h
  obtain ⟨B, d1, d, x, rfl, h1, lv, e, q⟩ := h
  cases d1 with
  | lst ys =>
    unfold bi at e
    dsimp only at e
    split at e
    · rename_i is hi
      cases e
      obtain ⟨a, rfl, ha⟩ := lstInts h1 hi
      refine cr_sortedI pins s σ H _ us Q I r ⟨a, is, rfl, SqL.of ha, fun ns p pm pw hp => q _ _ (ext_upd hp) ?_⟩
      rw [isort_of pm pw]
      exact mkLst lv hp (isL_ints _)
    · split at e
      · rename_i rs hr
        split at e
        · rename_i hok
          cases e
          obtain ⟨a, vs, rfl, ha, hl⟩ := h1
          rw [rows_is hr] at hl
          cases rs with
          | nil =>
            unfold IsL at hl
            subst hl
            refine cr_sortedI pins s σ H _ us Q I r ⟨a, [], rfl, SqL.of ha, fun ns p pm pw hp => q _ _ (ext_upd hp) ?_⟩
            rw [List.Perm.eq_nil pm]
            exact mkLst lv hp IsL.nil
          | cons r0 rs =>
            obtain ⟨k1, k2, k3⟩ := rowsOk_use hok
            obtain ⟨ks, rfl, e2, hk⟩ := isL_row X.K hl
            have km : ∀ p ∈ ks, p.2 ∈ r0 :: rs := fun p hp => by rw [e2]; exact List.mem_map_of_mem hp
            refine cr_sortT (d := r0.length) (B := topB (r0 :: rs)) k2 pins s σ H _ us Q I r ⟨a, _, rfl, SqL.of ha, ?_, fun x hx => ?_, fun zs p pm pw hp => q _ _ (ext_upd hp) ?_⟩
            · have := congrArg List.length e2
              rw [List.length_map] at this ⊢
              omega
            · obtain ⟨p, hp, rfl⟩ := List.mem_map.mp hx
              exact ⟨p.2, ⟨p.1, rfl, (hk p hp).2⟩, (k3 _ (km p hp)).1, (k3 _ (km p hp)).2⟩
            · obtain ⟨ks', pk, rfl⟩ := pair_fst pm
              have hk' : ∀ p ∈ ks', Is R B H (rowD p.2) (.ref p.1) ∧ SqT X.K H p.1 (p.2.map V.int) := fun p hp => hk p (pk.mem_iff.mp hp)
              have er : ks'.map (·.2) = rsort (r0 :: rs) := by
                refine rsort_of (by rw [e2]; exact pk.map _) ?_
                rw [List.pairwise_map] at pw ⊢
                refine List.Pairwise.imp_of_mem (fun {u v} hu hv huv => ?_) pw
                have c := huv u.2 v.2 ⟨_, rfl, (hk' u hu).2⟩ ⟨_, rfl, (hk' v hv).2⟩
                have b1 := k3 _ (km u (pk.mem_iff.mp hu))
                have b2 := k3 _ (km v (pk.mem_iff.mp hv))
                exact code_le_rle (by rw [b1.1, b2.1]) b1.2 b2.2 c
              have := row_isL (R := R) (B := B) (H := H) (ks := ks') fun p hp => (hk' p hp).1
              rw [er] at this
              exact mkLst lv hp this
        · cases e
      · cases e
  | tup ys =>
    unfold bi at e
    dsimp only at e
    split at e
    · rename_i is hi
      cases e
      have h1' : Is R B H (.tup ys) x := h1
      unfold Is at h1'
      obtain ⟨a, vs, rfl, nb, ha, hl⟩ := h1'
      rw [hl.intsD hi] at ha
      refine cr_sortedIT pins s σ H _ us Q I r ⟨a, is, rfl, SqT.of ha, fun ns p pm pw hp => q _ _ (ext_upd hp) ?_⟩
      rw [isort_of pm pw]
      exact mkLst lv hp (isL_ints _)
    · cases e
  | _ => cases e
end
end Mi
set_option Elab.async false
set_option linter.all false
set_option maxRecDepth 100000
set_option maxHeartbeats 4000000
/-! Mi23: sorted(set(..)), a.index(e). -/
namespace Mi
open PySem L2 PySem.Spec PyProof.Rows
section
variable {X : Cx} {R : Rc} {W : WX} {N : List Str} {sc : Scope} {k : Nat} {a e : Expr} {ma me : M D} {ha : M Hd} {pos pos2 p p2 apos : Pos}
theorem lst_nodup {l m : List Int} (h1 : l.Pairwise (· < ·)) (h2 : ∀ k, k ∈ l ↔ k ∈ m) : l = isort (nub m) := by
  have nd : l.Nodup := List.Pairwise.imp (fun {a b} h => Int.ne_of_lt h) h1
  refine isort_of ((List.perm_ext_iff_of_nodup nd (nub_nodup m)).mpr fun k => ?_) (List.Pairwise.imp (fun {a b} h => Int.le_of_lt h) h1)
  rw [h2, nub_mem]
theorem m_sset (C : Ct X R W N sc k) (bl : Bl R) (hg : sc.names.lookup ("sorted" : Str) = some .globalImplicit) (hg2 : sc.names.lookup ("set" : Str) = some .globalImplicit) (h1 : PE X a (tP R W ma))
    (hv : bootBuiltins ("sorted" : Str) = some (.builtin "sorted")) (hv2 : bootBuiltins ("set" : Str) = some (.type "set")) (hs : starEach [a] X.env = (false, eval a X.env) :: starEach [] X.env := by rfl)
    (hs2 : starEach [.Call (.Name "set" p2) [a] [] pos2] X.env = (false, eval (.Call (.Name "set" p2) [a] [] pos2) X.env) :: starEach [] X.env := by rfl) :
    PE X (.Call (.Name "sorted" p) [.Call (.Name "set" p2) [a] [] pos2] [] pos) (tE R W (mBi .sset ma)) := by
  have rS : CallR X (.builtin "sorted") (fun vs H Q => rSortedSet X.w vs H Q ∨ rSortedT X.K X.prog X.w vs H Q) := fun pins s σ H vs us Q I r h => h.elim (cr_sortedSet C.calm pins s σ H vs us Q I r) (cr_sortedT C.calm pins s σ H vs us Q I r)
  have rT : CallR X (.type "set") (fun vs H Q => rSetI X.K X.w vs H Q ∨ rSetOfT X.K X.prog X.w vs H Q) := fun pins s σ H vs us Q I r h => h.elim (cr_setI C.calm pins s σ H vs us Q I r) (cr_setOfT C.calm (by have := C.room.un; omega) pins s σ H vs us Q I r)
  refine (pe_callB rS (C.gl hg) (by rw [C.mg]; exact bl.no _ (by simp)) hv (pa_cons (pe_callTy rT (C.gl hg2) (by rw [C.mg]; exact bl.no _ (by simp)) hv2 (pa_cons h1 pa_nil hs) (by decide) (by decide) hs rfl) pa_nil hs2) (by decide) (by decide) hs2 rfl).imp fun σV H Q h => ?_
  obtain ⟨B, HB, ow, σ, dr, F, h⟩ := h
  refine ⟨B, HB, ow, σ, dr, F, Out.mono (Out.bind h) fun x s ow1 H1 F1 st1 h1 v hv => ?_⟩
  obtain ⟨d, hd, q⟩ := Out.oget h1 F1
  have lv : Live (Ban B ow1 s.σ) H1 := F1.liveB
  have fin : ∀ (w : V) (H' : Hp), Ext H1 H' → Is R (Ban B ow1 s.σ) H' d w → Q w H' := fun w H' ex hi => q H' ex w hi
  cases x with
  | lst ys =>
    unfold bi at hd
    dsimp only at hd
    split at hd
    · rename_i is hi
      split at hd
      · rename_i h64
        cases hd
        obtain ⟨l, rfl, hl⟩ := lstInts hv hi
        refine .inl ⟨l, is, rfl, SqL.of hl, h64, fun t S n hn hS hlt => .inl ⟨t, S, n, rfl, upd_same, hlt, fun ns p pw hm hlen hp => ?_⟩⟩
        have ex1 : Ext H1 (upd H1 t (SetO X.w t S n)) := ext_upd hn
        refine fin _ _ (fun b o z => ext_upd hp b o (ex1 b o z)) ?_
        rw [← lst_nodup pw fun j => (hm j).trans (hS j)]
        exact mkLst (fun b z => (lv b z).elim fun o z => ⟨o, ex1 b o z⟩) hp (isL_ints _)
      · cases hd
    · split at hd
      · rename_i rs hr
        split at hd
        · rename_i hok
          cases hd
          obtain ⟨l, vs, rfl, hl, hv⟩ := hv
          rw [rows_is hr] at hv
          cases rs with
          | nil =>
            have := rows_is hr
            subst this
            rename_i hno
            cases hno
          | cons r0 rs =>
            obtain ⟨k1, k2, k3⟩ := rowsOk_use hok
            obtain ⟨ks, rfl, e2, hk⟩ := isL_row X.K hv
            have km : ∀ p ∈ ks, p.2 ∈ r0 :: rs := fun p hp => by rw [e2]; exact List.mem_map_of_mem hp
            refine .inr ⟨l, ks, rfl, SqL.of hl, fun p hp => (hk p hp).2, by have := congrArg List.length e2; rw [List.length_map] at this; omega, fun t L hn hsub hall => .inr ?_⟩
            have ex1 : Ext H1 (upd H1 t (SetTO X.prog X.w t L)) := ext_upd hn
            refine ⟨t, L, r0.length, topB (r0 :: rs), rfl, upd_same, fun p hp => ((hk p (hsub p hp)).2).ext ex1, k2, fun p hp => k3 _ (km p (hsub p hp)), fun L' p pm nd lt pw hp => fin _ _ (fun b o z => ext_upd hp b o (ex1 b o z)) ?_⟩
            have sub' : ∀ p ∈ L', p ∈ ks := fun p hp => hsub p (pm.mem_iff.mp hp)
            have er : L'.map (·.2) = rsort (nub (r0 :: rs)) := by
              refine rsort_of ((List.perm_ext_iff_of_nodup nd (nub_nodup _)).mpr fun r => ?_) ?_
              · rw [nub_mem]
                constructor
                · intro hr
                  obtain ⟨p, hp, rfl⟩ := List.mem_map.mp hr
                  exact km p (sub' p hp)
                · intro hr
                  rw [e2] at hr
                  obtain ⟨p, hp, rfl⟩ := List.mem_map.mp hr
                  exact (pm.map (·.2)).mem_iff.mpr (hall p hp)
              · rw [List.pairwise_map]
                refine List.Pairwise.imp_of_mem (fun {u v} hu hv huv => ?_) pw
                have b1 := k3 _ (km u (sub' u hu))
                have b2 := k3 _ (km v (sub' v hv))
                exact code_le_rle (by rw [b1.1, b2.1]) b1.2 b2.2 huv
            have := row_isL (R := R) (B := Ban B ow1 s.σ) (H := upd H1 t (SetTO X.prog X.w t L)) (ks := L') fun p hp => ((hk p (sub' p hp)).1).ext ex1
            rw [er] at this
            exact mkLst (fun b z => (lv b z).elim fun o z => ⟨o, ex1 b o z⟩) hp this
        · cases hd
      · cases hd
  | _ => cases hd
/-! ### a.index(e) -/
def pIdx (R : Rc) : V → List V → Hp → VK → Prop := fun x xs H Q => ∃ (B : Bn) (d1 d2 d : D) (y : V), xs = [y] ∧ IsP R B H d1 x ∧ Is R B H d2 y ∧ idxD d1 d2 = some d ∧ ∀ v H', Ext H H' → Is R B H' d v → Q v H'
theorem pyL_get {xs : List D} {j : Nat} : (pyL R xs)[j]? = (xs[j]?).map (py R) := by rw [pyL_map, List.getElem?_map]
theorem mt_idxR (hK : X.K = R.K) (ok : TxOk R) (hu : X.A.units + 65 < cLine) : MtR X "list.index" (pIdx R) := by
  intro pins s σ H x xs v us Q I rx rs h
  obtain ⟨B, d1, d2, d, y, rfl, h1, h2, e, q⟩ := h
  cases d1 with
  | lst ds =>
    unfold idxD at e
    dsimp only at e
    split at e
    · rename_i hc
      rw [Bool.and_eq_true] at hc
      obtain ⟨j, hj, rfl⟩ := Option.map_eq_some_iff.mp e
      obtain ⟨hlt, hz, hno⟩ := List.findIdx?_eq_some_iff_getElem.mp hj
      obtain ⟨l, vs, rfl, hl, hv⟩ := h1
      have ky := hv.kn
      have kd := h2.kn
      have lay : ∀ (m : Nat) (z : D), ds[m]? = some z → z.lay 9 = true ∧ kn R z = true := fun m z hm => by
        have hmem := List.mem_of_getElem? hm
        have a1 : ∀ {zs : List D}, D.layL 9 zs = true → ∀ z ∈ zs, z.lay 9 = true := fun {zs} => by
          induction zs with
          | nil => intro _ z hz; cases hz
          | cons w zs ih =>
            intro h z hz
            have h' := Bool.and_eq_true_iff.mp (show (w.lay 9 && D.layL 9 zs) = true from h)
            rcases List.mem_cons.mp hz with e | hz
            · rw [e]; exact h'.1
            · exact ih h'.2 z hz
        have a2 : ∀ {zs : List D}, knL R zs = true → ∀ z ∈ zs, kn R z = true := fun {zs} => by
          induction zs with
          | nil => intro _ z hz; cases hz
          | cons w zs ih =>
            intro h z hz
            have h' := Bool.and_eq_true_iff.mp (show (Mi.kn R w && knL R zs) = true from h)
            rcases List.mem_cons.mp hz with e | hz
            · rw [e]; exact h'.1
            · exact ih h'.2 z hz
        exact ⟨a1 hc.2 z hmem, a2 ky z hmem⟩
      have eqv : ∀ (m : Nat) (z : D), ds[m]? = some z → PyData.eqv (py R z) (py R d2) = z.eqv d2 := fun m z hm => py_eqv ok.nd (lay m z hm).1 hc.1 (lay m z hm).2 kd
      have gj : ds[j]? = some ds[j] := List.getElem?_eq_getElem hlt
      refine mt_indexD hu pins s σ H _ _ v us Q I rx rs ⟨l, y, py R d2, pyL R ds, j, py R ds[j], rfl, rfl, .lst (SqL.of hl) (IsL.dp hc.2 hv), h2.dp hc.1, ?_, py_shaped ok.ok hc.1 kd, by rw [pyL_get, gj]; rfl, by rw [eqv j _ gj]; exact hz, fun m z' hm hz' => ?_, q _ _ (fun _ _ z => z) intIs⟩
      · obtain ⟨q1, q2⟩ := py_layL ok.ok hc.2 ky
        unfold SeqAt.shaped
        show (PyData.canLayAll0 (pyL R ds) && decide (_ ≤ 64)) = true
        rw [Bool.and_eq_true, decide_eq_true_eq]
        refine ⟨q1, ?_⟩
        show PyData.depthAll (pyL R ds) + 1 ≤ 64
        omega
      · rw [pyL_get] at hz'
        obtain ⟨z, hm2, rfl⟩ := Option.map_eq_some_iff.mp hz'
        rw [eqv m z hm2]
        have hm3 : m < ds.length := (List.getElem?_eq_some_iff.mp hm2).1
        have := hno m hm
        rw [List.getElem?_eq_getElem hm3] at hm2
        cases hm2
        simpa using this
    · cases e
  | _ => cases e
theorem m_idx (C : Ct X R W N sc k) (h1 : PE X a (tH R W ha)) (h2 : PE X e (tE R W me)) (hbase : attributeBase a "index" X.env (eval a X.env) = eval a X.env := by rfl)
    (hfew : ((backTo pos (starEach [e] X.env)).all (fun x => !x.1) && (backToKw pos (keywordEach [] X.env)).all (fun x => x.1.isSome)
      && decide (([e] : List Expr).length + ([] : List Keyword).length + (if ([] : List Keyword).isEmpty then 0 else 1) < 30)) = true := by rfl)
    (hline : (apos.endLine == pos.line) = true := by rfl) (hst : starEach [e] X.env = (false, eval e X.env) :: starEach [] X.env := by rfl) :
    PE X (.Call (.Attribute a "index" apos) [e] [] pos) (tE R W (mIdx ha me)) := by
  refine (pe_bm PySem.F.plainAttrs_list PySem.F.slot_list_index PySem.F.type_list_index (mt_idxR C.K C.tx (by have := C.room.un; omega)) h1 (pa_cons h2 pa_nil hst) hbase hfew hline hst rfl).imp fun σV H Q h => ?_
  obtain ⟨B, HB, ow, σ, dr, F, h⟩ := h
  refine ⟨B, HB, ow, σ, dr, F, Out.mono (Out.bind h) fun x s ow1 H1 F1 st1 h1 v hv => ?_⟩
  obtain ⟨d0, hd0, h2⟩ := force_is F1 hv h1
  cases d0 with
  | lst ys =>
    obtain ⟨l, vs, rfl, hl, _⟩ := hd0
    refine ⟨.inl ⟨rfl, vs, SqL.of hl⟩, B, HB, ow1, s.σ, s.dr, F1, Out.mono (Out.bind h2) fun y s2 ow2 H2 F2 st2 h3 u hu => ?_⟩
    obtain ⟨d1, hd1, h4⟩ := force_is F2 (hv.stp st2) h3
    obtain ⟨r, hr, q⟩ := Out.oget h4 F2
    exact ⟨_, d1, y, r, u, rfl, hd1, hu, hr, fun w H' ex hi => q H' ex w hi⟩
  | _ => exact h2.elim
end
end Mi
set_option Elab.async false
set_option linter.all false
set_option maxRecDepth 100000
set_option maxHeartbeats 4000000
/-! Mi24: x[::-1]. -/
namespace PySem.MiSl
open PySem PySem.Spec PyProof.Rows L2 HT
section
variable {prog : Program} {w : World} {A : Around} {E : Value → Shared → Prop} {s : Shared}
theorem adj_rev (n : Nat) : Builtin.Slice.sliceAdjust none none (-1) (n : Int) = ((n : Int) - 1, -1) := by
  unfold Builtin.Slice.sliceAdjust
  rfl
theorem places_rev (n : Nat) : Builtin.Slice.slicePlaces ((n : Int) - 1) (-1) (-1) = n := by
  unfold Builtin.Slice.slicePlaces
  have h1 : ¬ ((-1 : Int) > 0) := by omega
  simp only [h1, if_false]
  split <;> (try simp only [Int.neg_neg, Int.ediv_one]) <;> omega
theorem applied_rev {sl : Addr} {vs : Value} {n : Nat} {Q : Int × Int × Nat → Shared → Prop} (hs : s.heap.IsSliceOf sl .none .none vs) (ps : IsPart vs (some (-1)))
    (h : Q ((n : Int) - 1, -1, n) s) : wpAny (model prog w) A (Builtin.Slice.sliceApplied (.ref sl) (pure (n : Int))) Q E s := by
  obtain ⟨os, hos, hcs, hds⟩ := id hs
  unfold Builtin.Slice.sliceApplied Builtin.Slice.sliceFields
  refine wpAny_bind (wpAny_bind (wpAny_field hos hds (x := .none) rfl (wpAny_bind (wpAny_field hos hds (x := .none) rfl (wpAny_bind (wpAny_field hos hds (x := vs) rfl (wpAny_pure ?_)))))))
  refine wpAny_bind (slicePart_ ps ?_)
  show wpAny _ _ (if ((-1 : Int) == 0) = true then _ else _) _ _ s
  rw [if_neg (by decide)]
  refine wpAny_bind (slicePart_none (wpAny_bind (slicePart_none (wpAny_bind (wpAny_pure ?_)))))
  show wpAny _ _ (match Builtin.Slice.sliceAdjust none none (-1) (n : Int) with | (lo, hi) => pure (lo, (-1 : Int), Builtin.Slice.slicePlaces lo hi (-1))) _ _ s
  rw [adj_rev]
  show wpAny _ _ (pure ((n : Int) - 1, (-1 : Int), Builtin.Slice.slicePlaces ((n : Int) - 1) (-1) (-1))) _ _ s
  rw [places_rev]
  exact wpAny_pure h
theorem pick_rev (xs : Array Value) : ((List.range xs.size).filterMap fun (m : Nat) => xs[((xs.size : Int) - 1 + (m : Int) * (-1)).toNat]?).toArray = xs.toList.reverse.toArray := by
  have e : (fun (m : Nat) => xs[((xs.size : Int) - 1 + (m : Int) * (-1)).toNat]?) = (fun j => xs[j]?) ∘ fun m => xs.size - 1 - m := by
    funext m
    show xs[((xs.size : Int) - 1 + (m : Int) * (-1)).toNat]? = xs[xs.size - 1 - m]?
    congr 1
    omega
  rw [e, ← List.filterMap_map, PySem.W.krv_range, List.filterMap_reverse, PySem.W.krv_all]
theorem getItem_tuple_rev {t sl : Addr} {items : Array Value} {vs : Value} {Q : Value → Shared → Prop} (ht : IsTup s.heap t items) (hs : s.heap.IsSliceOf sl .none .none vs) (ps : IsPart vs (some (-1)))
    (h : Q (.ref s.heap.objs.size) { s with heap := s.heap.push { cls := .type "tuple", data := .seq items.toList.reverse.toArray } }) (hsz : items.size ≤ sizeLine) : wpAny (model prog w) A (getItem (.ref t) (.ref sl)) Q E s := by
  have hk : sizeOk (.seq items.toList.reverse.toArray) := by
    show items.toList.reverse.toArray.size ≤ sizeLine
    rw [List.size_toArray, List.length_reverse, Array.length_toList]
    exact hsz
  obtain ⟨os, hos, hcs, hds⟩ := id hs
  have hTs : s.TypeIs (.ref sl) "slice" := ⟨os, hos, hcs⟩
  unfold getItem
  try with_reducible refine wpAny_holding ?_
  first | refine wpAny_bind (wpAny_pure ?_) | skip
  refine wpAny_bind (wpAny_sequenceKey ht.typeIs (by decide) ?_)
  refine wpAny_bind (wpAny_callSpecial?_slot (name := Str.ofString "__getitem__") ht.typeIs PyProof.Rows.slot_tuple_getitem
    (wpAny_call_entry PyProof.Rows.slot_tuple_getitem ht.typeIs entry_tuple_getitem ?_ (args_tuple_getitem _ _)))
  show wpAny _ _ (Builtin.Tuple.tupleItemsOf (.ref t) >>= _) _ _ s
  refine wpAny_bind (tupleItemsOf_ ht ?_)
  refine wpAny_bind (wpAny_typeOf hTs ?_)
  rw [if_pos (by decide)]
  refine wpAny_bind (applied_rev hs ps ?_)
  have hno : ¬ ((((items.size : Int) - 1) == 0 && (-1 : Int) == 1 && items.size == items.size) = true) := by
    have e : ((-1 : Int) == 1) = false := by decide
    rw [e, Bool.and_false, Bool.false_and]
    exact Bool.false_ne_true
  show wpAny _ _ (if (((items.size : Int) - 1) == 0 && (-1 : Int) == 1 && items.size == items.size) = true then _ else _) _ _ s
  rw [if_neg hno, pick_rev]
  first
    | exact wpAny_bind (m := Builtin.Tuple.tupleExact _) (wpAny_newObj_type (wpAny_pure ⟨_, rfl, wpAny_pure h⟩) hk)
    | exact wpAny_bind (m := Builtin.Tuple.tupleExact _) (wpAny_newObj_type (wpAny_bind (wpAny_pure (wpAny_pure ⟨_, rfl, wpAny_pure h⟩))) hk)
    | exact wpAny_bind (wpAny_bind (m := Builtin.Tuple.tupleExact _) (wpAny_newObj_type (wpAny_pure (wpAny_pure ⟨_, rfl, wpAny_pure h⟩)) hk))
    | exact wpAny_bind (wpAny_bind (m := Builtin.Tuple.tupleExact _) (wpAny_newObj_type (wpAny_pure ⟨_, rfl, wpAny_pure h⟩) hk))
end
end PySem.MiSl
namespace Mi
open PySem L2 PySem.Spec PyProof.Rows
section
variable {X : Cx} {R : Rc} {W : WX} {N : List Str} {sc : Scope} {k : Nat} {e : Expr} {ma : M D} {j : Nat} {p1 p2 p3 pos : Pos}
def tRevA (K : PySem.W.Frag) (te : TE) : TE := fun σ H Q => te σ H fun x H1 => ∃ a xs, x = .ref a ∧ ((SqL K H1 a xs ∧ ∀ p, H1 p = none → Q (.ref p) (upd H1 p (.lst xs.reverse))) ∨ (SqT K H1 a xs ∧ ∀ p, H1 p = none → Q (.ref p) (upd H1 p (.tup xs.reverse))))
theorem pe_revA {te : TE} (he : PE X e te) : PE X (.Subscript e (.Slice none none (some (.UnaryOp .USub (.Constant (.int 1) j p1) p2)) p3) pos) (tRevA X.K te) := by
  refine ⟨fun pins s σ H Q I h => ?_⟩
  refine Subscript_ (thn (he.run pins s σ H _ I h) fun v s1 ⟨x, H1, I1, r1, q1⟩ => ?_)
  obtain ⟨a, xs, ex, hq⟩ := q1
  subst ex
  cases r1
  have hst : PO X (some (.UnaryOp .USub (.Constant (.int 1) j p1) p2)) (tPart (tUn (rU fun i => .int (-i)) (tC (.int 1)))) := po_some (pe_un un_neg pe_int)
  refine wpAny_Slice (thn (po_none.run pins s1 σ H1 (fun o H2 => o = none ∧ H2 = H1) I1 ⟨rfl, rfl⟩) fun vl s2 ⟨l, H2, I2, pl, el, e2⟩ => ?_)
  subst el e2
  refine thn (po_none.run pins s2 σ H2 (fun o H3 => o = none ∧ H3 = H2) I2 ⟨rfl, rfl⟩) fun vu s3 ⟨u, H3, I3, pu, eu, e3⟩ => ?_
  subst eu e3
  refine thn (hst.run pins s3 σ H3 (fun o H4 => o = some (-1) ∧ H4 = H3) I3 ⟨1, rfl, -1, rfl, rfl, rfl⟩) fun vs s4 ⟨o, H4, I4, ps, eo, e4⟩ => ?_
  subst eo e4
  let sl : Obj := { cls := .type "slice", data := .fields #[vl, vu, vs] }
  have I5 : Inv X pins σ H4 { s4 with heap := s4.heap.push sl } := I4.kept (t' := s4.toks) fun b ob q => Heap.get?_push_of_some _ q
  show wpAny (model X.prog X.w) X.A (subscriptTail e (.Slice none none (some (.UnaryOp .USub (.Constant (.int 1) j p1) p2)) p3) (.ref a) (.ref s4.heap.objs.size)) (EP X pins σ Q) X.xe { s4 with heap := s4.heap.push sl }
  rcases hq with ⟨hx, q⟩ | ⟨hx, q⟩
  · obtain ⟨its, r, ht, hz⟩ := I5.list hx
    have hlen := r.length
    refine tail_any (ops := [.ref a, .ref s4.heap.objs.size]) ht.isList.typeIs (PySem.slot_list_getitem.lookup) ?_ (by with_unfolding_all rfl)
    refine wpAny_getItem_list_slice ht.isList (Heap.IsSliceOf.new _ vl vu vs) pl pu ps (by decide) ?_ (by rw [List.size_toArray]; omega)
    rw [PySem.W.krv_pick]
    exact ⟨.ref _, _, I5.laid (t' := s4.toks) (o := .lst xs.reverse) (fun b ob q => Heap.get?_push_of_some _ q) (Nat.le_refl _) ⟨by rw [List.length_reverse]; exact hz, _, 0, r.reverse, Heap.get?_push_size _ rfl⟩, rfl, q _ (I5.hok.fresh (Nat.le_refl _))⟩
  · obtain ⟨its, r, ht, hz⟩ := I5.tuple hx
    have hlen := r.length
    cases pl
    cases pu
    refine tail_any (ops := [.ref a, .ref s4.heap.objs.size]) ht.typeIs (PyProof.Rows.slot_tuple_getitem.lookup) ?_ (by with_unfolding_all rfl)
    refine PySem.MiSl.getItem_tuple_rev ht (Heap.IsSliceOf.new _ .none .none vs) ps ?_ (by rw [List.size_toArray]; omega)
    exact ⟨.ref _, _, I5.laid (t' := s4.toks) (o := .tup xs.reverse) (fun b ob q => Heap.get?_push_of_some _ q) (Nat.le_refl _) ⟨by rw [List.length_reverse]; exact hz, _, r.reverse, IsTup.new _ _⟩, rfl, q _ (I5.hok.fresh (Nat.le_refl _))⟩
theorem m_rsl (C : Ct X R W N sc k) (h1 : PE X e (tP R W ma)) : PE X (.Subscript e (.Slice none none (some (.UnaryOp .USub (.Constant (.int 1) j p1) p2)) p3) pos) (tE R W (mRsl ma)) := by
  refine (pe_revA h1).imp fun σV H Q h => ?_
  obtain ⟨B, HB, ow, σ, dr, F, h⟩ := h
  refine ⟨B, HB, ow, σ, dr, F, Out.mono (Out.bind h) fun x s ow1 H1 F1 st1 h1 v hv => ?_⟩
  obtain ⟨d, hd, q⟩ := Out.oget h1 F1
  cases x with
  | lst ys =>
    cases hd
    obtain ⟨a, vs, rfl, hl, hv⟩ := hv
    exact ⟨a, vs, rfl, .inl ⟨SqL.of hl, fun p hp => q _ (ext_upd hp) _ (mkLst F1.liveB hp hv.reverse)⟩⟩
  | tup ys =>
    cases hd
    have hv' : Is R (Ban B ow1 s.σ) H1 (.tup ys) v := hv
    unfold Is at hv'
    obtain ⟨a, vs, rfl, nb, hl, hv⟩ := hv'
    exact ⟨a, vs, rfl, .inr ⟨SqT.of hl, fun p hp => q _ (ext_upd hp) _ (mkTup F1.liveB hp hv.reverse)⟩⟩
  | _ => cases hd
end
end Mi
set_option Elab.async false
set_option linter.all false
set_option maxRecDepth 100000
set_option maxHeartbeats 4000000
/-! Mi25: defs with *args, with keyword-only parameters; len and places of own instances. -/
namespace Mi
open PySem L2 PySem.Spec PyProof.Rows
/-- all arguments in one tuple -/
def varF (G : FM) : FM := fun ds dr => if ds.length ≤ line then G [.tup ds] dr else .no
section
variable {R : Rc} {k : Nat} {f : Addr} {fd : FuncData} {name qual : Str} {params : Arguments} {body : List Stmt} {scope : Scope} {dvs : List V} {kws : List (Str × V)} {N ps : List Str} {pv : Str} {np nn : Nat} {m : Sm} {B : Bn} {H H1 : Hp} {r : FR} {Q : VK} {E : XK}
theorem RetD.ext (e : Ext H H1) (h : RetD R B H r Q E) : RetD R B H1 r Q E := by
  cases r with
  | ok d dr => exact fun v H' k1 k2 k3 => h v H' (fun a o nd z => k1 a o nd (e a o z)) k2 k3
  | ex c ns vs dr => exact fun H' us d k1 k2 k3 k4 => h H' us d (fun a o nd z => k1 a o nd (e a o z)) k2 k3 k4
  | no => exact h
theorem fn_varD (F : FunD R.K name qual params body scope [] kws f fd) (S : FnScope N [pv] scope) (hnn : N.length = nn) (tx : TxOk R) (hb : BodyOk R N scope k body (fun _ => []) m)
    (h0 : ∀ (kV doc pm : Value) (an : Option Addr) (cdv ct : Value), bindArgs (PySem.W.fnOf name qual params body scope .none kV doc pm an cdv ct) ⟨[], []⟩ = (newTuple [] >>= fun t => pure [(pv, t)]))
    (h1 : ∀ (kV doc pm : Value) (an : Option Addr) (cdv ct : Value) (r : Value) (rs : List Value), bindArgs (PySem.W.fnOf name qual params body scope .none kV doc pm an cdv ct) ⟨r :: rs, []⟩ = (newTuple (r :: rs) >>= fun t => pure [(pv, t)])) :
    FnI R f (k + 1) (varF (fnD 1 nn m)) := by
  obtain ⟨oc, od, dV, kV, doc, pm, an, cdv, ct, osl, rfl, lk, hcd, hD, _⟩ := F.ex
  rcases hD with ⟨_, rfl⟩ | ⟨e, _⟩
  · have st := StX.fn_star (ps := []) (pv := pv) (sp := spD R (fnD 1 nn m)) (CX := L2.CX R.P R.w) (P := R.P) (w := R.w) (mg := R.mg) (base := R.base) (k := k) lk hcd S StX.cxUp (fun us rest hl => by
      match us, hl with
      | [], _ => cases rest with
        | nil => exact h0 kV doc pm an cdv ct
        | cons r rs => exact h1 kV doc pm an cdv ct r rs) (fun A outer s H vs Q E hr hsp => body_run S hnn tx hb hr hsp)
    refine st.imp fun vs H Q E q => ?_
    obtain ⟨B, ds, dr, h1, h2, h3, h4, h5⟩ := q
    unfold varF at h5
    split at h5
    · rename_i hl
      refine ⟨[], vs, rfl, rfl, by rw [h1.len, ← line_eq]; exact hl, fun p hp => ?_⟩
      have ex : Ext H (upd H p (.tup vs)) := ext_upd hp
      exact ⟨B, [.tup ds], dr, IsL.cons (mkTup h2 hp h1) IsL.nil, fun b z => (h2 b z).elim fun o w => ⟨o, ex b o w⟩, h3, fun z => ex _ _ (h4 z), h5.ext ex⟩
    · exact h5.elim
  · exact absurd rfl e
/-- keyword-only parameters, all written -/
theorem calK_of {ks : List Str} {G : FM} (F : FunD R.K name qual params body scope [] kws f fd) (FO : FnOk R.P R.w R.K R.mg R.base (L2.CX R.P R.w) k f fd ps (spD R G)) (n : Nat)
    (h : ∀ (kV doc pm : Value) (an : Option Addr) (cdv ct : Value) (us ws : List Value), us.length = n → ws.length = ks.length → bindArgs (PySem.W.fnOf name qual params body scope .none kV doc pm an cdv ct) ⟨us, ks.zip ws⟩ = pure (ps.zip (us ++ ws))) : CalK R f n ks k G := by
  refine ⟨fd, ps, FO, ?_⟩
  obtain ⟨oc, od, dV, kV, doc, pm, an, cdv, ct, osl, rfl, lk, hcd, hD, _⟩ := F.ex
  rcases hD with ⟨_, rfl⟩ | ⟨e, _⟩
  · exact ⟨fun s us ws KI l1 l2 => .of_eq (h kV doc pm an cdv ct us ws l1 l2), fun h1 h2 => h1.append h2⟩
  · exact absurd rfl e
end
end Mi
set_option Elab.async false
set_option linter.all false
set_option maxRecDepth 100000
set_option maxHeartbeats 4000000
/-! Mi26: len(o), o[i] of own instances. -/
namespace Mi
open PySem L2 PySem.Spec PyProof.Rows
/-- nothing is raised there -/
def okOnly {β : Type} (r : Res D) (f : D → M β) : Res β := match r with
  | .ok d s => f d s
  | _ => .no
def mLeno (tab : List (Nat × FM)) (x : M D) : M D := fun s => (x s).then fun x s => match x with
  | .ins c ns vs => match tab.lookup c with
    | some f => okOnly (callF f [.ins c ns vs] s) fun d s => match d with
      | .int n => if 0 ≤ n ∧ n < 9223372036854775808 then .ok (.int n) s else .no
      | _ => .no
    | none => .no
  | _ => .no
def mGeto (tab : List (Nat × FM)) (x y : M D) : M D := fun s => (x s).then fun x s => (y s).then fun y s => match x with
  | .ins c ns vs => match tab.lookup c with
    | some f => okOnly (callF f [.ins c ns vs, y] s) fun d s => .ok d s
    | none => .no
  | _ => .no
def LnI (R : Rc) (c k : Nat) (G : FM) : Prop := R.sl c = true ∧ ∃ g, PySem.W.findIn R.K (.ref (R.ca c)) "__len__" = some (some (.ref g)) ∧ PySem.W.isFn R.K (.ref g) = true ∧ FnI R g k G
def TabL (R : Rc) (k : Nat) (tab : List (Nat × FM)) : Prop := ∀ c G, tab.lookup c = some G → LnI R c k G
def GtI (R : Rc) (c k : Nat) (G : FM) : Prop := R.sl c = true ∧ ∃ g, PySem.W.findIn R.K (.ref (R.ca c)) "__getitem__" = some (some (.ref g)) ∧ PySem.W.fnIn R.K g = true ∧ PySem.W.isFn R.K (.ref g) = true ∧ FnI R g k G
def TabG (R : Rc) (k : Nat) (tab : List (Nat × FM)) : Prop := ∀ c G, tab.lookup c = some G → GtI R c k G
section
variable {X : Cx} {R : Rc} {W : WX} {N : List Str} {sc : Scope} {k : Nat} {B B0 : Bn} {HB H0 H : Hp} {σV : L2.St} {ow : Ow} {s : S}
variable {a b e : Expr} {ma mb : M D} {pos p : Pos} {f : Addr} {kf : Nat} {G : FM} {tab : List (Nat × FM)}
theorem spD_ok {α : Type} {ds : List D} {vs : List V} {Q : VK} {g : D → M α} {K : α → S → Ow → Hp → Prop} (F : Fr R B HB ow s.σ s.dr σV H) (hv : IsL R (Ban B ow s.σ) H ds vs)
    (o : Out R W B HB (Ban B ow s.σ) H σV (okOnly (callF G ds s) g) K)
    (hq : ∀ d s' ow' H' v, Fr R B HB ow' s'.σ s'.dr σV H' → Stp (Ban B ow s.σ) H (Ban B ow' s'.σ) H' → Is R (Ban B ow' s'.σ) H' d v → Out R W B HB (Ban B ow s.σ) H σV (g d s') K → Q v H') : spD R G vs H Q (fun _ _ _ => False) := by
  refine ⟨_, ds, s.dr, hv, F.liveB, fun h => .inl (F.drB h), F.drs, ?_⟩
  unfold callF at o
  cases e : G ds s.dr with
  | ok d dr' =>
    rw [e] at o
    intro v H' k1 k2 k3
    obtain ⟨F', st⟩ := F.after k1 k2
    exact hq d ⟨s.σ, dr'⟩ ow H' v F' st k3 o
  | ex c ns ws dr' => rw [e] at o; exact o.elim
  | no => rw [e] at o; exact o.elim
/-- a function of ours runs further in -/
theorem fn_in {A1 : Around} {g : Addr} (C : Ct X R W N sc k) (F : FnI R g kf G) (sb : Sub X kf A1) {pins : List (Addr × Obj)} {s : Shared} {us : List Value} {vs : List V} {Q : VK} (I : Inv X pins σV H s) (r : Vals vs us) (h : spD R G vs H Q (fun _ _ _ => False)) :
    wpAny (model X.prog X.w) A1 (call (.ref g) us) (EP X pins σV Q) X.xe s := by
  have e0 : Env0 X.prog X.w X.K X.mg X.base A1 X.stack s H := by
    have e := I.env0
    exact ⟨by rw [sb.fr]; exact e.frames, e.mod, e.bs, e.bsz, e.funs, e.frf, e.hok, e.bare⟩
  refine wpAny_call (codeAny_mono (C.fnr F A1 X.stack s H us vs Q _ sb.room e0 r h) fun res s' hq => ?_)
  cases res with
  | error er =>
    obtain ⟨_, _, _, _, _, _, _, _, _, _, _, _, z⟩ := hq
    exact z.elim
  | ok fl =>
    cases fl with
    | ret u => exact I.after hq
    | _ => exact hq.elim
theorem sub_self (C : Ct X R W N sc k) (h : kf + 1 ≤ k) : Sub X kf X.A.in1 := ⟨(C.room.mono h).in1, rfl⟩
/-! ### len(o) -/
def rLeno (R : Rc) (kf : Nat) : List V → Hp → VK → Prop := fun vs H Q => ∃ (a : Addr) (c : Nat) (G : FM) (dx : Addr) (ws : List (Option V)), vs = [.ref a] ∧ SlX.Slt H a (R.ca c) dx ws ∧ LnI R c kf G ∧
  spD R G [.ref a] H (fun v H' => ∃ n : Int, v = .int n ∧ 0 ≤ n ∧ n < 2 ^ 63 ∧ Q (.int n) H') (fun _ _ _ => False)
theorem call_leno (C : Ct X R W N sc k) (hk : kf + 1 ≤ k) : CallR X (.builtin "len") (rLeno R kf) := by
  intro pins s σ H vs us Q I r h
  obtain ⟨a, c, G, dx, ws, rfl, hsl, ⟨hs, g, hat, hf, hF⟩, q⟩ := h
  rw [Vals.ref1 r]
  obtain ⟨sl, od, _, J, _⟩ := SlX.slt_inst I hsl
  rw [← C.K] at hat hf
  refine Calls.call_function_entry kind_len plain_len entry_len (args_len1 _) ?_
  unfold Builtin.«len»
  refine wpAny_bind (m := oneArg "len" _) (wpAny_pure ?_)
  refine wpAny_bind (m := callSpecial? (.ref a) (Str.ofString "__len__")) (PySem.W.special_fn I.kIn J hat (beq_iff_eq.mp hf) (wpAny_mono (fn_in C hF (sub_self C hk) I (vs := [V.ref a]) (.cons rfl .nil) q) (fun v s' hr => ?_) fun _ _ z => z))
  obtain ⟨x, H', I', rx, n, rfl, h0, h1, hq⟩ := hr
  obtain ⟨t, rfl⟩ := rx
  refine wpAny_bind (wpAny_holding (wpAny_pure ?_))
  refine wpAny_bind (wpAny_letGo ?_)
  show wpAny _ _ (if n < 0 then _ else _) _ _ _
  rw [if_neg (by omega)]
  show wpAny _ _ (if n ≥ 2 ^ 63 then _ else _) _ _ _
  rw [if_neg (by omega)]
  exact wpAny_bind (wpAny_mkInt (wpAny_pure ⟨_, rfl, ⟨.int n, H', I'.tok _, ⟨_, rfl⟩, hq⟩⟩))
theorem m_leno (C : Ct X R W N sc k) (bl : Bl R) (T : TabL R kf tab) (hk : kf + 1 ≤ k) (hg : sc.names.lookup ("len" : Str) = some .globalImplicit) (h1 : PE X a (tE R W ma)) (hbv : bootBuiltins ("len" : Str) = some (.builtin "len"))
    (hs : starEach [a] X.env = [(false, eval a X.env)] := by rfl) : PE X (.Call (.Name ("len" : Str) p) [a] [] pos) (tE R W (mLeno tab ma)) := by
  refine (pe_callB (call_leno (kf := kf) C hk) (C.gl hg) (by rw [C.mg]; exact bl.no _ (by simp)) hbv (pa_cons h1 pa_nil hs) (by decide) (by decide) hs rfl).imp fun σV H Q h => ?_
  obtain ⟨B, HB, ow, σ, dr, F, h⟩ := h
  refine ⟨B, HB, ow, σ, dr, F, Out.mono (Out.bind h) fun x s ow1 H1 F1 st1 h1 v hv => ?_⟩
  cases x with
  | ins c ns vs =>
    dsimp only at h1
    split at h1
    · rename_i G hG
      obtain ⟨hs, g, hp⟩ := T c G hG
      obtain ⟨a, dx, ws, us, rfl, q1, _⟩ := inst_slt hv hs
      refine ⟨a, c, G, dx, ws, rfl, q1, ⟨hs, g, hp⟩, spD_ok F1 (IsL.cons hv IsL.nil) h1 fun d s' ow' H' v F' st hd o => ?_⟩
      cases d with
      | int n =>
        have ev := isInt hd.p
        subst ev
        dsimp only at o
        split at o
        · rename_i hn
          exact ⟨n, rfl, hn.1, by have := hn.2; omega, o ow' H' F' st _ intIs⟩
        · exact o.elim
      | _ => exact o.elim
    · exact h1.elim
  | _ => exact h1.elim
/-! ### o[i] -/
theorem m_geto (C : Ct X R W N sc k) (T : TabG R kf tab) (hk : kf + 1 ≤ k) (h1 : PE X a (tE R W ma)) (h2 : PE X b (tE R W mb))
    (hsl : ∀ x i, subscripted b true (.ref x) i = runValue (.builtin "lifetime.subscript" ⟨[.ref x, i], []⟩) := by intro _ _; rfl) : PE X (.Subscript a b pos) (tE R W (mGeto tab ma mb)) := by
  refine ⟨fun pins s σV H Q I h => ?_⟩
  let Rl : V → V → Hp → Prop := fun x y H2 => ∃ (a : Addr) (c : Nat) (G : FM) (dx : Addr) (ws : List (Option V)), x = .ref a ∧ SlX.Slt H2 a (R.ca c) dx ws ∧ GtI R c kf G ∧ spD R G [x, y] H2 Q fun _ _ _ => False
  have h' : tE R W ma σV H fun x H1 => tE R W mb σV H1 fun y H2 => Rl x y H2 := by
    obtain ⟨B, HB, ow, σ, dr, F, h⟩ := h
    refine ⟨B, HB, ow, σ, dr, F, Out.mono (Out.bind h) fun d s1 ow1 H1 F1 st1 h1 v hv => ?_⟩
    refine ⟨B, HB, ow1, s1.σ, s1.dr, F1, Out.mono (Out.bind h1) fun d2 s2 ow2 H2 F2 st2 h2 u hu => ?_⟩
    cases d with
    | ins c ns vs =>
      dsimp only at h2
      split at h2
      · rename_i G hG
        obtain ⟨hs, g, hp⟩ := T c G hG
        have hv2 := hv.stp st2
        obtain ⟨a, dx, ws, us, rfl, q1, _⟩ := inst_slt hv2 hs
        exact ⟨a, c, G, dx, ws, rfl, q1, ⟨hs, g, hp⟩, spD_ok F2 (IsL.cons hv2 (IsL.cons hu IsL.nil)) h2 fun d s' ow' H' v F' st hd o => o ow' H' F' st v hd⟩
      · exact h2.elim
    | _ => exact h2.elim
  refine Subscript_ (binT h1 h2 I h' fun v u s2 x y H2 I2 rx ry q => ?_)
  obtain ⟨ax, c, G, dx, ws, rfl, hs, ⟨_, g, hat, hin, hf, hF⟩, q⟩ := q
  obtain rfl : v = Value.ref ax := rx
  obtain ⟨sl, od, _, J, _⟩ := SlX.slt_inst I2 hs
  obtain ⟨m, hFr⟩ := I2.fr
  rw [← C.K] at hat hin hf
  exact PySem.W.sub_K hFr I2.ok.mod.kin J hat hin hf (fn_in C hF (sub_self C hk) I2 (vs := [V.ref ax, y]) (.cons rfl (.cons ry .nil)) q) (hsl _ _)
end
end Mi
set_option Elab.async false
set_option linter.all false
set_option maxRecDepth 100000
set_option maxHeartbeats 4000000
/-! Mi27: several clauses 'except C as n'. -/
namespace L2
open PySem PySem.Spec PyProof.Rows
/-- a clause's class, its name's slot, its suite -/
abbrev MiH : Type := Value × Nat × (Addr → Value → Option Addr → TS)
def miEnd (i : Nat) (D : Ends) : Ends := { nx := fun σ' H' => D.nx (σ'.set i none) H', rt := D.rt, bk := fun σ' H' => D.bk (σ'.set i none) H', ct := fun σ' H' => D.ct (σ'.set i none) H' }
def miW (K : PySem.W.Frag) (Wout : WX) (D : Ends) : List MiH → WX
  | [] => Wout
  | (c, i, ts) :: r => fun cls d σ H => ∃ b, PySem.W.exmOne K cls c = some b ∧ (b = true → ∀ a, H a = none → ts a cls d (miEnd i D) (σ.set i (some (.ref a))) H) ∧ (b = false → miW K Wout D r cls d σ H)
inductive MiHs (X : Cx) : List ExceptHandler → List MiH → Prop
  | nil : MiHs X [] []
  | cons {x n : Str} {c : Value} {i : Nat} {ts : Addr → Value → Option Addr → TS} {b₀ : Stmt} {suite : List Stmt} {np pos' : Pos} {hds : List ExceptHandler} {l : List MiH} (hc : Names X x c) (hi : X.N[i]? = some n) (hln : X.env.kindOf n = some .local)
      (hsu : ∀ (a : Addr) (oe : Obj) (cls : Value) (d : Option Addr) (pn : List (Addr × Obj)), Zc cls d oe → (∃ vs, oe.data = .fields vs) → PSs (X.suite a ((a, oe) :: pn)) (b₀ :: suite) (ts a cls d)) (r : MiHs X hds l) :
      MiHs X (.ExceptHandler (some (.Name x np)) (some n) (b₀ :: suite) pos' :: hds) ((c, i, ts) :: l)
section
variable {X : Cx} {body : List Stmt} {h₀ : ExceptHandler} {hds : List ExceptHandler} {l : List MiH} {pos : Pos} {tb : WX → TS} {Wout : WX}
theorem ps_mi_try (hs : X.stack = X.env :: X.outer) (hf : X.env.frame = some X.env.locals) (hN : X.N.Nodup) (tk : Takes X Wout)
    (hb : ∀ (W : WX) (pn : List (Addr × Obj)) (xe : Value → Shared → Prop), Takes (X.tr pn xe) W → PassesOwn (model X.prog X.w) X.A X.env xe → PSs (X.tr pn xe) body (tb W))
    (hh : MiHs X (h₀ :: hds) l) : PS X (.Try body (h₀ :: hds) [] [] pos) (fun D σ H => tb (miW X.K Wout D l) D σ H) := by
  refine ⟨fun pins s σ H D I h => ?_⟩
  have ok := I.ok
  have hfr : X.A.frames = some (X.env :: X.outer) := by rw [ok.frames, hs]
  refine wpAny_Try_except ?_
  refine wpAny_mono ((hb (miW X.K Wout D l) (X.pn ++ pins) (fun e s₁ => wpAny (model X.prog X.w) X.A (noteFrame e X.env) (fun _ s₂ => wpAny (model X.prog X.w) X.A (setFlight e none) (fun _ s₃ =>
    wpAny (model X.prog X.w) X.A (handleBy e X.env (h₀ :: hds)) (SP X pins D) X.xe s₃) X.xe s₂) X.xe s₁) (fun u s' xx => ?_) PassesOwn.looking).run [] s σ H D (I.toTry _) h) (fun f s1 hsp => ?_) (fun e s1 he => he)
  · obtain ⟨a, B, sI, pins', σ', H', cls, d, rfl, J', nb, up, sky, na, os, ag, w⟩ := xx
    have J : Inv X pins σ' H' sI := J'.ofTry ok
    have sky2 : Sky B (X.env :: X.outer) a (Zc cls d) X.env.locals s'.heap := by rw [← hs]; exact sky
    show wpAny (model X.prog X.w) X.A (noteFrame (.ref a) X.env) _ _ _
    refine Sky.land Zc.steady hfr hf sky2 fun h3 fl3 up3 => ?_
    have J3 : Inv X pins σ' H' { s' with heap := h3 } := J.landed nb fl3.1 (up.trans up3) os ag
    obtain ⟨oe3, vs3, he3, hz3, hd3⟩ := fl3.there
    have nfr : a ∉ frs (X.env :: X.outer) := fun hm => by
      obtain ⟨_, o', e', hnf⟩ := Heap.FunFrames.mem fl3.2.2.1 hm
      rw [he3] at e'
      cases e'
      exact hnf _ hd3
    have nL : a ≠ X.env.locals := fun z => nfr (List.mem_filterMap.mpr ⟨X.env, List.mem_cons_self, by rw [hf, z]⟩)
    have nF : a ∉ X.fs := fun hm => by
      obtain ⟨e, he, q⟩ := List.mem_filterMap.mp hm
      exact nfr (List.mem_filterMap.mpr ⟨e, List.mem_cons_of_mem _ he, q⟩)
    have S3 := J3.suite he3 hd3 na nL nF
    have LT : PySem.W.Looks (model X.prog X.w) h3 (typeOf (.ref a)) cls := fun A Q E s k q => wpAny_typeOf_ref (k _ _ he3) (by rw [hz3.1]; exact q)
    have go : ∀ {hds' : List ExceptHandler} {l' : List MiH}, MiHs X hds' l' → miW X.K Wout D l' cls d σ' H' →
        wpAny (model X.prog X.w) X.A (handleBy (.ref a) X.env hds') (SP X pins D) X.xe { s' with heap := h3 } := by
      intro hds' l' hk
      induction hk with
      | nil =>
        intro w
        refine wpAny_handleBy_nil ?_
        obtain ⟨k1, k2, k3, oe, vs, T, oT, ts', he, hz, hd, h1, hr⟩ := id fl3
        unfold PySem.passOn
        refine wpAny_bind (wpAny_field he hd h1 ?_)
        rw [if_neg (show ¬ ((Value.ref T == Value.none) = true) from by simp)]
        have fin : wpAny (model X.prog X.w) X.A (setFlight (.ref a) X.env.frame) (fun _ s4 => wpAny (model X.prog X.w) X.A (throw (.ref a) : Sem Flow) (SP X pins D) X.xe s4) X.xe { s' with heap := h3 } := by
          rw [hf]
          refine HandSPX.setFlight_upZ fl3 fun h4 hh4 up4 => wpAny_throw (tk _ _ ?_)
          exact ⟨a, B, sI, pins, σ', H', cls, d, rfl, J, nb, (up.trans up3).trans up4, .inr (.inr (by rw [hs]; exact hh4)), na, os, ag, w⟩
        first
          | exact wpAny_bind (wpAny_pure (wpAny_bind fin))
          | exact wpAny_bind fin
      | @cons x n c i ts b₀ suite np pos' hds2 l2 hc hi hln hsu r ih =>
        intro w
        have hloc : Loc X.env.scope n := .inl hln
        obtain ⟨b, hb1, hyes, hno⟩ := w
        refine wpAny_handleBy_cons (codeAny_handlers_test ?_) (by intro q; cases q)
        have LM := PySem.W.exm_one (M := model X.prog X.w) (J3.kIn) LT hb1
        have test : ∀ {Q : Value → Shared → Prop} {E : Value → Shared → Prop}, Q c { s' with heap := h3 } → wpAny (model X.prog X.w) (X.A.mark (some (.ref a))) (eval (.Name x np) X.env) Q E { s' with heap := h3 } := fun {Q E} q => by
          obtain ⟨hg, hdbg, hm | ⟨hm, hv, hnn⟩⟩ := hc
          · exact ld_glob (X := X.suite a ((a, oe3) :: (X.pn ++ pins))) S3 hg hm q hdbg
          · exact ld_blt (X := X.suite a ((a, oe3) :: (X.pn ++ pins))) S3 hg hm hv q hnn hdbg
        refine test (LM.here ?_)
        cases b with
        | true =>
          refine codeAny_handlers_suite_as ?_
          refine HandSPX.lands_againZ fl3 fun h4 fl4 up4 => ?_
          have J4 : Inv X pins σ' H' { s' with heap := h4 } := J.landed nb fl4.1 ((up.trans up3).trans up4) os ag
          obtain ⟨oe4, vs4, he4, hz4, hd4⟩ := fl4.there
          have S4 := J4.suite he4 hd4 na nL nF
          refine store_ok (X := X.suite a ((a, oe4) :: (X.pn ++ pins))) (v := .ref a) S4 hN hi hloc rfl (fun s5 S5 => ?_) (.inr hln)
          refine wpAny_mono ((hsu a oe4 cls d (X.pn ++ pins) hz4 ⟨_, hd4⟩).run [] s5 _ H' _ S5 (hyes rfl a na)) (fun f s6 hsp => ?_) (fun _ _ z => False.elim z)
          have end_ : ∀ {σ6 : St} {H6 : Hp} {Q : Shared → Prop}, Inv (X.suite a ((a, oe4) :: (X.pn ++ pins))) [] σ6 H6 s6 → (∀ s7, Inv X pins (σ6.set i none) H6 s7 → Q s7) →
              wpAny (model X.prog X.w) X.A (do bindName X.env n .none; unbindBehindTheSuite X.env n pos') (fun _ s7 => Q s7) X.xe s6 := fun {σ6 H6 Q} S6 hq => gone_ok (S6.unsuite ok) hN hi hln hq
          cases f with
          | next =>
            obtain ⟨σ6, H6, S6, q6⟩ := hsp
            exact end_ S6 fun s7 J7 => ⟨_, _, J7, q6⟩
          | brk =>
            obtain ⟨σ6, H6, S6, q6⟩ := hsp
            exact end_ S6 fun s7 J7 => ⟨_, _, J7, q6⟩
          | cont =>
            obtain ⟨σ6, H6, S6, q6⟩ := hsp
            exact end_ S6 fun s7 J7 => ⟨_, _, J7, q6⟩
          | ret u =>
            obtain ⟨v6, σ6, H6, S6, r6, q6⟩ := hsp
            exact end_ S6 fun s7 J7 => ⟨_, _, _, J7, r6, q6⟩
        | false =>
          show wpAny _ X.A (handleBy (.ref a) X.env hds2) _ _ _
          exact ih (hno rfl)
    exact go hh w
  · cases f with
    | next =>
      obtain ⟨σ', H', J', q⟩ := hsp
      exact wpAny_execs_nil ⟨σ', H', J'.ofTry ok, q⟩
    | brk =>
      obtain ⟨σ', H', J', q⟩ := hsp
      exact ⟨σ', H', J'.ofTry ok, q⟩
    | cont =>
      obtain ⟨σ', H', J', q⟩ := hsp
      exact ⟨σ', H', J'.ofTry ok, q⟩
    | ret u =>
      obtain ⟨v, σ', H', J', r, q⟩ := hsp
      exact ⟨v, σ', H', J'.ofTry ok, r, q⟩
end
end L2
set_option Elab.async false
set_option linter.all false
set_option maxRecDepth 100000
set_option maxHeartbeats 4000000
/-! Mi28: try: .. except C as n: one statement. -/
namespace Mi
open PySem L2 PySem.Spec PyProof.Rows
/-- the attribute n of exceptions of the class c can be read -/
def XfI (R : Rc) (c n : Nat) : Prop := ∃ fl, R.atts[n]? = some fl ∧ XfC R.K (R.ca c) ∧ PySem.W.findIn R.K (.ref (R.ca c)) fl = some none
/-- constants -/
def konst (R : Rc) : D → V → Prop
  | .non, v => v = .non
  | .bl b, v => v = .bl b
  | .int i, v => v = .int i
  | .str k, v => ∃ x, R.txts[k]? = some x ∧ v = .str x
  | _, _ => False
def tX1 (R : Rc) (a : Addr) (cls : Value) (d : Option Addr) (j : Nat) : X1 → TE
  | .k dd => fun _ H Q => ∀ v, konst R dd v → Q v H
  | .v i => fun σ H Q => ∃ v, σ[i]? = some (some v) ∧ Q v H
  | .x n => fun σ H Q => σ[j]? = some (some (.ref a)) ∧ ∃ (c : Nat) (dd : Addr) (fs : List (Str × V)) (v : V) (fl : Str), cls = .ref (R.ca c) ∧ d = some dd ∧ XfI R c n ∧ R.atts[n]? = some fl ∧ H dd = some (.xd fs) ∧ fs.lookup fl = some v ∧ Q v H
def tX2 (R : Rc) (a : Addr) (cls : Value) (d : Option Addr) (j : Nat) : X2 → TE
  | .one x => tX1 R a cls d j x
  | .two x y => fun σ H Q => tX1 R a cls d j x σ H fun u H1 => tX1 R a cls d j y σ H1 fun v H2 => ∀ p, H2 p = none → Q (.ref p) (upd H2 p (.tup [u, v]))
def tXs (R : Rc) (a : Addr) (cls : Value) (d : Option Addr) (j : Nat) : Xs → TS
  | .set i e => fun D σ H => tX2 R a cls d j e σ H fun v H' => D.nx (σ.set i (some v)) H'
  | .ret e => fun D σ H => tX2 R a cls d j e σ H fun v H' => D.rt v H'
  | .pas => fun D σ H => D.nx σ H
def InSuite (X : Cx) (f : Cx → Addr → Value → Option Addr → Prop) : Prop := ∀ (a : Addr) (oe : Obj) (cls : Value) (d : Option Addr) (pn : List (Addr × Obj)), Zc cls d oe → (∃ vs, oe.data = .fields vs) → f (X.suite a ((a, oe) :: pn)) a cls d
section
variable {X : Cx} {R : Rc} {W : WX} {z : ZK} {N : List Str} {sc so : Scope} {k : Nat} {e e2 : Expr} {x x2 : X1} {j i n : Nat} {y : Str} {pos p p2 : Pos}
def XE1 (X : Cx) (R : Rc) (j : Nat) (e : Expr) (x : X1) : Prop := InSuite X fun X' a cls d => PE X' e (tX1 R a cls d j x)
def XE2 (X : Cx) (R : Rc) (j : Nat) (e : Expr) (x : X2) : Prop := InSuite X fun X' a cls d => PE X' e (tX2 R a cls d j x)
theorem x_str {q : Nat} {t : Str} (h : R.txts[q]? = some t) : XE1 X R j (.Constant (.str t) i pos) (.k (.str q)) := fun a oe cls d pn _ _ => pe_str.imp fun σ H Q h' => h' _ ⟨t, h, rfl⟩
theorem x_int {q : Nat} : XE1 X R j (.Constant (.int q) i pos) (.k (.int q)) := fun a oe cls d pn _ _ => pe_int.imp fun σ H Q h' => h' _ rfl
theorem x_non : XE1 X R j (.Constant .none i pos) (.k .non) := fun a oe cls d pn _ _ => pe_non.imp fun σ H Q h' => h' _ rfl
theorem x_bl {q : Bool} : XE1 X R j (.Constant (.bool q) i pos) (.k (.bl q)) := fun a oe cls d pn _ _ => pe_bl.imp fun σ H Q h' => h' _ rfl
theorem x_att (C : Ct X R W N sc k) {fl : Str} (hN : N[j]? = some y) (hv : visB sc y = true) (hd : (y == ("__debug__" : Str)) = false) (hcd : (y == ("__classdict__" : Str)) = false) (ha : R.atts[n]? = some fl)
    (hb : attributeBase (.Name y p) fl X.env (eval (.Name y p) X.env) = eval (.Name y p) X.env := by rfl) : XE1 X R j (.Attribute (.Name y p) fl pos) (.x n) := by
  intro a oe cls d pn hz hf
  refine ⟨fun pins s σ H Q I h => ?_⟩
  obtain ⟨h1, c, dd, fs, v, fl', rfl, rfl, ⟨fl2, q1, T, hno⟩, q2, hdd, hl, q⟩ := h
  rw [ha] at q1 q2
  cases q1
  cases q2
  rw [← C.K] at T hno
  exact (pe_xf T hno hz hf (pe_var (X := X.suite a ((a, oe) :: pn)) (i := j) (by show X.N[j]? = some y; rw [C.eN]; exact hN) (by show Vis X.env.scope y; rw [C.esc]; exact vis_of hv) hd hcd) hb).run pins s σ H Q I ⟨.ref a, h1, rfl, rfl, dd, fs, v, rfl, hdd, hl, q⟩
theorem x_one (h : XE1 X R j e x) : XE2 X R j e (.one x) := h
theorem x_two {q : Nat} (h1 : XE1 X R j e x) (h2 : XE1 X R j e2 x2) (hs : starEach [e, e2] X.env = (false, eval e X.env) :: starEach [e2] X.env := by rfl) (hs2 : starEach [e2] X.env = (false, eval e2 X.env) :: starEach [] X.env := by rfl) : XE2 X R j (.Tuple [e, e2] q pos) (.two x x2) := fun a oe cls d pn hz hf =>
  (pe_tup (pa_cons (h1 a oe cls d pn hz hf) (pa_cons (h2 a oe cls d pn hz hf) pa_nil hs2) hs)).imp fun σ H Q h => by
    have up : ∀ (x : X1) (σ : L2.St) (H : Hp) (K K' : VK), (∀ v H', K v H' → K' v H') → tX1 R a cls d j x σ H K → tX1 R a cls d j x σ H K' := fun x σ H K K' f h => by
      cases x with
      | k dd => exact fun v hv => f _ _ (h v hv)
      | v i => obtain ⟨v, h1, h2⟩ := h; exact ⟨v, h1, f _ _ h2⟩
      | x n => obtain ⟨h1, c, dd, fs, v, fl, e1, e2, e3, e4, e5, e6, e7⟩ := h; exact ⟨h1, c, dd, fs, v, fl, e1, e2, e3, e4, e5, e6, f _ _ e7⟩
    exact up _ _ _ _ _ (fun u H1 h => up _ _ _ _ _ (fun v H2 h => ⟨by rw [sizeLine_eq]; show 2 ≤ 16777216; omega, h⟩) h) h
/-! ### clauses -/
structure HdI (X : Cx) (R : Rc) (hd : ExceptHandler) (h : Hn) : Prop where
  ex : ∃ (x n : Str) (np pos' : Pos) (b₀ : Stmt) (suite : List Stmt), hd = .ExceptHandler (some (.Name x np)) (some n) (b₀ :: suite) pos' ∧ Names X x (.ref (R.ca h.c)) ∧ X.N[h.nm]? = some n ∧ X.env.kindOf n = some .local ∧
    ∀ (a : Addr) (oe : Obj) (cls : Value) (d : Option Addr) (pn : List (Addr × Obj)), Zc cls d oe → (∃ vs, oe.data = .fields vs) → PSs (X.suite a ((a, oe) :: pn)) (b₀ :: suite) (tXs R a cls d h.nm h.st)
theorem Fr.ems {B : Bn} {HB H : Hp} {ow : Ow} {σ : List SV} {dr : List Int} {σV : L2.St} {v : Option V} (F : Fr R B HB ow σ dr σV H) (h : (σ.getD i .em).isVal = true) : Fr R B HB ow (σ.set i .em) dr (σV.set i v) H ∧ ∀ a, Ban B ow (σ.set i .em) a → Ban B ow σ a := by
  have hn : heldAt σ i = none := held_val h
  have eh : ∀ q, heldAt (σ.set i .em) q = heldAt σ q := fun q => by
    by_cases hq : i = q
    · subst hq
      rw [hn]
      unfold heldAt
      by_cases hl : i < σ.length
      · rw [List.getElem?_set_self hl]; rfl
      · rw [List.getElem?_eq_none (by simpa using hl)]; rfl
    · exact heldAt_set_ne hq
  refine ⟨F.reval (by rw [List.length_set, List.length_set]; exact F.len) eh (fun q d e => ?_) fun q d e => ?_, Ban.sub fun q d e => ⟨d, by rw [eh] at e; exact e⟩⟩
  · by_cases hq : i = q
    · subst hq
      by_cases hl : i < σ.length
      · rw [List.getElem?_set_self hl] at e; cases e
      · rw [List.getElem?_eq_none (by simpa using hl)] at e; cases e
    · rw [List.getElem?_set_ne hq] at e ⊢
      exact F.val q d e
  · by_cases hq : i = q
    · subst hq
      rw [hn] at e
      cases e
    · exact List.getElem?_set_ne hq
/-- the attributes of exceptions of the class c can be read -/
def XfK (R : Rc) (c : Nat) : Prop := XfC R.K (R.ca c) ∧ ∀ fl ∈ R.atts, PySem.W.findIn R.K (.ref (R.ca c)) fl = some none
def ExmI (R : Rc) (kn : List Nat) (hs : List Hn) : Prop := ∀ c ∈ kn, XfK R c ∧ ∀ h ∈ hs, PySem.W.exmOne R.K (.ref (R.ca c)) (.ref (R.ca h.c)) = some (h.cs.contains c)
section
variable {B : Bn} {HB H : Hp} {ow : Ow} {s : S} {σV : L2.St} {a dd : Addr} {c : Nat} {ns : List Nat} {vs : List D} {us : List V} {Q : VK} {d : D}
theorem konst_is {v : V} {Bn0 : Bn} (h : konst R d v) : Is R Bn0 H d v := by
  cases d <;> first
  | (unfold Is; exact h)
  | exact h.elim
theorem excLook (he : ExcAt R H dd ns us) (hl : IsL R B H vs us) (h : lookA ns vs n = some d) : ∃ (fl : Str) (fs : List (Str × V)) (v : V), R.atts[n]? = some fl ∧ H dd = some (.xd fs) ∧ fs.lookup fl = some v ∧ Is R B H d v := by
  obtain ⟨el, fs, hdd, hf⟩ := he
  obtain ⟨q, h1, h2⟩ := lookA_get h
  obtain ⟨u, h3, h4⟩ := hl.get h2
  obtain ⟨fl, h5, h6⟩ := hf q n u h1 h3
  exact ⟨fl, fs, u, h5, hdd, h6, h4⟩
theorem x1_is (F : Fr R B HB ow s.σ s.dr σV H) (hj : σV[j]? = some (some (.ref a))) (hl : IsL R (Ban B ow s.σ) H vs us) (he : ExcAt R H dd ns us) (xk : XfK R c) (h : x.val ns vs s = some d) (q : ∀ v, Is R (Ban B ow s.σ) H d v → Q v H) :
    tX1 R a (.ref (R.ca c)) (some dd) j x σV H Q := by
  cases x with
  | k d0 => cases h; exact fun v hv => q v (konst_is hv)
  | v i =>
    unfold X1.val at h
    dsimp only at h
    split at h
    · rename_i e
      cases h
      obtain ⟨v, h1, h2⟩ := F.val i _ e
      exact ⟨v, h1, q v h2⟩
    · cases h
  | x n =>
    obtain ⟨fl, fs, v, h1, h2, h3, h4⟩ := excLook he hl h
    exact ⟨hj, c, dd, fs, v, fl, rfl, rfl, ⟨fl, h1, xk.1, xk.2 fl (List.mem_of_getElem? h1)⟩, h1, h2, h3, q v h4⟩
theorem x2_is {e : X2} (F : Fr R B HB ow s.σ s.dr σV H) (hj : σV[j]? = some (some (.ref a))) (hl : IsL R (Ban B ow s.σ) H vs us) (he : ExcAt R H dd ns us) (xk : XfK R c) (h : e.val ns vs s = some d) (q : ∀ v H', Ext H H' → Is R (Ban B ow s.σ) H' d v → Q v H') :
    tX2 R a (.ref (R.ca c)) (some dd) j e σV H Q := by
  cases e with
  | one x => exact x1_is F hj hl he xk h fun v hv => q v H (fun _ _ w => w) hv
  | two x y =>
    unfold X2.val at h
    dsimp only at h
    split at h
    · rename_i d1 d2 e1 e2
      cases h
      exact x1_is F hj hl he xk e1 fun v hv => x1_is F hj hl he xk e2 fun w hw p hp => q _ _ (ext_upd hp) (mkTup F.liveB hp (IsL.cons hv (IsL.cons hw IsL.nil)))
    · cases h
def Xs.slot : Xs → List Nat
  | .set i _ => [i]
  | _ => []
theorem xs_is {st : Xs} {nm : Nat} {D : Ends} {B0 : Bn} {H0 : Hp} (F : Fr R B HB ow s.σ s.dr σV H) (Z : Zs z σV) (zn : Zo z nm) (zi : ∀ i ∈ st.slot, Zo z i) (st0 : Stp B0 H0 (Ban B ow s.σ) H) (hj : σV[nm]? = some (some (.ref a))) (hs : (s.σ.getD nm .em) = .em) (hl : IsL R (Ban B ow s.σ) H vs us) (he : ExcAt R H dd ns us) (xk : XfK R c)
    (o : OutS R W z B HB B0 H0 (st.run nm ns vs s) D) : tXs R a (.ref (R.ca c)) (some dd) nm st (miEnd nm D) σV H := by
  cases st with
  | set i e =>
    unfold Xs.run at o
    dsimp only at o
    split at o
    · rename_i d hd
      refine x2_is F hj hl he xk hd fun v H' ex hv => ?_
      have F1 := (F.ext ex).put' (i := i) hv
      have hval : ((s.σ.set i (.val d)).getD nm .em).isVal = true := by
        rw [List.getD_eq_getElem?_getD]
        by_cases hi : i = nm
        · subst hi
          by_cases hlt : i < s.σ.length
          · rw [List.getElem?_set_self hlt]; rfl
          · rw [List.getElem?_eq_none (by simpa using hlt)]; rfl
        · rw [List.getElem?_set_ne hi, ← List.getD_eq_getElem?_getD, hs]; rfl
      obtain ⟨F2, l2⟩ := F1.ems (v := none) hval
      exact o ow _ H' F2 ((Z.set (zi i List.mem_cons_self)).set zn) ((st0.trans (Stp.new ex)).trans (Stp.less fun b w => ban_put b (l2 b w)))
    · exact o.elim
  | ret e =>
    unfold Xs.run at o
    dsimp only at o
    split at o
    · rename_i d hd
      refine x2_is F hj hl he xk hd fun v H' ex hv => ?_
      obtain ⟨F2, l2⟩ := (F.ext ex).ems (v := none) (i := nm) (by rw [hs]; rfl)
      exact o ow _ H' v F2 (Z.set zn) ((st0.trans (Stp.new ex)).trans (Stp.less l2)) (hv.less l2)
    · exact o.elim
  | pas =>
    obtain ⟨F2, l2⟩ := F.ems (v := none) (i := nm) (by rw [hs]; rfl)
    exact o ow _ H F2 (Z.set zn) (st0.trans (Stp.less l2))
def miL (R : Rc) (hs : List Hn) : List MiH := hs.map fun h => (.ref (R.ca h.c), h.nm, fun a cls d => tXs R a cls d h.nm h.st)
theorem hds_key {D : Ends} {B0 : Bn} {H0 : Hp} (F : Fr R B HB ow s.σ s.dr σV H) (Z : Zs z σV) (st0 : Stp B0 H0 (Ban B ow s.σ) H) (hl : IsL R (Ban B ow s.σ) H vs us) (he : ExcAt R H dd ns us) (xk : XfK R c) : ∀ {hs : List Hn},
    (∀ h ∈ hs, PySem.W.exmOne R.K (.ref (R.ca c)) (.ref (R.ca h.c)) = some (h.cs.contains c)) → (∀ h ∈ hs, Zo z h.nm ∧ ∀ i ∈ h.st.slot, Zo z i) →
    OutS R W z B HB B0 H0 (match pick c hs with
      | some h => h.run ns vs s
      | none => .ex c ns vs s) D → miW R.K W D (miL R hs) (.ref (R.ca c)) (some dd) σV H
  | [], _, _, o => o ow σV H us dd F Z st0 hl he
  | h :: hs, hm, hz, o => by
    refine ⟨h.cs.contains c, hm h List.mem_cons_self, fun hc a ha => ?_, fun hc => ?_⟩
    · unfold pick at o
      rw [if_pos hc] at o
      dsimp only at o
      unfold Hn.run at o
      split at o
      · rename_i hv
        obtain ⟨F1, l1⟩ := F.ems (v := some (.ref a)) hv.2
        have lt : h.nm < σV.length := by rw [F.len]; exact hv.1
        refine xs_is (s := { s with σ := s.σ.set h.nm .em }) F1 (Z.set (hz h List.mem_cons_self).1) (hz h List.mem_cons_self).1 (hz h List.mem_cons_self).2 (st0.trans (Stp.less l1)) (List.getElem?_set_self lt) ?_ (hl.less l1) he xk o
        rw [List.getD_eq_getElem?_getD, List.getElem?_set_self hv.1]
        rfl
      · exact o.elim
    · unfold pick at o
      rw [if_neg (by rw [hc]; decide)] at o
      exact hds_key F Z st0 hl he xk (fun g hg => hm g (List.mem_cons_of_mem _ hg)) (fun g hg => hz g (List.mem_cons_of_mem _ hg)) o
end
def ClsIs (X : Cx) (R : Rc) : List ExceptHandler → List Hn → Prop
  | [], [] => True
  | hd :: hds, h :: hs => HdI X R hd h ∧ ClsIs X R hds hs
  | _, _ => False
theorem hdis_mi : ∀ {hds : List ExceptHandler} {hs : List Hn}, ClsIs X R hds hs → MiHs X hds (miL R hs)
  | [], [], _ => .nil
  | [], _ :: _, h => h.elim
  | _ :: _, [], h => h.elim
  | hd :: hds, h :: hs, q => by
    obtain ⟨⟨x, n, np, pos', b₀, suite, rfl, h1, h2, h3, h4⟩, q2⟩ := q
    exact .cons h1 h2 h3 h4 (hdis_mi q2)
theorem s_try (C : Ct X R W N sc k) (S : Fs X so) (own : OwnFr X) {kn : List Nat} {hs : List Hn} (E : ExmI R kn hs) {body : List Stmt} {h0 : ExceptHandler} {hds : List ExceptHandler} {mb : Sm} (zo : ∀ h ∈ hs, Zo z h.nm ∧ ∀ i ∈ h.st.slot, Zo z i)
    (hb : ∀ (X' : Cx) (W' : WX), Ct X' R W' N sc k → Fs X' so → PassesOwn (model X'.prog X'.w) X'.A X'.env X'.xe → OwnFr X' → PSs X' body (tS R W' z mb)) (hh : ClsIs X R (h0 :: hds) hs) :
    PS X (.Try body (h0 :: hds) [] [] pos) (tS R W z (sTry kn mb hs)) := by
  refine (ps_mi_try own.1 own.2 (by rw [C.eN]; exact C.nd) C.tk (fun W' pn xe tk ps => hb (X.tr pn xe) W' ⟨C.prog, C.w, C.K, C.mg, C.base, C.eN, C.nd, C.esc, C.calm, C.room, tk, C.tx⟩ S ps own) (hdis_mi hh)).imp fun D σV H h => ?_
  obtain ⟨B, HB, ow, σ, dr, F, Z, h⟩ := h
  refine ⟨B, HB, ow, σ, dr, F, Z, ?_⟩
  unfold sTry at h
  cases e : mb ⟨σ, dr⟩ with
  | ex c ns vs s =>
    rw [e] at h
    dsimp only at h
    split at h
    · rename_i hc
      obtain ⟨xk, em⟩ := E c (List.contains_iff_mem.mp hc)
      intro ow1 σV1 H1 us dd F1 Z1 st1 hl he
      rw [C.K]
      exact hds_key F1 Z1 st1 hl he xk em zo h
    · exact h.elim
  | nx s => rw [e] at h; exact h
  | rt d s => rw [e] at h; exact h
  | bk s => rw [e] at h; exact h
  | ct s => rw [e] at h; exact h
  | no => rw [e] at h; exact h
/-! ### the forms of clauses -/
theorem c_set (C : Ct X R W N sc k) (S : Fs X so) {c : Nat} {cs : List Nat} {x y : Str} {ex : X2} {nm : Nat} {nN : Str} {np p1 pos' : Pos} (hm : R.mg x = some (.ref (R.ca c))) (hg : sc.names.lookup x = some .globalImplicit) (hdb : (x == ("__debug__" : Str)) = false) (hn : N[nm]? = some nN) (hnl : sc.names.lookup nN = some .local)
    (hi : N[i]? = some y) (hl : stB so sc y = true) (he : XE2 X R nm e ex) (hs : swapsWith e (some (.Name y p1)) pos.line X.env = pure false := by rfl) :
    HdI X R (.ExceptHandler (some (.Name x np)) (some nN) [.Assign [.Name y p1] e pos] pos') ⟨c, cs, nm, .set i ex⟩ := by
  obtain ⟨hlo, hf⟩ := st_of C S hl
  refine ⟨x, nN, np, pos', _, _, rfl, ⟨C.gl hg, hdb, .inl (by rw [C.mg]; exact hm)⟩, by rw [C.eN]; exact hn, by unfold Env.kindOf; rw [C.esc]; exact hnl, fun a oe cls d pn hz hfl => ?_⟩
  exact pss_one (ps_set (X := X.suite a ((a, oe) :: pn)) (i := i) (by show X.N.Nodup; rw [C.eN]; exact C.nd) (by show X.N[i]? = some y; rw [C.eN]; exact hi) hlo (he a oe cls d pn hz hfl) hs hf)
theorem c_ret (C : Ct X R W N sc k) {c : Nat} {cs : List Nat} {x : Str} {ex : X2} {nm : Nat} {nN : Str} {np pos' : Pos} (hm : R.mg x = some (.ref (R.ca c))) (hg : sc.names.lookup x = some .globalImplicit) (hdb : (x == ("__debug__" : Str)) = false) (hn : N[nm]? = some nN) (hnl : sc.names.lookup nN = some .local)
    (he : XE2 X R nm e ex) : HdI X R (.ExceptHandler (some (.Name x np)) (some nN) [.Return (some e) pos] pos') ⟨c, cs, nm, .ret ex⟩ := by
  refine ⟨x, nN, np, pos', _, _, rfl, ⟨C.gl hg, hdb, .inl (by rw [C.mg]; exact hm)⟩, by rw [C.eN]; exact hn, by unfold Env.kindOf; rw [C.esc]; exact hnl, fun a oe cls d pn hz hfl => ?_⟩
  exact pss_one (ps_ret (he a oe cls d pn hz hfl))
end
end Mi
set_option Elab.async false
set_option linter.all false
set_option maxRecDepth 100000
set_option maxHeartbeats 4000000
/-! Mi29: facts of exception classes in one. -/
namespace Mi
open PySem L2 PySem.Spec PyProof.Rows
structure ExF (R : Rc) (l : List Nat) (sub : Nat → Nat → Bool) : Prop where
  xf : ∀ c ∈ l, XfK R c
  exm : ∀ c ∈ l, ∀ h ∈ l, PySem.W.exmOne R.K (.ref (R.ca c)) (.ref (R.ca h)) = some (sub c h)
theorem exmI_of {R : Rc} {l kn : List Nat} {sub : Nat → Nat → Bool} {hs : List Hn} (E : ExF R l sub) (h : (kn.all fun c => l.contains c && hs.all fun h => l.contains h.c && (sub c h.c == h.cs.contains c)) = true) : ExmI R kn hs := by
  intro c hc
  have h1 := List.all_eq_true.mp h c hc
  rw [Bool.and_eq_true, List.contains_iff_mem] at h1
  refine ⟨E.xf c h1.1, fun g hg => ?_⟩
  have h2 := List.all_eq_true.mp h1.2 g hg
  rw [Bool.and_eq_true, List.contains_iff_mem, beq_iff_eq] at h2
  rw [E.exm c h1.1 g.c h2.1, h2.2]
end Mi
set_option Elab.async false
set_option linter.all false
set_option maxRecDepth 100000
set_option maxHeartbeats 4000000
/-! Mi30: walks over own instances: __iter__ gives iter(self.f). -/
namespace Mi
open PySem L2 PySem.Spec PyProof.Rows
abbrev titObj (t : Addr) : Obj := { cls := .type "tuple_iterator", data := .fields #[.ref t, .int 0 0] }
/-- a new tuple iterator, tracked -/
def TitO (t it : Addr) : HO := .ext fun h => h.get? it = some (titObj t)
theorem titO_ok {P : Program} {w : World} {H : Hp} {h : Heap} {t it : Addr} (e : h.get? it = some (titObj t)) : ObjOk P w H h it (TitO t it) := ⟨e, ⟨_, e⟩, fun _ _ p k => k _ p⟩
section
variable {prog : Program} {w : World} {A : Around} {E : Value → Shared → Prop} {s : Shared} {t : Addr} {items : Array Value}
theorem call_iter_tup {Q : Value → Shared → Prop} (ht : IsTup s.heap t items) (h : Q (.ref s.heap.objs.size) { s with heap := s.heap.push (titObj t) }) : wpAny (model prog w) A (call (.builtin "iter") [.ref t]) Q E s := by
  refine Calls.call_function_entry (by decide +kernel) (by decide +kernel) PySem.W.kdk_entry_iter (PySem.W.kdk_args_iter _) ?_
  unfold Builtin.«iter»
  refine wpAny_bind (m := someArgs "iter" 1 2 _) (wpAny_of_eq (a := [Value.ref t]) (by first | rfl | kernel_rfl!) ?_)
  show wpAny _ _ (pyIter (.ref t) >>= _) _ _ _
  refine wpAny_bind (wpAny_pyIter_tuple (show s.heap.IsTuple t items from ht) ?_)
  exact wpAny_pure ⟨_, rfl, h⟩
end
section
variable {X : Cx}
def rIterT (K : PySem.W.Frag) (n : Nat) : List V → Hp → VK → Prop := fun xs H Q => ∃ (t : Addr) (zs : List V), xs = [.ref t] ∧ SqT K H t zs ∧ ∀ it, H it = none → n ≤ it → Q (.ref it) (upd H it (TitO t it))
theorem call_iterT : CallR X (.builtin "iter") (rIterT X.K X.s_0.heap.objs.size) := by
  intro pins s σ H xs us Q I r h
  obtain ⟨t, zs, rfl, hq, q⟩ := h
  rw [Vals.ref1 r]
  obtain ⟨its, rv, pl, hz⟩ := I.tuple hq
  refine call_iter_tup pl ?_
  exact ⟨.ref s.heap.objs.size, _, I.laid (t' := s.toks) (fun b u e => Heap.get?_push_of_some _ e) (Nat.le_refl _) (titO_ok (Heap.get?_push_size _ rfl)), rfl, q _ (I.hok.fresh (Nat.le_refl _)) I.sz⟩
end
/-- a def run where the wish may tell of the state -/
theorem run_at {CX : CXT} {P : Program} {w : World} {K : PySem.W.Frag} {mg : Str → Option Value} {base : Heap} {k : Nat} {f : Addr} {name qual : Str} {params : Arguments} {body : List Stmt} {scope : Scope} {dV kV doc pm cdv ct oc : Value} {an od : Option Addr}
    {osl : Array (Option Value)} {N ps : List Str} {A : Around} {outer : List Env} {s : Shared} {H : Hp} {us : List Value} {vs : List V} {Q : VK} {E : XK} (lk : K.lookup f = some ⟨oc, od, .func (PySem.W.fnOf name qual params body scope dV kV doc pm an cdv ct), osl⟩) (hcd : PySem.W.codeIn K cdv qual = true) (S : FnScope N ps scope)
    (hl : vs.length = ps.length) (hr : Room (k + 1) A) (e0 : Env0 P w K mg base A outer s H) (hb : BindsTo s (PySem.W.fnOf name qual params body scope dV kV doc pm an cdv ct) ⟨us, []⟩ (ps.zip us)) (r : Vals vs us)
    (hbody : ∃ t, PSs (cxOf CX P w K mg base N qual scope f cdv A outer s H E) body t ∧ t { nx := fun _ H' => Q .non H', rt := Q } (L2.start N vs) H) :
    codeAny (model P w) A (.call (.ref f) ⟨us, []⟩) (CR CX outer P w H s Q E) s := by
  have KX : K.In s.heap := e0.mod.kin.keeps fun b o e => (e0.bs b o e).1
  have lim : s.heap.NoLimit := e0.mod.nolimit.keeps fun b o e => (e0.bs b o e).1
  have kinds : ∀ y ∈ ps.zip us, scope.names.lookup y.1 = some .local ∨ (scope.names.lookup y.1 = some .cell ∧ ((cellsFrom (s.heap.objs.size + 1) scope.names []).lookup y.1).isSome = true) := fun y hy => by
    rcases S.par y.1 (List.of_mem_zip (a := y.1) (b := y.2) hy).1 with q | q
    · exact .inl q
    · exact .inr ⟨q, PySem.W.cellsFrom_some _ _ _ (.inl q)⟩
  refine codeAny_call_function hr.depth (KX _ _ lk) rfl S.co S.gen rfl (PySem.W.codeRec_of KX hcd) (hb _ _ _ _ ?_)
  refine wpAny_newFunctionEnv_cells S.kind kinds fun env he s1 x => ?_
  subst he
  refine ⟨lim.keeps x.toInCall.keep, codeAny_func ?_⟩
  obtain ⟨t, ht, hq⟩ := hbody
  have I : Inv (cxOf CX P w K mg base N qual scope f cdv A outer s H E) [] (L2.start N vs) H s1 := inv_start S hr.hd e0 hl r x
  refine wpAny_mono (ht.run [] s1 _ H _ I hq) (fun fl s' hs => ?_) fun e s' hs => hs
  cases fl with
  | ret u =>
    obtain ⟨v, σ', H', J, rv, q⟩ := hs
    exact ⟨v, H', J.os, J.bare, J.base, J.hok, rv, q⟩
  | next =>
    obtain ⟨σ', H', J, q⟩ := hs
    exact ⟨.non, H', J.os, J.bare, J.base, J.hok, rfl, q⟩
  | brk =>
    obtain ⟨_, _, _, q⟩ := hs
    exact False.elim q
  | cont =>
    obtain ⟨_, _, _, q⟩ := hs
    exact False.elim q
end Mi
set_option Elab.async false
set_option linter.all false
set_option maxRecDepth 100000
set_option maxHeartbeats 4000000
/-! Mi31: for x in o, o an own instance whose __iter__ gives iter(self.f). -/
namespace Mi
open PySem L2 PySem.Spec PyProof.Rows
def wOwn (tab : List (Nat × Nat)) (x : M D) : M Wk := fun s => (x s).then fun x s => match x with
  | .ins c ns vs => match tab.lookup c with
    | some n => match lookA ns vs n with
      | some (.tup xs) => .ok ⟨xs, none⟩ s
      | _ => .no
    | none => .no
  | _ => .no
theorem n_own (tab : List (Nat × Nat)) (m : M D) : ∀ s k s', wOwn tab m s = .ok k s' → k.sl = none := fun s k s' h => by
  obtain ⟨x, _, e, h⟩ := then_ok h
  cases x <;> (try (cases h; done))
  dsimp only at h
  split at h
  · split at h
    · cases h; rfl
    · cases h
  · cases h
def tIt (X : Cx) (R : Rc) (W : WX) (m : M D) : TE := fun σV H Q => ∃ (B : Bn) (HB : Hp) (ow : Ow) (σ : List SV) (dr : List Int), Fr R B HB ow σ dr σV H ∧ Out R W B HB (Ban B ow σ) H σV (m ⟨σ, dr⟩) fun d s ow' H' =>
  ∃ xs, d = .tup xs ∧ ∀ t it, Is R (Ban B ow' s.σ) H' d (.ref t) → H' it = none → X.s_0.heap.objs.size ≤ it → Q (.ref it) (upd H' it (TitO t it))
def ItI (R : Rc) (c n k : Nat) : Prop := R.sl c = true ∧ ∃ (g : Addr) (fd : FuncData) (name qual : Str) (params : Arguments) (body : List Stmt) (scope : Scope) (ps N : List Str), PySem.W.findIn R.K (.ref (R.ca c)) "__iter__" = some (some (.ref g)) ∧ PySem.W.isFn R.K (.ref g) = true ∧
  FunD R.K name qual params body scope [] [] g fd ∧ FnScope N ps scope ∧ ps.length = 1 ∧ Binds R.K fd ps [] ∧ ∀ (X : Cx) (W : WX), Ct X R W N scope k → PSs X body (fun D σV H => tIt X R W (mAtt n (mV 0)) σV H D.rt)
section
variable {X : Cx} {R : Rc} {W : WX} {N : List Str} {sc : Scope} {k kf : Nat} {a e : Expr} {ma : M D} {pos p : Pos} {tg : Expr}
theorem m_iter (C : Ct X R W N sc k) (bl : Bl R) (hg : sc.names.lookup ("iter" : Str) = some .globalImplicit) (hbv : bootBuiltins ("iter" : Str) = some (.builtin "iter")) (h1 : PE X a (tE R W ma)) (hs : starEach [a] X.env = [(false, eval a X.env)] := by rfl) :
    PE X (.Call (.Name ("iter" : Str) p) [a] [] pos) (tIt X R W ma) := by
  refine (pe_callB call_iterT (C.gl hg) (by rw [C.mg]; exact bl.no _ (by simp)) hbv (pa_cons h1 pa_nil hs) (by decide) (by decide) hs rfl).imp fun σV H Q h => ?_
  obtain ⟨B, HB, ow, σ, dr, F, h⟩ := h
  refine ⟨B, HB, ow, σ, dr, F, Out.mono h fun x s ow1 H1 F1 st1 h1 v hv => ?_⟩
  obtain ⟨xs, rfl, q⟩ := h1
  have hv' := hv
  unfold Is at hv'
  obtain ⟨t, vs, rfl, nb, ha, hl⟩ := hv'
  exact ⟨t, vs, rfl, SqT.of ha, fun it h2 h3 => q t it hv h2 h3⟩
theorem w_own (C : Ct X R W N sc k) {tab : List (Nat × Nat)} (T : ∀ c n, tab.lookup c = some n → ItI R c n kf) (hk : kf + 1 ≤ k) (h1 : PE X a (tE R W ma)) : PI X tg a (tW R W (wOwn tab ma)) := by
  refine ⟨fun pins s σV H Rr I h => ?_⟩
  obtain ⟨B, HB, ow, σ, dr, F, h⟩ := h
  let K1 : VK := fun v H1 => ∃ (x : Addr) (c n : Nat) (dx : Addr) (ws : List (Option V)) (Bn0 : Bn) (ns : List Nat) (vs xs : List D) (dr1 : List Int), v = .ref x ∧ SlX.Slt H1 x (R.ca c) dx ws ∧ ItI R c n kf ∧ Is R Bn0 H1 (.ins c ns vs) (.ref x) ∧ Live Bn0 H1 ∧ (R.hd = true → Bn0 R.dr) ∧ DrAt R H1 dr1 ∧
    lookA ns vs n = some (.tup xs) ∧ ∀ H2 t, Kp R H1 H2 → DrAt R H2 dr1 → Is R Bn0 H2 (.tup xs) (.ref t) → Rr (Itt X.K t) H2
  have h' : tE R W ma σV H K1 := by
    refine ⟨B, HB, ow, σ, dr, F, Out.mono (Out.bind h) fun d s1 ow1 H1 F1 st1 h1 v hv => ?_⟩
    cases d with
    | ins c ns vs =>
      dsimp only at h1
      split at h1
      · rename_i n hn
        split at h1
        · rename_i xs hx
          have hI := T c n hn
          have hv0 := hv
          obtain ⟨x, dx, ws, us, rfl, q1, _⟩ := inst_slt hv hI.1
          refine ⟨x, c, n, dx, ws, _, ns, vs, xs, s1.dr, rfl, q1, hI, hv0, F1.liveB, fun w => .inl (F1.drB w), F1.drs, hx, fun H2 t k1 k2 his => ?_⟩
          obtain ⟨F2, st2⟩ := F1.after (dr' := s1.dr) k1 k2
          exact h1 ow1 H2 F2 st2 _ ⟨.tup xs, .ref t, fun _ => his, fun _ _ z => (nomatch z), fun B' H' hp lv => goes_tup hp⟩
        · exact h1.elim
      · exact h1.elim
    | _ => exact h1.elim
  refine thn (h1.run pins s σV H K1 I h') fun u s1 ⟨v, H1, I1, ru, x, c, n, dx, ws, Bn0, ns, vs, xs, dr1, ev, hsl, hI, his, lv, hB, hdr, hx, q⟩ => ?_
  subst ev
  obtain rfl : u = Value.ref x := ru
  obtain ⟨hs, g, fd, name, qual, params, body, scope, ps, Ni, hat, hf, FD, S, hps, hb, hbody⟩ := hI
  obtain ⟨oc, od, dV, kV, doc, pm, an, cdv, ct, osl, rfl, lk, hcd, _, _⟩ := FD.ex
  obtain ⟨sl, od2, _, J, _⟩ := SlX.slt_inst I1 hsl
  obtain ⟨m, hF⟩ := I1.fr
  rw [← C.K] at hat hf hb lk hcd
  refine PySem.W.owit_iter hF I1.ok.mod.kin J hat hf ?_
  let Q1 : VK := fun v H' => ∃ (it t : Addr) (H2 : Hp), v = .ref it ∧ H2 it = none ∧ s1.heap.objs.size ≤ it ∧ H' = upd H2 it (TitO t it) ∧ Kp R H1 H2 ∧ DrAt R H2 dr1 ∧ Is R Bn0 H2 (.tup xs) (.ref t)
  have hl : ([V.ref x] : List V).length = ps.length := by rw [hps]; rfl
  have bind : BindsTo s1 (PySem.W.fnOf name qual params body scope dV kV doc pm an cdv ct) ⟨[.ref x], []⟩ (ps.zip [.ref x]) := by
    have := hb s1 [.ref x] I1.kIn (by simpa using hps.symm)
    simpa using this
  refine wpAny_call (codeAny_mono (run_at (CX := L2.CX X.prog X.w) (N := Ni) (vs := [V.ref x]) (Q := Q1) (E := fun _ _ _ => False) lk hcd S hl (C.room.mono hk) I1.env0 bind (.cons rfl .nil) ?_) fun res s' hq => ?_)
  · refine ⟨_, hbody _ (fun _ _ _ _ => False) ?_, ?_⟩
    · exact ⟨C.prog, C.w, C.K, C.mg, C.base, rfl, S.nd, rfl, rfl, (C.room.mono hk).deeper _, takes_of rfl rfl rfl rfl, C.tx⟩
    · have fr : Fr R Bn0 H1 (fun _ => (0, 0)) (s0 1 Ni.length [.ins c ns vs]) dr1 (L2.start Ni [.ref x]) H1 := fr_start (IsL.cons his IsL.nil) lv hB hdr rfl rfl
      refine ⟨Bn0, H1, _, _, dr1, fr, ?_⟩
      have ev : mAtt n (mV 0) ⟨s0 1 Ni.length [.ins c ns vs], dr1⟩ = .ok (.tup xs) ⟨s0 1 Ni.length [.ins c ns vs], dr1⟩ := by
        unfold mAtt mV s0
        dsimp only [List.map, List.cons_append, List.getElem?_cons_zero, Res.then]
        rw [hx]
        rfl
      rw [ev]
      intro ow2 H2 F2 st2
      refine ⟨xs, rfl, fun t it ht hn hle => ⟨it, t, H2, rfl, hn, hle, rfl, F2.hold, F2.drs, ht.less fun b w => .inl w⟩⟩
  · cases res with
    | error er =>
      obtain ⟨_, _, _, _, _, _, _, _, _, _, _, _, z⟩ := hq
      exact z.elim
    | ok fl =>
      cases fl with
      | ret u =>
        obtain ⟨v, H', I', rv, it, t, H2, rfl, hn, hle, rfl, k1, k2, his2⟩ := I1.after hq
        obtain rfl : u = Value.ref it := rv
        have at1 : upd H2 it (TitO t it) it = some (TitO t it) := upd_same
        have ho : s'.heap.get? it = some (titObj t) := (I'.hok it _ at1).1
        have I2 := ItX.inv_drop I' at1
        have fp := ItX.inv_fp I' at1 (Nat.le_trans I1.sz hle)
        rw [ItX.dropH_upd hn] at I2 fp
        unfold PySem.W.OwitIt
        refine wpAny_specialOf (name := Str.ofString "__next__") (T := "tuple_iterator") ⟨_, ho, rfl⟩ PySem.F.slot_tuple_iterator_next.lookup ?_
        refine ⟨it, [it], _, _, H2, rfl, I2, turn_tuple t _, ⟨_, ho, rfl, rfl⟩, fun b hb => ?_, q H2 t k1 k2 his2⟩
        obtain rfl : b = it := by simpa using hb
        exact fp
      | _ => exact hq.elim
end
end Mi
set_option Elab.async false
set_option linter.all false
set_option maxRecDepth 100000
set_option maxHeartbeats 4000000
/-! Mi32: a Hook: defs by a path of one's own, and a Bool of the written part. -/
namespace Mi
open PySem L2 PySem.Spec PyProof.Rows
structure DefM where
  ad : PySem.W.Frag → Addr
  name : Str
  qual : Str
  params : Arguments
  body : List Stmt
  scope : Scope
  dfl : List He.Dv := []
  kwd : List (Str × He.Dv) := []
def fnM (K : PySem.W.Frag) (a : Addr) : He.FnW := match K.lookup a with
  | some ⟨_, _, .func fd, _⟩ => some (fd.name, fd.qualname, fd.params, fd.body, fd.scope, fd.globals, fd.closure, fd.builtins)
  | _ => none
def DefM.val (d : DefM) : He.FnW := some (d.name, d.qual, d.params, .stmts d.body, d.scope, mainGlobals, [], builtinsNs)
def DefM.dvs (K : PySem.W.Frag) (d : DefM) : List V := d.dfl.map (He.Dv.v K)
def DefM.kws (K : PySem.W.Frag) (d : DefM) : List (Str × V) := d.kwd.map fun q => (q.1, q.2.v K)
def DefM.ok (K : PySem.W.Frag) (d : DefM) : Bool := PySem.W.keepIn K (.ref (d.ad K)) && (match K.lookup (d.ad K) with
  | some ⟨_, _, .func fd, _⟩ => PySem.W.codeIn K fd.code d.qual && (He.dflB K fd.defaults (d.dvs K) && He.kwdB K fd.kwdefaults (d.kws K))
  | _ => false)
theorem DefM.funD {K : PySem.W.Frag} {d : DefM} (e : fnM K (d.ad K) = d.val) (c : d.ok K = true) : ∃ fd, FunD K d.name d.qual d.params d.body d.scope (d.dvs K) (d.kws K) (d.ad K) fd := by
  obtain ⟨kp, c2⟩ := He.ba c
  unfold fnM at e
  cases q : K.lookup (d.ad K) with
  | none => rw [q] at c2; cases c2
  | some o =>
    obtain ⟨oc, od, dt, osl⟩ := o
    rw [q] at c2 e
    cases dt with
    | func fd =>
      obtain ⟨n1, n2, n3, n4, n5, n6, n7, n8, n9, n10, n11, n12, n13, n14, n15⟩ := fd
      have e2 : (some (n1, n2, n3, n4, n5, n6, n7, n15) : He.FnW) = some (d.name, d.qual, d.params, .stmts d.body, d.scope, mainGlobals, [], builtinsNs) := e
      simp only [Option.some.injEq, Prod.mk.injEq] at e2
      obtain ⟨h1, h2, h3, h4, h5, h6, h7, h8⟩ := e2
      subst h1 h2 h3 h4 h5 h6 h7 h8
      obtain ⟨k1, k2⟩ := He.ba (show (PySem.W.codeIn K n13 d.qual && (He.dflB K n8 (d.dvs K) && He.kwdB K n9 (d.kws K))) = true from c2)
      obtain ⟨k3, k4⟩ := He.ba k2
      exact ⟨_, ⟨oc, od, n8, n9, n10, n11, n12, n13, n14, osl, rfl, q, k1, He.dflB_ok k3, He.kwdB_ok k4⟩, kp⟩
    | _ => cases c2
abbrev AlM : Type := Bool × List He.FnW
def obsM (ex : PySem.W.Frag → Bool) (fn : List DefM) (K : PySem.W.Frag) : AlM := (ex K && fn.all fun d => d.ok K, fn.map fun d => fnM K (d.ad K))
def valM (fn : List DefM) : AlM := (true, fn.map DefM.val)
def SaysM (ex : PySem.W.Frag → Bool) (fn : List DefM) (K : PySem.W.Frag) : Prop := obsM ex fn K = valM fn
def obsMG (n : Nat) (ex : PySem.W.Frag → Bool) (fn : List DefM) (g : Addr → Option Obj) : AlM := obsM ex fn (He.frG g (cStatics :: He.asD g n))
def hookM (n : Nat) (ex : PySem.W.Frag → Bool) (fn : List DefM) : PySem.W.Hook where
  α := AlM
  obs := fun s => obsMG n ex fn s.heap.get?
  val := fun _ => valM fn
  says := fun _ h => ∃ K : PySem.W.Frag, K.In h ∧ SaysM ex fn K
  of := fun _ _ e => ⟨_, He.frG_in, e⟩
  keeps := fun _ _ _ ⟨K, hK, c⟩ k => ⟨K, PySem.W.Frag.In.keeps hK k, c⟩
theorem obsMG_eq {n : Nat} {ex : PySem.W.Frag → Bool} {fn : List DefM} {g : Addr → Option Obj} {s : Shared} (h : ∀ a, g a = s.heap.get? a) : obsMG n ex fn g = (hookM n ex fn).obs s := by
  have e : g = s.heap.get? := funext h
  rw [e] <;> rfl
section
variable {ex : PySem.W.Frag → Bool} {fn : List DefM} {K : PySem.W.Frag}
theorem SaysM.exB (c : SaysM ex fn K) : ex K = true := (He.ba (show (ex K && fn.all fun d => d.ok K) = true from congrArg (fun z : AlM => z.1) c)).1
theorem SaysM.def_ (c : SaysM ex fn K) (i : Nat) {d : DefM} (h : fn[i]? = some d := by rfl) : ∃ fd, FunD K d.name d.qual d.params d.body d.scope (d.dvs K) (d.kws K) (d.ad K) fd := by
  have c2 := (He.ba (show (ex K && fn.all fun d => d.ok K) = true from congrArg (fun z : AlM => z.1) c)).2
  have e : fn.map (fun d => fnM K (d.ad K)) = fn.map DefM.val := congrArg (fun z : AlM => z.2) c
  have e2 : (fn.map fun d => fnM K (d.ad K))[i]? = (fn.map DefM.val)[i]? := by rw [e]
  rw [List.getElem?_map, List.getElem?_map, h] at e2
  exact DefM.funD (Option.some.inj e2) (List.all_eq_true.mp c2 d (List.mem_of_getElem? h))
end
end Mi
set_option Elab.async false
set_option linter.all false
set_option maxRecDepth 100000
set_option maxHeartbeats 4000000
/-! Mi33: class facts as Bools of the written part. -/
namespace Mi
open PySem L2 PySem.Spec PyProof.Rows
section
variable {K : PySem.W.Frag} {C : Addr}
/-- an exception class of ours -/
def exkB (K : PySem.W.Frag) (C : Addr) : Bool := (match K.lookup C with
  | some ⟨.type "type", _, .cls cd, sl⟩ => (match cd.mro, sl.toList with
    | .ref C' :: bm, [_, _, _, _, some (.builtin n), _] => C' == C && (n == "Exception.__new__" && (!cd.hasDel && (cd.hasDict && PySem.MiX.own bm)))
    | _, _ => false)
  | _ => false) && (decide (PySem.W.findIn K (.ref C) "__setattr__" = some (some (.builtin "object.__setattr__"))) && (decide (PySem.W.subIn K (.ref C) (.type "BaseException") = some true) && (decide (PySem.W.typeIn K (.ref C) = some (.type "type")) && PySem.W.keepIn K (.ref C))))
theorem exkB_ok (h : exkB K C = true) : ExK K C := by
  obtain ⟨h1, h2⟩ := He.ba h
  obtain ⟨h2, h3⟩ := He.ba h2
  obtain ⟨h3, h4⟩ := He.ba h3
  obtain ⟨h4, h5⟩ := He.ba h4
  refine ⟨?_, of_decide_eq_true h2, of_decide_eq_true h3, of_decide_eq_true h4, h5⟩
  split at h1
  · rename_i dd cd sl ho
    split at h1
    · rename_i C' bm k0 k1 k2 k3 n k5 hm hs
      simp only [Bool.and_eq_true, beq_iff_eq, Bool.not_eq_true'] at h1
      obtain ⟨rfl, rfl, hdel, hdict, ht⟩ := h1
      obtain ⟨nm, bs, mro, ns, qn, hd, sn, sub, ab, col, del⟩ := cd
      dsimp only at hm hdel hdict
      subst hm hdel hdict
      have hsl : sl = #[k0, k1, k2, k3, some (.builtin "Exception.__new__"), k5] := by
        obtain ⟨l⟩ := sl
        simp only at hs
        rw [hs]
      subst hsl
      exact ⟨nm, qn, ns, bs, bm, sn, sub, ab, col, dd, k0, k1, k2, k3, k5, ho, ht⟩
    · cases h1
  · cases h1
def sclsB (K : PySem.W.Frag) (C : Addr) : Bool := PySem.W.plainGet K C Str.empty && (PySem.W.isClsIn K C && (PySem.W.plainOver K C && decide (PySem.W.findIn K (.ref C) "__setattr__" = some (some (.builtin "object.__setattr__")))))
theorem sclsB_ok (h : sclsB K C = true) : SlX.SCls K C := by
  obtain ⟨h1, h2⟩ := He.ba h
  obtain ⟨h2, h3⟩ := He.ba h2
  obtain ⟨h3, h4⟩ := He.ba h3
  exact ⟨h1, h2, h3, of_decide_eq_true h4⟩
/-- the attribute f stands in the slot i -/
def slotB (K : PySem.W.Frag) (C : Addr) (f : Str) (i : Nat) : Bool := decide (PySem.W.findIn K (.ref C) f = some (some (.ref (He.ma K C f)))) && (decide (PySem.W.specialIn K (.ref (He.ma K C f)) "__get__" = some (some (.builtin "member_descriptor.__get__"))) &&
  (decide (PySem.W.takesIn K (.ref (He.ma K C f)) = some true) && (decide (PySem.W.typeIn K (.ref (He.ma K C f)) = some (.type "member_descriptor")) && decide (PySem.W.slotIn K (He.ma K C f) C = some i))))
def isiB (K : PySem.W.Frag) (C : Addr) : Bool := decide (PySem.W.findIn K (.ref C) "__class__" = some (some (.builtin "object.__class__"))) && (decide (PySem.W.specialIn K (.builtin "object.__class__") "__get__" = some (some (.builtin "getset_descriptor.__get__"))) &&
  (decide (PySem.W.takesIn K (.builtin "object.__class__") = some true) && decide (PySem.W.mroIn K C (.type "object") = some true)))
theorem isiB_ok (h : isiB K C = true) : SlX.SIsi K C := by
  obtain ⟨h1, h2⟩ := He.ba h
  obtain ⟨h2, h3⟩ := He.ba h2
  obtain ⟨h3, h4⟩ := He.ba h3
  exact ⟨of_decide_eq_true h1, of_decide_eq_true h2, of_decide_eq_true h3, of_decide_eq_true h4⟩
def kitB1 (K : PySem.W.Frag) (C : Addr) : Bool := (["NoneType", "bool", "int", "str", "tuple", "list"].all fun t => decide (PySem.W.kitOne K (.type t) (.ref C) = some false)) && (decide (PySem.W.kitOne K (.ref C) (.ref C) = some true) && ["int", "bool", "tuple", "list", "str"].all fun t => decide (PySem.W.kitOne K (.ref C) (.type t) = some false))
theorem kitB1_ok (h : kitB1 K C = true) : ((∀ t : String, t ∈ ["NoneType", "bool", "int", "str", "tuple", "list"] → PySem.W.kitOne K (.type t) (.ref C) = some false) ∧ PySem.W.kitOne K (.ref C) (.ref C) = some true) ∧ ∀ t : String, t ∈ ["int", "bool", "tuple", "list", "str"] → PySem.W.kitOne K (.ref C) (.type t) = some false := by
  obtain ⟨h1, h2⟩ := He.ba h
  obtain ⟨h2, h3⟩ := He.ba h2
  exact ⟨⟨fun t ht => of_decide_eq_true (List.all_eq_true.mp h1 t ht), of_decide_eq_true h2⟩, fun t ht => of_decide_eq_true (List.all_eq_true.mp h3 t ht)⟩
def cmB (K : PySem.W.Frag) (C : Addr) (mc : Value) (m : Str) : Bool := (match PySem.W.findCls K (.ref C) mc m with
  | some (.get (.builtin id) (.ref p) .none (.ref C')) => id == "classmethod.__get__" && (p == He.ma K C m && C' == C)
  | _ => false) && ((match PySem.W.recIn K (He.ma K C m) "classmethod" with
  | some (.ref g :: _) => g == cmF K (He.ma K C m)
  | _ => false) && PySem.W.fnIn K (cmF K (He.ma K C m)))
theorem cmB_ok {mc : Value} {m : Str} (h : cmB K C mc m = true) : ClX.CMet K C mc m (He.ma K C m) (cmF K (He.ma K C m)) := by
  obtain ⟨h1, h2⟩ := He.ba h
  obtain ⟨h2, h3⟩ := He.ba h2
  refine ⟨?_, ?_, h3⟩
  · split at h1
    · rename_i id p C' e
      rw [e]
      obtain ⟨a, b⟩ := He.ba h1
      obtain ⟨b, c⟩ := He.ba b
      rw [beq_iff_eq.mp a, beq_iff_eq.mp b, beq_iff_eq.mp c]
    · cases h1
  · split at h2
    · rename_i g r e
      exact ⟨r, by rw [← beq_iff_eq.mp h2]; exact e⟩
    · cases h2
/-- a property's record -/
def prB (K : PySem.W.Frag) (C : Addr) (m : Str) : Bool := decide (PySem.W.findIn K (.ref C) m = some (some (.ref (He.ma K C m)))) && (decide (PySem.W.specialIn K (.ref (He.ma K C m)) "__get__" = some (some (.builtin "property.__get__"))) &&
  (decide (PySem.W.takesIn K (.ref (He.ma K C m)) = some true) && (match PySem.W.recIn K (He.ma K C m) "property" with
  | some (.ref g :: _) => g == prF K (He.ma K C m)
  | _ => false)))
theorem prB_ok {m : Str} (h : prB K C m = true) : PySem.W.findIn K (.ref C) m = some (some (.ref (He.ma K C m))) ∧ PySem.W.specialIn K (.ref (He.ma K C m)) "__get__" = some (some (.builtin "property.__get__")) ∧ PySem.W.takesIn K (.ref (He.ma K C m)) = some true ∧
    ∃ rest, PySem.W.recIn K (He.ma K C m) "property" = some (.ref (prF K (He.ma K C m)) :: rest) := by
  obtain ⟨h1, h2⟩ := He.ba h
  obtain ⟨h2, h3⟩ := He.ba h2
  obtain ⟨h3, h4⟩ := He.ba h3
  refine ⟨of_decide_eq_true h1, of_decide_eq_true h2, of_decide_eq_true h3, ?_⟩
  split at h4
  · rename_i g r e
    exact ⟨r, by rw [← beq_iff_eq.mp h4]; exact e⟩
  · cases h4
theorem slotB_ok {f : Str} {i : Nat} (h : slotB K C f i = true) (hc : i < 1000 := by decide) : SlX.Slot1 K C f (He.ma K C f) i := by
  obtain ⟨h1, h2⟩ := He.ba h
  obtain ⟨h2, h3⟩ := He.ba h2
  obtain ⟨h3, h4⟩ := He.ba h3
  obtain ⟨h4, h5⟩ := He.ba h4
  constructor <;> first
  | exact of_decide_eq_true h1
  | exact of_decide_eq_true h2
  | exact of_decide_eq_true h3
  | exact of_decide_eq_true h4
  | exact of_decide_eq_true h5
  | exact hc
end
end Mi
set_option Elab.async false
set_option linter.all false
set_option maxRecDepth 100000
set_option maxHeartbeats 4000000
/-! Mi34: plain laws: comprehensions and loops on data. -/
namespace Mi
/-! ### slots -/
theorem wipeS_at : ∀ (vs : List Nat) (σ : List SV) (j : Nat), j ∉ vs → (wipeS σ vs)[j]? = σ[j]?
  | [], _, _, _ => rfl
  | v :: vs, σ, j, h => by
    show ((wipeS σ vs).set v .em)[j]? = _
    have ne : v ≠ j := fun e => h (by rw [e]; exact List.mem_cons_self)
    rw [List.getElem?_set_ne ne, wipeS_at vs σ j fun m => h (List.mem_cons_of_mem _ m)]
theorem backS_at (σ0 : List SV) : ∀ (vs : List Nat) (σ : List SV) (j : Nat), σ.length = σ0.length → (backS σ0 σ vs)[j]? = if j ∈ vs then σ0[j]? else σ[j]?
  | [], _, _, _ => by simp [backS]
  | v :: vs, σ, j, hl => by
    show ((backS σ0 σ vs).set v (σ0.getD v .em))[j]? = _
    by_cases e : v = j
    · subst e
      by_cases hv : v < σ.length
      · rw [List.getElem?_set_self (by rw [backS_len]; exact hv)]
        simp [List.getD_eq_getElem?_getD, List.getElem?_eq_getElem (hl ▸ hv : v < σ0.length)]
      · rw [List.getElem?_eq_none (by rw [List.length_set, backS_len]; omega)]
        simp [List.getElem?_eq_none (show σ0.length ≤ v by omega)]
    · rw [List.getElem?_set_ne e, backS_at σ0 vs σ j hl]
      have : (j ∈ v :: vs) ↔ j ∈ vs := by
        rw [List.mem_cons]
        exact ⟨fun z => z.resolve_left fun z => e z.symm, .inr⟩
      simp only [this]
theorem back_eq {σ0 σ : List SV} {vs : List Nat} (h : wipeS σ vs = wipeS σ0 vs) : backS σ0 σ vs = σ0 := by
  have hl : σ.length = σ0.length := by have := congrArg List.length h; rwa [wipeS_len, wipeS_len] at this
  apply List.ext_getElem?
  intro j
  rw [backS_at σ0 vs σ j hl]
  by_cases e : j ∈ vs
  · rw [if_pos e]
  · rw [if_neg e, ← wipeS_at vs σ j e, h, wipeS_at vs σ0 j e]
/-! ### comprehensions -/
/-- a turn that leaves the draws -/
def TurnP (vs : List Nat) (g : Tg) (t : M Bool) (el : M D) (W : List SV) (dr : List Int) (x : D) (o : Option D) : Prop :=
  ∃ σ1, bindT g x W = some σ1 ∧ wipeS σ1 vs = W ∧ freeS σ1 vs = true ∧ ((o = none ∧ t ⟨σ1, dr⟩ = .ok false ⟨σ1, dr⟩) ∨ ∃ d, o = some d ∧ t ⟨σ1, dr⟩ = .ok true ⟨σ1, dr⟩ ∧ el ⟨σ1, dr⟩ = .ok d ⟨σ1, dr⟩)
theorem compL_map {α : Type} {vs : List Nat} {g : Tg} {t : M Bool} {el : M D} {W : List SV} {dr : List Int} {F : α → D} {p : α → Bool} {h : α → D} : ∀ {ks : List α} {acc : List D} {σ : List SV},
    wipeS σ vs = W → freeS σ vs = true → acc.length + ks.length ≤ line → (∀ k ∈ ks, TurnP vs g t el W dr (F k) (if p k then some (h k) else none)) →
    ∃ σ', compL vs none (turnC vs g t el) (ks.map F) acc ⟨σ, dr⟩ = .ok (acc ++ (ks.filter p).map h) ⟨σ', dr⟩ ∧ wipeS σ' vs = W ∧ freeS σ' vs = true
  | [], acc, σ, hW, hf, _, _ => ⟨σ, by simp [compL, Lent], hW, hf⟩
  | k :: ks, acc, σ, hW, hf, hn, ht => by
    obtain ⟨σ1, hb, hw1, hf1, hr⟩ := ht k List.mem_cons_self
    have hn' : acc.length + (ks.length + 1) ≤ line := hn
    have hrest := fun k' hk' => ht k' (List.mem_cons_of_mem _ hk')
    rcases hr with ⟨ho, h1⟩ | ⟨d, ho, h1, h2⟩
    · cases hp : p k with
      | true => rw [hp] at ho; cases ho
      | false =>
        obtain ⟨σ', q1, q2⟩ := compL_map (ks := ks) (acc := acc) hw1 hf1 (by omega) hrest
        refine ⟨σ', ?_, q2⟩
        rw [List.map_cons, compL]
        simp only [Lent, if_true, turnC, hW, hb, h1, Res.then, hf1]
        rw [q1]
        simp [hp]
    · cases hp : p k with
      | false => rw [hp] at ho; cases ho
      | true =>
        rw [hp] at ho
        cases ho
        obtain ⟨σ', q1, q2⟩ := compL_map (ks := ks) (acc := acc ++ [h k]) hw1 hf1 (by rw [List.length_append]; show acc.length + 1 + ks.length ≤ line; omega) hrest
        refine ⟨σ', ?_, q2⟩
        rw [List.map_cons, compL]
        simp only [Lent, if_true, turnC, hW, hb, h1, h2, Res.then, hf1]
        rw [if_pos ⟨by omega, trivial⟩, q1]
        simp [hp]
/-- a comprehension over a walk that is known, draws untouched -/
theorem comp_map {α : Type} (ks : List α) (F : α → D) (p : α → Bool) (h : α → D) {vs : List Nat} {g : Tg} {w : M Wk} {t : M Bool} {el : M D} {s : S} (hw : w s = .ok ⟨ks.map F, none⟩ s) (hf : freeS s.σ vs = true) (hn : ks.length ≤ line)
    (ht : ∀ k ∈ ks, TurnP vs g t el (wipeS s.σ vs) s.dr (F k) (if p k then some (h k) else none)) : mComp vs g w t el s = .ok (.lst ((ks.filter p).map h)) s := by
  obtain ⟨σ', q1, q2, q3⟩ := compL_map (ks := ks) (acc := []) (σ := s.σ) rfl hf (by simpa using hn) ht
  unfold mComp
  rw [hw]
  simp only [Res.then, LendOk, lendO, unlendO, hf]
  rw [if_pos ⟨trivial, trivial⟩, q1]
  simp [back_eq q2]
/-- .. all taken -/
theorem comp_all {α : Type} (ks : List α) (F : α → D) (h : α → D) {vs : List Nat} {g : Tg} {w : M Wk} {t : M Bool} {el : M D} {s : S} (hw : w s = .ok ⟨ks.map F, none⟩ s) (hf : freeS s.σ vs = true) (hn : ks.length ≤ line)
    (ht : ∀ k ∈ ks, TurnP vs g t el (wipeS s.σ vs) s.dr (F k) (some (h k))) : mComp vs g w t el s = .ok (.lst (ks.map h)) s := by
  have q := comp_map ks F (fun _ => true) h (t := t) (el := el) hw hf hn (by simpa using ht)
  rw [List.filter_eq_self.mpr fun _ _ => rfl] at q
  exact q
/-- a comprehension whose turns draw -/
theorem compL_dr {α : Type} {vs : List Nat} {g : Tg} {t : M Bool} {el : M D} {W : List SV} {F : α → D} {Q : D → Prop} : ∀ {ks : List α} {acc : List D} {σ : List SV} {dr : List Int},
    wipeS σ vs = W → freeS σ vs = true → acc.length + ks.length ≤ line → (∀ k ∈ ks, ∀ dr, ∃ σ1, bindT g (F k) W = some σ1 ∧ wipeS σ1 vs = W ∧ freeS σ1 vs = true ∧ ∃ dr1, (t ⟨σ1, dr⟩ = .ok false ⟨σ1, dr1⟩ ∨ (t ⟨σ1, dr⟩ = .ok true ⟨σ1, dr1⟩ ∧ ∃ d dr2, el ⟨σ1, dr1⟩ = .ok d ⟨σ1, dr2⟩ ∧ Q d))) →
    ∃ σ' dr' ds, compL vs none (turnC vs g t el) (ks.map F) acc ⟨σ, dr⟩ = .ok (acc ++ ds) ⟨σ', dr'⟩ ∧ (∀ d ∈ ds, Q d) ∧ ds.length ≤ ks.length ∧ (t = tYes → ds.length = ks.length) ∧ wipeS σ' vs = W ∧ freeS σ' vs = true
  | [], acc, σ, dr, hW, hf, _, _ => ⟨σ, dr, [], by simp [compL, Lent], by simp, Nat.le_refl _, fun _ => rfl, hW, hf⟩
  | k :: ks, acc, σ, dr, hW, hf, hn, ht => by
    obtain ⟨σ1, hb, hw1, hf1, dr1, hr⟩ := ht k List.mem_cons_self dr
    have hn' : acc.length + (ks.length + 1) ≤ line := hn
    have hrest := fun k' hk' => ht k' (List.mem_cons_of_mem _ hk')
    rcases hr with h1 | ⟨h1, d, dr2, h2, hQ⟩
    · obtain ⟨σ', dr', ds, q1, q2, q3, q4, q5⟩ := compL_dr (ks := ks) (acc := acc) (dr := dr1) hw1 hf1 (by omega) hrest
      refine ⟨σ', dr', ds, ?_, q2, Nat.le_succ_of_le q3, fun e => ?_, q5⟩
      · rw [List.map_cons, compL]
        simp only [Lent, if_true, turnC, hW, hb, h1, Res.then, hf1]
        exact q1
      · rw [e] at h1
        cases h1
    · obtain ⟨σ', dr', ds, q1, q2, q3, q4, q5⟩ := compL_dr (ks := ks) (acc := acc ++ [d]) (dr := dr2) hw1 hf1 (by rw [List.length_append]; show acc.length + 1 + ks.length ≤ line; omega) hrest
      refine ⟨σ', dr', d :: ds, ?_, fun z hz => ?_, Nat.succ_le_succ q3, fun e => congrArg (· + 1) (q4 e), q5⟩
      · rw [List.map_cons, compL]
        simp only [Lent, if_true, turnC, hW, hb, h1, h2, Res.then, hf1]
        rw [if_pos ⟨by omega, trivial⟩, q1]
        simp
      · rcases List.mem_cons.mp hz with rfl | hz
        · exact hQ
        · exact q2 z hz
theorem comp_dr {α : Type} (ks : List α) (F : α → D) (Q : D → Prop) {vs : List Nat} {g : Tg} {w : M Wk} {t : M Bool} {el : M D} {s : S} (hw : w s = .ok ⟨ks.map F, none⟩ s) (hf : freeS s.σ vs = true) (hn : ks.length ≤ line)
    (ht : ∀ k ∈ ks, ∀ dr, ∃ σ1, bindT g (F k) (wipeS s.σ vs) = some σ1 ∧ wipeS σ1 vs = wipeS s.σ vs ∧ freeS σ1 vs = true ∧ ∃ dr1, (t ⟨σ1, dr⟩ = .ok false ⟨σ1, dr1⟩ ∨ (t ⟨σ1, dr⟩ = .ok true ⟨σ1, dr1⟩ ∧ ∃ d dr2, el ⟨σ1, dr1⟩ = .ok d ⟨σ1, dr2⟩ ∧ Q d))) :
    ∃ ds dr', mComp vs g w t el s = .ok (.lst ds) ⟨s.σ, dr'⟩ ∧ (∀ d ∈ ds, Q d) ∧ ds.length ≤ ks.length ∧ (t = tYes → ds.length = ks.length) := by
  obtain ⟨σ', dr', ds, q1, q2, q3, q4, q5, q6⟩ := compL_dr (ks := ks) (acc := []) (σ := s.σ) (dr := s.dr) rfl hf (by simpa using hn) ht
  refine ⟨ds, dr', ?_, q2, q3, q4⟩
  unfold mComp
  rw [hw]
  simp only [Res.then, LendOk, lendO, unlendO, hf]
  rw [if_pos ⟨trivial, trivial⟩, q1]
  simp [back_eq q5]
/-! ### walks -/
theorem enumD_map {α : Type} (F : α → D) : ∀ (ks : List α) (n : Nat), enumD n (ks.map F) = (ks.zipIdx n).map fun q => .tup [.int (q.2 : Nat), F q.1]
  | [], _ => rfl
  | k :: ks, n => by simp [enumD, enumD_map F ks (n + 1)]
theorem enumD_range (F : Nat → D) (n : Nat) : enumD 0 ((List.range n).map F) = (List.range n).map fun i => .tup [.int (i : Nat), F i] := by
  rw [enumD_map]
  apply List.ext_getElem?
  intro i
  simp only [List.getElem?_map, List.getElem?_zipIdx]
  by_cases h : i < n
  · simp [List.getElem?_range h]
  · simp [List.getElem?_eq_none (show (List.range n).length ≤ i by simp; omega)]
theorem forL_nil {f : D → Sm} {s : S} : forL none f [] s = .nx s := by simp [forL, Lent]
theorem forL_cons {f : D → Sm} {x : D} {xs : List D} {s : S} : forL none f (x :: xs) s = (f x s).turn (forL none f xs) := by simp [forL, Lent]
/-- a for with an invariant, no turn leaves -/
theorem forL_inv {α : Type} {f : D → Sm} {F : α → D} (I : List α → S → Prop) (all : List α) : ∀ {ks done : List α} {s : S}, all = done ++ ks → I done s → (∀ done k rest s, all = done ++ k :: rest → I done s → ∃ s', (f (F k) s = .nx s' ∨ f (F k) s = .ct s') ∧ I (done ++ [k]) s') →
    ∃ s', forL none f (ks.map F) s = .nx s' ∧ I all s'
  | [], done, s, e, h, _ => ⟨s, forL_nil, by rw [e]; simpa using h⟩
  | k :: ks, done, s, e, h, ht => by
    obtain ⟨s1, h1, h2⟩ := ht done k ks s e h
    obtain ⟨s', q1, q2⟩ := forL_inv I all (ks := ks) (done := done ++ [k]) (by rw [e]; simp) h2 ht
    refine ⟨s', ?_, q2⟩
    rw [List.map_cons, forL_cons]
    rcases h1 with h1 | h1 <;> rw [h1] <;> exact q1
theorem sFor_none {g : Tg} {w : M Wk} {b : Sm} {s s' : S} {xs : List D} (hw : w s = .ok ⟨xs, none⟩ s) (h : forL none (turnF g b) xs s = .nx s') : sFor g w b s = .nx s' := by
  unfold sFor
  rw [hw]
  simp only [Res.st, LendOk, lendO, if_true]
  rw [h]
  simp [Rs.unl, Lent, unlendO]
theorem for_inv {α : Type} (ks : List α) (F : α → D) (I : List α → S → Prop) {g : Tg} {w : M Wk} {b : Sm} {s : S} (hw : w s = .ok ⟨ks.map F, none⟩ s) (h0 : I [] s)
    (ht : ∀ done k rest s, ks = done ++ k :: rest → I done s → ∃ s', (turnF g b (F k) s = .nx s' ∨ turnF g b (F k) s = .ct s') ∧ I (done ++ [k]) s') : ∃ s', sFor g w b s = .nx s' ∧ I ks s' := by
  obtain ⟨s', q1, q2⟩ := forL_inv I ks (ks := ks) (done := []) rfl h0 ht
  exact ⟨s', sFor_none hw q1, q2⟩
end Mi
set_option Elab.async false
set_option linter.all false
set_option maxRecDepth 100000
set_option maxHeartbeats 4000000
/-! Mi35: sorting, ranks as functions below n. -/
namespace Mi.Pl
open Mi
/-! ### intsD -/
theorem mem_ins1 {a x : Int} : ∀ {l : List Int}, x ∈ ins1 a l ↔ x = a ∨ x ∈ l
  | [] => by simp [ins1]
  | b :: r => by
    unfold ins1
    split
    · simp
    · rw [List.mem_cons, mem_ins1 (l := r), List.mem_cons]
      constructor
      · rintro (h | h | h)
        · exact .inr (.inl h)
        · exact .inl h
        · exact .inr (.inr h)
      · rintro (h | h | h)
        · exact .inr (.inl h)
        · exact .inl h
        · exact .inr (.inr h)
theorem mem_isort {x : Int} : ∀ {l : List Int}, x ∈ isort l ↔ x ∈ l
  | [] => by simp [isort]
  | a :: r => by unfold isort; rw [mem_ins1, mem_isort (l := r), List.mem_cons]
theorem ins1_perm (a : Int) : ∀ l : List Int, (ins1 a l).Perm (a :: l)
  | [] => List.Perm.refl _
  | b :: r => by
    unfold ins1
    split
    · exact List.Perm.refl _
    · exact ((ins1_perm a r).cons b).trans (List.Perm.swap a b r)
theorem isort_perm : ∀ l : List Int, (isort l).Perm l
  | [] => List.Perm.refl _
  | a :: r => (ins1_perm a _).trans ((isort_perm r).cons a)
theorem isort_len (l : List Int) : (isort l).length = l.length := (isort_perm l).length_eq
theorem ins1_sorted {a : Int} : ∀ {l : List Int}, l.Pairwise (· ≤ ·) → (ins1 a l).Pairwise (· ≤ ·)
  | [], _ => by simp [ins1]
  | b :: r, h => by
    have h' := List.pairwise_cons.mp h
    unfold ins1
    split
    · rename_i hab
      refine List.pairwise_cons.mpr ⟨fun x hx => ?_, h⟩
      rcases List.mem_cons.mp hx with rfl | hx
      · exact hab
      · have := h'.1 x hx; omega
    · rename_i hab
      refine List.pairwise_cons.mpr ⟨fun x hx => ?_, ins1_sorted h'.2⟩
      rcases mem_ins1.mp hx with rfl | hx
      · omega
      · exact h'.1 x hx
theorem isort_sorted : ∀ l : List Int, (isort l).Pairwise (· ≤ ·)
  | [] => List.Pairwise.nil
  | a :: r => ins1_sorted (isort_sorted r)
theorem mem_nub {α : Type} [BEq α] [LawfulBEq α] {x : α} : ∀ {l : List α}, x ∈ nub l ↔ x ∈ l
  | [] => by simp [nub]
  | a :: r => by
    unfold nub
    rw [List.mem_cons, List.mem_filter, mem_nub (l := r), List.mem_cons]
    by_cases e : x = a <;> simp [e]
theorem nub_nd {α : Type} [BEq α] [LawfulBEq α] : ∀ l : List α, (nub l).Nodup
  | [] => List.nodup_nil
  | a :: r => by
    unfold nub
    refine List.nodup_cons.mpr ⟨fun h => ?_, (nub_nd r).filter _⟩
    have := (List.mem_filter.mp h).2
    simp at this
theorem nub_len {α : Type} [BEq α] [LawfulBEq α] : ∀ l : List α, (nub l).length ≤ l.length
  | [] => Nat.le_refl _
  | a :: r => Nat.succ_le_succ (Nat.le_trans (List.length_filter_le _ _) (nub_len r))
theorem sorted_lt {l : List Int} (h : l.Pairwise (· ≤ ·)) (nd : l.Nodup) : l.Pairwise (· < ·) := by
  refine (List.Pairwise.and h nd).imp fun {a b} q => ?_
  have := q.1
  have := q.2
  omega
theorem isort_nub_lt (l : List Int) : (isort (nub l)).Pairwise (· < ·) := sorted_lt (isort_sorted _) ((isort_perm _).nodup_iff.mpr (nub_nd l))
/-- sorted lists of the same things are the same -/
theorem sorted_uniq : ∀ {l m : List Int}, l.Pairwise (· < ·) → m.Pairwise (· < ·) → (∀ x, x ∈ l ↔ x ∈ m) → l = m
  | [], [], _, _, _ => rfl
  | [], b :: m, _, _, h => by have := (h b).mpr List.mem_cons_self; cases this
  | a :: l, [], _, _, h => by have := (h a).mp List.mem_cons_self; cases this
  | a :: l, b :: m, hl, hm, h => by
    have l1 := List.pairwise_cons.mp hl
    have m1 := List.pairwise_cons.mp hm
    have e : a = b := by
      rcases List.mem_cons.mp ((h a).mp List.mem_cons_self) with e | e
      · exact e
      · rcases List.mem_cons.mp ((h b).mpr List.mem_cons_self) with e2 | e2
        · exact e2.symm
        · have := m1.1 a e; have := l1.1 b e2; omega
    subst e
    rw [sorted_uniq l1.2 m1.2 fun x => ?_]
    constructor
    · intro hx
      rcases List.mem_cons.mp ((h x).mp (List.mem_cons_of_mem _ hx)) with e | e
      · subst e; have := l1.1 x hx; omega
      · exact e
    · intro hx
      rcases List.mem_cons.mp ((h x).mpr (List.mem_cons_of_mem _ hx)) with e | e
      · subst e; have := m1.1 x hx; omega
      · exact e
theorem isort_eq {l m : List Int} (hp : ∀ x, x ∈ l ↔ x ∈ m) (nd : l.Nodup) (hm : m.Pairwise (· < ·)) : isort l = m :=
  sorted_uniq (sorted_lt (isort_sorted _) ((isort_perm _).nodup_iff.mpr nd)) hm fun x => mem_isort.trans (hp x)
/-! ### rows -/
theorem rle_refl : ∀ a : List Int, rle a a = true
  | [] => rfl
  | a :: r => by simp [rle, rle_refl r]
theorem rle_total : ∀ a b : List Int, rle a b = true ∨ rle b a = true
  | [], _ => .inl rfl
  | _ :: _, [] => .inr rfl
  | a :: r, b :: t => by
    unfold rle
    by_cases h1 : a < b
    · simp [h1]
    · by_cases h2 : b < a
      · simp [h2]
      · simp only [h1, h2, if_false]
        exact rle_total r t
theorem rle_anti : ∀ {a b : List Int}, rle a b = true → rle b a = true → a = b
  | [], [], _, _ => rfl
  | [], _ :: _, _, h => by cases h
  | _ :: _, [], h, _ => by cases h
  | a :: r, b :: t, h, k => by
    unfold rle at h k
    by_cases h1 : a < b
    · have h2 : ¬ b < a := by omega
      simp [h1, h2] at k
    · by_cases h2 : b < a
      · simp [h1, h2] at h
      · simp only [h1, h2, if_false] at h k
        have e : a = b := by omega
        rw [e, rle_anti h k]
theorem rle_trans : ∀ {a b c : List Int}, rle a b = true → rle b c = true → rle a c = true
  | [], _, _, _, _ => rfl
  | _ :: _, [], _, h, _ => by cases h
  | _ :: _, _ :: _, [], _, h => by cases h
  | a :: r, b :: t, c :: u, h, k => by
    unfold rle at h k ⊢
    by_cases h1 : a < b
    · by_cases k1 : b < c
      · simp [show a < c by omega]
      · by_cases k2 : c < b
        · simp [k1, k2] at k
        · simp [show a < c by omega]
    · by_cases h2 : b < a
      · simp [h1, h2] at h
      · have e : a = b := by omega
        subst e
        simp only [h1, if_false] at h
        by_cases k1 : a < c
        · simp [k1]
        · by_cases k2 : c < a
          · simp [k1, k2] at k
          · simp only [k1, k2, if_false] at k ⊢
            exact rle_trans h k
theorem mem_ins2 {a x : List Int} : ∀ {l : List (List Int)}, x ∈ ins2 a l ↔ x = a ∨ x ∈ l
  | [] => by simp [ins2]
  | b :: r => by
    unfold ins2
    split
    · simp
    · rw [List.mem_cons, mem_ins2 (l := r), List.mem_cons]
      constructor
      · rintro (h | h | h)
        · exact .inr (.inl h)
        · exact .inl h
        · exact .inr (.inr h)
      · rintro (h | h | h)
        · exact .inr (.inl h)
        · exact .inl h
        · exact .inr (.inr h)
theorem mem_rsort {x : List Int} : ∀ {l : List (List Int)}, x ∈ rsort l ↔ x ∈ l
  | [] => by simp [rsort]
  | a :: r => by unfold rsort; rw [mem_ins2, mem_rsort (l := r), List.mem_cons]
theorem ins2_perm (a : List Int) : ∀ l : List (List Int), (ins2 a l).Perm (a :: l)
  | [] => List.Perm.refl _
  | b :: r => by
    unfold ins2
    split
    · exact List.Perm.refl _
    · exact ((ins2_perm a r).cons b).trans (List.Perm.swap a b r)
theorem rsort_perm : ∀ l : List (List Int), (rsort l).Perm l
  | [] => List.Perm.refl _
  | a :: r => (ins2_perm a _).trans ((rsort_perm r).cons a)
theorem ins2_sorted {a : List Int} : ∀ {l : List (List Int)}, l.Pairwise (fun x y => rle x y = true) → (ins2 a l).Pairwise (fun x y => rle x y = true)
  | [], _ => by simp [ins2]
  | b :: r, h => by
    have h' := List.pairwise_cons.mp h
    unfold ins2
    split
    · rename_i hab
      refine List.pairwise_cons.mpr ⟨fun x hx => ?_, h⟩
      rcases List.mem_cons.mp hx with rfl | hx
      · exact hab
      · exact rle_trans hab (h'.1 x hx)
    · rename_i hab
      refine List.pairwise_cons.mpr ⟨fun x hx => ?_, ins2_sorted h'.2⟩
      rcases mem_ins2.mp hx with rfl | hx
      · exact (rle_total b x).resolve_right hab
      · exact h'.1 x hx
theorem rsort_sorted : ∀ l : List (List Int), (rsort l).Pairwise (fun x y => rle x y = true)
  | [] => List.Pairwise.nil
  | a :: r => ins2_sorted (rsort_sorted r)
/-- strictly ahead -/
def rlt (a b : List Int) : Prop := rle a b = true ∧ a ≠ b
theorem rsort_nub_lt (l : List (List Int)) : (rsort (nub l)).Pairwise rlt :=
  (List.Pairwise.and (rsort_sorted _) ((rsort_perm _).nodup_iff.mpr (nub_nd l))).imp fun q => q
theorem rlt_as {a b : List Int} (h : rlt a b) (k : rlt b a) : False := h.2 (rle_anti h.1 k.1)
theorem rlt_tot {a b : List Int} (h : a ≠ b) : rlt a b ∨ rlt b a := (rle_total a b).elim (fun q => .inl ⟨q, h⟩) fun q => .inr ⟨q, h.symm⟩
theorem rlt_two {a b c d : Int} : rlt [a, b] [c, d] ↔ a < c ∨ (a = c ∧ b < d) := by
  unfold rlt rle
  by_cases h1 : a < c
  · have : a ≠ c := by omega
    simp [h1, this]
  · by_cases h2 : c < a
    · have : a ≠ c := by omega
      simp [h1, h2, this]
    · have e : a = c := by omega
      subst e
      by_cases h3 : b < d
      · have : b ≠ d := by omega
        simp [rle, h3, this]
      · by_cases h4 : d < b
        · simp [rle, h3, h4]
        · have : b = d := by omega
          simp [rle, this]
/-! ### ranks -/
/-- no level is passed over -/
def Dn (n : Nat) (f : Nat → Nat) : Prop := ∀ i, i < n → ∀ m, f i = m + 1 → ∃ j, j < n ∧ f j = m
/-- a rank's levels: below n, none passed over, in the order lt -/
structure Lv (n : Nat) (f : Nat → Nat) (lt : Nat → Nat → Prop) : Prop where
  bd : ∀ i, i < n → f i < n
  dn : Dn n f
  od : ∀ i, i < n → ∀ j, j < n → (f i < f j ↔ lt i j)
theorem dn_uniq {n : Nat} {f g : Nat → Nat} (hf : Dn n f) (hg : Dn n g) (ho : ∀ i, i < n → ∀ j, j < n → (f i < f j ↔ g i < g j)) : ∀ i, i < n → f i = g i := by
  have key : ∀ m i, i < n → f i = m → g i = m := by
    intro m
    induction m with
    | zero =>
      intro i hi h
      cases e : g i with
      | zero => rfl
      | succ k =>
        obtain ⟨j, hj, hk⟩ := hg i hi k e
        have := (ho j hj i hi).mpr (by omega)
        omega
    | succ m ih =>
      intro i hi h
      obtain ⟨j, hj, hk⟩ := hf i hi m h
      have h1 := ih j hj hk
      have h2 := (ho j hj i hi).mp (by omega)
      by_cases e : g i = m + 1
      · exact e
      · obtain ⟨k, hk1, hk2⟩ := hg i hi (g i - 1) (by omega)
        have h3 := (ho k hk1 i hi).mpr (by omega)
        have h4 := (ho j hj k hk1).mpr (by omega)
        omega
  exact fun i hi => (key (f i) i hi rfl).symm
theorem Lv.uniq {n : Nat} {f g : Nat → Nat} {lt lt' : Nat → Nat → Prop} (hf : Lv n f lt) (hg : Lv n g lt') (h : ∀ i, i < n → ∀ j, j < n → (lt i j ↔ lt' i j)) : ∀ i, i < n → f i = g i :=
  dn_uniq hf.dn hg.dn fun i hi j hj => (hf.od i hi j hj).trans ((h i hi j hj).trans (hg.od i hi j hj).symm)
/-- where things stand in an ascending list -/
theorem idx_spec {κ : Type} (lt : κ → κ → Prop) (as : ∀ x y, lt x y → lt y x → False) (tot : ∀ x y, x ≠ y → lt x y ∨ lt y x) (T : List κ) (hT : T.Pairwise lt) (n : Nat) (key : Nat → κ) (hm : ∀ k, k ∈ T ↔ ∃ i, i < n ∧ key i = k) (hl : T.length ≤ n) :
    ∃ f : Nat → Nat, (∀ i, i < n → T[f i]? = some (key i)) ∧ (∀ m, m < T.length → ∃ i, i < n ∧ f i = m) ∧ (∀ i, i < n → f i < T.length) ∧ Lv n f fun i j => lt (key i) (key j) := by
  have ex : ∀ i, ∃ k, i < n → T[k]? = some (key i) := fun i => by
    by_cases hi : i < n
    · obtain ⟨k, hk⟩ := List.mem_iff_getElem?.mp ((hm (key i)).mpr ⟨i, hi, rfl⟩)
      exact ⟨k, fun _ => hk⟩
    · exact ⟨0, fun h => (hi h).elim⟩
  let f := fun i => Classical.choose (ex i)
  have hf : ∀ i, i < n → T[f i]? = some (key i) := fun i hi => Classical.choose_spec (ex i) hi
  have hb : ∀ i, i < n → f i < T.length := fun i hi => (List.getElem?_eq_some_iff.mp (hf i hi)).1
  have irr : ∀ x, ¬ lt x x := fun x h => as x x h h
  have pw := List.pairwise_iff_getElem.mp hT
  have hlt : ∀ i, i < n → ∀ j, j < n → f i < f j → lt (key i) (key j) := fun i hi j hj h => by
    have q := pw (f i) (f j) (hb i hi) (hb j hj) h
    rw [(List.getElem?_eq_some_iff.mp (hf i hi)).2, (List.getElem?_eq_some_iff.mp (hf j hj)).2] at q
    exact q
  have inj : ∀ i, i < n → ∀ m (hm' : m < T.length), T[m] = key i → m = f i := fun i hi m hm' e => by
    have e2 := (List.getElem?_eq_some_iff.mp (hf i hi)).2
    rcases Nat.lt_trichotomy m (f i) with h | h | h
    · have q := pw m (f i) hm' (hb i hi) h
      rw [e, e2] at q
      exact (irr _ q).elim
    · exact h
    · have q := pw (f i) m (hb i hi) hm' h
      rw [e, e2] at q
      exact (irr _ q).elim
  have hall : ∀ m, m < T.length → ∃ i, i < n ∧ f i = m := fun m hm' => by
    obtain ⟨i, hi, e⟩ := (hm T[m]).mp (List.getElem_mem hm')
    exact ⟨i, hi, (inj i hi m hm' e.symm).symm⟩
  refine ⟨f, hf, hall, hb, ⟨fun i hi => Nat.lt_of_lt_of_le (hb i hi) hl, fun i hi m hm' => ?_, fun i hi j hj => ⟨hlt i hi j hj, fun h => ?_⟩⟩⟩
  · have := hb i hi
    exact hall m (by omega)
  · rcases Nat.lt_trichotomy (f i) (f j) with q | q | q
    · exact q
    · have e1 := hf i hi
      rw [q, hf j hj] at e1
      have z : key j = key i := Option.some.inj e1
      rw [z] at h
      exact (irr _ h).elim
    · exact (as _ _ h (hlt j hj i hi q)).elim
/-- the lexical order of two ranks -/
def lex (f g : Nat → Nat) (i j : Nat) : Prop := f i < f j ∨ (f i = f j ∧ g i < g j)
end Mi.Pl
set_option Elab.async false
set_option linter.all false
set_option maxRecDepth 100000
set_option maxHeartbeats 4000000
/-! Mi36: evaluation, one step a rule (for simp). -/
namespace Mi
open Pl
/-- an attribute read -/
def attR (n : Nat) (x : D) : M D := fun s => match x with
  | .ins _ ns vs => oget (lookA ns vs n) s
  | _ => .no
/-- simp takes it as no equation by computation -/
theorem nr {α : Sort _} {a b : α} (h : a = b) : a = b := h
section
variable {α β : Type} (s : S) (σ : List SV) (dr : List Int)
@[simp] theorem e_then_ok (a : α) (f : α → M β) : (Res.ok a s).then f = f a s := nr rfl
@[simp] theorem e_then_ex (c ns vs) (f : α → M β) : (Res.ex c ns vs s : Res α).then f = .ex c ns vs s := nr rfl
@[simp] theorem e_st_ok (a : α) (f : α → S → Rs) : (Res.ok a s).st f = f a s := nr rfl
@[simp] theorem e_st_ex (c ns vs) (f : α → S → Rs) : (Res.ex c ns vs s : Res α).st f = .ex c ns vs s := nr rfl
@[simp] theorem e_seq_nx (f : S → Rs) : (Rs.nx s).seq f = f s := nr rfl
@[simp] theorem e_seq_rt (d) (f : S → Rs) : (Rs.rt d s).seq f = .rt d s := nr rfl
@[simp] theorem e_seq_ex (c ns vs) (f : S → Rs) : (Rs.ex c ns vs s).seq f = .ex c ns vs s := nr rfl
@[simp] theorem e_seq_bk (f : S → Rs) : (Rs.bk s).seq f = .bk s := nr rfl
@[simp] theorem e_seq_ct (f : S → Rs) : (Rs.ct s).seq f = .ct s := nr rfl
@[simp] theorem e_back_ok (d) : (FR.ok d dr).back σ = .ok d ⟨σ, dr⟩ := nr rfl
@[simp] theorem e_back_ex (c ns vs) : (FR.ex c ns vs dr).back σ = .ex c ns vs ⟨σ, dr⟩ := nr rfl
@[simp] theorem e_fr_nx : (Rs.nx s).fr = .ok .non s.dr := nr rfl
@[simp] theorem e_fr_rt (d) : (Rs.rt d s).fr = .ok d s.dr := nr rfl
@[simp] theorem e_fr_ex (c ns vs) : (Rs.ex c ns vs s).fr = .ex c ns vs s.dr := nr rfl
@[simp] theorem e_get_some (a : α) : oget (some a) s = .ok a s := nr rfl
theorem e_mV_val {i d} (h : σ[i]? = some (.val d)) : mV i ⟨σ, dr⟩ = .ok d ⟨σ, dr⟩ := by simp [mV, h]
@[simp] theorem e_mV (i) : mV i ⟨σ, dr⟩ = (match σ[i]? with
  | some (.val d) => .ok d ⟨σ, dr⟩
  | some (.own d) => .ok d ⟨σ.set i (.val d), dr⟩
  | _ => .no) := nr rfl
@[simp] theorem e_mP (i) : mP i ⟨σ, dr⟩ = (match σ[i]? with
  | some (.val d) => .ok d ⟨σ, dr⟩
  | some (.own (.lst xs)) => .ok (.lst xs) ⟨σ, dr⟩
  | some (.lnt (.lst xs)) => .ok (.lst xs) ⟨σ, dr⟩
  | _ => .no) := nr rfl
@[simp] theorem e_mK (d) : mK d s = .ok d s := nr rfl
@[simp] theorem e_hP (i) : hP i ⟨σ, dr⟩ = (match σ[i]? with
  | some (.val _) => .ok (.at i) ⟨σ, dr⟩
  | some (.own _) => .ok (.at i) ⟨σ, dr⟩
  | some (.lnt _) => .ok (.at i) ⟨σ, dr⟩
  | _ => .no) := nr rfl
@[simp] theorem e_hE (m) : hE m s = (m s).then fun d s => .ok (.dat d) s := nr rfl
@[simp] theorem e_force_at (i) : force (.at i) s = mP i s := nr rfl
@[simp] theorem e_force_dat (d) : force (.dat d) s = .ok d s := nr rfl
@[simp] theorem e_mBin (o a b) : mBin o a b s = (a s).then fun x s => (b s).then fun y s => oget (bin o x y) s := nr rfl
@[simp] theorem e_mNeg (a) : mNeg a s = (a s).then fun x s => match x with
  | .int i => .ok (.int (-i)) s
  | _ => .no := nr rfl
@[simp] theorem e_tV (a) : tV a s = (a s).then fun x s => oget x.tru s := nr rfl
@[simp] theorem e_tNot (t) : tNot t s = (t s).then fun b s => .ok (!b) s := nr rfl
@[simp] theorem e_tAnd (t u) : tAnd t u s = (t s).then fun b s => match b with
  | true => u s
  | false => .ok false s := nr rfl
@[simp] theorem e_tOr (t u) : tOr t u s = (t s).then fun b s => match b with
  | true => .ok true s
  | false => u s := nr rfl
@[simp] theorem e_mNot (t) : mNot t s = (t s).then fun b s => .ok (.bl !b) s := nr rfl
@[simp] theorem e_mAnd (a b) : mAnd a b s = (a s).then fun x s => match x with
  | .bl true => b s
  | .bl false => .ok (.bl false) s
  | _ => .no := nr rfl
@[simp] theorem e_mOr (a b) : mOr a b s = (a s).then fun x s => match x with
  | .bl true => .ok (.bl true) s
  | .bl false => b s
  | _ => .no := nr rfl
@[simp] theorem e_mCmp (o a b) : mCmp o a b s = (a s).then fun x s => (b s).then fun y s => (force x s).then fun x s => (force y s).then fun y s => (oget (cmp o x y) s).then fun b s => .ok (.bl b) s := nr rfl
@[simp] theorem e_mChn (o o' a b c) : mChn o o' a b c s = (a s).then fun x s => (b s).then fun y s => (oget (cmp o x y) s).then fun r s => match r with
  | true => (c s).then fun z s => (oget (cmp o' y z) s).then fun b s => .ok (.bl b) s
  | false => .ok (.bl false) s := nr rfl
@[simp] theorem e_mIsN (n a) : mIsN n a s = (a s).then fun x s => .ok (.bl (x.isNon != n)) s := nr rfl
@[simp] theorem e_mIf (t a b) : mIf t a b s = (t s).then fun r s => match r with
  | true => a s
  | false => b s := nr rfl
@[simp] theorem e_mNil : mNil s = .ok [] s := nr rfl
@[simp] theorem e_mCons (a r) : mCons a r s = (a s).then fun d s => (r s).then fun ds s => .ok (d :: ds) s := nr rfl
@[simp] theorem e_mTup (a) : mTup a s = (a s).then fun ds s => if ds.length ≤ line then .ok (.tup ds) s else .no := nr rfl
@[simp] theorem e_mLst (a) : mLst a s = (a s).then fun ds s => if ds.length ≤ line then .ok (.lst ds) s else .no := nr rfl
@[simp] theorem e_callF (f : FM) (ds) : callF f ds ⟨σ, dr⟩ = (f ds dr).back σ := nr rfl
@[simp] theorem e_mCall (f a) : mCall f a s = (a s).then fun ds s => callF f ds s := nr rfl
@[simp] theorem e_mCallK (n m f a b) : mCallK n m f a b s = (a s).then fun ds s => (b s).then fun ws s => if ds.length = n ∧ ws.length = m then callF f (ds ++ ws) s else .no := nr rfl
@[simp] theorem e_mMkV (tab i a) : mMkV tab i a ⟨σ, dr⟩ = (match σ[i]? with
  | some (.val (.cls c)) => match tab.lookup c with
    | some f => mCall f a ⟨σ, dr⟩
    | none => .no
  | _ => .no) := nr rfl
@[simp] theorem e_mCm (c f a) : mCm c f a s = (a s).then fun ds s => callF f (.cls c :: ds) s := nr rfl
theorem e_mMt (tab x a) : mMt tab x a s = (x s).then fun x s => match x with
  | .ins c ns vs => match tab.lookup c with
    | some f => (a s).then fun ds s => callF f (.ins c ns vs :: ds) s
    | none => .no
  | _ => .no := nr rfl
theorem e_mPr (tab x) : mPr tab x s = (x s).then fun x s => match x with
  | .ins c ns vs => match tab.lookup c with
    | some f => match callF f [.ins c ns vs] s with
      | .ok d s => .ok d s
      | _ => .no
    | none => .no
  | _ => .no := nr rfl
@[simp] theorem e_mAtt (n x) : mAtt n x s = (x s).then fun x s => attR n x s := nr rfl
@[simp] theorem attR_ins (n c ns vs) : attR n (.ins c ns vs) s = oget (lookA ns vs n) s := nr rfl
@[simp] theorem e_mBi (b a) : mBi b a s = (a s).then fun x s => oget (bi b x) s := nr rfl
@[simp] theorem e_mBi2 (b a c) : mBi2 b a c s = (a s).then fun x s => (c s).then fun y s => oget (bi2 b x y) s := nr rfl
@[simp] theorem e_mIsa (ts a) : mIsa ts a s = (a s).then fun x s => (oget (x.isa ts) s).then fun b s => .ok (.bl b) s := nr rfl
@[simp] theorem e_mSub (a i) : mSub a i s = (a s).then fun x s => (i s).then fun y s => (force x s).then fun x s => oget (sub x y) s := nr rfl
@[simp] theorem e_oNo : oNo s = .ok none s := nr rfl
@[simp] theorem e_oYes (a) : oYes a s = (a s).then fun d s => match d with
  | .int i => .ok (some i) s
  | _ => .no := nr rfl
@[simp] theorem e_mSli (a lo hi) : mSli a lo hi s = (a s).then fun x s => (lo s).then fun l s => (hi s).then fun h s => (force x s).then fun x s => oget (sliD x l h) s := nr rfl
@[simp] theorem e_mRsl (a) : mRsl a s = (a s).then fun x s => oget (revD x) s := nr rfl
@[simp] theorem e_mDrLen (i) : mDrLen i ⟨σ, dr⟩ = (match σ[i]? with
  | some (.val .dr) => .ok (.int (dr.length : Nat)) ⟨σ, dr⟩
  | _ => .no) := nr rfl
@[simp] theorem e_mDraw (i) : mDraw i ⟨σ, dr⟩ = (match σ[i]? with
  | some (.val .dr) => match dr.getLast? with
    | some z => .ok (.int z) ⟨σ, dr.dropLast⟩
    | none => .no
  | _ => .no) := nr rfl
@[simp] theorem e_mIdx (a e) : mIdx a e s = (a s).then fun x s => (force x s).then fun x0 s => match x0 with
  | .lst _ => (e s).then fun y s => (force x s).then fun x s => oget (idxD x y) s
  | _ => .no := nr rfl
@[simp] theorem e_wkOf_dat (d f) : wkOf (.dat d) s f = (oget (f d) s).then fun xs s => .ok ⟨xs, none⟩ s := nr rfl
@[simp] theorem e_wOne (a) : wOne a s = (a s).then fun h s => wkOf h s D.items := nr rfl
@[simp] theorem e_wEnum (a) : wEnum a s = (a s).then fun h s => wkOf h s fun x => x.seq.map (enumD 0) := nr rfl
@[simp] theorem e_wR1 (a) : wR1 a s = (a s).then fun x s => match x with
  | .int j => if small62 j then .ok ⟨rngL 0 j.toNat, none⟩ s else .no
  | _ => .no := nr rfl
@[simp] theorem e_wR2 (a b) : wR2 a b s = (a s).then fun x s => (b s).then fun y s => match x, y with
  | .int i, .int j => if small62 i && small62 j then .ok ⟨rngL i (j - i).toNat, none⟩ s else .no
  | _, _ => .no := nr rfl
@[simp] theorem e_tYes : tYes s = .ok true s := nr rfl
@[simp] theorem e_sNil : sNil s = .nx s := nr rfl
@[simp] theorem e_sSeq (a b) : sSeq a b s = (a s).seq b := nr rfl
@[simp] theorem e_sSet (i e) : sSet i e s = (e s).st fun d s => .nx ⟨s.σ.set i (.val d), s.dr⟩ := nr rfl
@[simp] theorem e_sOwn (i e) : sOwn i e s = (e s).st fun d s => match d with
  | .lst xs => .nx ⟨s.σ.set i (.own (.lst xs)), s.dr⟩
  | _ => .no := nr rfl
@[simp] theorem e_onOwn (i f) : onOwn i f ⟨σ, dr⟩ = (match σ[i]? with
  | some (.own d) => match f d with
    | some d' => .nx ⟨σ.set i (.own d'), dr⟩
    | none => .no
  | _ => .no) := nr rfl
@[simp] theorem e_sAtt (i c n e) : sAtt i c n e s = (e s).st fun d s => onOwn i (attD c n d) s := nr rfl
@[simp] theorem e_sAug (i o e) : sAug i o e ⟨σ, dr⟩ = (match σ[i]? with
  | some (.val (.int q)) => (e ⟨σ, dr⟩).st fun d s => match d with
    | .int r => match binI o q r with
      | some w => .nx ⟨s.σ.set i (.val w), s.dr⟩
      | none => .no
    | _ => .no
  | _ => .no) := nr rfl
@[simp] theorem e_sApp (i e) : sApp i e ⟨σ, dr⟩ = (match σ[i]? with
  | some (.own (.lst _)) => (e ⟨σ, dr⟩).st fun d s => onOwn i (appD d) s
  | _ => .no) := nr rfl
@[simp] theorem e_sExp (e) : sExp e s = (e s).st fun _ s => .nx s := nr rfl
@[simp] theorem e_sRet (e) : sRet e s = (e s).st fun d s => .rt d s := nr rfl
@[simp] theorem e_sRtn : sRtn s = .rt .non s := nr rfl
@[simp] theorem e_sIf (t a b) : sIf t a b s = (t s).st fun c s => match c with
  | true => a s
  | false => b s := nr rfl
@[simp] theorem e_sRai (c n e) : sRai c n e s = (e s).st fun d s => .ex c [n] [d] s := nr rfl
@[simp] theorem e_turnF (g b d) : turnF g b d ⟨σ, dr⟩ = (match bindT g d σ with
  | some σ => b ⟨σ, dr⟩
  | none => .no) := nr rfl
@[simp] theorem e_bind_n (i d) : bindT (.n i) d σ = some (σ.set i (.val d)) := by simp [bindT]
@[simp] theorem e_bind_2 (i j d e) : bindT (.t [.n i, .n j]) (.tup [d, e]) σ = some ((σ.set i (.val d)).set j (.val e)) := by simp [bindT, bindTs]
theorem e_fn1 {nn body a} : fnD 1 nn body [a] dr = (body ⟨.val a :: List.replicate (nn - 1) .em, dr⟩).fr := nr rfl
theorem e_fn2 {nn body a b} : fnD 2 nn body [a, b] dr = (body ⟨.val a :: .val b :: List.replicate (nn - 2) .em, dr⟩).fr := nr rfl
theorem e_fn3 {nn body a b c} : fnD 3 nn body [a, b, c] dr = (body ⟨.val a :: .val b :: .val c :: List.replicate (nn - 3) .em, dr⟩).fr := nr rfl
theorem e_fn4 {nn body a b c d} : fnD 4 nn body [a, b, c, d] dr = (body ⟨.val a :: .val b :: .val c :: .val d :: List.replicate (nn - 4) .em, dr⟩).fr := nr rfl
theorem e_ini1 {c nn body a} : iniD c 1 nn body [a] dr = iniR (body ⟨.own (.ins c [] []) :: .val a :: List.replicate (nn - 1 - 1) .em, dr⟩) := nr rfl
@[simp] theorem e_iniR_nx : iniR (.nx ⟨σ, dr⟩) = (match σ[(0 : Nat)]? with
  | some (.own d) => .ok d dr
  | _ => .no) := nr rfl
@[simp] theorem e_iniR_ex (c ns vs) : iniR (.ex c ns vs ⟨σ, dr⟩) = .ex c ns vs dr := nr rfl
end
/-! ### operations -/
@[simp] theorem tru_bl (b) : (D.bl b).tru = some b := nr rfl
@[simp] theorem tru_non : (D.non).tru = some false := nr rfl
@[simp] theorem tru_int (i) : (D.int i).tru = some (i != 0) := nr rfl
@[simp] theorem tru_tup (xs) : (D.tup xs).tru = some (!xs.isEmpty) := nr rfl
@[simp] theorem tru_lst (xs) : (D.lst xs).tru = some (!xs.isEmpty) := nr rfl
@[simp] theorem seq_tup (xs) : (D.tup xs).seq = some xs := nr rfl
@[simp] theorem seq_lst (xs) : (D.lst xs).seq = some xs := nr rfl
@[simp] theorem seqR_tup (xs) : (D.tup xs).seqR = some xs := nr rfl
@[simp] theorem seqR_lst (xs) : (D.lst xs).seqR = some xs := nr rfl
@[simp] theorem items_tup (xs) : (D.tup xs).items = some xs := nr rfl
@[simp] theorem items_lst (xs) : (D.lst xs).items = some xs := nr rfl
@[simp] theorem isa_i (i) : (D.int i).isa [.int] = some true := nr rfl
@[simp] theorem isa_ib (i) : (D.int i).isa [.bool] = some false := nr rfl
@[simp] theorem isa_row1 (xs) : (D.lst xs).isa [.list, .tuple] = some true := nr rfl
@[simp] theorem isa_row2 (xs) : (D.tup xs).isa [.list, .tuple] = some true := nr rfl
@[simp] theorem isa_insc (c n ns vs) : (D.ins c (n :: ns) vs).isa [.cls c] = some true := by simp [D.isa, D.isa1]
@[simp] theorem isNon_non : D.non.isNon = true := nr rfl
@[simp] theorem isNon_int (i) : (D.int i).isNon = false := nr rfl
@[simp] theorem look_here (n ns v vs) : lookA (n :: ns) (v :: vs) n = some v := by simp [lookA]
@[simp] theorem look_next (n ns v vs m) : lookA (n :: ns) (v :: vs) m = if n = m then some v else lookA ns vs m := nr rfl
@[simp] theorem appD_lst (d xs) : appD d (.lst xs) = if xs.length < line then some (.lst (xs ++ [d])) else none := nr rfl
@[simp] theorem len_tup (xs) : bi .len (.tup xs) = some (.int xs.length) := nr rfl
@[simp] theorem len_lst (xs) : bi .len (.lst xs) = some (.int xs.length) := nr rfl
@[simp] theorem list_lst (xs) : bi .list (.lst xs) = some (.lst xs) := nr rfl
@[simp] theorem list_tup (xs) : bi .list (.tup xs) = some (.lst xs) := nr rfl
@[simp] theorem tuple_lst (xs) : bi .tuple (.lst xs) = some (.tup xs) := nr rfl
@[simp] theorem tuple_tup (xs) : bi .tuple (.tup xs) = some (.tup xs) := nr rfl
@[simp] theorem int_int (i) : bi .int (.int i) = some (.int i) := nr rfl
@[simp] theorem lt_int (i j) : cmp .lt (.int i) (.int j) = some (decide (i < j)) := nr rfl
@[simp] theorem le_int (i j) : cmp .le (.int i) (.int j) = some (decide (i ≤ j)) := nr rfl
@[simp] theorem gt_int (i j) : cmp .gt (.int i) (.int j) = some (decide (j < i)) := nr rfl
@[simp] theorem ge_int (i j) : cmp .ge (.int i) (.int j) = some (decide (j ≤ i)) := nr rfl
@[simp] theorem bin_add (i j) : bin .add (.int i) (.int j) = some (.int (i + j)) := nr rfl
@[simp] theorem bin_sub (i j) : bin .sub (.int i) (.int j) = some (.int (i - j)) := nr rfl
@[simp] theorem rep0 (x : SV) : List.replicate 0 x = [] := nr rfl
@[simp] theorem eq_int (i j) : cmp .eq (.int i) (.int j) = some (i == j) := by simp [cmp, D.lay, D.eqv]
@[simp] theorem ne_int (i j) : cmp .ne (.int i) (.int j) = some (!(i == j)) := by simp [cmp, D.lay, D.eqv]
theorem small_of {i : Int} (h : -1000000 ≤ i ∧ i ≤ 1000000) : small62 i = true := by
  unfold small62
  rw [decide_eq_true (by omega : (-4611686018427387904 : Int) ≤ i), decide_eq_true (by omega : i < (4611686018427387904 : Int))]
  rfl
theorem rngL0 (n : Nat) : rngL 0 n = (List.range n).map fun i => .int (i : Nat) := by
  unfold rngL
  apply List.map_congr_left
  intro i _
  simp
theorem ints_map {α : Type} (g : α → Int) : ∀ ks : List α, Mi.intsD (ks.map fun k => .int (g k)) = some (ks.map g)
  | [] => rfl
  | k :: ks => by simp [Mi.intsD, ints_map g ks]
theorem ints_none {x : D} {xs : List D} (h : ∀ i, x ≠ .int i) : Mi.intsD (x :: xs) = none := by
  cases x <;> first | rfl | exact absurd rfl (h _)
theorem rows_map {α : Type} (g : α → List Int) : ∀ ks : List α, rows (ks.map fun k => .tup ((g k).map .int)) = some (ks.map g)
  | [] => rfl
  | k :: ks => by
    have e := ints_map (fun z : Int => z) (g k)
    simp only [List.map_id'] at e
    simp [rows, e, rows_map g ks]
theorem bools_map {α : Type} (g : α → Bool) : ∀ ks : List α, bools (ks.map fun k => .bl (g k)) = some (ks.map g)
  | [] => rfl
  | k :: ks => by simp [bools, bools_map g ks]
@[simp] theorem lay_int (n i) : (D.int i).lay n = true := by cases n <;> rfl
@[simp] theorem lay_bl (n i) : (D.bl i).lay n = true := by cases n <;> rfl
@[simp] theorem lay_str (n i) : (D.str i).lay n = true := by cases n <;> rfl
@[simp] theorem lay_non (n) : (D.non).lay n = true := by cases n <;> rfl
@[simp] theorem lay_tup (n xs) : (D.tup xs).lay (n + 1) = D.layL n xs := nr rfl
@[simp] theorem lay_lst (n xs) : (D.lst xs).lay (n + 1) = D.layL n xs := nr rfl
@[simp] theorem layL_nil (n) : D.layL n [] = true := by cases n <;> rfl
@[simp] theorem layL_cons (n x xs) : D.layL n (x :: xs) = (x.lay n && D.layL n xs) := by cases n <;> rfl
theorem layL_all (n) : ∀ xs, D.layL n xs = xs.all fun x => x.lay n
  | [] => by simp
  | x :: xs => by simp [layL_all n xs]
theorem layL_map {α : Type} {n : Nat} {F : α → D} {ks : List α} (h : ∀ k ∈ ks, (F k).lay n = true) : D.layL n (ks.map F) = true := by
  rw [layL_all]
  simpa using h
@[simp] theorem eqv_int (i j) : (D.int i).eqv (.int j) = (i == j) := by simp [D.eqv]
@[simp] theorem eqv_str (i j) : (D.str i).eqv (.str j) = (i == j) := by simp [D.eqv]
@[simp] theorem eqv_bl (i j) : (D.bl i).eqv (.bl j) = (i == j) := by simp [D.eqv]
@[simp] theorem eqv_tup (i j) : (D.tup i).eqv (.tup j) = D.eqvL i j := by simp [D.eqv]
@[simp] theorem eqv_lst (i j) : (D.lst i).eqv (.lst j) = D.eqvL i j := by simp [D.eqv]
@[simp] theorem eqvL_nn : D.eqvL [] [] = true := by simp [D.eqvL]
@[simp] theorem eqvL_cc (x y xs ys) : D.eqvL (x :: xs) (y :: ys) = (x.eqv y && D.eqvL xs ys) := by simp [D.eqvL]
@[simp] theorem eqvL_nc (y ys) : D.eqvL [] (y :: ys) = false := by simp [D.eqvL]
@[simp] theorem eqvL_cn (y ys) : D.eqvL (y :: ys) [] = false := by simp [D.eqvL]
mutual
theorem eqv_self : ∀ {n : Nat} {d : D}, d.lay n = true → d.eqv d = true
  | _, .non, _ => by simp [D.eqv]
  | _, .bl _, _ => by simp [D.eqv]
  | _, .int _, _ => by simp
  | _, .str _, _ => by simp
  | n + 1, .tup xs, h => by rw [eqv_tup]; exact eqvL_self (n := n) h
  | n + 1, .lst xs, h => by rw [eqv_lst]; exact eqvL_self (n := n) h
  | 0, .tup _, h => by cases h
  | 0, .lst _, h => by cases h
  | _, .rng _ _, h => by cases h
  | _, .ins _ _ _, h => by cases h
  | _, .cls _, h => by cases h
  | _, .dr, h => by cases h
  | _, .frl _, h => by cases h
theorem eqvL_self : ∀ {n : Nat} {ds : List D}, D.layL n ds = true → D.eqvL ds ds = true
  | _, [], _ => by simp
  | n, d :: ds, h => by
    rw [layL_cons, Bool.and_eq_true] at h
    rw [eqvL_cc, eqv_self h.1, eqvL_self h.2]
    rfl
end
theorem mem_ints (i : Int) (js : List Int) : ((js.map D.int).any fun z => z.eqv (.int i)) = decide (i ∈ js) := by
  induction js with
  | nil => simp
  | cons a r ih =>
    simp only [List.map_cons, List.any_cons, ih, eqv_int, List.mem_cons]
    by_cases h : a = i
    · subst h; simp
    · have h2 : ¬ i = a := fun z => h z.symm
      have h3 : (a == i) = false := beq_eq_false_iff_ne.mpr h
      simp [h2, h3]
theorem line_ge : 1000000 ≤ line := by decide
theorem rngOk_of {n : Nat} (h : n ≤ 1000000) : rngOk 0 (n : Int) = true := by
  have hl := line_ge
  have e : ((n : Int) - 0).toNat ≤ line := by
    rw [Int.sub_zero, Int.toNat_natCast]
    exact Nat.le_trans h hl
  unfold rngOk
  rw [small_of (by omega), small_of (by omega), decide_eq_true e]
  rfl
theorem range_of {n : Nat} (h : n ≤ 1000000) : bi .range (.int (n : Int)) = some (.rng 0 n) := by
  show (if small62 (n : Int) = true then some (D.rng 0 n) else none) = _
  rw [if_pos (small_of (by omega))]
theorem tuple_rng {n : Nat} (h : n ≤ 1000000) : bi .tuple (.rng 0 n) = some (.tup ((List.range n).map fun i => .int (i : Nat))) := by
  show (if rngOk 0 (n : Int) = true then some (D.tup (rngL 0 ((n : Int) - 0).toNat)) else none) = _
  rw [if_pos (rngOk_of h), Int.sub_zero, Int.toNat_natCast, rngL0]
theorem list_rng {n : Nat} (h : n ≤ 1000000) : bi .list (.rng 0 n) = some (.lst ((List.range n).map fun i => .int (i : Nat))) := by
  show (if rngOk 0 (n : Int) = true then some (D.lst (rngL 0 ((n : Int) - 0).toNat)) else none) = _
  rw [if_pos (rngOk_of h), Int.sub_zero, Int.toNat_natCast, rngL0]
theorem len_rng {n : Nat} (h : n < 1000000) : bi .len (.rng 0 n) = some (.int (n : Nat)) := by
  show (if ((n : Int) - 0).toNat < 1000000 then some (D.int ((n : Int) - 0).toNat) else none) = _
  rw [Int.sub_zero, Int.toNat_natCast, if_pos h]
theorem items_rng {n : Nat} (h : n ≤ 1000000) : (D.rng 0 n).items = some ((List.range n).map fun i => .int (i : Nat)) := by
  show (if (small62 0 && small62 (n : Int)) = true then some (rngL 0 ((n : Int) - 0).toNat) else none) = _
  rw [small_of (by omega), small_of (by omega), Int.sub_zero, Int.toNat_natCast, rngL0]
  rfl
@[simp] theorem toNat_sub0 (n : Nat) : ((n : Int) - 0).toNat = n := by rw [Int.sub_zero, Int.toNat_natCast]
theorem mem_lst (i : Int) (js : List Int) : cmp .mem (.int i) (.lst (js.map .int)) = some (decide (i ∈ js)) := by
  have e : D.layL 9 (js.map D.int) = true := layL_map fun k _ => lay_int _ k
  simp only [cmp, seq_lst, e, lay_int, Bool.and_true, if_true]
  rw [mem_ints]
theorem mem_tup (i : Int) (js : List Int) : cmp .mem (.int i) (.tup (js.map .int)) = some (decide (i ∈ js)) := by
  have e : D.layL 9 (js.map D.int) = true := layL_map fun k _ => lay_int _ k
  simp only [cmp, seq_tup, e, lay_int, Bool.and_true, if_true]
  rw [mem_ints]
/-- a row of intsD, a list or a tuple -/
structure RowI (row : D) (ws : List Int) : Prop where
  seq : row.seq = some (ws.map .int)
  items : row.items = some (ws.map .int)
  isr : row.isa [.list, .tuple] = some true
  tru : row.tru = some (!ws.isEmpty)
  srt : bi .sorted row = some (.lst ((isort ws).map .int))
  lst : bi .list row = some (.lst (ws.map .int))
  len : bi .len row = some (.int (ws.length : Nat))
theorem ints_eq (ws : List Int) : Mi.intsD (ws.map .int) = some ws := by
  have e := ints_map (fun z : Int => z) ws
  simp only [List.map_id'] at e
  exact e
theorem rowI_l (ws : List Int) : RowI (.lst (ws.map .int)) ws where
  seq := rfl
  items := rfl
  isr := rfl
  tru := by simp
  srt := by
    show (match Mi.intsD (ws.map D.int) with
      | some is => some (D.lst ((isort is).map .int))
      | none => _) = _
    rw [ints_eq]
  lst := rfl
  len := by simp
theorem rowI_t (ws : List Int) : RowI (.tup (ws.map .int)) ws where
  seq := rfl
  items := rfl
  isr := rfl
  tru := by simp
  srt := by
    show (match Mi.intsD (ws.map D.int) with
      | some is => some (D.lst ((isort is).map .int))
      | none => _) = _
    rw [ints_eq]
  lst := rfl
  len := by simp
theorem ne_self {x : D} (h : x.lay 9 = true) : cmp .ne x x = some false := by
  simp [cmp, h, eqv_self h]
theorem eq_self {x : D} (h : x.lay 9 = true) : cmp .eq x x = some true := by
  simp [cmp, h, eqv_self h]
theorem srt_l (ws : List Int) : bi .sorted (.lst (ws.map .int)) = some (.lst ((isort ws).map .int)) := (rowI_l ws).srt
theorem srt_t (ws : List Int) : bi .sorted (.tup (ws.map .int)) = some (.lst ((isort ws).map .int)) := (rowI_t ws).srt
/-- one number out of a range -/
theorem filter_one {m j : Nat} (h : j < m) : (List.range m).filter (fun k => k == j) = [j] := by
  induction m with
  | zero => omega
  | succ m ih =>
    rw [List.range_succ, List.filter_append]
    by_cases e : j = m
    · subst e
      have : (List.range j).filter (fun k => k == j) = [] := by
        rw [List.filter_eq_nil_iff]
        intro a ha
        have := List.mem_range.mp ha
        simp
        omega
      simp [this]
    · have e2 : (m == j) = false := beq_eq_false_iff_ne.mpr fun z => e z.symm
      rw [ih (by omega)]
      simp [e2]
theorem range_lt (m : Nat) : (List.range m).Pairwise (· < ·) := List.pairwise_lt_range
theorem map_int_lt {l : List Nat} (h : l.Pairwise (· < ·)) : (l.map fun (i : Nat) => (i : Int)).Pairwise (· < ·) := by
  rw [List.pairwise_map]
  exact h.imp fun q => by omega
theorem lt_nodup {l : List Int} (h : l.Pairwise (· < ·)) : l.Nodup := h.imp fun q => by omega
theorem isort_idL {l : List Int} (h : l.Pairwise (· < ·)) : isort l = l := isort_eq (fun _ => Iff.rfl) (lt_nodup h) h
/-- a rank of n worlds with m levels -/
structure Rk (n m : Nat) (f : Nat → Nat) : Prop where
  lo : 1 ≤ n
  hi : n ≤ 12
  bd : ∀ i, i < n → f i < m
  all : ∀ k, k < m → ∃ i, i < n ∧ f i = k
def cellN (n : Nat) (f : Nat → Nat) (k : Nat) : List Nat := (List.range n).filter fun i => f i == k
def cellI (n : Nat) (f : Nat → Nat) (k : Nat) : List Int := (cellN n f k).map fun (i : Nat) => (i : Int)
def cellsI (n m : Nat) (f : Nat → Nat) : List (List Int) := (List.range m).map (cellI n f)
def cellsD (n m : Nat) (f : Nat → Nat) : List D := (List.range m).map fun k => .tup ((cellI n f k).map .int)
def lvD (n : Nat) (f : Nat → Nat) : List D := (List.range n).map fun i => .int (f i : Nat)
theorem mem_cellN {n f k i} : i ∈ cellN n f k ↔ i < n ∧ f i = k := by simp [cellN]
theorem mem_cellI {n f k} {x : Int} : x ∈ cellI n f k ↔ ∃ i : Nat, i < n ∧ f i = k ∧ x = (i : Nat) := by
  unfold cellI
  rw [List.mem_map]
  constructor
  · rintro ⟨i, hi, rfl⟩
    have := mem_cellN.mp hi
    exact ⟨i, this.1, this.2, rfl⟩
  · rintro ⟨i, h1, h2, rfl⟩
    exact ⟨i, mem_cellN.mpr ⟨h1, h2⟩, rfl⟩
theorem cellI_lt (n f k) : (cellI n f k).Pairwise (· < ·) := map_int_lt ((range_lt n).filter _)
theorem cellsI_flat_mem {n m f} {x : Int} (h : ∀ i, i < n → f i < m) : x ∈ (cellsI n m f).flatten ↔ x ∈ (List.range n).map fun (i : Nat) => (i : Int) := by
  rw [List.mem_flatten]
  constructor
  · rintro ⟨c, hc, hx⟩
    obtain ⟨k, _, rfl⟩ := List.mem_map.mp hc
    obtain ⟨i, h1, _, rfl⟩ := mem_cellI.mp hx
    exact List.mem_map.mpr ⟨i, List.mem_range.mpr h1, rfl⟩
  · intro hx
    obtain ⟨i, hi, rfl⟩ := List.mem_map.mp hx
    have hi := List.mem_range.mp hi
    exact ⟨_, List.mem_map.mpr ⟨f i, List.mem_range.mpr (h i hi), rfl⟩, mem_cellI.mpr ⟨i, hi, rfl, rfl⟩⟩
theorem cellsI_nd (n m f) : (cellsI n m f).flatten.Nodup := by
  rw [List.nodup_iff_pairwise_ne, List.pairwise_flatten]
  constructor
  · intro c hc
    obtain ⟨k, _, rfl⟩ := List.mem_map.mp hc
    exact lt_nodup (cellI_lt n f k)
  · unfold cellsI
    rw [List.pairwise_map]
    refine (range_lt m).imp fun {a b} hab x hx y hy e => ?_
    obtain ⟨i, _, h2, rfl⟩ := mem_cellI.mp hx
    obtain ⟨j, _, h4, h5⟩ := mem_cellI.mp hy
    have : i = j := by omega
    subst this
    omega
theorem cellsI_sort {n m f} (h : ∀ i, i < n → f i < m) : isort (cellsI n m f).flatten = (List.range n).map fun (i : Nat) => (i : Int) :=
  isort_eq (fun x => cellsI_flat_mem h) (cellsI_nd n m f) (map_int_lt (range_lt n))
theorem sum_cast {α : Type} (g : α → Nat) : ∀ l : List α, (l.map fun k => ((g k : Nat) : Int)).sum = (((l.map g).sum : Nat) : Int)
  | [] => rfl
  | a :: r => by simp [sum_cast g r]
theorem sum_lst (ws : List Int) : bi .sum (.lst (ws.map .int)) = some (.int ws.sum) := by
  show (match Mi.intsD (ws.map D.int) with
      | some is => some (D.int is.sum)
      | none => none) = _
  rw [ints_eq]
@[simp] theorem attD_mk (c n d ns vs) : attD c n d (.ins c ns vs) = if ns.contains n = false then some (.ins c (ns ++ [n]) (vs ++ [d])) else none := by simp [attD]
@[simp] theorem sub_lst (xs : List D) (i : Int) : sub (.lst xs) (.int i) = (match ixN xs.length i with
  | some k => xs[k]?
  | none => none) := nr rfl
@[simp] theorem sub_tup (xs : List D) (i : Int) : sub (.tup xs) (.int i) = (match ixN xs.length i with
  | some k => xs[k]?
  | none => none) := nr rfl
theorem ixN_nat {n i : Nat} (h : i < n) : ixN n (i : Int) = some i := by
  unfold ixN
  rw [if_pos (by omega), if_pos (by omega)]
  simp
theorem ixN_zero {n : Nat} (h : 0 < n) : ixN n 0 = some 0 := ixN_nat h
theorem cells_total {n m : Nat} {f : Nat → Nat} (h : ∀ i, i < n → f i < m) : ((List.range m).map fun k => (cellI n f k).length).sum = n := by
  have q : (cellsI n m f).flatten.length = n := by
    have := congrArg List.length (cellsI_sort h)
    rw [isort_len] at this
    simpa using this
  rw [List.length_flatten] at q
  unfold cellsI at q
  rw [List.map_map] at q
  exact q
theorem Rk.m_le {n m : Nat} {f : Nat → Nat} (h : Rk n m f) : m ≤ n := by
  have q := cells_total h.bd
  have : ∀ l : List Nat, (∀ k ∈ l, 1 ≤ (cellI n f k).length) → l.length ≤ (l.map fun k => (cellI n f k).length).sum := by
    intro l
    induction l with
    | nil => simp
    | cons a r ih =>
      intro hl
      have h1 := hl a List.mem_cons_self
      have h2 := ih fun k hk => hl k (List.mem_cons_of_mem _ hk)
      simp only [List.map_cons, List.sum_cons, List.length_cons]
      omega
  have h2 := this (List.range m) fun k hk => by
    obtain ⟨i, hi, e⟩ := h.all k (List.mem_range.mp hk)
    exact List.length_pos_of_mem (mem_cellI.mpr ⟨i, hi, e, rfl⟩)
  rw [List.length_range, q] at h2
  exact h2
theorem eqvL_ints : ∀ a b : List Int, D.eqvL (a.map .int) (b.map .int) = decide (a = b)
  | [], [] => by simp
  | [], _ :: _ => by simp
  | _ :: _, [] => by simp
  | a :: r, b :: t => by
    simp only [List.map_cons, eqvL_cc, eqv_int, eqvL_ints r t, List.cons.injEq]
    by_cases h : a = b <;> by_cases k : r = t <;> simp [h, k]
theorem Lv.same {n : Nat} {f g : Nat → Nat} {lt lt' : Nat → Nat → Prop} (hf : Lv n f lt) (hg : Lv n g lt') (h : ∀ i, i < n → ∀ j, j < n → (lt i j ↔ lt' i j)) : ∀ i, i < n → f i = g i := Lv.uniq hf hg h
theorem lvD_congr {n : Nat} {f g : Nat → Nat} (h : ∀ i, i < n → f i = g i) : lvD n f = lvD n g := by
  unfold lvD
  apply List.map_congr_left
  intro i hi
  rw [h i (List.mem_range.mp hi)]
theorem cellI_congr {n : Nat} {f g : Nat → Nat} (h : ∀ i, i < n → f i = g i) (k : Nat) : cellI n f k = cellI n g k := by
  unfold cellI cellN
  rw [List.filter_congr (q := fun i => g i == k)]
  intro i hi
  rw [h i (List.mem_range.mp hi)]
theorem cellsD_congr {n m : Nat} {f g : Nat → Nat} (h : ∀ i, i < n → f i = g i) : cellsD n m f = cellsD n m g := by
  unfold cellsD
  apply List.map_congr_left
  intro k _
  rw [cellI_congr h]
theorem Rk.m_eq {n m m' : Nat} {f g : Nat → Nat} (a : Rk n m f) (b : Rk n m' g) (h : ∀ i, i < n → f i = g i) : m = m' := by
  rcases Nat.lt_trichotomy m m' with q | q | q
  · obtain ⟨i, hi, e⟩ := b.all m q
    have := a.bd i hi
    have := h i hi
    omega
  · exact q
  · obtain ⟨i, hi, e⟩ := a.all m' q
    have := b.bd i hi
    have := h i hi
    omega
/-- a rank out of an ascending list of marks -/
theorem rk_of {κ : Type} (lt : κ → κ → Prop) (as : ∀ x y, lt x y → lt y x → False) (tot : ∀ x y, x ≠ y → lt x y ∨ lt y x) (T : List κ) (hT : T.Pairwise lt) (n : Nat) (key : Nat → κ) (hm : ∀ k, k ∈ T ↔ ∃ i, i < n ∧ key i = k) (hl : T.length ≤ n) (h1 : 1 ≤ n) (h2 : n ≤ 12)
    (q : Nat → κ → Bool) (hq : ∀ i, i < n → ∀ t, t ∈ T → (q i t = true ↔ key i = t)) :
    ∃ f : Nat → Nat, Rk n T.length f ∧ (Lv n f fun i j => lt (key i) (key j)) ∧ (T.map fun t => D.tup (((List.range n).filter fun i => q i t).map fun i => .int (i : Nat))) = cellsD n T.length f := by
  obtain ⟨f, e1, e2, e3, e4⟩ := idx_spec lt as tot T hT n key hm hl
  refine ⟨f, ⟨h1, h2, e3, e2⟩, e4, ?_⟩
  have irr : ∀ x, ¬ lt x x := fun x h => as x x h h
  have pw := List.pairwise_iff_getElem.mp hT
  unfold cellsD
  apply List.ext_getElem?
  intro k
  by_cases hk : k < T.length
  · rw [List.getElem?_map, List.getElem?_map, List.getElem?_eq_getElem hk, List.getElem?_range hk]
    simp only [Option.map_some]
    congr 2
    unfold cellI cellN
    rw [List.map_map]
    have : ((List.range n).filter fun i => q i T[k]) = (List.range n).filter fun i => f i == k := by
      apply List.filter_congr
      intro i hi
      have hi := List.mem_range.mp hi
      have hqq := hq i hi T[k] (List.getElem_mem hk)
      obtain ⟨w1, w2⟩ := List.getElem?_eq_some_iff.mp (e1 i hi)
      by_cases e : f i = k
      · subst e
        rw [hqq.mpr w2.symm]
        simp
      · rw [beq_eq_false_iff_ne.mpr e]
        cases h : q i T[k] with
        | false => rfl
        | true =>
          have w3 := hqq.mp h
          rw [w3] at w2
          rcases Nat.lt_or_gt_of_ne e with z | z
          · have := pw _ _ w1 hk z; rw [w2] at this; exact (irr _ this).elim
          · have := pw _ _ hk w1 z; rw [w2] at this; exact (irr _ this).elim
    rw [this]
    rfl
  · rw [List.getElem?_eq_none (by rw [List.length_map]; omega), List.getElem?_eq_none (by rw [List.length_map, List.length_range]; omega)]
theorem sset_ints (ws : List Int) (h : ws.length < 64) : bi .sset (.lst (ws.map .int)) = some (.lst ((isort (nub ws)).map .int)) := by
  show (match Mi.intsD (ws.map D.int) with
      | some is => if is.length < 64 then some (D.lst ((isort (nub is)).map .int)) else none
      | none => _) = _
  rw [ints_eq]
  simp [h]
theorem rows_eq : ∀ rs : List (List Int), rows (rs.map fun r => .tup (r.map .int)) = some rs
  | [] => rfl
  | r :: rs => by simp [rows, ints_eq, rows_eq rs]
theorem sset_rows (rs : List (List Int)) (hne : rs ≠ []) (h : rowsOk rs = true) : bi .sset (.lst (rs.map fun (r : List Int) => .tup (r.map .int))) = some (.lst ((rsort (nub rs)).map fun (r : List Int) => .tup (r.map .int))) := by
  have e : Mi.intsD (rs.map fun (r : List Int) => D.tup (r.map .int)) = none := by
    cases rs with
    | nil => exact absurd rfl hne
    | cons a r => rfl
  show (match Mi.intsD (rs.map fun (r : List Int) => D.tup (r.map .int)) with
      | some is => if is.length < 64 then some (D.lst ((isort (nub is)).map .int)) else none
      | none => match rows (rs.map fun (r : List Int) => D.tup (r.map .int)) with
        | some rs => if rowsOk rs then some (.lst ((rsort (nub rs)).map fun (r : List Int) => .tup (r.map .int))) else none
        | none => none) = _
  rw [e, rows_eq]
  simp [h]
theorem rowsOk_two {n : Nat} (a b : Nat → Nat) (h1 : 1 ≤ n) (h2 : n ≤ 12) : rowsOk ((List.range n).map fun i => [(a i : Int), (b i : Int)]) = true := by
  unfold rowsOk
  rw [List.length_map, List.length_range, decide_eq_true (by omega : n < 64), Bool.true_and]
  cases h : (List.range n).map fun i => [(a i : Int), (b i : Int)] with
  | nil => rfl
  | cons r t =>
    have hall : ∀ z ∈ r :: t, z.length = 2 ∧ ∀ i ∈ z, (0 : Int) ≤ i := by
      rw [← h]
      intro z hz
      obtain ⟨i, _, rfl⟩ := List.mem_map.mp hz
      refine ⟨rfl, fun x hx => ?_⟩
      simp at hx
      omega
    have hr := (hall r List.mem_cons_self).1
    dsimp only
    rw [hr, decide_eq_true (by omega : 1 ≤ 2), Bool.true_and, List.all_eq_true]
    intro z hz
    obtain ⟨q1, q2⟩ := hall z hz
    rw [q1, decide_eq_true rfl, Bool.true_and, List.all_eq_true]
    intro i hi
    exact decide_eq_true (q2 i hi)
/-- a walk of known things, its end -/
theorem sFor_lit {g : Tg} {w : M Wk} {b : Sm} {s : S} {xs : List D} (hw : w s = .ok ⟨xs, none⟩ s) : sFor g w b s = (forL none (turnF g b) xs s).unl none s.σ := by
  unfold sFor
  rw [hw]
  simp [LendOk, lendO]
@[simp] theorem unl_nx (s : S) (σ) : (Rs.nx s).unl none σ = .nx s := by simp [Rs.unl, Lent, unlendO]
@[simp] theorem unl_rt (s : S) (d σ) : (Rs.rt d s).unl none σ = .rt d s := nr rfl
@[simp] theorem unl_ex (s : S) (c ns vs σ) : (Rs.ex c ns vs s).unl none σ = .ex c ns vs s := nr rfl
@[simp] theorem turn_nx (s : S) (k) : (Rs.nx s).turn k = k s := nr rfl
@[simp] theorem turn_ct (s : S) (k) : (Rs.ct s).turn k = k s := nr rfl
@[simp] theorem turn_rt (s : S) (d k) : (Rs.rt d s).turn k = .rt d s := nr rfl
@[simp] theorem turn_ex (s : S) (c ns vs k) : (Rs.ex c ns vs s).turn k = .ex c ns vs s := nr rfl
theorem idxD_ints {T : List Int} {x : Int} {k : Nat} (nd : T.Nodup) (h : T[k]? = some x) : idxD (.lst (T.map .int)) (.int x) = some (.int (k : Nat)) := by
  have hl : D.layL 9 (T.map D.int) = true := layL_map fun k _ => lay_int _ k
  obtain ⟨hk, hx⟩ := List.getElem?_eq_some_iff.mp h
  have hf : (T.map D.int).findIdx? (fun z => z.eqv (.int x)) = some k := by
    rw [List.findIdx?_eq_some_iff_getElem]
    refine ⟨by rw [List.length_map]; exact hk, by simp [hx], fun j hj => ?_⟩
    simp only [List.getElem_map, eqv_int]
    intro z
    have z2 : T[j]'(Nat.lt_trans hj hk) = T[k] := by rw [hx]; simpa using z
    have := (List.getElem_inj nd).mp z2
    omega
  simp only [idxD, lay_int, hl, Bool.true_and, if_true, hf, Option.map_some]
theorem lmax_spec : ∀ (r : List Int) (a : Int), (lmax r a = a ∨ lmax r a ∈ r) ∧ a ≤ lmax r a ∧ ∀ y ∈ r, y ≤ lmax r a
  | [], a => ⟨.inl rfl, Int.le_refl _, by simp⟩
  | b :: r, a => by
    obtain ⟨h1, h2, h3⟩ := lmax_spec r (if a < b then b else a)
    have e : lmax (b :: r) a = lmax r (if a < b then b else a) := rfl
    rw [e]
    by_cases h : a < b
    · simp only [h, if_true] at h1 h2 h3 ⊢
      refine ⟨.inr ?_, by omega, fun y hy => ?_⟩
      · rcases h1 with h1 | h1
        · rw [h1]; exact List.mem_cons_self
        · exact List.mem_cons_of_mem _ h1
      · rcases List.mem_cons.mp hy with rfl | hy
        · exact h2
        · exact h3 y hy
    · simp only [h, if_false] at h1 h2 h3 ⊢
      refine ⟨?_, h2, fun y hy => ?_⟩
      · rcases h1 with h1 | h1
        · exact .inl h1
        · exact .inr (List.mem_cons_of_mem _ h1)
      · rcases List.mem_cons.mp hy with rfl | hy
        · omega
        · exact h3 y hy
theorem lmin_spec : ∀ (r : List Int) (a : Int), (lmin r a = a ∨ lmin r a ∈ r) ∧ lmin r a ≤ a ∧ ∀ y ∈ r, lmin r a ≤ y
  | [], a => ⟨.inl rfl, Int.le_refl _, by simp⟩
  | b :: r, a => by
    obtain ⟨h1, h2, h3⟩ := lmin_spec r (if b < a then b else a)
    have e : lmin (b :: r) a = lmin r (if b < a then b else a) := rfl
    rw [e]
    by_cases h : b < a
    · simp only [h, if_true] at h1 h2 h3 ⊢
      refine ⟨.inr ?_, by omega, fun y hy => ?_⟩
      · rcases h1 with h1 | h1
        · rw [h1]; exact List.mem_cons_self
        · exact List.mem_cons_of_mem _ h1
      · rcases List.mem_cons.mp hy with rfl | hy
        · exact h2
        · exact h3 y hy
    · simp only [h, if_false] at h1 h2 h3 ⊢
      refine ⟨?_, h2, fun y hy => ?_⟩
      · rcases h1 with h1 | h1
        · exact .inl h1
        · exact .inr (List.mem_cons_of_mem _ h1)
      · rcases List.mem_cons.mp hy with rfl | hy
        · omega
        · exact h3 y hy
theorem max_lst {ws : List Int} (h : ws ≠ []) : ∃ x, bi .max (.lst (ws.map .int)) = some (.int x) ∧ x ∈ ws ∧ ∀ y ∈ ws, y ≤ x := by
  cases ws with
  | nil => exact absurd rfl h
  | cons a r =>
    obtain ⟨h1, h2, h3⟩ := lmax_spec r a
    refine ⟨lmax r a, ?_, ?_, fun y hy => ?_⟩
    · show (match Mi.intsD ((a :: r).map D.int) with
        | some (a :: r) => some (D.int (lmax r a))
        | _ => none) = _
      rw [ints_eq]
    · rcases h1 with h1 | h1
      · rw [h1]; exact List.mem_cons_self
      · exact List.mem_cons_of_mem _ h1
    · rcases List.mem_cons.mp hy with rfl | hy
      · exact h2
      · exact h3 y hy
theorem min_lst {ws : List Int} (h : ws ≠ []) : ∃ x, bi .min (.lst (ws.map .int)) = some (.int x) ∧ x ∈ ws ∧ ∀ y ∈ ws, x ≤ y := by
  cases ws with
  | nil => exact absurd rfl h
  | cons a r =>
    obtain ⟨h1, h2, h3⟩ := lmin_spec r a
    refine ⟨lmin r a, ?_, ?_, fun y hy => ?_⟩
    · show (match Mi.intsD ((a :: r).map D.int) with
        | some (a :: r) => some (D.int (lmin r a))
        | _ => none) = _
      rw [ints_eq]
    · rcases h1 with h1 | h1
      · rw [h1]; exact List.mem_cons_self
      · exact List.mem_cons_of_mem _ h1
    · rcases List.mem_cons.mp hy with rfl | hy
      · exact h2
      · exact h3 y hy
/-- the best of a lot -/
def bst (f : Nat → Nat) (l : List Nat) : List Nat := l.filter fun x => l.all fun y => decide (f x ≤ f y)
theorem mem_bst {f : Nat → Nat} {l : List Nat} {x : Nat} : x ∈ bst f l ↔ x ∈ l ∧ ∀ y ∈ l, f x ≤ f y := by simp [bst]
theorem bst_ne {f : Nat → Nat} {l : List Nat} (h : l ≠ []) : bst f l ≠ [] := by
  have : l.map (fun x => ((f x : Nat) : Int)) ≠ [] := by simpa using h
  obtain ⟨x, _, hx, hy⟩ := min_lst this
  obtain ⟨i, hi, rfl⟩ := List.mem_map.mp hx
  refine List.ne_nil_of_mem (mem_bst.mpr ⟨hi, fun y hy' => ?_⟩)
  have := hy (f y : Nat) (List.mem_map.mpr ⟨y, hy', rfl⟩)
  omega
/-- the best by a product -/
theorem bst_lex {f g u : Nat → Nat} {l : List Nat} {n : Nat} (hl : ∀ x ∈ l, x < n) (hu : ∀ i, i < n → ∀ j, j < n → (u i < u j ↔ lex f g i j)) : bst u l = bst g (bst f l) := by
  unfold bst
  rw [List.filter_filter]
  apply List.filter_congr
  intro x hx
  have hxn := hl x hx
  rw [Bool.eq_iff_iff, List.all_eq_true, Bool.and_eq_true, List.all_eq_true, List.all_eq_true]
  simp only [decide_eq_true_eq]
  constructor
  · intro h
    have h1 : ∀ y ∈ l, f x ≤ f y := fun y hy => by
      have q := h y hy
      have q2 := (hu y (hl y hy) x hxn)
      unfold lex at q2
      omega
    refine ⟨fun y hy => ?_, h1⟩
    have hy2 := mem_bst.mp hy
    have q := h y hy2.1
    have q2 := (hu y (hl y hy2.1) x hxn)
    have q3 := hy2.2 x hx
    have q4 := h1 y hy2.1
    unfold lex at q2
    omega
  · rintro ⟨h1, h2⟩ y hy
    have q2 := (hu y (hl y hy) x hxn)
    have q3 := h2 y hy
    unfold lex at q2
    by_cases e : f x = f y
    · have hb : y ∈ bst f l := mem_bst.mpr ⟨hy, fun z hz => e ▸ h2 z hz⟩
      have := h1 y hb
      omega
    · omega
theorem cells_neg {m : Nat} {xs : List D} {y : D} (h : xs.length = m + 1) (h2 : xs[m]? = some y) : Mi.sub (.tup xs) (.int (-1)) = some y := by
  rw [sub_tup]
  have : ixN xs.length (-1) = some m := by
    unfold ixN
    rw [if_neg (by omega), if_pos (by omega)]
    congr 1
    omega
  rw [this]
  exact h2
theorem okOnly_ok {β : Type} (d : D) (s : S) (f : D → M β) : okOnly (.ok d s) f = f d s := rfl
theorem mLeno_of {tab : List (Nat × FM)} {x : M D} {s s1 s2 : S} {c : Nat} {ns : List Nat} {vs : List D} {f : FM} {i : Int} (h1 : x s = .ok (.ins c ns vs) s1) (h2 : tab.lookup c = some f) (h3 : callF f [.ins c ns vs] s1 = .ok (.int i) s2) (h4 : 0 ≤ i ∧ i < 9223372036854775808) : mLeno tab x s = .ok (.int i) s2 := by
  unfold mLeno
  rw [h1, e_then_ok]
  dsimp only
  rw [h2]
  dsimp only
  rw [h3, okOnly_ok]
  dsimp only
  exact if_pos h4
end Mi
set_option Elab.async false
set_option linter.all false
set_option maxRecDepth 100000
set_option maxHeartbeats 4000000
/-! Mi37: the law's own def: the draws told, then walked with them. -/
namespace Mi
open PySem L2 PySem.Spec PyProof.Rows
/-- the same with the draws in hand -/
abbrev Rc.drawn (R : Rc) (a : Addr) : Rc := { R with dr := a, hd := true }
/-- what the law promises -/
def spL (K : PySem.W.Frag) (most : Nat) : Sp := fun vs H Q _ => ∃ (a : Addr) (ns : List Int), vs = [.ref a] ∧ ns.length ≤ most ∧ SqL K H a (ns.map V.int) ∧ ∀ v H', v = .bl true → Q v H'
theorem isL_ints_eq {R : Rc} {B : Bn} {H : Hp} : ∀ {ns : List Int} {vs : List V}, IsL R B H (ns.map D.int) vs → vs = ns.map V.int
  | [], vs, h => by unfold IsL at h; exact h
  | n :: ns, vs, h => by
    unfold IsL at h
    obtain ⟨v, r, rfl, h1, h2⟩ := h
    unfold Is at h1
    rw [h1, isL_ints_eq h2]
    rfl
section
variable {R : Rc} {k : Nat} {f : Addr} {fd : FuncData} {name qual : Str} {params : Arguments} {body rest : List Stmt} {s1 : Stmt} {scope : Scope} {N : List Str} {pv : Str} {G : FM} {m : Sm} {nn most : Nat}
theorem law_ok (hhd : R.hd = false) (F : FunD R.K name qual params body scope [] [] f fd) (S : FnScope N [pv] scope) (hnn : N.length = nn + 2) (tx : TxOk R)
    (eb : body = s1 :: rest)
    (h1 : ∀ {X : Cx} {W : WX} (C : Ct X R W N scope k) (S : Fs X scope), PS X s1 (tS R W [] (sSet 1 (mCall G (mCons (mV 0) mNil)))))
    (h2 : ∀ a, BodyOk (R.drawn a) N scope k rest (fun _ => []) m)
    (draws : ∀ ns : List Int, ns.length ≤ most → ∃ js : List Int, G [.frl (ns.map .int)] [] = .ok (.lst (js.map .int)) [])
    (law : ∀ js, ∃ s, m ⟨.em :: .val .dr :: List.replicate nn .em, js⟩ = .rt (.bl true) s) :
    FnOk R.P R.w R.K R.mg R.base (L2.CX R.P R.w) (k + 1) f fd [pv] (spL R.K most) := by
  obtain ⟨oc, od, dV, kV, doc, pm, an, cdv, ct, osl, rfl, lk, hcd, _, _⟩ := F.ex
  subst eb
  refine fn_of lk hcd S (fun vs H Q E h => by obtain ⟨a, ns, rfl, _⟩ := h; rfl) fun A outer s H vs Q E hr hsp => ?_
  obtain ⟨a0, ns, rfl, hmost, hS, hQ⟩ := hsp
  have C0 := ct_of (H := H) (E := E) (outer := outer) tx S hr
  have fs : Fs (cxOf (L2.CX R.P R.w) R.P R.w R.K R.mg R.base N qual scope f cdv A outer s H E) scope := fun _ _ => rfl
  have hrest : PSs (cxOf (L2.CX R.P R.w) R.P R.w R.K R.mg R.base N qual scope f cdv A outer s H E) rest (fun D σV H' => ∃ a, tS (R.drawn a) (fun c d _ H => E c d H) [] m D σV H') :=
    ⟨fun pins s' σV H' D I ⟨a, h⟩ => (h2 a _ E .non (ct_of (R := R.drawn a) (H := H) (E := E) (outer := outer) (by cases tx; constructor <;> assumption) S hr) fs (passes_of rfl) ⟨rfl, rfl⟩).run pins s' σV H' D I h⟩
  refine ⟨_, pss_cons (h1 C0 fs) hrest, ?_⟩
  obtain ⟨js, hjs⟩ := draws ns hmost
  have hfr : IsL R (fun _ => False) H [.frl (ns.map D.int)] [.ref a0] := by
    refine IsL.cons ?_ IsL.nil
    unfold Is
    refine ⟨a0, ns.map V.int, rfl, ?_, isL_ints _⟩
    rcases hS with hS | hS
    · exact .inl ⟨fun z => z, hS⟩
    · exact .inr fun H' => .inr hS
  have F0 := fr_start (R := R) (B := fun _ => False) (H := H) (N := N) (nn := nn + 2) (np := 1) (dr := []) hfr (fun a z => z.elim) (fun h => by rw [hhd] at h; cases h) (fun h => by rw [hhd] at h; cases h) rfl hnn
  refine ⟨_, H, _, _, _, F0, fun p hp => absurd hp (by simp), ?_⟩
  have em : sSet 1 (mCall G (mCons (mV 0) mNil)) ⟨s0 1 (nn + 2) [.frl (ns.map D.int)], []⟩ = .nx ⟨.val (.frl (ns.map D.int)) :: .val (.lst (js.map D.int)) :: List.replicate nn .em, []⟩ := by
    show sSet 1 (mCall G (mCons (mV 0) mNil)) ⟨.val (.frl (ns.map D.int)) :: .em :: List.replicate nn .em, []⟩ = _
    show ((((G [.frl (ns.map D.int)] []).back (.val (.frl (ns.map D.int)) :: .em :: List.replicate nn .em)) : Res D).st fun d s => .nx { s with σ := s.σ.set 1 (.val d) }) = _
    rw [hjs]
    rfl
  rw [em]
  intro ow σV H1 F1 Z1 st1
  obtain ⟨v, hv1, hv2⟩ := F1.val 1 _ rfl
  unfold Is at hv2
  obtain ⟨a, vs, rfl, nb, ha, hl⟩ := hv2
  rw [isL_ints_eq hl] at ha
  have F2 : Fr (R.drawn a) (fun x => x = a) H1 (fun _ => (0, 0)) (.em :: .val .dr :: List.replicate nn .em) js σV H1 := {
    len := by rw [F1.len]; rfl
    val := fun i d h => by
      match i with
      | 0 => cases h
      | 1 =>
        cases h
        exact ⟨_, hv1, by unfold Is; exact ⟨rfl, rfl⟩⟩
      | i + 2 =>
        have h' : (List.replicate nn SV.em)[i]? = some (.val d) := h
        rw [List.getElem?_replicate] at h'
        split at h' <;> cases h'
    own := fun i d h => by
      have h' : heldAt (SV.em :: .val .dr :: List.replicate nn .em) i = none := by
        unfold heldAt
        match i with
        | 0 => rfl
        | 1 => rfl
        | i + 2 =>
          show ((List.replicate nn SV.em)[i]?).bind SV.held = none
          rw [List.getElem?_replicate]
          split <;> rfl
      rw [h'] at h
      cases h
    sep := fun i j d e h => by
      have h' : heldAt (SV.em :: .val .dr :: List.replicate nn .em) i = none := by
        unfold heldAt
        match i with
        | 0 => rfl
        | 1 => rfl
        | i + 2 =>
          show ((List.replicate nn SV.em)[i]?).bind SV.held = none
          rw [List.getElem?_replicate]
          split <;> rfl
      rw [h'] at h
      cases h
    live := fun x hx => by
      have e : x = a := hx
      subst e
      exact ⟨_, ha⟩
    hold := fun _ _ _ h => h
    drs := fun _ => ha
    drB := fun _ => rfl }
  obtain ⟨s', hs'⟩ := law js
  refine ⟨a, _, H1, _, _, js, F2, fun p hp => absurd hp (by simp), ?_⟩
  rw [hs']
  intro ow σV H2 v F3 Z3 st3 hv
  unfold Is at hv
  exact hQ v H2 hv
end
/-- from a list of Bools that all hold -/
theorem all_at {l : List Bool} (h : l.all id = true) (i : Nat) (b : Bool) (e : l[i]? = some b) : b = true := List.all_eq_true.mp h b (List.mem_of_getElem? e)
/-- the law's end: its def keeps spL over every base -/
theorem walk_mi {l : PySem.W.OpenLaw} {most k : Nat} {q : Program} {loose : List Str} {XP : (Str → Option Value) → Heap → Prop} {YP : World → Heap → Prop} {d : DefRec} {x : Str}
    (e1 : l.most = some most) (e2 : most ≤ sizeLine) (e3 : d.params.defaults = []) (room : Room k callerA)
    (keep : ∀ (w : World) (mg : Str → Option Value) (fa : Addr) (h : Heap), YP w h → h.Ns mainGlobals mg → mg d.name = some (.ref fa) → ∃ (K : PySem.W.Frag) (fd : FuncData), K.In h ∧
      (∀ (s : Shared) (u : Value), BindsTo s fd ⟨[u], []⟩ [(x, u)]) ∧ ∀ base : Heap, K.In base → base.Ns mainGlobals mg → FnOk l.prog w K mg base (L2.CX l.prog w) k fa fd [x] (spL K most)) :
    PySem.W.WalkO q loose XP YP l.row.toRowW d [] (fun f vs => PySem.call f vs) := by
  apply Att.attach_call e1 e3
  intro w s0 s1 mg mb fa o pm cd doc a vs ns G Y _ _ _ hmg hobj hints hlen hg
  obtain ⟨K, fd, KX, hb, hF⟩ := keep w mg fa _ Y G.T.g hmg
  apply law_call KX G.T.g G.T.b G.T.builtins G.T.nolimit hg hobj hints (Nat.le_trans hlen e2) room hF hb
  · intro H _ hS
    exact ⟨a, ns, rfl, hlen, hS, fun _ _ z => z⟩
  · rintro H e s' ⟨_, _, _, _, _, _, _, _, _, _, _, _, z⟩
    exact z
end Mi
set_option Elab.async false
set_option linter.all false
set_option maxRecDepth 100000
set_option maxHeartbeats 4000000
/-! Mi38: [el for g in w if t for g1 in w1 if t1]. -/
namespace Mi
open PySem L2
/-- the outer turns -/
def comp2L (vs : List Nat) (f : D → List D → M (List D)) : List D → List D → M (List D)
  | [], acc, s => .ok acc s
  | x :: xs, acc, s => match f x acc s with
    | .ok acc' s' => if freeS s'.σ vs = true then comp2L vs f xs acc' s' else .no
    | _ => .no
noncomputable def turn2 (vs : List Nat) (g : Tg) (t : M Bool) (w1 : M Wk) (vs1 : List Nat) (g1 : Tg) (t1 : M Bool) (el : M D) (d : D) (acc : List D) : M (List D) := fun s => match bindT g d (wipeS s.σ vs) with
  | some σ' => (t { s with σ := σ' }).then fun b s => match b with
    | true => (w1 s).then fun k s => if k.sl.isNone = true ∧ freeS s.σ vs1 = true then compL vs1 none (turnC vs1 g1 t1 el) k.xs acc s else .no
    | false => .ok acc s
  | none => .no
noncomputable def mComp2 (vs : List Nat) (g : Tg) (w : M Wk) (t : M Bool) (vs1 : List Nat) (g1 : Tg) (w1 : M Wk) (t1 : M Bool) (el : M D) : M D := fun s => (w s).then fun k s =>
  if k.sl.isNone = true ∧ freeS s.σ vs = true then (comp2L vs (turn2 vs g t w1 vs1 g1 t1 el) k.xs [] s).then fun ds s' => .ok (.lst ds) { s' with σ := backS s.σ s'.σ vs } else .no
section
variable {X : Cx} {R : Rc} {W : WX} {N : List Str} {sc : Scope} {k : Nat}
theorem fr_wipe {vs : List Nat} {ow : Ow} {τ : List SV} {dr : List Int} {H : Hp} {B : Bn} {HB : Hp} {σV : L2.St} (hn : ∀ i ∈ vs, heldAt τ i = none) (F : Fr R B HB ow τ dr σV H) : Fr R B HB ow (wipeS τ vs) dr (wipe σV vs) H := by
  refine F.reval (by rw [wipe_length, wipeS_len]; exact F.len) (held_wipe hn) (fun i d e => ?_) fun i d e => ?_
  · by_cases hi : i ∈ vs
    · cases wipeS_in hi e
    · rw [wipeS_out hi] at e
      rw [wipe_out hi]
      exact F.val i d e
  · have hi : i ∉ vs := fun z => by rw [hn i z] at e; cases e
    exact wipe_out hi
theorem ban_wipe {vs : List Nat} {B : Bn} {ow : Ow} {τ : List SV} (hn : ∀ i ∈ vs, heldAt τ i = none) : ∀ a, Ban B ow (wipeS τ vs) a → Ban B ow τ a := Ban.sub fun i d e => ⟨d, by rw [held_wipe hn] at e; exact e⟩
/-- the inner turns -/
theorem inner_key {g1 : Tg} {t1 : M Bool} {el : M D} {vs1 : List Nat} (hsl : ∀ i, i ∈ g1.slots → i ∈ vs1) {B : Bn} {HB : Hp} {DA : Addr} {σ2 : L2.St} {Ba : Bn} {Ha H4 : Hp} {J : It} {xs : List D} {d0 : D} {v0 : V} {va0 : List V} {acc0 : List D} {ow0 : Ow} {s0 : S} {Nx : Hp → Prop}
    (nDr : ¬ R.isDr DA) (hJ : ∀ (B' : Bn) (H' : Hp), IsP R B' H' d0 v0 → Live B' H' → Goes R J xs B' H') (Fin : Res (List D) → Prop) (bad : ∀ r, Fin r → ∃ acc s, r = .ok acc s)
    (F0 : Fr R (Shut B DA) (upd HB DA (.lst va0)) ow0 s0.σ s0.dr σ2 H4) (f0 : freeS s0.σ vs1 = true) (st0 : Stp Ba Ha (Ban (Shut B DA) ow0 s0.σ) H4) (a0 : IsL R (Ban (Shut B DA) ow0 s0.σ) H4 acc0 va0) (l0 : acc0.length ≤ line)
    (i0 : Is R (Ban (Shut B DA) ow0 s0.σ) H4 d0 v0) (fin0 : Fin (compL vs1 none (turnC vs1 g1 t1 el) xs acc0 s0))
    (hnx : ∀ (ow : Ow) (τ : List SV) (dr : List Int) (acc : List D) (va : List V) (H : Hp), τ.length = s0.σ.length → (∀ i ∈ vs1, heldAt τ i = none) → Fr R (Shut B DA) (upd HB DA (.lst va)) ow (wipeS τ vs1) dr (wipe σ2 vs1) H →
      Stp Ba Ha (Ban (Shut B DA) ow (wipeS τ vs1)) H → IsL R (Ban (Shut B DA) ow (wipeS τ vs1)) H acc va → acc.length ≤ line → Fin (.ok acc ⟨τ, dr⟩) → Nx H) :
    ∃ W1 : Nat → Nat → Hp → Prop, (∃ m, W1 0 m H4) ∧ ∀ j k H, W1 j k H →
      (J.stop j H ∧ Nx H) ∨ (J.go j H ∧ ∃ Nx1 : Hp → Prop, (∀ H', Nx1 H' → ∃ k', k' < k ∧ W1 (j + 1) k' H') ∧ ∀ x H', J.yld j H x H' → tTg R g1 x (wipe σ2 vs1) H' fun σ3 H5 => wipe σ3 vs1 = wipe σ2 vs1 ∧ tT R NoW t1 σ3 H5 fun b H6 =>
        if b = true then tE R NoW el σ3 H6 fun y H7 => ∃ acc, H7 DA = some (.lst acc) ∧ acc.length < sizeLine ∧ Nx1 (upd H7 DA (.lst (acc ++ [y]))) else Nx1 H6) := by
  let Wi : Nat → Nat → Hp → Prop := fun i m H => m = xs.length - i ∧ i ≤ xs.length ∧ ∃ (ow : Ow) (τ : List SV) (dr : List Int) (acc : List D) (va : List V), τ.length = s0.σ.length ∧ (∀ i ∈ vs1, heldAt τ i = none) ∧
    Fr R (Shut B DA) (upd HB DA (.lst va)) ow (wipeS τ vs1) dr (wipe σ2 vs1) H ∧ Stp Ba Ha (Ban (Shut B DA) ow (wipeS τ vs1)) H ∧ IsL R (Ban (Shut B DA) ow (wipeS τ vs1)) H acc va ∧ acc.length ≤ line ∧ Is R (Ban (Shut B DA) ow (wipeS τ vs1)) H d0 v0 ∧
    Fin (compL vs1 none (turnC vs1 g1 t1 el) (xs.drop i) acc ⟨τ, dr⟩)
  have hn0 : ∀ i ∈ vs1, heldAt s0.σ i = none := fun i hi => free_at f0 hi
  refine ⟨Wi, ⟨xs.length, rfl, Nat.zero_le _, ow0, s0.σ, s0.dr, acc0, va0, rfl, hn0, fr_wipe hn0 F0, st0.trans (Stp.less (ban_wipe hn0)), a0.less (ban_wipe hn0), l0, i0.less (ban_wipe hn0), fin0⟩, ?_⟩
  rintro i m H ⟨rfl, hi, ow2, τ, dr2, acc, va, lenT, hnT, F2, st2, hacc, hal, isd, hfin⟩
  have goes := hJ _ H isd.p F2.liveB i
  have wlen : (wipe σ2 vs1).length = s0.σ.length := by rw [wipe_length]; exact F0.len
  by_cases hlt : i < xs.length
  · have ex0 : xs[i]? = some xs[i] := by simp [hlt]
    obtain ⟨go, yl⟩ := goes.1 _ ex0
    have hdrop : xs.drop i = xs[i] :: xs.drop (i + 1) := List.drop_eq_getElem_cons hlt
    rw [hdrop] at hfin
    unfold compL at hfin
    rw [if_pos (show Lent none (⟨τ, dr2⟩ : S).σ from trivial)] at hfin
    refine .inr ⟨go, fun H' => Wi (i + 1) (xs.length - (i + 1)) H', fun H' h => ⟨_, by omega, h⟩, fun x H' hy => ?_⟩
    obtain ⟨ex, hx⟩ := yl x H' hy
    have F3 := F2.ext ex
    unfold turnC at hfin
    dsimp only at hfin
    cases hb : bindT g1 xs[i] (wipeS τ vs1) with
    | none => rw [hb] at hfin; obtain ⟨_, _, z⟩ := bad _ hfin; cases z
    | some σ' =>
      rw [hb] at hfin
      dsimp only at hfin
      refine ⟨Shut B DA, upd HB DA (.lst va), ow2, wipeS τ vs1, σ', dr2, xs[i], F3, hx, hb, fun σ3 F4 sub4 len4 keep4 => ?_⟩
      have w2 : wipe σ3 vs1 = wipe σ2 vs1 := wipe_same (by rw [len4, wipe_length]) fun q hq => by rw [(keep4 q fun z => hq (hsl q z)).1, wipe_out hq]
      refine ⟨w2, _, _, ow2, σ', dr2, F4, ?_⟩
      have stA : Stp Ba Ha (Ban (Shut B DA) ow2 σ') H' := (st2.trans (Stp.new ex)).trans (Stp.less sub4)
      have accA : IsL R (Ban (Shut B DA) ow2 σ') H' acc va := (hacc.ext ex).less sub4
      have isA : Is R (Ban (Shut B DA) ow2 σ') H' d0 v0 := (isd.ext ex).less sub4
      cases et : t1 ⟨σ', dr2⟩ with
      | no => rw [et] at hfin; obtain ⟨_, _, z⟩ := bad _ hfin; cases z
      | ex c ns us s => rw [et] at hfin; obtain ⟨_, _, z⟩ := bad _ hfin; cases z
      | ok bb s3 =>
        rw [et] at hfin
        intro ow3 H3 F5 st5
        have len3 : s3.σ.length = s0.σ.length := by rw [← F5.len, len4, wlen]
        have accB := accA.stp st5
        have isB := isA.stp st5
        cases bb with
        | false =>
          have hfin' : Fin (if freeS s3.σ vs1 = true then compL vs1 none (turnC vs1 g1 t1 el) (xs.drop (i + 1)) acc s3 else .no) := hfin
          split at hfin'
          · rename_i hfv
            have hn3 : ∀ i ∈ vs1, heldAt s3.σ i = none := fun i hi => free_at hfv hi
            have F7 := fr_wipe hn3 F5
            rw [w2] at F7
            have lw := ban_wipe (B := Shut B DA) (ow := ow3) hn3
            exact ⟨rfl, hlt, ow3, s3.σ, s3.dr, acc, va, len3, hn3, F7, (stA.trans st5).trans (Stp.less lw), accB.less lw, hal, isB.less lw, hfin'⟩
          · obtain ⟨_, _, z⟩ := bad _ hfin'; cases z
        | true =>
          refine ⟨_, _, ow3, s3.σ, s3.dr, F5, ?_⟩
          dsimp only [Res.then] at hfin
          cases ee : el s3 with
          | no => rw [ee] at hfin; obtain ⟨_, _, z⟩ := bad _ hfin; cases z
          | ex c ns us s => rw [ee] at hfin; obtain ⟨_, _, z⟩ := bad _ hfin; cases z
          | ok d s4 =>
            rw [ee] at hfin
            intro ow4 H5 F6 st6 y hy
            have hfin' : Fin (if acc.length < line ∧ freeS s4.σ vs1 = true then compL vs1 none (turnC vs1 g1 t1 el) (xs.drop (i + 1)) (acc ++ [d]) s4 else .no) := hfin
            split at hfin'
            · rename_i hc
              obtain ⟨hlen, hfv⟩ := hc
              have hn4 : ∀ i ∈ vs1, heldAt s4.σ i = none := fun i hi => free_at hfv hi
              have hD4 : H5 DA = some (.lst va) := F6.hold DA _ nDr upd_same
              have accC := accB.stp st6
              refine ⟨va, hD4, by rw [accC.len, ← line_eq]; exact hlen, ?_⟩
              obtain ⟨F8, st8⟩ := F6.shutW2 (o' := .lst (va ++ [y])) nDr
              have F9 := fr_wipe hn4 F8
              rw [w2] at F9
              have lw := ban_wipe (B := Shut B DA) (ow := ow4) hn4
              have len5 : s4.σ.length = s0.σ.length := by rw [← F6.len, len4, wlen]
              refine ⟨rfl, hlt, ow4, s4.σ, s4.dr, acc ++ [d], va ++ [y], len5, hn4, F9, (((stA.trans st5).trans st6).trans st8).trans (Stp.less lw), ?_, by simp only [List.length_append, List.length_cons, List.length_nil]; omega, ?_, hfin'⟩
              · exact ((accC.append (IsL.cons hy IsL.nil)).stp st8).less lw
              · exact ((isB.stp st6).stp st8).less lw
            · obtain ⟨_, _, z⟩ := bad _ hfin'; cases z
  · have ei : i = xs.length := by omega
    subst ei
    rw [List.drop_length] at hfin
    unfold compL at hfin
    rw [if_pos (show Lent none (⟨τ, dr2⟩ : S).σ from trivial)] at hfin
    exact .inl ⟨goes.2 (Nat.le_refl _), hnx ow2 τ dr2 acc va H lenT hnT F2 st2 hacc hal hfin⟩
theorem wipe_sub {vs vs1 : List Nat} (h : ∀ i ∈ vs1, i ∈ vs) (τ : List SV) : wipeS (wipeS τ vs1) vs = wipeS τ vs := by
  apply List.ext_getElem?
  intro j
  by_cases hj : j ∈ vs
  · have key : ∀ σ : List SV, σ.length = τ.length → (wipeS σ vs)[j]? = if j < τ.length then some .em else none := fun σ hl => by
      split
      · rename_i hlt
        have e : (wipeS σ vs)[j]? = some ((wipeS σ vs)[j]'(by rw [wipeS_len, hl]; exact hlt)) := List.getElem?_eq_getElem _
        rw [e, wipeS_in hj e]
      · rename_i hlt
        exact List.getElem?_eq_none (by rw [wipeS_len, hl]; omega)
    rw [key _ (wipeS_len _ _), key _ rfl]
  · rw [wipeS_out hj, wipeS_out hj, wipeS_out fun z => hj (h j z)]
theorem comp2_key {g g1 : Tg} {t t1 : M Bool} {el : M D} {vs vs1 : List Nat} {w w1 : M Wk} (hsl : ∀ i, i ∈ g.slots → i ∈ vs) (hsl1 : ∀ i, i ∈ g1.slots → i ∈ vs1) (hsub : ∀ i ∈ vs1, i ∈ vs) {σV : L2.St} {H : Hp} {Q : VK}
    (h : tF R W (mComp2 vs g w t vs1 g1 w1 t1 el) σV H Q) : tLc2 (tW R W w) (tTg R g) (tT R NoW t) (tW R NoW w1) (tTg R g1) (tT R NoW t1) (tE R NoW el) vs vs1 σV H Q := by
  obtain ⟨B, HB, ow, σ, dr, F, h⟩ := h
  refine ⟨B, HB, ow, σ, dr, F, Out.mono (OutF.bind h) fun wk s1 ow1 H1 F1 st1 h1 J hJ DA hD => ?_⟩
  obtain ⟨d0, v0, hd1, hd2, hd3⟩ := hJ
  obtain ⟨xs, sl⟩ := wk
  dsimp only at h1 hd1 hd2 hd3
  split at h1
  case isFalse => exact h1.elim
  rename_i hfr
  obtain ⟨hsl0, hfree⟩ := hfr
  cases sl with
  | some p => cases hsl0
  | none =>
  have nD : HB DA = none := F1.fresh hD
  have nB : ¬ B DA := fun z => by
    obtain ⟨o, q⟩ := F1.live DA z
    rw [hD] at q; cases q
  have nDr : ¬ R.isDr DA := fun z => by
    have := F1.drs z.1
    rw [← z.2, hD] at this
    cases this
  have hl1 : s1.σ.length = σV.length := F1.len.symm
  let Fin : Res (List D) → Prop := fun r => OutF R W B HB (Ban B ow1 s1.σ) H1 σV (r.then fun ds s' => .ok (.lst ds) { s' with σ := backS s1.σ s'.σ vs }) Q
  have bad : ∀ r, (∀ c ns us s, r ≠ .ex c ns us s) → Fin r → ∃ acc s, r = .ok acc s := fun r ne h => by
    cases r with
    | ok acc s => exact ⟨acc, s, rfl⟩
    | ex c ns us s => exact absurd rfl (ne c ns us s)
    | no => exact h.elim
  have fin0 : Fin (comp2L vs (turn2 vs g t w1 vs1 g1 t1 el) xs [] s1) := h1
  let Wi : Nat → Nat → Hp → Prop := fun i m H => m = xs.length - i ∧ i ≤ xs.length ∧ ∃ (ow : Ow) (τ : List SV) (dr : List Int) (acc : List D) (va : List V), τ.length = s1.σ.length ∧ (∀ i ∈ vs, heldAt τ i = none) ∧
    Fr R (Shut B DA) (upd HB DA (.lst va)) ow (wipeS τ vs) dr (wipe σV vs) H ∧ Stp (Ban B ow1 s1.σ) H1 (Ban (Shut B DA) ow (wipeS τ vs)) H ∧ IsL R (Ban (Shut B DA) ow (wipeS τ vs)) H acc va ∧ acc.length ≤ line ∧
    Fin (comp2L vs (turn2 vs g t w1 vs1 g1 t1 el) (xs.drop i) acc ⟨τ, dr⟩)
  refine ⟨Wi, ⟨xs.length, rfl, Nat.zero_le _, ?_⟩, ?_⟩
  · have hn : ∀ i ∈ vs, heldAt s1.σ i = none := fun i hi => free_at hfree hi
    obtain ⟨F4, st4⟩ := (fr_wipe hn F1).shut2 (o := .lst []) hD
    have st3 : Stp (Ban B ow1 s1.σ) H1 (Ban B ow1 (wipeS s1.σ vs)) H1 := Stp.less (ban_wipe hn)
    exact ⟨ow1, s1.σ, s1.dr, [], [], rfl, hn, F4, st3.trans st4, IsL.nil, Nat.zero_le _, fin0⟩
  · rintro i m H ⟨rfl, hi, ow2, τ, dr2, acc, va, lenT, hnT, F2, st2, hacc, hal, hfin⟩
    have goes := hd3 _ H ((hd1 rfl).stp st2).p F2.liveB i
    by_cases hlt : i < xs.length
    · have ex0 : xs[i]? = some xs[i] := by simp [hlt]
      obtain ⟨go, yl⟩ := goes.1 _ ex0
      have hdrop : xs.drop i = xs[i] :: xs.drop (i + 1) := List.drop_eq_getElem_cons hlt
      rw [hdrop] at hfin
      unfold comp2L at hfin
      refine .inr ⟨go, fun H' => Wi (i + 1) (xs.length - (i + 1)) H', fun H' h => ⟨_, by omega, h⟩, fun x H' hy => ?_⟩
      obtain ⟨ex, hx⟩ := yl x H' hy
      have F3 := F2.ext ex
      unfold turn2 at hfin
      dsimp only at hfin
      cases hb : bindT g xs[i] (wipeS τ vs) with
      | none => rw [hb] at hfin; exact hfin.elim
      | some σ' =>
        rw [hb] at hfin
        dsimp only at hfin
        refine ⟨Shut B DA, upd HB DA (.lst va), ow2, wipeS τ vs, σ', dr2, xs[i], F3, hx, hb, fun σ2 F4 sub4 len4 keep4 => ?_⟩
        have w2 : wipe σ2 vs = wipe σV vs := wipe_same (by rw [len4, wipe_length]) fun q hq => by rw [(keep4 q fun z => hq (hsl q z)).1, wipe_out hq]
        refine ⟨w2, _, _, ow2, σ', dr2, F4, ?_⟩
        have stA : Stp (Ban B ow1 s1.σ) H1 (Ban (Shut B DA) ow2 σ') H' := (st2.trans (Stp.new ex)).trans (Stp.less sub4)
        have accA : IsL R (Ban (Shut B DA) ow2 σ') H' acc va := (hacc.ext ex).less sub4
        cases et : t ⟨σ', dr2⟩ with
        | no => rw [et] at hfin; exact hfin.elim
        | ex c ns us s => rw [et] at hfin; exact hfin.elim
        | ok bb s3 =>
          rw [et] at hfin
          intro ow3 H3 F5 st5
          have len3 : s3.σ.length = s1.σ.length := by rw [← F5.len, len4, wipe_length, F1.len]
          have accB := accA.stp st5
          cases bb with
          | false =>
            have hfin' : Fin (if freeS s3.σ vs = true then comp2L vs (turn2 vs g t w1 vs1 g1 t1 el) (xs.drop (i + 1)) acc s3 else .no) := hfin
            split at hfin'
            · rename_i hfv
              have hn3 : ∀ i ∈ vs, heldAt s3.σ i = none := fun i hi => free_at hfv hi
              have F7 := fr_wipe hn3 F5
              rw [w2] at F7
              have lw := ban_wipe (B := Shut B DA) (ow := ow3) hn3
              exact ⟨rfl, hlt, ow3, s3.σ, s3.dr, acc, va, len3, hn3, F7, (stA.trans st5).trans (Stp.less lw), accB.less lw, hal, hfin'⟩
            · exact hfin'.elim
          | true =>
            dsimp only [Res.then] at hfin
            show tW R NoW w1 σ2 H3 _
            refine ⟨_, _, ow3, s3.σ, s3.dr, F5, ?_⟩
            cases ew : w1 s3 with
            | no => rw [ew] at hfin; exact hfin.elim
            | ex c ns us s => rw [ew] at hfin; exact hfin.elim
            | ok wk1 s4 =>
              rw [ew] at hfin
              intro ow4 H4 F6 st6 J1 hJ1
              obtain ⟨d1, v1, k1, k2, k3⟩ := hJ1
              obtain ⟨xs1, sl1⟩ := wk1
              dsimp only at hfin k1 k2 k3
              cases sl1 with
              | some p => exact hfin.elim
              | none =>
              by_cases hf1 : freeS s4.σ vs1 = true
              · rw [if_pos ⟨rfl, hf1⟩] at hfin
                have len4 : s4.σ.length = s1.σ.length := by rw [← F6.len, len4, wipe_length, F1.len]
                let Fin1 : Res (List D) → Prop := fun r => Fin (match r with
                  | .ok acc' s' => if freeS s'.σ vs = true then comp2L vs (turn2 vs g t w1 vs1 g1 t1 el) (xs.drop (i + 1)) acc' s' else .no
                  | _ => .no)
                refine inner_key hsl1 nDr k3 Fin1 (fun r hr => ?_) F6 hf1 ((stA.trans st5).trans st6) (accB.stp st6) hal (k1 rfl) hfin fun ow5 τ5 dr5 acc5 va5 H5 len5 hn5 F7 st7 hacc5 hal5 hfin5 => ?_
                · cases r with
                  | ok acc s => exact ⟨acc, s, rfl⟩
                  | ex c ns us s => exact hr.elim
                  | no => exact hr.elim
                · have hfin6 : Fin (if freeS τ5 vs = true then comp2L vs (turn2 vs g t w1 vs1 g1 t1 el) (xs.drop (i + 1)) acc5 ⟨τ5, dr5⟩ else .no) := hfin5
                  split at hfin6
                  · rename_i hfv
                    have hnv : ∀ i ∈ vs, heldAt τ5 i = none := fun i hi => free_at hfv hi
                    have hnw : ∀ i ∈ vs, heldAt (wipeS τ5 vs1) i = none := fun i hi => by rw [held_wipe hn5]; exact hnv i hi
                    have F8 := fr_wipe hnw F7
                    have e2 : wipe (wipe σ2 vs1) vs = wipe σV vs := wipe_same (by rw [wipe_length]; have := congrArg List.length w2; rwa [wipe_length, wipe_length] at this) fun q hq => by
                      rw [wipe_out fun z => hq (hsub q z), ← wipe_out (σ := σ2) hq, w2, wipe_out hq]
                    rw [wipe_sub hsub, e2] at F8
                    have lw : ∀ a, Ban (Shut B DA) ow5 (wipeS τ5 vs) a → Ban (Shut B DA) ow5 (wipeS τ5 vs1) a := by
                      rw [← wipe_sub hsub]
                      exact ban_wipe hnw
                    exact ⟨rfl, hlt, ow5, τ5, dr5, acc5, va5, len5.trans len4, hnv, F8, st7.trans (Stp.less lw), hacc5.less lw, hal5, hfin6⟩
                  · exact hfin6.elim
              · rw [if_neg fun z => hf1 z.2] at hfin
                exact hfin.elim
    · have ei : i = xs.length := by omega
      subst ei
      refine .inl ⟨goes.2 (Nat.le_refl _), ?_⟩
      rw [List.drop_length] at hfin
      unfold comp2L at hfin
      have hDA : H DA = some (.lst va) := F2.hold DA _ nDr upd_same
      have eh : ∀ i, heldAt (backS s1.σ τ vs) i = heldAt (wipeS τ vs) i := fun i => by
        rw [held_back hfree hnT, held_wipe hnT]
      have F4 : Fr R (Shut B DA) (upd HB DA (.lst va)) ow2 (backS s1.σ τ vs) dr2 σV H := by
        refine F2.reval (by rw [backS_len, lenT]; exact F1.len) eh (fun i d e => ?_) fun i d e => ?_
        · by_cases hi : i ∈ vs
          · have e2 := backS_in hi e
            have e3 : s1.σ[i]? = some (.val d) := by
              rw [List.getD_eq_getElem?_getD] at e2
              cases q : s1.σ[i]? with
              | none => rw [q] at e2; cases e2
              | some z => rw [q] at e2; rw [e2]; rfl
            obtain ⟨v, h1, h2⟩ := F1.val i d e3
            exact ⟨v, h1, h2.stp st2⟩
          · rw [backS_out hi] at e
            obtain ⟨v, h1, h2⟩ := F2.val i d (by rw [wipeS_out hi]; exact e)
            exact ⟨v, by rw [wipe_out hi] at h1; exact h1, h2⟩
        · have hi : i ∉ vs := fun z => by rw [held_wipe hnT, hnT i z] at e; cases e
          exact (wipe_out hi).symm
      have lb : ∀ a, Ban (Shut B DA) ow2 (backS s1.σ τ vs) a → Ban (Shut B DA) ow2 (wipeS τ vs) a := Ban.sub fun i d e => ⟨d, by rw [← eh]; exact e⟩
      exact hfin DA va ow2 H F4 (st2.trans (Stp.less lb)) nD nB (hacc.less lb) hDA
theorem comp2_lst {vs vs1 : List Nat} {g g1 : Tg} {w w1 : M Wk} {t t1 : M Bool} {el : M D} : ∀ s d s', mComp2 vs g w t vs1 g1 w1 t1 el s = .ok d s' → ∃ xs, d = .lst xs := fun s d s' h => by
  obtain ⟨k, _, _, h⟩ := then_ok h
  split at h
  · obtain ⟨ds, _, _, h⟩ := then_ok h
    cases h
    exact ⟨ds, rfl⟩
  · cases h
theorem m_comp2 (C : Ct X R W N sc k) {elt tg iter tg1 iter1 : Expr} {ifs ifs1 : List Expr} {scope : Scope} {own : List (Str × Nat)} {pos : Pos} {w w1 : M Wk} {g g1 : Tg} {t t1 : M Bool} {el : M D} {vs vs1 : List Nat}
    (hi : PI X tg iter (tW R W w)) (ok : blkC N sc scope own = true) (ev : own.map (·.2) = vs)
    (hg : ∀ X', Ct X' R NoW N (relS scope sc) k → Fs X' scope → PG X' tg (tTg R g)) (ht : ∀ X', Ct X' R NoW N (relS scope sc) k → Fs X' scope → PTsM X' R NoW ifs t)
    (hi1 : ∀ X', Ct X' R NoW N (relS scope sc) k → Fs X' scope → PI X' tg1 iter1 (tW R NoW w1))
    (hg1 : ∀ X', Ct X' R NoW N (relS scope sc) k → Fs X' scope → PG X' tg1 (tTg R g1)) (ht1 : ∀ X', Ct X' R NoW N (relS scope sc) k → Fs X' scope → PTsM X' R NoW ifs1 t1)
    (he : ∀ X', Ct X' R NoW N (relS scope sc) k → Fs X' scope → PE X' elt (tE R NoW el)) (hsl : ∀ i, i ∈ g.slots → i ∈ vs) (hsl1 : ∀ i, i ∈ g1.slots → i ∈ vs1) (hsub : ∀ i ∈ vs1, i ∈ vs)
    (hs : ∀ x, foldedSetIterable iter X.env x = pure x := by intro _; rfl) (hs1 : ∀ env x, foldedSetIterable iter1 env x = pure x := by intro _ _; rfl) :
    PE X (.ListComp elt [⟨tg, iter, ifs, 0⟩, ⟨tg1, iter1, ifs1, 0⟩] scope pos) (tE R W (mComp2 vs g w t vs1 g1 w1 t1 el)) := by
  have fs : ∀ s H Ca cl fp, Fs (X.blk s H scope (compEnvC scope cl Ca X.env) fp) scope := fun s H Ca cl fp x h => by
    show (scope.names.lookup x == some .cell) = true
    rw [h]; rfl
  refine m_f ((pe_lc2 (vs1 := vs1) C.calm (by rw [C.eN]; exact C.nd) hi (by rw [C.eN, C.esc]; exact blkOk_by ok) (by rw [ev]; exact hsub) (fun s H Ca cl fp => hg _ (C.blk s H scope Ca cl fp) (fs s H Ca cl fp)) (fun s H Ca cl fp => (ht _ (C.blk s H scope Ca cl fp) (fs s H Ca cl fp)).run)
    (fun s H Ca cl fp => hi1 _ (C.blk s H scope Ca cl fp) (fs s H Ca cl fp)) (fun s H Ca cl fp => hg1 _ (C.blk s H scope Ca cl fp) (fs s H Ca cl fp)) (fun s H Ca cl fp => (ht1 _ (C.blk s H scope Ca cl fp) (fs s H Ca cl fp)).run) (fun s H Ca cl fp => he _ (C.blk s H scope Ca cl fp) (fs s H Ca cl fp)) hs hs1).imp fun σV H Q h => ?_) comp2_lst
  rw [ev]
  exact comp2_key hsl hsl1 hsub h
end
end Mi
set_option Elab.async false
set_option linter.all false
set_option maxRecDepth 100000
set_option maxHeartbeats 4000000
/-! Mi39: the union of two sets of few small numbers. -/
namespace PySem.MiUn
open PySem PySem.Spec PyProof.Rows L2
/-! ### tables without a collision: numbers 0 .. 6, a mask of 7 or more -/
def Sm (h : Int) : Prop := 0 ≤ h ∧ h ≤ 6
theorem bits_sm {h : Int} (q : Sm h) : SetTable.bits h = h.toNat := by
  obtain ⟨a, b⟩ := q
  unfold SetTable.bits
  rw [Int.emod_eq_of_lt a (by omega)]
theorem free_now {m i p k : Nat} {owner : Array (Option Nat)} (h : owner.getD i (some 0) = none) : SetTable.layClean.free m owner (k + 1) i p = some i := by
  have hr : ∃ n, SetTable.runEnd m i + 1 - i = n + 1 := by
    unfold SetTable.runEnd
    split
    · exact ⟨9, by omega⟩
    · exact ⟨0, by omega⟩
  obtain ⟨n, hn⟩ := hr
  unfold SetTable.layClean.free
  rw [hn, List.range_succ_eq_map, List.find?_cons_of_pos (by simp [h])]
  simp
theorem turns_pos (m : Nat) : ∃ k, SetTable.turns m = k + 1 := by
  unfold SetTable.turns
  exact ⟨_, rfl⟩
/-- who sits where -/
def At (m : Nat) (done : List Int) (owner : Array (Option Nat)) : Prop := owner.size = m + 1 ∧ ∀ j, j ≤ m → owner.getD j (some 0) = done.findIdx? fun h => h == (j : Int)
theorem at_lay {m : Nat} (hm : 7 ≤ m) : ∀ (rest done : List Int) (owner : Array (Option Nat)), At m done owner → (∀ h ∈ rest, Sm h) → (done ++ rest).Nodup →
    ∃ owner', rest.foldl (stepF m) (some (owner, done.length)) = some (owner', (done ++ rest).length) ∧ At m (done ++ rest) owner'
  | [], done, owner, W, _, _ => ⟨owner, by simp, by simpa using W⟩
  | h :: rest, done, owner, W, hs, nd => by
    have q := hs h List.mem_cons_self
    have e1 : done ++ h :: rest = (done ++ [h]) ++ rest := by simp
    have hn : h ∉ done := fun z => (List.nodup_append.mp nd).2.2 h z h List.mem_cons_self rfl
    have hj : h.toNat ≤ m := by have := q.2; omega
    have hc : ((h.toNat : Nat) : Int) = h := Int.toNat_of_nonneg q.1
    have hfree : owner.getD h.toNat (some 0) = none := by
      rw [W.2 _ hj, hc, List.findIdx?_eq_none_iff]
      intro x hx
      exact beq_eq_false_iff_ne.mpr fun z => hn (z ▸ hx)
    obtain ⟨k, hk⟩ := turns_pos m
    have hf : SetTable.layClean.free m owner (SetTable.turns m) (SetTable.bits h % (m + 1)) (SetTable.bits h) = some h.toNat := by
      rw [bits_sm q, Nat.mod_eq_of_lt (by omega), hk]
      exact free_now hfree
    have W2 : At m (done ++ [h]) (owner.setIfInBounds h.toNat (some done.length)) := by
      refine ⟨by rw [Array.size_setIfInBounds]; exact W.1, fun j hj2 => ?_⟩
      rw [List.findIdx?_append]
      by_cases e : j = h.toNat
      · subst e
        have z : (owner.setIfInBounds h.toNat (some done.length)).getD h.toNat (some 0) = some done.length := oAt_set_self _ (by rw [W.1]; omega)
        rw [z, ← W.2 _ hj2, hfree, hc]
        simp
      · have z : (owner.setIfInBounds h.toNat (some done.length)).getD j (some 0) = owner.getD j (some 0) := oAt_set_ne _ e
        have ne : (h == (j : Int)) = false := beq_eq_false_iff_ne.mpr fun w => e (by omega)
        rw [z, W.2 _ hj2]
        simp [ne]
    obtain ⟨owner', f, W3⟩ := at_lay hm rest (done ++ [h]) _ W2 (fun x hx => hs x (List.mem_cons_of_mem _ hx)) (by rw [← e1]; exact nd)
    rw [e1]
    refine ⟨owner', ?_, W3⟩
    rw [List.foldl_cons, stepF_some hf]
    simpa using f
theorem lay_sm {m : Nat} (hm : 7 ≤ m) {hs : Array Int} (h1 : ∀ h ∈ hs.toList, Sm h) (nd : hs.toList.Nodup) : ∃ owner, SetTable.layClean m hs = some owner ∧ At m hs.toList owner := by
  obtain ⟨owner, f, W⟩ := at_lay hm hs.toList [] (Array.replicate (m + 1) none) ⟨by simp, fun j hj => by
    rw [Array.getD_eq_getD_getElem?, Array.getElem?_replicate, if_pos (by omega)]
    rfl⟩ h1 (by simpa using nd)
  refine ⟨owner, ?_, by simpa using W⟩
  rw [layClean_eq]
  have f' : hs.toList.foldl (stepF m) (some (Array.replicate (m + 1) none, 0)) = some (owner, ([] ++ hs.toList).length) := f
  rw [f']
  rfl
/-- the table laid: all keep their places in the order told -/
theorem laid_sm {m fi mo : Nat} {le pl : Bool} (hm : 7 ≤ m) {hs : Array Int} (h1 : ∀ h ∈ hs.toList, Sm h) (nd : hs.toList.Nodup) :
    ∃ (t : SetTable) (order : Array Nat), SetTable.laid m fi mo le pl hs = some (t, order) ∧ order.toList.Perm (List.range hs.size) ∧ t.place.size = hs.size ∧ t.dummies = #[] ∧ t.mask = m ∧ t.led = le ∧ Ris t.place.toList := by
  obtain ⟨owner, e, W⟩ := lay_sm hm h1 nd
  let live := (List.range (m + 1)).filterMap fun j => (owner.getD j none).map (j, ·)
  have hg : ∀ j, j ≤ m → owner.getD j none = hs.toList.findIdx? fun h => h == (j : Int) := fun j hj => by
    rw [oAt_none (by rw [W.1]; omega)]
    exact W.2 j hj
  have mem : ∀ j k, (j, k) ∈ live ↔ j ≤ m ∧ hs.toList.findIdx? (fun h => h == (j : Int)) = some k := fun j k => by
    simp only [live, List.mem_filterMap, List.mem_range]
    constructor
    · rintro ⟨a, ha, q⟩
      rw [hg a (by omega)] at q
      obtain ⟨x, hx, ex⟩ := Option.map_eq_some_iff.mp q
      cases ex
      exact ⟨by omega, hx⟩
    · rintro ⟨hj, q⟩
      exact ⟨j, by omega, by rw [hg j hj, q]; rfl⟩
  have hall : ∀ k, k < hs.size → k ∈ live.map (·.2) := fun k hk => by
    have hk' : k < hs.toList.length := hk
    have q := h1 (hs.toList[k]) (List.getElem_mem hk')
    refine List.mem_map.mpr ⟨(hs.toList[k].toNat, k), (mem _ _).mpr ⟨by have := q.2; omega, ?_⟩, rfl⟩
    rw [Int.toNat_of_nonneg q.1, List.findIdx?_eq_some_iff_getElem]
    refine ⟨hk', by simp, fun j hj z => ?_⟩
    have z2 : hs.toList[j]'(Nat.lt_trans hj hk') = hs.toList[k] := by simpa using z
    have := (List.getElem_inj nd).mp z2
    omega
  have ris := ris_live (fun j => owner.getD j none) (List.range (m + 1)) (by
    unfold Ris
    exact List.pairwise_lt_range)
  have r1 : Ris (live.map (·.1)) := ris.1
  have nd1 : (live.map (·.1)).Nodup := List.Pairwise.imp (fun h => Nat.ne_of_lt h) r1
  have lt : ∀ j k, (j, k) ∈ live → k < hs.size ∧ hs.toList[k]? = some (j : Int) := fun j k hjk => by
    obtain ⟨_, q⟩ := (mem j k).mp hjk
    obtain ⟨hk, q2, _⟩ := List.findIdx?_eq_some_iff_getElem.mp q
    exact ⟨hk, by rw [List.getElem?_eq_getElem hk]; congr 1; simpa using q2⟩
  have nd2 : (live.map (·.2)).Nodup := by
    rw [List.nodup_iff_pairwise_ne, List.pairwise_map]
    have nd1' : live.Pairwise fun a b => a.1 ≠ b.1 := List.pairwise_map.mp nd1
    refine List.Pairwise.imp_of_mem (fun {a b} ha hb hne he => hne ?_) nd1'
    have qa := (lt a.1 a.2 ha).2
    have qb := (lt b.1 b.2 hb).2
    rw [he, qb] at qa
    have := Option.some.inj qa
    omega
  have hlen : live.length = hs.size := by
    have a := nat_nodup_len (live.map (·.2)) (List.range hs.size) nd2 fun k hk => by
      obtain ⟨q, hq, rfl⟩ := List.mem_map.mp hk
      exact List.mem_range.mpr (lt q.1 q.2 hq).1
    have b := nat_nodup_len (List.range hs.size) (live.map (·.2)) List.nodup_range fun k hk => hall k (List.mem_range.mp hk)
    rw [List.length_map, List.length_range] at a b
    omega
  refine ⟨{ mask := m, place := (live.map (·.1)).toArray, dummies := #[], finger := fi, led := le, moves := mo, plain := pl }, (live.map (·.2)).toArray, ?_, perm_range hs.size _ (by rw [← hlen]; simp) (fun k hk => by simpa using hall k hk), by simp [hlen], rfl, rfl, rfl, r1⟩
  show (SetTable.layClean m hs).bind (fun owner => _) = _
  rw [e]
  rfl
end PySem.MiUn
set_option Elab.async false
set_option linter.all false
set_option maxRecDepth 100000
set_option maxHeartbeats 4000000
/-! Mi40: merging sets of few small numbers. -/
namespace PySem.MiUn
open PySem PySem.Spec PyProof.Rows L2
theorem hash_sm {k : Int} (q : Sm k) : hashInt k = k := by
  obtain ⟨a, b⟩ := q
  have : k = 0 ∨ k = 1 ∨ k = 2 ∨ k = 3 ∨ k = 4 ∨ k = 5 ∨ k = 6 := by omega
  rcases this with rfl | rfl | rfl | rfl | rfl | rfl | rfl <;> decide
/-- a set of small numbers at a, its table t -/
structure SS (w : World) (h : Heap) (a : Addr) (S : Int → Bool) (t : SetTable) (n : Nat) (o : Obj) (es : Array (Int × Value)) (ep : Nat) : Prop where
  ob : h.get? a = some o
  ex : o.ExactSet
  da : o.data = .set es ep t
  gd : ∀ e ∈ es.toList, GoodE e
  nd : (es.toList.map keyOf).Nodup
  mem : ∀ k, S k = true ↔ k ∈ es.toList.map keyOf
  fit : t.fits es.size = true
  sz : es.size = n
  ris : Ris t.place.toList
  led : w.params.followText "set-order" = true ∨ t.led = true
  sm : ∀ k, S k = true → Sm k
section
variable {P : Program} {w : World} {A : Around} {E : Value → Shared → Prop} {s : Shared} {h : Heap} {a p o' : Addr} {S T : Int → Bool} {t : SetTable} {n : Nat} {o : Obj} {es : Array (Int × Value)} {ep : Nat}
theorem SS.few (R : SS w h a S t n o es ep) : n ≤ 7 := by
  have q := nat_nodup_len ((es.toList.map keyOf).map Int.toNat) (List.range 7) (by
    rw [List.nodup_iff_pairwise_ne, List.pairwise_map]
    refine List.Pairwise.imp_of_mem (fun {x y} hx hy hne he => hne ?_) R.nd
    have a1 := (R.sm x ((R.mem x).mpr hx)).1
    have a2 := (R.sm y ((R.mem y).mpr hy)).1
    omega) fun x hx => by
    obtain ⟨k, hk, rfl⟩ := List.mem_map.mp hx
    obtain ⟨a1, a2⟩ := R.sm k ((R.mem k).mpr hk)
    exact List.mem_range.mpr (by omega)
  simp only [List.length_map, List.length_range, Array.length_toList] at q
  have := R.sz
  omega
theorem SS.at (R : SS w h a S t n o es ep) {h' : Heap} (k : h'.get? a = h.get? a) : SS w h' a S t n o es ep := ⟨k.trans R.ob, R.ex, R.da, R.gd, R.nd, R.mem, R.fit, R.sz, R.ris, R.led, R.sm⟩
theorem SS.setR (R : SS w h a S t n o es ep) : SetR w h a S n := ⟨o, es, ep, t, R.ob, R.ex, R.da, R.gd, R.nd, R.mem, by have := R.few; have := R.sz; unfold scanBound; omega, R.fit, R.sz, R.ris, R.led⟩
theorem SS.of (R : SetR w h a S n) (sm : ∀ k, S k = true → Sm k) : ∃ o es ep t, SS w h a S t n o es ep := by
  obtain ⟨o, es, ep, t, h1, h2, h3, h4, h5, h6, h7, h8, h9, h10, h11⟩ := R
  exact ⟨o, es, ep, t, h1, h2, h3, h4, h5, h6, h8, h9, h10, h11, sm⟩
theorem SS.hashes (R : SS w h a S t n o es ep) : ((es.map (·.1)).toList = es.toList.map keyOf) := by
  rw [Array.toList_map]
  apply List.map_congr_left
  intro e he
  obtain ⟨k, tk, h1, h2⟩ := R.gd e he
  have hk : keyOf e = k := by unfold keyOf; rw [h1]
  have hs := R.sm k ((R.mem k).mpr (List.mem_map.mpr ⟨e, he, hk⟩))
  rw [h2, hash_sm hs, hk]
theorem SS.hsm (R : SS w h a S t n o es ep) : ∀ x ∈ (es.map (·.1)).toList, Sm x := by
  rw [R.hashes]
  exact fun x hx => R.sm x ((R.mem x).mpr hx)
theorem SS.hnd (R : SS w h a S t n o es ep) : (es.map (·.1)).toList.Nodup := by rw [R.hashes]; exact R.nd
theorem range_get {α : Type} : ∀ l : List α, (List.range l.length).filterMap (fun i => l[i]?) = l
  | [] => rfl
  | a :: r => by
    rw [List.length_cons, List.range_succ_eq_map, List.filterMap_cons_some (b := a) (by simp), List.filterMap_map]
    congr 1
    exact range_get r
/-- the entries in a new order -/
theorem order_es {order : Array Nat} (q : order.toList.Perm (List.range es.size)) : (order.filterMap (es[·]?)).toList.Perm es.toList := by
  rw [Array.toList_filterMap]
  refine (q.filterMap _).trans ?_
  have e : (fun (i : Nat) => es[i]?) = fun (i : Nat) => es.toList[i]? := by
    funext i
    simp
  rw [show es.size = es.toList.length from rfl, e, range_get]
/-- the same set, stored anew -/
theorem SS.stored (R : SS w h a S t n o es ep) {es2 : Array (Int × Value)} {t2 : SetTable} (q : es2.toList.Perm es.toList) (f : t2.fits es2.size = true) (r : Ris t2.place.toList) (l : w.params.followText "set-order" = true ∨ t2.led = true)
    {b : Addr} {ob : Obj} {eb : Array (Int × Value)} {epb : Nat} {tb : SetTable} {g : Heap} (hb : g.get? b = some ob) (xb : ob.ExactSet) (db : ob.data = .set eb epb tb) :
    SS w (g.update b (Obj.putSet es2 t2)) b S t2 n { ob with data := .set es2 (epb + 1) t2 } es2 (epb + 1) where
  ob := store_at hb db
  ex := xb
  da := rfl
  gd := fun e he => R.gd e (q.mem_iff.mp he)
  nd := (q.map keyOf).nodup_iff.mpr R.nd
  mem := fun k => (R.mem k).trans (q.map keyOf).mem_iff.symm
  fit := f
  sz := by
    have := q.length_eq
    rw [Array.length_toList, Array.length_toList] at this
    exact this.trans R.sz
  ris := r
  led := l
  sm := R.sm
theorem size_ok : ∀ x, x ≤ 40 → 8 ≤ SetTable.sizeAbove x ∧ SetTable.sizeAbove x ≤ 64 := by decide
theorem fits_of {t : SetTable} {k : Nat} (h1 : t.place.size = k) (h2 : t.dummies = #[]) (h3 : k ≤ t.mask) : t.fits k = true := by
  unfold SetTable.fits SetTable.fill
  rw [h2, h1, Bool.and_eq_true, beq_iff_eq, decide_eq_true_eq]
  exact ⟨rfl, by simpa using h3⟩
/-- the table laid anew -/
theorem relay_sm (R : SS w s.heap a S t n o es ep) {x : Nat} (hx : x ≤ 40) {Q : Unit → Shared → Prop}
    (hQ : ∀ h' t' o' es' ep', Heap.SameBut a s.heap h' → SS w h' a S t' n o' es' ep' → t'.dummies = #[] → 7 ≤ t'.mask → t'.led = t.led → Q () { s with heap := h' }) : wpAny (model P w) A (setRelay a x) Q E s := by
  obtain ⟨z1, z2⟩ := size_ok x hx
  obtain ⟨t', order, e, hp, q1, q2, q3, q4, q5⟩ := laid_sm (m := SetTable.sizeAbove x - 1) (fi := t.finger) (mo := t.movedTo (SetTable.sizeAbove x - 1)) (le := t.led) (pl := t.plain) (by omega) R.hsm R.hnd
  rw [Array.size_map] at hp q1
  have pm := order_es hp
  have hs2 : (order.filterMap (es[·]?)).size = es.size := by
    have := pm.length_eq
    rwa [Array.length_toList, Array.length_toList] at this
  have few := R.few
  have sz := R.sz
  rw [setRelay_eq]
  refine wpAny_bind (wpAny_setState_of R.ob R.da R.fit ?_)
  dsimp only
  refine wp_if_neg (by rw [sizeLine_eq]; omega) ?_
  try refine wpAny_bind (wpAny_pure ?_)
  have e' : t.relaid (es.map (·.1)) x = some (t', order) := e
  rw [e']
  dsimp only
  refine wpAny_bind ?_
  refine wp_if_neg (by rw [hs2]; simp) ?_
  try refine wpAny_bind (wpAny_pure ?_)
  refine wpAny_pure ?_
  dsimp only
  refine wpAny_storeSet_of R.ob R.da ?_ (by rw [hs2, sizeLine_eq]; omega)
  exact hQ _ t' _ _ _ (Heap.SameBut.update ..) (R.stored pm (fits_of (by rw [hs2]; exact q1) q2 (by rw [hs2, q3]; omega)) q5 (R.led.imp id fun z => by rw [q4]; exact z) R.ob R.ex R.da) q2 (by rw [q3]; omega) q4
theorem roomFor_sm (R : SS w s.heap a S t n o es ep) {m : Nat} (hm : m ≤ 8) {Q : Unit → Shared → Prop}
    (hQ : ∀ h' t' o' es' ep', Heap.SameBut a s.heap h' → SS w h' a S t' n o' es' ep' → (t' = t ∨ (t'.dummies = #[] ∧ 7 ≤ t'.mask)) → t'.led = t.led → Q () { s with heap := h' }) : wpAny (model P w) A (setRoomFor a m) Q E s := by
  unfold setRoomFor
  refine wpAny_bind (wpAny_setState_of R.ob R.da R.fit ?_)
  dsimp only
  have hf := R.fit
  have few := R.few
  have sz := R.sz
  have hpl : t.place.size = es.size := by
    unfold SetTable.fits at hf
    rw [Bool.and_eq_true, beq_iff_eq] at hf
    exact hf.1
  unfold SetTable.roomFor
  split
  · rename_i x hx
    split at hx
    · cases hx
      exact relay_sm R (by omega) fun h' t' o' es' ep' sb R' d m l => hQ h' t' o' es' ep' sb R' (.inr ⟨d, m⟩) l
    · cases hx
  · exact wpAny_pure (hQ _ t o es ep (Heap.SameBut.refl _ _) R (.inl rfl) rfl)
theorem setMerge_eq (x y : Addr) (each : Sem Unit) : setMerge x y each = (do
    if x == y then return
    let (eo, epoch, to) ← setState y
    if eo.isEmpty then return
    setRoomFor x eo.size
    let (_, _, ts) ← setState x
    match ts.road to with
    | .slotForSlot => storeSet x eo { to with finger := ts.finger, led := ts.led && to.led, moves := ts.moves, plain := ts.plain && to.plain }
    | .clean =>
      let (es, t) ← (do
        let some (t, order) := SetTable.laid ts.mask ts.finger ts.moves (ts.led && to.led) (ts.plain && to.plain) (eo.map (·.1)) | unsupported "internal:set-table-without-room"
        let es' := order.filterMap (eo[·]?)
        if es'.size != eo.size then unsupported "internal:set-table-lost-an-element"
        pure (es', t) : Sem (Array (Int × Value) × SetTable))
      storeSet x es t
    | .oneByOne =>
      for (h, z) in ← setWalkUnseen y [x] (some x) do
        let _ ← holding [z] (setAddHashed x z h)
        each
        if (← setState y).2.1 != epoch then unsupported "set.changed-during-merge") := by rfl
end
end PySem.MiUn
set_option Elab.async false
set_option linter.all false
set_option maxRecDepth 100000
set_option maxHeartbeats 4000000
/-! Mi41: setMerge, the two roads. -/
namespace PySem.MiUn
open PySem PySem.Spec PyProof.Rows L2
section
variable {P : Program} {w : World} {A : Around} {E : Value → Shared → Prop} {s : Shared} {h : Heap} {a p y : Addr} {S T : Int → Bool} {t tq : SetTable} {n m : Nat} {o oy : Obj} {es ey : Array (Int × Value)} {ep epy : Nat}
theorem SS.other (R : SS w h a S t n o es ep) {h' : Heap} (sb : Heap.SameBut p h h') (ne : a ≠ p) : SS w h' a S t n o es ep := R.at (sb.2 _ ne)
theorem SS.place (R : SS w h a S t n o es ep) : t.place.size = n ∧ t.fill ≤ t.mask := by
  have hf := R.fit
  unfold SetTable.fits at hf
  rw [Bool.and_eq_true, beq_iff_eq, decide_eq_true_eq] at hf
  exact ⟨hf.1.trans R.sz, hf.2⟩
theorem SS.none (R : SS w h a S t 0 o es ep) : ∀ k, S k = false := fun k => by
  cases q : S k with
  | false => rfl
  | true =>
    have hk := (R.mem k).mp q
    obtain ⟨e, he, _⟩ := List.mem_map.mp hk
    have := R.sz
    have hl : es.toList.length = 0 := this
    rw [List.eq_nil_of_length_eq_zero hl] at he
    cases he
theorem SS.congr (R : SS w h a S t n o es ep) {S' : Int → Bool} (e : ∀ k, S' k = S k) : SS w h a S' t n o es ep := by
  have : S' = S := funext e
  rw [this]
  exact R
/-- into an empty set -/
theorem merge_clean (Rp : SS w s.heap p S t 0 o es ep) (hd : t.dummies = #[]) (hm : 7 ≤ t.mask) (Ry : SS w s.heap y T tq m oy ey epy) (ne : p ≠ y) {each : Sem Unit} {Q : Unit → Shared → Prop}
    (hQ : ∀ h' t' o' es' ep', Heap.SameBut p s.heap h' → SS w h' p T t' m o' es' ep' → (m = 0 → t' = t) → Q () { s with heap := h' }) : wpAny (model P w) A (setMerge p y each) Q E s := by
  rw [setMerge_eq]
  refine wp_if_neg (by rw [beq_eq_false_iff_ne.mpr ne]; exact Bool.false_ne_true) ?_
  try refine wpAny_bind (wpAny_pure ?_)
  refine wpAny_bind (wpAny_setState_of Ry.ob Ry.da Ry.fit ?_)
  dsimp only
  have fy := Ry.few
  by_cases h0 : m = 0
  · subst h0
    have he : ey.isEmpty = true := by
      have := Ry.sz
      simpa [Array.isEmpty] using this
    refine wp_if_pos he ?_
    exact wpAny_pure (hQ _ t o es ep (Heap.SameBut.refl _ _) (Rp.congr fun k => by rw [Ry.none k, Rp.none k]) fun _ => rfl)
  · have he : ¬ ey.isEmpty = true := by
      have := Ry.sz
      intro z
      have : ey.size = 0 := by simpa [Array.isEmpty] using z
      omega
    refine wp_if_neg he ?_
    try refine wpAny_bind (wpAny_pure ?_)
    refine wpAny_bind (roomFor_sm Rp (by have := Ry.sz; omega) fun h1 t1 o1 es1 ep1 sb1 R1 alt led1 => ?_)
    have hd1 : t1.dummies = #[] ∧ 7 ≤ t1.mask := by
      rcases alt with rfl | alt
      · exact ⟨hd, hm⟩
      · exact alt
    refine wpAny_bind (wpAny_setState_of R1.ob R1.da R1.fit ?_)
    dsimp only
    have Ry1 := Ry.other sb1 ne.symm
    have fill0 : t1.fill = 0 := by
      unfold SetTable.fill
      rw [R1.place.1, hd1.1]
      rfl
    have hl1 : w.params.followText "set-order" = true ∨ (t1.led && tq.led) = true := by
      rcases R1.led with z | z
      · exact .inl z
      · rcases Ry1.led with z2 | z2
        · exact .inl z2
        · exact .inr (by rw [z, z2]; rfl)
    have alt2 : t1.road tq = .slotForSlot ∨ t1.road tq = .clean := by
      unfold SetTable.road
      rw [fill0]
      split
      · rename_i z; simp at z
      · split
        · exact .inl rfl
        · exact .inr rfl
    have hsz : ey.size ≤ sizeLine := by have := Ry.sz; rw [sizeLine_eq]; omega
    rcases alt2 with hr | hr
    · rw [hr]
      dsimp only
      refine wpAny_storeSet_of R1.ob R1.da ?_ hsz
      refine hQ _ _ _ _ _ (sb1.trans (Heap.SameBut.update ..)) (Ry1.stored (es2 := ey) (t2 := { tq with finger := t1.finger, led := t1.led && tq.led, moves := t1.moves, plain := t1.plain && tq.plain }) (List.Perm.refl _) ?_ Ry.ris hl1 R1.ob R1.ex R1.da) fun z => absurd z h0
      have := Ry.fit
      unfold SetTable.fits SetTable.fill at this ⊢
      exact this
    · rw [hr]
      dsimp only
      obtain ⟨t', order, e, hp, q1, q2, q3, q4, q5⟩ := laid_sm (m := t1.mask) (fi := t1.finger) (mo := t1.moves) (le := t1.led && tq.led) (pl := t1.plain && tq.plain) hd1.2 Ry.hsm Ry.hnd
      rw [Array.size_map] at hp q1
      have pm := order_es hp
      have hs2 : (order.filterMap (ey[·]?)).size = ey.size := by
        have := pm.length_eq
        rwa [Array.length_toList, Array.length_toList] at this
      rw [e]
      dsimp only
      refine wpAny_bind ?_
      refine wp_if_neg (by rw [hs2]; simp) ?_
      try refine wpAny_bind (wpAny_pure ?_)
      refine wpAny_pure ?_
      dsimp only
      refine wpAny_storeSet_of R1.ob R1.da ?_ (by rw [hs2]; exact hsz)
      refine hQ _ _ _ _ _ (sb1.trans (Heap.SameBut.update ..)) (Ry1.stored pm (fits_of (by rw [hs2]; exact q1) q2 (by rw [hs2, q3]; have := Ry.sz; have := hd1.2; omega)) q5 (by rw [q4]; exact hl1) R1.ob R1.ex R1.da) fun z => absurd z h0
theorem quiet_all (Ry : SS w s.heap y T tq m oy ey epy) (Rp : SS w s.heap p S t n o es ep) {Q : Bool → Shared → Prop} (hQ : Q true s) : wpAny (model P w) A (setsQuiet [y, p]) Q E s := by
  have nr : ∀ {l : List (Int × Value)}, (∀ e ∈ l, GoodE e) → ∀ e ∈ l, ∃ k tk, e.2 = .int k tk := fun h e he => by
    obtain ⟨k, tk, h1, _⟩ := h e he
    exact ⟨k, tk, h1⟩
  have one : ∀ (x : Addr), x = y ∨ x = p → ∀ (Q' : Array (Int × Value) → Shared → Prop), (∀ l : Array (Int × Value), (∀ e ∈ l.toList, GoodE e) → Q' l s) → wpAny (model P w) A (setEntries x) Q' E s := fun x hx Q' h => by
    unfold setEntries
    rcases hx with rfl | rfl
    · exact wpAny_bind (wpAny_setState_of Ry.ob Ry.da Ry.fit (wpAny_pure (h _ Ry.gd)))
    · exact wpAny_bind (wpAny_setState_of Rp.ob Rp.da Rp.fit (wpAny_pure (h _ Rp.gd)))
  unfold setsQuiet
  refine wpAny_bind (wpAny_forIn_list _ (fun rest b s' => b = (none, ()) ∧ s' = s ∧ ∀ x ∈ rest, x = y ∨ x = p) _ (fun x rest b s' hI => ?_) (fun b s' hI => ?_) _ _ ⟨rfl, rfl, fun x hx => by simpa using hx⟩)
  · obtain ⟨rfl, rfl, hr⟩ := hI
    refine wpAny_bind (one x (hr x List.mem_cons_self) _ fun l hl => ?_)
    refine wpAny_bind (wpAny_forIn_array' _ (fun rest b s2 => b = (none, ()) ∧ s2 = s' ∧ ∀ e ∈ rest, GoodE e) _ (fun e rest2 b s2 hI2 => ?_) (fun b s2 hI2 => ?_) _ _ ⟨rfl, rfl, hl⟩)
    · obtain ⟨rfl, rfl, hg⟩ := hI2
      obtain ⟨k, tk, h1⟩ := nr hg e List.mem_cons_self
      obtain ⟨e1, e2⟩ := e
      dsimp only at h1
      subst h1
      exact wpAny_pure ⟨rfl, rfl, fun z hz => hg z (List.mem_cons_of_mem _ hz)⟩
    · obtain ⟨rfl, rfl, _⟩ := hI2
      exact wpAny_pure ⟨rfl, rfl, fun z hz => hr z (List.mem_cons_of_mem _ hz)⟩
  · obtain ⟨rfl, rfl, _⟩ := hI
    exact wpAny_pure hQ
theorem walk_unseen (Ry : SS w s.heap y T tq m oy ey epy) (Rp : SS w s.heap p S t n o es ep) {Q : Array (Int × Value) → Shared → Prop}
    (hQ : ∀ arr h' t' o' es' ep', arr.toList.Perm ey.toList → Heap.SameBut p s.heap h' → SS w h' p S t' n o' es' ep' → Q arr { s with heap := h' }) : wpAny (model P w) A (setWalkUnseen y [p] (some p)) Q E s := by
  unfold setWalkUnseen
  refine wpAny_bind (wpAny_setState_of Ry.ob Ry.da Ry.fit ?_)
  dsimp only
  refine wpAny_bind (wpAny_byText ?_)
  by_cases hbt : w.params.followText "set-order" = true
  · refine wp_if_pos (by rw [hbt]; rfl) ?_
    unfold setWalk
    refine wpAny_bind (wpAny_setState_of Ry.ob Ry.da Ry.fit ?_)
    dsimp only
    refine wpAny_bind (wpAny_byText ?_)
    refine wp_if_pos hbt ?_
    exact wpAny_bind (wpAny_askSetting (wpAny_pure (hQ _ _ _ _ _ _ (pick_perm _ _) (Heap.SameBut.refl _ _) Rp)))
  · have hb0 : w.params.followText "set-order" = false := by simpa using hbt
    have hl : tq.led = true := Ry.led.resolve_left hbt
    by_cases hc : (w.params.followText "set-order" || (tq.led && tq.plain) || decide (ey.size ≤ 1)) = true
    · refine wp_if_pos hc ?_
      unfold setWalk
      refine wpAny_bind (wpAny_setState_of Ry.ob Ry.da Ry.fit ?_)
      dsimp only
      refine wpAny_bind (wpAny_byText ?_)
      refine wp_if_neg hbt ?_
      try refine wpAny_bind (wpAny_pure ?_)
      have hdr : (!tq.plain && decide (ey.size > 1)) = false := by
        rw [hb0, hl] at hc
        cases hp : tq.plain with
        | true => rfl
        | false =>
          rw [hp] at hc
          have : ey.size ≤ 1 := by simpa using hc
          simp
          omega
      refine wp_if_neg (by show ¬ ((!tq.plain && decide (ey.size > 1)) = true); rw [hdr]; exact Bool.false_ne_true) ?_
      try refine wpAny_bind (wpAny_pure ?_)
      refine wpAny_bind (wpAny_of_eq (a := ()) ?_ ?_)
      · show (if (!tq.led && decide (ey.size > 1)) = true then unsupported "set:maker-not-led" else pure ()) = pure ()
        rw [hl]
        rfl
      · exact wpAny_pure (hQ _ _ _ _ _ _ (List.Perm.refl _) (Heap.SameBut.refl _ _) Rp)
    · refine wp_if_neg hc ?_
      try refine wpAny_bind (wpAny_pure ?_)
      refine wpAny_bind (quiet_all Ry Rp ?_)
      refine wp_if_neg (by simp) ?_
      try refine wpAny_bind (wpAny_pure ?_)
      refine wpAny_bind (wpAny_rule ?_)
      refine wpAny_bind (wpAny_setState_of Rp.ob Rp.da Rp.fit ?_)
      dsimp only
      have fp := Rp.few
      have zp := Rp.sz
      split
      · refine wpAny_bind (wpAny_storeSet_of Rp.ob Rp.da ?_ (by rw [sizeLine_eq]; omega))
        refine wpAny_pure (hQ _ _ _ _ _ _ (List.Perm.refl _) (Heap.SameBut.update ..) (Rp.stored (List.Perm.refl _) ?_ ?_ ?_ Rp.ob Rp.ex Rp.da))
        · have := Rp.fit
          unfold SetTable.fits SetTable.fill at this ⊢
          exact this
        · exact Rp.ris
        · right
          show (t.led && tq.led) = true
          rw [hl, Rp.led.resolve_left hbt]
          rfl
      · exact wpAny_pure (hQ _ _ _ _ _ _ (List.Perm.refl _) (Heap.SameBut.refl _ _) Rp)
/-- into a set that holds something -/
theorem merge_one (Rp : SS w s.heap p S t n o es ep) (hn : n ≠ 0) (Ry : SS w s.heap y T tq m oy ey epy) (ne : p ≠ y) {each : Sem Unit}
    (he : ∀ (s' : Shared) (Q' : Unit → Shared → Prop), SS w s'.heap y T tq m oy ey epy → Q' () s' → wpAny (model P w) A each Q' E s') {Q : Unit → Shared → Prop}
    (hQ : ∀ h' k, Heap.SameBut p s.heap h' → SetR w h' p (fun j => S j || T j) k → Q () { s with heap := h' }) : wpAny (model P w) A (setMerge p y each) Q E s := by
  rw [setMerge_eq]
  refine wp_if_neg (by rw [beq_eq_false_iff_ne.mpr ne]; exact Bool.false_ne_true) ?_
  try refine wpAny_bind (wpAny_pure ?_)
  refine wpAny_bind (wpAny_setState_of Ry.ob Ry.da Ry.fit ?_)
  dsimp only
  have fy := Ry.few
  have zy := Ry.sz
  by_cases h0 : m = 0
  · subst h0
    refine wp_if_pos (by simpa [Array.isEmpty] using zy) ?_
    exact wpAny_pure (hQ _ n (Heap.SameBut.refl _ _) (Rp.setR.congr fun k => by rw [Ry.none k, Bool.or_false]))
  · refine wp_if_neg (by
      intro z
      have : ey.size = 0 := by simpa [Array.isEmpty] using z
      omega) ?_
    try refine wpAny_bind (wpAny_pure ?_)
    refine wpAny_bind (roomFor_sm Rp (by omega) fun h1 t1 o1 es1 ep1 sb1 R1 alt led1 => ?_)
    refine wpAny_bind (wpAny_setState_of R1.ob R1.da R1.fit ?_)
    dsimp only
    have Ry1 := Ry.other sb1 ne.symm
    have hr : t1.road tq = .oneByOne := by
      unfold SetTable.road SetTable.fill
      rw [R1.place.1]
      split
      · rfl
      · rename_i z; exact absurd (by simp; omega) z
    rw [hr]
    dsimp only
    refine wpAny_bind (walk_unseen (s := { s with heap := h1 }) Ry1 R1 fun arr h2 t2 o2 es2 ep2 pm sb2 R2 => ?_)
    have Ry2 := Ry1.other sb2 ne.symm
    have hga : ∀ e ∈ arr.toList, GoodE e := fun e he => Ry.gd e (pm.mem_iff.mp he)
    have hla : arr.toList.length ≤ 7 := by
      rw [pm.length_eq]
      show ey.size ≤ 7
      omega
    have fp := R2.few
    refine wpAny_bind (wpAny_forIn_array' _ (fun rest b s' => ∃ (done : List (Int × Value)) (h' : Heap) (n' : Nat), arr.toList = done ++ rest ∧ s' = { s with heap := h' } ∧ Heap.SameBut p s.heap h' ∧ n' ≤ 7 + done.length ∧ SetR w h' p (fun j => S j || decide (j ∈ done.map keyOf)) n')
      _ (fun e rest b s' hI => ?_) (fun b s' hI => ?_) _ _ ⟨[], h2, n, rfl, rfl, sb1.trans sb2, by omega, R2.setR.congr fun k => by simp⟩)
    · obtain ⟨done, h', n', ed, rfl, sb, hle, RR⟩ := hI
      have hlen := congrArg List.length ed
      rw [List.length_append, List.length_cons] at hlen
      obtain ⟨k, tk, k1, k2⟩ := hga e (by rw [ed]; simp)
      have hk : keyOf e = k := by unfold keyOf; rw [k1]
      have Ry3 : SS w h' y T tq m oy ey epy := Ry.other sb ne.symm
      obtain ⟨e1, e2⟩ := e
      dsimp only at k1 k2 ⊢
      subst k1 k2
      refine wpAny_bind (wpAny_holding (setR_add_hashed (s := { s with heap := h' }) RR (by unfold scanBound; omega) fun h3 sb3 R3 => ?_))
      have Ry4 : SS w h3 y T tq m oy ey epy := Ry3.other sb3 ne.symm
      refine wpAny_bind (he _ _ Ry4 ?_)
      refine wpAny_bind (wpAny_setState_of Ry4.ob Ry4.da Ry4.fit ?_)
      dsimp only
      refine wp_if_neg (by simp) ?_
      refine wpAny_pure ⟨done ++ [(hashInt k, .int k tk)], h3, _, by rw [ed]; simp, rfl, sb.trans sb3, ?_, R3.congr fun j => ?_⟩
      · rw [List.length_append, List.length_singleton]
        split <;> omega
      · have hk2 : keyOf (hashInt k, Value.int k tk) = k := rfl
        rw [List.map_append, List.map_singleton, hk2]
        by_cases q1 : j ∈ done.map keyOf <;> by_cases q2 : j = k <;> simp [q1, q2]
    · obtain ⟨done, h', n', ed, rfl, sb, hle, RR⟩ := hI
      rw [List.append_nil] at ed
      refine wpAny_pure (hQ _ n' sb (RR.congr fun j => ?_))
      have : (T j = true) ↔ j ∈ done.map keyOf := (Ry.mem j).trans (by rw [← ed]; exact (pm.map keyOf).mem_iff.symm)
      cases q : T j with
      | true => rw [decide_eq_true (this.mp q)]
      | false => rw [decide_eq_false fun z => by rw [this.mpr z] at q; cases q]
end
end PySem.MiUn
set_option Elab.async false
set_option linter.all false
set_option maxRecDepth 100000
set_option maxHeartbeats 4000000
/-! Mi42: x | y of two sets of few small numbers. -/
namespace PySem.MiUn
open PySem PySem.Spec PyProof.Rows L2
section
variable {P : Program} {w : World} {A : Around} {E : Value → Shared → Prop} {s : Shared} {h : Heap} {a p x y : Addr} {S T : Int → Bool} {t tq : SetTable} {n m : Nat} {o oy ox : Obj} {es ex ey : Array (Int × Value)} {ep ex' epy : Nat}
theorem SS.ty (R : SS w s.heap a S t n o es ep) : s.TypeIs (.ref a) "set" := ⟨o, R.ob, R.ex.1⟩
theorem entry_or : entryFor table "set.__or__" = some Builtin.«frozenset.__or__» := 
  entryFor_alias (id' := "frozenset.__or__") (by kernel_rfl) rfl (by decide +kernel) (by kernel_rfl)
theorem or_eq (args : Args) : Builtin.«frozenset.__or__» args = (do
    let (self, other) ← Builtin.Frozenset.slot1 "__or__" args
    let (l, r) := (self, other)
    if !(← Builtin.Frozenset.isAnySet l <&&> Builtin.Frozenset.isAnySet r) then rule s!"frozenset.{"__or__"}.declined"; return ← ret .notImplemented
    let a ← Builtin.Frozenset.addrOf l
    let v ← (do
      let result ← Builtin.Frozenset.copyOf a
      if r != .ref a then holding [result] (Builtin.Frozenset.updateFrom s!"frozenset.{"__or__"}" (← Builtin.Frozenset.addrOf result) r)
      return result)
    ret v) := by rfl
theorem copy_sm (R : SS w s.heap x S t n o es ep) {Q : Value → Shared → Prop}
    (hQ : ∀ h' t' o' es' ep', (∀ b ob, s.heap.get? b = some ob → h'.get? b = some ob) → SS w h' s.heap.objs.size S t' n o' es' ep' → (n = 0 → t'.dummies = #[] ∧ 7 ≤ t'.mask) → Q (.ref s.heap.objs.size) { s with heap := h' }) :
    wpAny (model P w) A (Builtin.Frozenset.copyOf x) Q E s := by
  unfold Builtin.Frozenset.copyOf
  refine wpAny_bind ?_
  unfold Builtin.Frozenset.baseOf
  refine wpAny_bind (wpAny_isInstance R.ty F.isi_self_set (wpAny_pure ?_))
  rw [if_pos rfl]
  unfold newSet
  refine wpAny_bind (wpAny_bind (wpAny_byText ?_))
  dsimp only
  refine wpAny_newObj_type ?_
  let ob : Obj := { cls := .type "set", dict := none, data := .set #[] 0 (SetTable.fresh 0 0 !w.params.followText "set-order") }
  have R0 : SS w (s.heap.push ob) s.heap.objs.size (fun _ => false) (SetTable.fresh 0 0 !w.params.followText "set-order") 0 ob #[] 0 := {
    ob := Heap.get?_push_size _ rfl
    ex := ⟨rfl, rfl, rfl⟩
    da := rfl
    gd := fun e he => by simp at he
    nd := by simp
    mem := fun k => by simp
    fit := rfl
    sz := rfl
    ris := List.Pairwise.nil
    led := by
      cases q : w.params.followText "set-order" with
      | true => exact .inl rfl
      | false => exact .inr rfl
    sm := fun k hk => by cases hk }
  have old : ∀ b o, s.heap.get? b = some o → (s.heap.push ob).get? b = some o := fun b o q => Heap.get?_push_of_some _ q
  have hlt : x < s.heap.objs.size := Heap.lt_size R.ob
  have R1 : SS w (s.heap.push ob) x S t n o es ep := ⟨old _ _ R.ob, R.ex, R.da, R.gd, R.nd, R.mem, R.fit, R.sz, R.ris, R.led, R.sm⟩
  refine wpAny_bind (wpAny_of_eq (a := s.heap.objs.size) rfl ?_)
  refine wpAny_bind (merge_clean (s := { s with heap := s.heap.push ob }) R0 rfl (Nat.le_refl _) R1 (Nat.ne_of_gt hlt) fun h' t' o' es' ep' sb R2 z => ?_)
  refine wpAny_pure (hQ h' t' o' es' ep' (fun b o q => (sb.2 b (fun e => by rw [e] at q; exact absurd (Heap.lt_size q) (Nat.lt_irrefl _))).trans (old b o q)) R2 fun e => ?_)
  rw [z e]
  exact ⟨rfl, Nat.le_refl _⟩
/-- x | y -/
theorem union_sm (Rx : SS w s.heap x S t n ox ex ex') (Ry : SS w s.heap y T tq m oy ey epy) (hne : x ≠ y) {Q : Value → Shared → Prop}
    (hQ : ∀ h' k, (∀ b ob, s.heap.get? b = some ob → h'.get? b = some ob) → SetR w h' s.heap.objs.size (fun j => S j || T j) k → Q (.ref s.heap.objs.size) { s with heap := h' }) :
    wpAny (model P w) A (binaryOp .BitOr (.ref x) (.ref y)) Q E s := by
  refine wpAny_binaryOp_same (T := "set") (id := "set.__or__") Rx.ty Ry.ty F.fills_set_or F.slot_set_or ?_
  refine wpAny_call_entry F.slot_set_or Rx.ty entry_or ?_ (F.args_set_or_2 _ _)
  rw [or_eq]
  refine wpAny_bind (wpAny_of_eq (a := (Value.ref x, Value.ref y)) (by rfl) ?_)
  dsimp only
  have any : ∀ {a : Addr} {Sa : Int → Bool} {ta na oa ea pa} {A : Around}, SS w s.heap a Sa ta na oa ea pa → ∀ Q' : Bool → Shared → Prop, Q' true s → wpAny (model P w) A (Builtin.Frozenset.isAnySet (.ref a)) Q' E s := fun Ra Q' q => by
    unfold Builtin.Frozenset.isAnySet
    refine wpAny_bind (wpAny_isInstance Ra.ty F.isi_self_set ?_)
    exact wpAny_pure q
  refine wpAny_bind ?_
  refine wpAny_bind (any Rx _ ?_)
  refine any Ry _ ?_
  refine wp_if_neg (by simp) ?_
  try refine wpAny_bind (wpAny_pure ?_)
  refine wpAny_bind ?_
  refine wpAny_bind (copy_sm Rx fun h1 t1 o1 es1 ep1 old R1 z1 => ?_)
  have hlt : y < s.heap.objs.size := Heap.lt_size Ry.ob
  have Ry1 : SS w h1 y T tq m oy ey epy := ⟨old _ _ Ry.ob, Ry.ex, Ry.da, Ry.gd, Ry.nd, Ry.mem, Ry.fit, Ry.sz, Ry.ris, Ry.led, Ry.sm⟩
  have nep : s.heap.objs.size ≠ y := Nat.ne_of_gt hlt
  have keep : ∀ {h2 : Heap}, Heap.SameBut s.heap.objs.size h1 h2 → ∀ b ob, s.heap.get? b = some ob → h2.get? b = some ob := fun sb b ob q =>
    (sb.2 b (fun e => by rw [e] at q; exact absurd (Heap.lt_size q) (Nat.lt_irrefl _))).trans (old b ob q)
  refine wp_if_pos (by
    rw [bne_iff_ne]
    intro e
    exact hne (Value.ref.inj e).symm) ?_
  refine wpAny_bind (wpAny_of_eq (a := s.heap.objs.size) rfl ?_)
  have fin : ∀ (h2 : Heap) (k : Nat), Heap.SameBut s.heap.objs.size h1 h2 → SetR w h2 s.heap.objs.size (fun j => S j || T j) k →
      wpAny (model P w) A.in1 (pure (Value.ref s.heap.objs.size) : Sem Value) (fun a s' => wpAny (model P w) A.in1 (ret a) (fun fin s' => ∃ v, fin = Fin.done (Flow.ret v) ∧ v ≠ Value.notImplemented ∧ Q v s') E s') E { s with heap := h2 } := fun h2 k sb RR =>
    wpAny_pure (wpAny_pure ⟨_, rfl, by simp, hQ h2 k (keep sb) RR⟩)
  refine wpAny_bind (wpAny_holding ?_)
  unfold Builtin.Frozenset.updateFrom
  refine wpAny_bind ?_
  unfold Builtin.Frozenset.isAnySet
  refine wpAny_bind (wpAny_isInstance (s := { s with heap := h1 }) Ry1.ty F.isi_self_set (wpAny_pure ?_))
  refine wp_if_pos rfl ?_
  refine wpAny_bind (wpAny_of_eq (a := y) rfl ?_)
  unfold Builtin.Frozenset.merge
  refine wpAny_bind (wpAny_setEpoch_of Ry1.ob Ry1.da Ry1.fit ?_)
  by_cases hn : n = 0
  · subst hn
    obtain ⟨d1, d2⟩ := z1 rfl
    refine merge_clean (s := { s with heap := h1 }) R1 d1 d2 Ry1 nep fun h2 t2 o2 es2 ep2 sb R2 _ => ?_
    exact fin h2 m sb (R2.setR.congr fun k => by rw [Rx.none k]; rfl)
  · refine merge_one (s := { s with heap := h1 }) R1 hn Ry1 nep (fun s' Q' R' q => ?_) fun h2 k sb RR => fin h2 k sb RR
    unfold Builtin.Frozenset.unchanged
    refine wpAny_bind (wpAny_setEpoch_of R'.ob R'.da R'.fit ?_)
    refine wp_if_neg (by simp) ?_
    exact wpAny_pure q
end
end PySem.MiUn
set_option Elab.async false
set_option linter.all false
set_option maxRecDepth 100000
set_option maxHeartbeats 4000000
/-! Mi43: set(t), t a tuple of ints. -/
namespace PySem.MiSt
open PySem PySem.Spec PyProof.Rows L2
section
variable {P : Program} {w : World} {A : Around} {E : Value → Shared → Prop} {s : Shared}
set_option maxRecDepth 100000 in
set_option maxHeartbeats 3200000 in
theorem call_setT {l : Addr} {items : Array Value} {ns : List Int} {Q : Value → Shared → Prop} (hh : A.handled = none) (hl : s.heap.IsTuple l items) (hi : IntsAre items.toList ns) (hb : items.size + 1 < scanBound)
    (h : ∀ (h' : Heap) (tk : Nat), Met w (fun i => ns.getD i 0) s.heap.objs.size items.size h' → (∀ b o, s.heap.get? b = some o → h'.get? b = some o) → Q (.ref s.heap.objs.size) { s with heap := h', toks := tk }) :
    wpAny (model P w) A (call (.type "set") [.ref l]) Q E s := by
  obtain ⟨c, tl, hmro⟩ := F.called_set.mro
  have hmade := F.called_set.made
  have hsub := F.called_set.sub
  refine wpAny_call (codeAny_of_tree ?_)
  show wpAny _ _ (callAny (.type "set") _) _ _ _
  refine wpAny_pure ⟨Code.quiet_builtin _ (by decide +kernel), codeAny_builtin F.entry_type_call ?_⟩
  rw [Around.under_plain (weight_type_call_type "set" [.ref l] []) rfl]
  have h1 := F.called_set.notType
  have h2 := F.called_set.canCreate
  have hct := F.typeCall_set_1 (.ref l)
  repeat (any_goals (first | assumption | wp_step))
  let new : Obj := { cls := .type "set", dict := none, data := .set #[] 0 (.fresh 0 0 (!w.params.followText "set-order")) }
  refine codeAny_mono (code_set_led1 (.ref l) (E := E) (Q₁ := fun obj s₁ => obj = .ref s.heap.objs.size ∧ s₁ = { s with heap := s.heap.push new }) ⟨rfl, rfl⟩) fun r s₁ hr => ?_
  cases r with
  | error e => exact hr
  | ok fl =>
    cases fl with
    | ret obj =>
      obtain ⟨rfl, rfl⟩ := hr
      have hS : (s.heap.push new).get? s.heap.objs.size = some new := Heap.get?_push_size _ rfl
      have hT : Shared.TypeIs { s with heap := s.heap.push new } (.ref s.heap.objs.size) "set" := ⟨_, hS, rfl⟩
      have hli := F.called_set.init.lookup
      have hbi := F.called_set.init.bind (.ref s.heap.objs.size)
      repeat (any_goals (first | assumption | wp_step))
      refine codeAny_mono (codeAny_call_builtin (R := wants (fun r s₂ => r = .none ∧ ∃ h' tk, s₂ = { s with heap := h', toks := tk } ∧ Met w (fun i => ns.getD i 0) s.heap.objs.size items.size h' ∧
          (∀ b o, s.heap.get? b = some o → h'.get? b = some o)) E) F.called_set.init.plain F.entry_set_init (check_set_init_1 hT ?_)) fun r₂ s₂ hr₂ => ?_
      · obtain ⟨ol, hol, hcl, nl, hdl⟩ := hl
        obtain ⟨ocls, odict, odata, oslots⟩ := ol
        simp only at hcl hdl
        subst hcl; subst hdl
        have hol' : (s.heap.push new).get? l = some { cls := .type "tuple", dict := odict, data := .seq items nl, slots := oslots } := Heap.get?_push_of_some _ hol
        have hsls := F.sub_tuple_set
        have hslf := F.sub_tuple_frozenset
        have hne : (Value.type "tuple" == Value.type "dict") = false := by decide
        have hl1 : (s.heap.push new).IsTuple l items := ⟨_, hol', rfl, nl, rfl⟩
        unfold Builtin.«set.__init__» noKeywords Builtin.Frozenset.updateFrom
        generalize hPI : pyIter = PI
        wp_walk
        subst hPI
        refine wpAny_pyIter_tuple hl1 ?_
        refine wpAny_bind (wpAny_runValue ?_)
        have hlS : l < s.heap.objs.size := Heap.lt_size hol
        have hh3 : A.in1.in1.in1.handled = none := by simp [hh]
        have esz : (s.heap.push new).objs.size = s.heap.objs.size + 1 := Heap.size_push ..
        have hneI : l ≠ (s.heap.push new).objs.size := by
          rw [esz]; exact Nat.ne_of_lt (Nat.lt_succ_of_lt hlS)
        have hSf : s.heap.objs.size ∉ [(s.heap.push new).objs.size, l] := by
          rw [esz]
          simp only [List.mem_cons, List.not_mem_nil, or_false, not_or]
          exact ⟨Nat.ne_of_lt (Nat.lt_succ_self _), Nat.ne_of_gt hlS⟩
        have hval : ∀ (i : Nat) (v : Value), items[i]? = some v → ∃ t, v = .int (ns.getD i 0) t := fun i v hv => IntsAre.int_at hi i v (by rw [Array.getElem?_toList]; exact hv)
        refine upd_loop ((Walks.tuple hh3 _ l hneI items).toS) hSf hval hb (items.size - 0) 0 _ (by omega) (Nat.zero_le _)
          ⟨⟨_, Heap.get?_push_size _ rfl, rfl, rfl⟩, (hl1.push _)⟩ ?hS0 ?hR
        case hS0 => exact (setR_fresh (h := s.heap) w).at fun o q => Heap.get?_push_of_some _ q
        case hR =>
          intro s' hm m9
          obtain ⟨h', g2, d', tk', os'⟩ := s'
          obtain rfl : g2 = s.gens := hm.gens
          obtain rfl : d' = s.drawn := hm.drawn
          obtain rfl : os' = s.os := hm.os
          refine wpAny_pure ?_
          show wpAny _ _ (ret Value.none) _ _ _
          refine wpAny_pure ⟨rfl, h', tk', rfl, m9, fun b o e => hm.heap b o (fun q => ?_) (Heap.get?_push_of_some _ (Heap.get?_push_of_some _ e))⟩
          have lt := Heap.lt_size e
          rcases List.mem_cons.mp q with q | q
          · exact absurd lt (by rw [q]; exact Nat.lt_irrefl _)
          · rw [List.mem_singleton.mp q, esz] at lt
            exact absurd lt (Nat.not_lt.mpr (Nat.le_succ _))
      · cases r₂ with
        | error e => exact hr₂
        | ok fl₂ =>
          cases fl₂ with
          | ret r =>
            obtain ⟨rfl, h', tk, rfl, m9, hk'⟩ := hr₂
            repeat (any_goals (first | assumption | wp_step))
            exact h _ _ m9 hk'
          | _ => exact hr₂.elim
    | _ => exact hr.elim
end
end PySem.MiSt
set_option Elab.async false
set_option linter.all false
set_option maxRecDepth 100000
set_option maxHeartbeats 4000000
/-! Mi44: sorted(set(a) | set(b)), tuples of few small numbers. -/
namespace Mi
open PySem L2 PySem.Spec PyProof.Rows
def smD (i : Int) : Bool := decide (0 ≤ i) && decide (i ≤ 6)
/-- few small numbers in a tuple -/
def pluI (x : D) : Option (List Int) := match x with
  | .tup xs => match intsD xs with
    | some is => if decide (is.length < 64) && is.all smD then some is else none
    | none => none
  | _ => none
/-- sorted(set(a) | set(b)) -/
def mPlu (a b : M D) : M D := fun s => (a s).then fun x s => (oget (pluI x) s).then fun is s => (b s).then fun y s => (oget (pluI y) s).then fun js s => .ok (.lst ((isort (nub (is ++ js))).map .int)) s
theorem pluI_use {x : D} {is : List Int} (h : pluI x = some is) : ∃ xs, x = .tup xs ∧ intsD xs = some is ∧ is.length < 64 ∧ is.all smD = true := by
  unfold pluI at h
  split at h
  · rename_i xs
    split at h
    · rename_i js hj
      split at h
      · rename_i hc
        cases h
        rw [Bool.and_eq_true, decide_eq_true_eq] at hc
        exact ⟨xs, rfl, hj, hc.1, hc.2⟩
      · cases h
    · cases h
  · cases h
section
variable {X : Cx} {R : Rc} {W : WX} {N : List Str} {sc : Scope} {k : Nat} {B : Bn} {H : Hp}
def rSetT (K : PySem.W.Frag) (w : World) : List V → Hp → VK → Prop := fun xs H Q => ∃ (l : Addr) (ns : List Int), xs = [V.ref l] ∧ SqT K H l (ns.map V.int) ∧ ns.length < 64 ∧
  ∀ (a : Addr) (S : Int → Bool) (n : Nat), H a = none → (∀ k, S k = true ↔ k ∈ ns) → Q (.ref a) (upd H a (SetO w a S n))
theorem cr_setT (hc : X.calm = true) : CallR X (.type "set") (rSetT X.K X.w) := by
  intro pins s σ H xs us Q I r h
  obtain ⟨l, ns, rfl, hl, hf, q⟩ := h
  rw [Vals.ref1 r]
  obtain ⟨its, rv, pl, hz⟩ := I.tuple hl
  have hn : H s.heap.objs.size = none := I.hok.fresh (Nat.le_refl _)
  have e1 : its.toArray.size = ns.length := by
    have := rv.length
    rw [List.length_map] at this
    rw [List.size_toArray]
    exact this.symm
  refine PySem.MiSt.call_setT (I.ok.hd hc) pl (ns := ns) (by simpa using rv.ints) (by rw [e1]; unfold scanBound; omega) fun h' tk m k => ?_
  rw [e1] at m
  exact ⟨.ref s.heap.objs.size, _, I.laid (t' := tk) k (Nat.le_refl _) (setO_new m), rfl, q _ _ _ hn (fun j => firstMet_mem ns j)⟩
def rOr (w : World) : R2 := fun x y H Q => ∃ (a b : Addr) (S T : Int → Bool) (n m : Nat), x = .ref a ∧ y = .ref b ∧ a ≠ b ∧ H a = some (SetO w a S n) ∧ H b = some (SetO w b T m) ∧ (∀ k, S k = true → PySem.MiUn.Sm k) ∧ (∀ k, T k = true → PySem.MiUn.Sm k) ∧
  ∀ (p : Addr) (j : Nat), H p = none → j < 64 → Q (.ref p) (upd H p (SetO w p (fun i => S i || T i) j))
theorem op_or : OpR X (binaryOp .BitOr) (rOr X.w) := by
  intro pins s σ H x y v u Q I rx ry h
  obtain ⟨a, b, S, T, n, m, rfl, rfl, ne, ha, hb, s1, s2, q⟩ := h
  cases rx
  cases ry
  have oa : SetR X.w s.heap a S n := (I.hok a _ ha).1
  have ob : SetR X.w s.heap b T m := (I.hok b _ hb).1
  obtain ⟨_, _, _, _, Ra⟩ := PySem.MiUn.SS.of oa s1
  obtain ⟨_, _, _, _, Rb⟩ := PySem.MiUn.SS.of ob s2
  refine PySem.MiUn.union_sm Ra Rb ne fun h' j old RR => ?_
  have hn : H s.heap.objs.size = none := I.hok.fresh (Nat.le_refl _)
  have few : j ≤ 7 := by
    obtain ⟨_, _, _, _, Rp⟩ := PySem.MiUn.SS.of RR (fun k hk => by
      rcases Bool.or_eq_true_iff.mp hk with z | z
      · exact s1 k z
      · exact s2 k z)
    exact Rp.few
  exact ⟨.ref s.heap.objs.size, _, I.laid (t' := s.toks) old (Nat.le_refl _) (setO_new RR), rfl, q _ j hn (by omega)⟩
theorem sm_of {is : List Int} (h : is.all smD = true) : ∀ k ∈ is, PySem.MiUn.Sm k := fun k hk => by
  have := List.all_eq_true.mp h k hk
  unfold smD at this
  rw [Bool.and_eq_true, decide_eq_true_eq, decide_eq_true_eq] at this
  exact this
theorem tupInts {xs : List D} {is : List Int} {v : V} (h : IsP R B H (.tup xs) v) (e : intsD xs = some is) : ∃ a, v = .ref a ∧ H a = some (.tup (is.map V.int)) := by
  have h' : Is R B H (.tup xs) v := h
  unfold Is at h'
  obtain ⟨a, vs, rfl, _, ha, hl⟩ := h'
  rw [hl.intsD e] at ha
  exact ⟨a, rfl, ha⟩
variable {a b : Expr} {ma mb : M D} {pos pos2 pos3 pos4 p p2 p3 : Pos}
theorem m_plu (C : Ct X R W N sc k) (bl : Bl R) (hg : sc.names.lookup ("sorted" : Str) = some .globalImplicit) (hg2 : sc.names.lookup ("set" : Str) = some .globalImplicit) (h1 : PE X a (tP R W ma)) (h2 : PE X b (tP R W mb))
    (hv : bootBuiltins ("sorted" : Str) = some (.builtin "sorted")) (hv2 : bootBuiltins ("set" : Str) = some (.type "set")) (hs : starEach [a] X.env = (false, eval a X.env) :: starEach [] X.env := by rfl) (hs1 : starEach [b] X.env = (false, eval b X.env) :: starEach [] X.env := by rfl)
    (hs2 : starEach [.BinOp (.Call (.Name "set" p2) [a] [] pos2) .BitOr (.Call (.Name "set" p3) [b] [] pos3) pos4] X.env = (false, eval (.BinOp (.Call (.Name "set" p2) [a] [] pos2) .BitOr (.Call (.Name "set" p3) [b] [] pos3) pos4) X.env) :: starEach [] X.env := by rfl) :
    PE X (.Call (.Name "sorted" p) [.BinOp (.Call (.Name "set" p2) [a] [] pos2) .BitOr (.Call (.Name "set" p3) [b] [] pos3) pos4] [] pos) (tE R W (mPlu ma mb)) := by
  have gS := C.gl hg
  have gT := C.gl hg2
  have nS : X.mg "sorted" = none := by rw [C.mg]; exact bl.no _ (by simp)
  have nT : X.mg "set" = none := by rw [C.mg]; exact bl.no _ (by simp)
  refine (pe_callB (cr_sortedSet C.calm) gS nS hv (pa_cons (pe_op op_or (pe_callTy (cr_setT C.calm) gT nT hv2 (pa_cons h1 pa_nil hs) (by decide) (by decide) hs rfl) (pe_callTy (cr_setT C.calm) gT nT hv2 (pa_cons h2 pa_nil hs1) (by decide) (by decide) hs1 rfl)) pa_nil hs2) (by decide) (by decide) hs2 rfl).imp fun σV H Q h => ?_
  obtain ⟨B, HB, ow, σ, dr, F, h⟩ := h
  refine ⟨B, HB, ow, σ, dr, F, Out.mono (Out.bind h) fun x s ow1 H1 F1 st1 h1 v hv => ?_⟩
  cases hp : pluI x with
  | none => rw [hp] at h1; exact h1.elim
  | some is =>
    rw [hp] at h1
    obtain ⟨xs, rfl, hi, hl, hsm⟩ := pluI_use hp
    obtain ⟨l, rfl, hl1⟩ := tupInts hv hi
    refine ⟨l, is, rfl, SqT.of hl1, hl, fun a S n hn hS => ?_⟩
    have h1' : Out R W B HB (Ban B ow1 s.σ) H1 σV ((mb s).then fun y s => (oget (pluI y) s).then fun js s => .ok (.lst ((isort (nub (is ++ js))).map .int)) s) fun d s ow' H' => ∀ v, Is R (Ban B ow' s.σ) H' d v → Q v H' := h1
    have nD : HB a = none := F1.fresh hn
    have nB : ¬ B a := fun z => by
      obtain ⟨o, q⟩ := F1.live a z
      rw [hn] at q; cases q
    have nDr : ¬ R.isDr a := fun z => by
      have := F1.drs z.1
      rw [← z.2, hn] at this
      cases this
    obtain ⟨F2, st2⟩ := F1.shut2 (o := SetO X.w a S n) hn
    refine ⟨Shut B a, upd HB a (SetO X.w a S n), ow1, s.σ, s.dr, F2, ?_⟩
    cases hm : mb s with
    | no => rw [hm] at h1'; exact h1'.elim
    | ex c ns vs s2 =>
      rw [hm] at h1'
      intro ow2 H2 us d F3 st3 hv2 he
      obtain ⟨F4, st4, nb4⟩ := F3.open2 nD nB F1.drB
      exact h1' ow2 H2 us d F4 ((st2.trans st3).trans st4) (hv2.stp st4) he
    | ok y s2 =>
      rw [hm] at h1'
      intro ow2 H2 F3 st3 u hu
      cases hp2 : pluI y with
      | none =>
        have h2' : Out R W B HB (Ban B ow1 s.σ) H1 σV ((oget (pluI y) s2).then fun js s => Res.ok (D.lst ((isort (nub (is ++ js))).map .int)) s) fun d s ow' H' => ∀ v, Is R (Ban B ow' s.σ) H' d v → Q v H' := h1'
        rw [hp2] at h2'
        exact h2'.elim
      | some js =>
        have h2' : Out R W B HB (Ban B ow1 s.σ) H1 σV ((oget (pluI y) s2).then fun js s => Res.ok (D.lst ((isort (nub (is ++ js))).map .int)) s) fun d s ow' H' => ∀ v, Is R (Ban B ow' s.σ) H' d v → Q v H' := h1'
        rw [hp2] at h2'
        obtain ⟨ys, rfl, hi2, hlj, hsm2⟩ := pluI_use hp2
        obtain ⟨l2, rfl, hl2⟩ := tupInts hu hi2
        refine ⟨l2, js, rfl, SqT.of hl2, hlj, fun b2 T m hn2 hT => ?_⟩
        have ha2 : H2 a = some (SetO X.w a S n) := F3.hold a _ nDr upd_same
        have ne : a ≠ b2 := fun e => by rw [e, hn2] at ha2; cases ha2
        refine ⟨a, b2, S, T, n, m, rfl, rfl, ne, by rw [upd_ne ne]; exact ha2, upd_same, fun k hk => sm_of hsm k ((hS k).mp hk), fun k hk => sm_of hsm2 k ((hT k).mp hk), fun p j hpn hj => ?_⟩
        refine ⟨p, _, j, rfl, upd_same, hj, fun ns p3 pw hmem hlen hp3 => ?_⟩
        obtain ⟨F4, st4, nb4⟩ := F3.open2 nD nB F1.drB
        have ex : Ext H2 (upd (upd (upd H2 b2 (SetO X.w b2 T m)) p (SetO X.w p (fun i => S i || T i) j)) p3 (.lst (ns.map V.int))) := fun q o z => ext_upd hp3 q o (ext_upd hpn q o (ext_upd hn2 q o z))
        refine h2' ow2 _ (F4.ext ex) (((st2.trans st3).trans st4).trans (Stp.new ex)) _ ?_
        have e : ns = isort (nub (is ++ js)) := lst_nodup pw fun q => by
          rw [hmem, Bool.or_eq_true, hS, hT, List.mem_append]
        rw [← e]
        exact mkLst (fun q z => (F4.liveB q z).elim fun o z => ⟨o, ext_upd hpn q o (ext_upd hn2 q o z)⟩) hp3 (isL_ints _)
end
end Mi
set_option Elab.async false
set_option linter.all false
set_option maxRecDepth 100000
set_option maxHeartbeats 4000000
/-! Mi45: sorted(..) of pairs: a number, a tuple of numbers. -/
namespace PySem.MiSn
open PySem PySem.Spec PyProof.Rows L2
/-- a number and a tuple of numbers at v -/
def IsNr (h : Heap) (v : Value) (l : List Int) : Prop := ∃ (n : Int) (r : List Int) (a : Addr) (o : Obj) (t : Tok) (b : Addr) (n2 : Nat) (ob : Obj) (items : Array Value) (nb : Nat), l = n :: r ∧ v = .ref a ∧ h.get? a = some o ∧ o.cls = .type "tuple" ∧
  o.data = .seq #[.int n t, .ref b] n2 ∧ h.get? b = some ob ∧ ob.cls = .type "tuple" ∧ ob.data = .seq items nb ∧ IntsAre items.toList r
theorem IsNr.keeps {h h' : Heap} {v : Value} {l : List Int} (p : IsNr h v l) (k : ∀ b o, h.get? b = some o → o.cls = .type "tuple" → h'.get? b = some o) : IsNr h' v l := by
  obtain ⟨n, r, a, o, t, b, n2, ob, items, nb, e, e2, ho, hc, hd, hb, hcb, hdb, i⟩ := p
  exact ⟨n, r, a, o, t, b, n2, ob, items, nb, e, e2, k _ _ ho hc, hc, hd, k _ _ hb hcb, hcb, hdb, i⟩
theorem nest_all {h : Heap} : ∀ {vs : List Value} {r : List Int}, IntsAre vs r → NestedAll h (r.map NestedKey.num) vs := fun {vs r} i => by
  induction i with
  | nil => exact .nil
  | cons a t _ ih => exact .cons (.int a t) ih
theorem num_inj : ∀ {r r' : List Int}, r.map NestedKey.num = r'.map NestedKey.num → r = r'
  | [], [], _ => rfl
  | [], _ :: _, h => by cases h
  | _ :: _, [], h => by cases h
  | a :: r, b :: t, h => by
    simp only [List.map_cons, List.cons.injEq] at h
    rw [NestedKey.num.inj h.1, num_inj h.2]
theorem beq_rows (r r' : List Int) : NestedKey.beq (.tup (r.map .num)) (.tup (r'.map .num)) = decide (r = r') := by
  rw [← NestedKey.decide_eq]
  by_cases e : r = r'
  · subst e; simp
  · have : ¬ NestedKey.tup (r.map .num) = NestedKey.tup (r'.map .num) := fun z => e (num_inj (NestedKey.tup.inj z))
    rw [decide_eq_false e, decide_eq_false this]
theorem depth_row : ∀ r : List Int, NestedKey.depthAll (r.map .num) ≤ 1
  | [] => by simp [NestedKey.depthAll]
  | a :: r => by
    have := depth_row r
    simp only [List.map_cons, NestedKey.depthAll, NestedKey.depth]
    omega
theorem lex_self : ∀ r : List Int, HT.lexLt r r = false
  | [] => rfl
  | a :: r => by rw [HT.lexLt_cons, if_pos rfl]; exact lex_self r
section
variable {prog : Program} {w : World} {A : Around} {E : Value → Shared → Prop} {s : Shared}
theorem nr_cmp {vs : List Value} {k : Value → List Int} (hu : A.units + 8 < cLine) (hp : ∀ v ∈ vs, IsNr s.heap v (k v)) : SrtO.Cmp prog w A s (tuples' true) (fun p => p.1 ∈ vs) (SrtO.lt2 fun v u => HT.lexLt (k v) (k u)) := by
  intro p q hm hm'
  have h1 := hp _ hm
  have h2 := hp _ hm'
  show wpAny (model prog w) A (keyLt' (tuples' true) p.1 q.1) (fun r s' => s' = s ∧ r = HT.lexLt (k p.1) (k q.1)) (fun _ _ => False) s
  generalize k p.1 = x at h1 ⊢
  generalize k q.1 = y at h2 ⊢
  obtain ⟨n, r, a, o, t, b, n2, ob, items, nb, rfl, e, ho, hc, hd, hb, hcb, hdb, i⟩ := h1
  obtain ⟨n', r', a', o', t', b', n2', ob', items', nb', rfl, e', ho', hc', hd', hb', hcb', hdb', i'⟩ := h2
  rw [e, e', HT.lexLt_cons]
  refine PySem.W.kat_lt ho hd ho' hd' ?_
  show PySem.W.KatLex prog w A true (decide (2 < 2)) _ [(.int n t, .int n' t'), (.ref b, .ref b')] 0 s
  refine PySem.W.kat_cons (SeqAt.EqAt.int_int n t n' t' prog w _ _ ?_)
  refine PySem.W.kat_go (fun e1 => ?_) (fun e1 => ?_)
  · have ex : n = n' := by simpa using e1
    rw [if_pos ex]
    have eq := eqAt_key (.tup (r.map .num)) (.tup (r'.map .num)) A s (.ref b) (.ref b') (.tup hb hcb hdb (nest_all i)) (.tup hb' hcb' hdb' (nest_all i')) (by
      have d1 := depth_row r
      have d2 := depth_row r'
      simp only [NestedKey.depth]
      omega)
    rw [beq_rows] at eq
    refine PySem.W.kat_yes (PySem.W.kat_cons (eq prog w _ _ ?_))
    refine PySem.W.kat_go (fun e2 => ?_) (fun e2 => ?_)
    · have er : r = r' := of_decide_eq_true e2
      exact PySem.W.kat_yes (PySem.W.kat_nil ⟨rfl, by rw [er, lex_self]; rfl⟩)
    · refine PySem.W.kat_no (PySem.W.kat_one _ _ (HT.lt_tupInts (ns := r) (ms := r') ⟨ob, hb, hcb, nb, hdb⟩ ⟨ob', hb', hcb', nb', hdb'⟩ i i' (by omega) ?_))
      exact (show s = s ∧ HT.lexLt r r' = HT.lexLt r r' from ⟨rfl, rfl⟩)
  · have ex : ¬ n = n' := by simpa using e1
    rw [if_neg ex]
    exact PySem.W.kat_no (oneLt_int ⟨rfl, rfl⟩)
theorem nr_firsts {h : Heap} : ∀ {vs : List Value}, (∀ v ∈ vs, ∃ l, IsNr h v l) → ∃ fs : List Value, PySem.W.KatTups h vs fs ∧ fs.length = vs.length ∧ ∀ f ∈ fs, ∃ x t, f = .int x t
  | [], _ => ⟨[], PySem.W.KatTups.nil, rfl, fun _ hm => by simp at hm⟩
  | v :: vs, hp => by
    obtain ⟨fs, h1, h2, h3⟩ := nr_firsts (vs := vs) fun v' hm => hp v' (List.mem_cons_of_mem _ hm)
    obtain ⟨l, n, r, a, o, t, b, n2, ob, items, nb, _, e, ho, hc, hd, _⟩ := hp v List.mem_cons_self
    subst e
    refine ⟨.int n t :: fs, PySem.W.KatTups.cons ho hc hd rfl h1, by simp [h2], fun f hm => ?_⟩
    rcases List.mem_cons.mp hm with rfl | hm
    · exact ⟨n, t, rfl⟩
    · exact h3 f hm
theorem nr_sortable {a : Addr} {vs : List Value} {k : Value → List Int} (h0 : 0 < vs.length) (hu : A.units + 8 < cLine) (hp : ∀ v ∈ vs, IsNr s.heap v (k v)) (ha : ∀ o, s.heap.get? a = some o → o.cls ≠ .type "tuple") : SrtO.SortableO prog w A s a vs fun v u => HT.lexLt (k v) (k u) := by
  intro h' keep
  have hp' : ∀ v ∈ vs, IsNr h' v (k v) := fun v hm => (hp v hm).keeps fun b o e c => keep b o (fun z => by subst z; exact ha o e c) e
  obtain ⟨fs, h1, h2, h3⟩ := nr_firsts fun v hm => ⟨_, hp' v hm⟩
  refine ⟨tuples' true, fun Q E hq => ?_, nr_cmp hu hp'⟩
  refine PySem.W.kat_kind (T := .type "int") h1 (by omega) (fun f hm => ?_) (by rfl) ?_
  · obtain ⟨x, t, rfl⟩ := h3 f hm
    exact PySem.W.Looks.now
  · have e : (Value.type "int" != Value.type "tuple") = true := by first | decide +kernel | rfl | decide
    rw [e]
    exact hq
theorem sorted_nr {l : Addr} {vs : List Value} {k : Value → List Int} {Q : Value → Shared → Prop} (hl : s.heap.IsList l vs.toArray) (hz : vs.length ≤ sizeLine) (hu : A.units + 64 < cLine) (hp : ∀ v ∈ vs, IsNr s.heap v (k v))
    (h : ∀ out : List Value, SrtO.Srtd (fun v u => HT.lexLt (k v) (k u)) out → SrtO.Stb (fun v u => HT.lexLt (k v) (k u)) out vs → Q (.ref (s.heap.objs.size + 1)) { s with heap := sortedAll s.heap vs out.toArray }) :
    wpAny (model prog w) A (call (.builtin "sorted") [.ref l]) Q E s := by
  refine SrtO.sorted_ord (NtL.swo_lexL k) hl hz (fun h2 h₁ a ha kk => ?_) h
  refine nr_sortable (s := { s with heap := h₁ }) (by omega) (by simp only [Around.in1_units]; omega) (fun v hm => (hp v hm).keeps fun b o e _ => (kk b o e).2) fun o e => ?_
  have e' : some o = some (seqObj "list" vs.toArray 0) := e.symm.trans ha
  cases e'
  intro c
  exact absurd (Value.type.inj c) (by decide)
end
end PySem.MiSn
set_option Elab.async false
set_option linter.all false
set_option maxRecDepth 100000
set_option maxHeartbeats 4000000
/-! Mi46: sorted(..) of pairs, in data. -/
namespace Mi
open PySem L2 PySem.Spec PyProof.Rows
/-- a number and a tuple of numbers, told as one row -/
def rowsN : List D → Option (List (List Int))
  | [] => some []
  | .tup [.int n, .tup xs] :: r => match intsD xs, rowsN r with
    | some a, some b => some ((n :: a) :: b)
    | _, _ => none
  | _ :: _ => none
def nrD : List Int → D
  | n :: r => .tup [.int n, .tup (r.map .int)]
  | [] => .non
def srnD (x : D) : Option D := match x with
  | .lst xs => match rowsN xs with
    | some rs => some (.lst ((rsort rs).map nrD))
    | none => none
  | _ => none
def mSrn (a : M D) : M D := fun s => (a s).then fun x s => oget (srnD x) s
theorem lex_rle : ∀ a b : List Int, HT.lexLt b a = false → rle a b = true
  | [], _, _ => rfl
  | a :: r, [], h => by cases h
  | a :: r, b :: t, h => by
    rw [HT.lexLt_cons] at h
    unfold rle
    by_cases e : b = a
    · subst e
      rw [if_pos rfl] at h
      rw [if_neg (Int.lt_irrefl _), if_neg (Int.lt_irrefl _)]
      exact lex_rle r t h
    · rw [if_neg e] at h
      have := of_decide_eq_false h
      rw [if_pos (by omega)]
section
variable {X : Cx} {R : Rc} {B : Bn} {H : Hp}
/-- such a pair in the heap -/
def NrV (H : Hp) (v : Value) (l : List Int) : Prop := ∃ (p b : Addr) (n : Int) (r : List Int), v = .ref p ∧ l = n :: r ∧ H p = some (.tup [.int n, .ref b]) ∧ H b = some (.tup (r.map V.int))
theorem v_int_inj : ∀ {r r' : List Int}, r.map V.int = r'.map V.int → r = r'
  | [], [], _ => rfl
  | [], _ :: _, h => by cases h
  | _ :: _, [], h => by cases h
  | a :: r, b :: t, h => by
    simp only [List.map_cons, List.cons.injEq] at h
    rw [V.int.inj h.1, v_int_inj h.2]
theorem NrV.uniq {v : Value} {l l' : List Int} (a : NrV H v l) (b : NrV H v l') : l = l' := by
  obtain ⟨p, c, n, r, rfl, rfl, h1, h2⟩ := a
  obtain ⟨p', c', n', r', e, rfl, h1', h2'⟩ := b
  cases e
  rw [h1] at h1'
  cases h1'
  rw [h2] at h2'
  have := HO.tup.inj (Option.some.inj h2')
  rw [v_int_inj this]
open Classical in
noncomputable def kN (H : Hp) (v : Value) : List Int := if h : ∃ l, NrV H v l then Classical.choose h else []
theorem kN_eq {v : Value} {l : List Int} (h : NrV H v l) : kN H v = l := by
  unfold kN
  rw [dif_pos ⟨l, h⟩]
  exact (Classical.choose_spec (p := fun l => NrV H v l) ⟨l, h⟩).uniq h
/-- the pairs' addresses -/
theorem rowsN_is : ∀ {ys : List D} {rs : List (List Int)} {vs : List V}, rowsN ys = some rs → IsL R B H ys vs → ∃ ts : List Addr, vs = ts.map V.ref ∧ rs = ts.map (fun t => kN H (.ref t)) ∧ ∀ t ∈ ts, NrV H (.ref t) (kN H (.ref t)) ∧ Is R B H (nrD (kN H (.ref t))) (.ref t)
  | [], rs, vs, e, h => by
    cases e
    unfold IsL at h
    exact ⟨[], h, rfl, fun t ht => by cases ht⟩
  | y :: ys, rs, vs, e, h => by
    unfold rowsN at e
    split at e
    · rename_i heq
      cases heq
    · rename_i n xs r heq
      cases heq
      split at e
      · rename_i a b e1 e2
        cases e
        unfold IsL at h
        obtain ⟨v, vs', rfl, h1, h2⟩ := h
        obtain ⟨ts, rfl, rfl, h3⟩ := rowsN_is e2 h2
        have h1' := h1
        unfold Is at h1
        obtain ⟨p, us, rfl, nb, hp, hl⟩ := h1
        unfold IsL at hl
        obtain ⟨v1, us1, rfl, q1, hl⟩ := hl
        unfold Is at q1
        subst q1
        unfold IsL at hl
        obtain ⟨v2, us2, rfl, q2, hl⟩ := hl
        unfold IsL at hl
        subst hl
        unfold Is at q2
        obtain ⟨c, ws, rfl, nb2, hc, hw⟩ := q2
        have ew := hw.intsD e1
        rw [ew] at hc
        have nr : NrV H (.ref p) (n :: a) := ⟨p, c, n, a, rfl, rfl, hp, hc⟩
        have ek := kN_eq nr
        refine ⟨p :: ts, rfl, by rw [List.map_cons, ek], fun t ht => ?_⟩
        rcases List.mem_cons.mp ht with rfl | ht
        · rw [ek]
          refine ⟨nr, ?_⟩
          have exs : xs = a.map D.int := rows_is.ints_eq e1
          show Is R B H (.tup [.int n, .tup (a.map .int)]) _
          rw [← exs]
          exact h1'
        · exact h3 t ht
      · cases e
    · cases e
theorem vals2 {x y : V} {us : List Value} (h : Vals [x, y] us) : ∃ u v, us = [u, v] ∧ RelV x u ∧ RelV y v := by
  cases h with
  | cons a h => cases h with
    | cons b h => cases h; exact ⟨_, _, rfl, a, b⟩
theorem nr_of {pins : List (Addr × Obj)} {σ : L2.St} {s : Shared} {v : Value} {l : List Int} (I : Inv X pins σ H s) (h : NrV H v l) : PySem.MiSn.IsNr s.heap v l := by
  obtain ⟨p, b, n, r, rfl, rfl, h1, h2⟩ := h
  obtain ⟨z1, its, r1, o, ho, hc, nn, hd⟩ := I.hok p _ h1
  obtain ⟨z2, its2, r2, o2, ho2, hc2, nn2, hd2⟩ := I.hok b _ h2
  obtain ⟨u1, u2, rfl, q1, q2⟩ := vals2 r1
  obtain ⟨t, rfl⟩ : ∃ t, u1 = .int n t := q1
  cases q2
  exact ⟨n, r, p, o, t, b, nn, o2, its2.toArray, nn2, rfl, rfl, ho, hc, hd, ho2, hc2, hd2, by simpa using r2.ints⟩
theorem cr_srn (hu : X.A.units + 64 < cLine) : CallR X (.builtin "sorted") (p1 R srnD) := by
  intro pins s σ H xs us Q I r h
  obtain ⟨B, d1, d, x, rfl, h1, lv, e, q⟩ := h
  unfold srnD at e
  split at e
  · rename_i ys
    split at e
    · rename_i rs hrs
      cases e
      obtain ⟨a, vs, rfl, ha, hl⟩ := h1
      obtain ⟨ts, rfl, rfl, hN⟩ := rowsN_is hrs hl
      rw [Vals.ref1 r]
      obtain ⟨its, rv, pl, hz⟩ := I.list (SqL.of ha)
      have ei := nts_of rv
      have hzs : its.length ≤ sizeLine := by rw [← rv.length]; exact hz
      refine PySem.MiSn.sorted_nr (k := kN H) pl.isList hzs hu (fun v hv => ?_) fun out o1 o2 => ?_
      · rw [ei] at hv
        obtain ⟨t, ht, rfl⟩ := List.mem_map.mp hv
        exact nr_of I (hN t ht).1
      · obtain ⟨ep, he'⟩ := sortedAll_at s.heap its out.toArray
        have eo : out = (out.map adO).map Value.ref := ref_map fun u hm => by
          have hm' : u ∈ its := o2.perm.mem_iff.mp hm
          rw [ei] at hm'
          obtain ⟨t, _, e⟩ := List.mem_map.mp hm'
          exact ⟨t, e.symm⟩
        have hp : (out.map adO).Perm ts := by
          have p1 := o2.perm.map adO
          rw [ei, ad_map] at p1
          exact p1
        have hlen : ((out.map adO).map V.ref).length ≤ sizeLine := by
          rw [List.length_map, hp.length_eq]
          rw [List.length_map] at hz
          exact hz
        have rvo : Vals ((out.map adO).map V.ref) out := by
          have z := of_nts (out.map adO)
          rw [← eo] at z
          exact z
        have hn : H (s.heap.objs.size + 1) = none := I.hok.fresh (Nat.le_succ _)
        refine ⟨.ref _, upd H (s.heap.objs.size + 1) (.lst ((out.map adO).map V.ref)), I.laid (t' := s.toks) (fun _ _ => sortedAll_old) (Nat.le_succ _) ⟨hlen, out, ep, rvo, he'⟩, rfl, q _ _ (ext_upd hn) ?_⟩
        have er : (out.map adO).map (fun t => kN H (.ref t)) = rsort (ts.map fun t => kN H (.ref t)) := by
          refine rsort_of (hp.map _) ?_
          rw [eo] at o1
          rw [List.pairwise_map]
          have o1' := List.pairwise_map.mp o1
          exact o1'.imp fun {x y} z => lex_rle _ _ z
        rw [← er]
        have isl : ∀ l : List Addr, (∀ t ∈ l, Is R B H (nrD (kN H (.ref t))) (.ref t)) → IsL R B H ((l.map fun t => kN H (.ref t)).map nrD) (l.map V.ref) := fun l => by
          induction l with
          | nil => exact fun _ => IsL.nil
          | cons t l ih => exact fun h => IsL.cons (h t List.mem_cons_self) (ih fun u hu => h u (List.mem_cons_of_mem _ hu))
        exact mkLst lv hn (isl _ fun t ht => (hN t (hp.mem_iff.mp ht)).2)
    · cases e
  · cases e
variable {W : WX} {N : List Str} {sc : Scope} {k : Nat} {a : Expr} {ma : M D} {pos p : Pos}
theorem m_srn (C : Ct X R W N sc k) (bl : Bl R) (hg : sc.names.lookup ("sorted" : Str) = some .globalImplicit) (h1 : PE X a (tE R W ma))
    (hv : bootBuiltins ("sorted" : Str) = some (.builtin "sorted")) (hs : starEach [a] X.env = (false, eval a X.env) :: starEach [] X.env := by rfl) :
    PE X (.Call (.Name "sorted" p) [a] [] pos) (tE R W (mSrn ma)) := by
  refine (pe_callB (cr_srn (R := R) (by have := C.room.un; omega)) (C.gl hg) (by rw [C.mg]; exact bl.no _ (by simp)) hv (pa_cons h1 pa_nil hs) (by decide) (by decide) hs rfl).imp fun σV H Q h => ?_
  obtain ⟨B, HB, ow, σ, dr, F, h⟩ := h
  refine ⟨B, HB, ow, σ, dr, F, Out.mono (Out.bind h) fun x s ow1 H1 F1 st1 h1 v hv => ?_⟩
  obtain ⟨d, hd, q⟩ := Out.oget h1 F1
  exact ⟨_, x, d, v, rfl, hv.p, F1.liveB, hd, fun w H' ex hi => q H' ex w hi⟩
end
end Mi
set_option Elab.async false
set_option linter.all false
set_option maxRecDepth 100000
set_option maxHeartbeats 4000000
/-! Mi47: plain laws of the rules of Mi38, Mi44, Mi46. -/
namespace Mi
open Pl
theorem free_sub {vs vs1 : List Nat} {σ σ1 : List SV} (h : wipeS σ vs1 = wipeS σ1 vs1) (f1 : freeS σ vs1 = true) (f : freeS σ1 vs = true) : freeS σ vs = true := by
  unfold freeS at *
  rw [List.all_eq_true] at *
  intro v hv
  by_cases hv1 : v ∈ vs1
  · exact f1 v hv1
  · have e : σ[v]? = σ1[v]? := by rw [← wipeS_out hv1, h, wipeS_out hv1]
    have := f v hv
    rw [List.getD_eq_getElem?_getD] at this ⊢
    rw [e]
    exact this
theorem comp2L_all {α β : Type} {vs vs1 : List Nat} {g g1 : Tg} {t t1 : M Bool} {w1 : M Wk} {el : M D} {W : List SV} {dr : List Int} {F : α → D} {js : α → List β} {G h : α → β → D} (hsub : ∀ i ∈ vs1, i ∈ vs) : ∀ {ks : List α} {acc : List D} {σ : List SV},
    wipeS σ vs = W → freeS σ vs = true → acc.length + (ks.flatMap fun k => (js k).map (h k)).length ≤ line →
    (∀ k ∈ ks, ∃ σ1, bindT g (F k) W = some σ1 ∧ wipeS σ1 vs = W ∧ freeS σ1 vs = true ∧ freeS σ1 vs1 = true ∧ t ⟨σ1, dr⟩ = .ok true ⟨σ1, dr⟩ ∧ w1 ⟨σ1, dr⟩ = .ok ⟨(js k).map (G k), none⟩ ⟨σ1, dr⟩ ∧ ∀ j ∈ js k, TurnP vs1 g1 t1 el (wipeS σ1 vs1) dr (G k j) (some (h k j))) →
    ∃ σ', comp2L vs (turn2 vs g t w1 vs1 g1 t1 el) (ks.map F) acc ⟨σ, dr⟩ = .ok (acc ++ ks.flatMap fun k => (js k).map (h k)) ⟨σ', dr⟩ ∧ wipeS σ' vs = W ∧ freeS σ' vs = true
  | [], acc, σ, hW, hf, _, _ => ⟨σ, by simp [comp2L], hW, hf⟩
  | k :: ks, acc, σ, hW, hf, hn, ht => by
    obtain ⟨σ1, q1, q2, q3, q4, q5, q6, q7⟩ := ht k List.mem_cons_self
    have hn' : acc.length + ((js k).length + (ks.flatMap fun k => (js k).map (h k)).length) ≤ line := by simpa using hn
    obtain ⟨σ2, r1, r2, r3⟩ := compL_map (ks := js k) (F := G k) (p := fun _ => true) (h := h k) (vs := vs1) (g := g1) (t := t1) (el := el) (W := wipeS σ1 vs1) (dr := dr) (acc := acc) (σ := σ1) rfl q4 (by omega) (by simpa using q7)
    have e0 : ((js k).filter fun _ => true) = js k := List.filter_eq_self.mpr fun _ _ => rfl
    rw [e0] at r1
    have w2 : wipeS σ2 vs = W := by rw [← wipe_sub hsub, r2, wipe_sub hsub, q2]
    have f2 := free_sub r2 r3 q3
    obtain ⟨σ', s1, s2, s3⟩ := comp2L_all hsub (ks := ks) (acc := acc ++ (js k).map (h k)) w2 f2 (by simpa [Nat.add_assoc] using hn) fun k' hk' => ht k' (List.mem_cons_of_mem _ hk')
    refine ⟨σ', ?_, s2, s3⟩
    rw [List.map_cons, comp2L]
    have et : turn2 vs g t w1 vs1 g1 t1 el (F k) acc ⟨σ, dr⟩ = .ok (acc ++ (js k).map (h k)) ⟨σ2, dr⟩ := by
      unfold turn2
      dsimp only
      rw [hW, q1]
      dsimp only
      rw [q5, e_then_ok]
      dsimp only
      rw [q6, e_then_ok]
      dsimp only
      rw [if_pos ⟨rfl, q4⟩, r1]
    rw [et]
    dsimp only
    rw [if_pos f2, s1]
    simp
theorem comp2_all {α β : Type} (ks : List α) (F : α → D) (js : α → List β) (G h : α → β → D) {vs vs1 : List Nat} {g g1 : Tg} {w w1 : M Wk} {t t1 : M Bool} {el : M D} {s : S} (hsub : ∀ i ∈ vs1, i ∈ vs) (hw : w s = .ok ⟨ks.map F, none⟩ s) (hf : freeS s.σ vs = true)
    (hn : (ks.flatMap fun k => (js k).map (h k)).length ≤ line)
    (ht : ∀ k ∈ ks, ∃ σ1, bindT g (F k) (wipeS s.σ vs) = some σ1 ∧ wipeS σ1 vs = wipeS s.σ vs ∧ freeS σ1 vs = true ∧ freeS σ1 vs1 = true ∧ t ⟨σ1, s.dr⟩ = .ok true ⟨σ1, s.dr⟩ ∧ w1 ⟨σ1, s.dr⟩ = .ok ⟨(js k).map (G k), none⟩ ⟨σ1, s.dr⟩ ∧ ∀ j ∈ js k, TurnP vs1 g1 t1 el (wipeS σ1 vs1) s.dr (G k j) (some (h k j))) :
    mComp2 vs g w t vs1 g1 w1 t1 el s = .ok (.lst (ks.flatMap fun k => (js k).map (h k))) s := by
  obtain ⟨σ', q1, q2, q3⟩ := comp2L_all hsub (acc := []) (σ := s.σ) rfl hf (by simpa using hn) ht
  unfold mComp2
  rw [hw, e_then_ok]
  dsimp only
  rw [if_pos ⟨rfl, hf⟩, q1, e_then_ok]
  simp [back_eq q2]
theorem e_mPlu (a b : M D) (s : S) : mPlu a b s = (a s).then fun x s => (oget (pluI x) s).then fun is s => (b s).then fun y s => (oget (pluI y) s).then fun js s => .ok (.lst ((isort (nub (is ++ js))).map .int)) s := nr rfl
theorem e_mSrn (a : M D) (s : S) : mSrn a s = (a s).then fun x s => oget (srnD x) s := nr rfl
theorem pluI_of {is : List Int} (h1 : is.length < 64) (h2 : ∀ i ∈ is, 0 ≤ i ∧ i ≤ 6) : pluI (.tup (is.map .int)) = some is := by
  have h3 : is.all smD = true := by
    rw [List.all_eq_true]
    intro i hi
    obtain ⟨a, b⟩ := h2 i hi
    unfold smD
    rw [decide_eq_true a, decide_eq_true b]
    rfl
  show (match intsD (is.map D.int) with
    | some is => if decide (is.length < 64) && is.all smD then some is else none
    | none => none) = _
  rw [ints_eq]
  dsimp only
  rw [h3, decide_eq_true h1]
  rfl
theorem rowsN_of {α : Type} (n : α → Int) (r : α → List Int) : ∀ ks : List α, rowsN (ks.map fun k => .tup [.int (n k), .tup ((r k).map .int)]) = some (ks.map fun k => n k :: r k)
  | [] => rfl
  | k :: ks => by
    rw [List.map_cons]
    unfold rowsN
    rw [ints_eq, rowsN_of n r ks]
    rfl
theorem nmem_tup (i : Int) (js : List Int) : cmp .nmem (.int i) (.tup (js.map .int)) = some (!decide (i ∈ js)) := by
  have e : D.layL 9 (js.map D.int) = true := layL_map fun k _ => lay_int _ k
  simp only [cmp, seq_tup, e, lay_int, Bool.and_true, if_true]
  rw [mem_ints]
end Mi
set_option Elab.async false
set_option linter.all false
set_option maxRecDepth 100000
set_option maxHeartbeats 4000000
/-! Mi48: membership in a constant tuple of texts; pop at a place of a list that is built. -/
namespace Mi
open PySem L2 PySem.Spec PyProof.Rows
/-- the tuple of the module at g holds the texts ss -/
def ConK (R : Rc) (g : Addr) (ss : List Nat) : Prop := ∃ (o : Obj) (its : Array Value) (n : Nat) (xs : List Str), R.K.lookup g = some o ∧ o.cls = .type "tuple" ∧ o.data = .seq its n ∧ its.size ≤ sizeLine ∧ Vals (xs.map V.str) its.toList ∧ ss.map (fun k => R.txts[k]?) = xs.map some
def mInK (neg : Bool) (ss : List Nat) (m : M D) : M D := fun s => (m s).then fun x s => match x with
  | .str k => .ok (.bl (if neg then !ss.contains k else ss.contains k)) s
  | _ => .no
theorem inV_txts {R : Rc} (nd : R.txts.Nodup) {k : Nat} {x : Str} (hk : R.txts[k]? = some x) : ∀ {ss : List Nat} {xs : List Str}, ss.map (fun k => R.txts[k]?) = xs.map some → inV (.str x) (xs.map V.str) = ss.contains k
  | [], [], _ => rfl
  | [], _ :: _, h => by cases h
  | _ :: _, [], h => by cases h
  | a :: ss, y :: xs, h => by
    rw [List.map_cons, List.map_cons, List.cons.injEq] at h
    have ih := inV_txts nd hk h.2
    have e : (y == x) = (k == a) := by
      rw [Bool.eq_iff_iff, beq_iff_eq, beq_iff_eq]
      obtain ⟨l1, e1⟩ := List.getElem?_eq_some_iff.mp hk
      obtain ⟨l2, e2⟩ := List.getElem?_eq_some_iff.mp h.1
      constructor
      · intro q
        exact (List.getElem?_inj l1 nd).mp (by rw [hk, h.1, q])
      · rintro rfl
        rw [← e2, ← e1]
    show (eqV (.str y) (.str x) || inV (.str x) (xs.map V.str)) = _
    rw [ih]
    show ((y == x) || _) = _
    rw [e, List.contains_cons]
section
variable {X : Cx} {R : Rc} {W : WX} {N : List Str} {sc : Scope} {k : Nat} {a : Expr} {m : M D} {pos p : Pos} {g : Str} {ga : Addr} {ss : List Nat} {op : CmpOp}
theorem flat_strs (xs : List Str) : (xs.map V.str).all flatV = true := by
  rw [List.all_map]
  exact List.all_eq_true.mpr fun _ _ => rfl
theorem op_inK (C : Ct X R W N sc k) (neg : Bool) (hc : ConK R ga ss) : OpR X (compareOp (if neg then CmpOp.NotIn else .In)) (fun x y H Q => ∃ (k : Nat) (z : Str), R.txts[k]? = some z ∧ x = .str z ∧ y = .ref ga ∧ Q (.bl (if neg then !ss.contains k else ss.contains k)) H) := by
  intro pins s σ H x y v u Q I rx ry h
  obtain ⟨kk, z, hk, rfl, rfl, q⟩ := h
  obtain ⟨o, its, n, xs, c1, c2, c3, c4, c5, c6⟩ := hc
  have key := inV_txts C.tx.nd hk c6
  rw [← C.K] at c1
  cases neg with
  | false => exact op_in_seq pins s σ H _ _ v u Q I rx ry ⟨ga, _, rfl, .inr (.inr ⟨o, its, n, c1, c2, c3, c4, c5⟩), rfl, flat_strs xs, by rw [key]; exact q⟩
  | true => exact op_notIn_seq pins s σ H _ _ v u Q I rx ry ⟨ga, _, rfl, .inr (.inr ⟨o, its, n, c1, c2, c3, c4, c5⟩), rfl, flat_strs xs, by rw [key]; exact q⟩
theorem mInK_red {neg : Bool} {σV : L2.St} {H : Hp} {Q : VK} (h : tE R W (mInK neg ss m) σV H Q) : tOp (fun x y H Q => ∃ (k : Nat) (z : Str), R.txts[k]? = some z ∧ x = .str z ∧ y = .ref ga ∧ Q (.bl (if neg then !ss.contains k else ss.contains k)) H) (tE R W m) (tC (.ref ga)) σV H Q := by
  obtain ⟨B, HB, ow, σ, dr, F, h⟩ := h
  refine ⟨B, HB, ow, σ, dr, F, Out.mono (Out.bind h) fun x s ow1 H1 F1 st1 h1 v hv => ?_⟩
  cases x with
  | str kk =>
    unfold Is at hv
    obtain ⟨z, hz, rfl⟩ := hv
    exact ⟨kk, z, hz, rfl, rfl, h1 ow1 H1 F1 (Stp.refl _ _) _ blIs⟩
  | _ => exact h1.elim
theorem m_inK (C : Ct X R W N sc k) (neg : Bool) (eo : op = if neg then .NotIn else .In) (hg : sc.names.lookup g = some .globalImplicit) (hmg : R.mg g = some (.ref ga)) (hd : (g == ("__debug__" : Str)) = false) (hc : ConK R ga ss) (h1 : PE X a (tE R W m)) (hm : behindInMarks op (.Name g p) = false) : PE X (.Compare a [op] [.Name g p] pos) (tE R W (mInK neg ss m)) := by
  subst eo
  exact (pe_cmpR (op_inK C neg hc) h1 (pe_glob (v := .ref ga) (C.gl hg) (by rw [C.mg]; exact hmg) rfl hd) hm).imp fun σV H Q h => mInK_red h
theorem t_inK (C : Ct X R W N sc k) (neg : Bool) (eo : op = if neg then .NotIn else .In) (hg : sc.names.lookup g = some .globalImplicit) (hmg : R.mg g = some (.ref ga)) (hd : (g == ("__debug__" : Str)) = false) (hc : ConK R ga ss) (h1 : PE X a (tE R W m)) (hm : behindInMarks op (.Name g p) = false) : PT X (.Compare a [op] [.Name g p] pos) (tT R W (tV (mInK neg ss m))) := by
  subst eo
  refine (pt_cmpR (op_inK C neg hc) h1 (pe_glob (v := .ref ga) (C.gl hg) (by rw [C.mg]; exact hmg) rfl hd) hm).imp fun σV H Q h => ?_
  exact mInK_red (tV_bl h fun s d s' h => by
    obtain ⟨x, _, _, h⟩ := then_ok h
    cases x with
    | str kk => cases h; exact ⟨_, rfl⟩
    | _ => cases h)
end
/-! ### pop at a place -/
def mPopO (i : Nat) (m : M D) : M D := fun s => match s.σ[i]? with
  | some (.own (.lst _)) => (m s).then fun x s => match x, s.σ[i]? with
    | .int z, some (.own (.lst xs)) => if 0 ≤ z ∧ z < xs.length ∧ z < 1000000 then match xs[z.toNat]? with
        | some d => .ok d ⟨s.σ.set i (.own (.lst (xs.eraseIdx z.toNat))), s.dr⟩
        | none => .no
      else .no
    | _, _ => .no
  | _ => .no
theorem IsL.erase {R : Rc} {B : Bn} {H : Hp} : ∀ {xs : List D} {vs : List V} (k : Nat), IsL R B H xs vs → IsL R B H (xs.eraseIdx k) (vs.eraseIdx k)
  | [], _, _, h => by
    unfold IsL at h
    subst h
    simpa using (IsL.nil (R := R) (B := B) (H := H))
  | x :: xs, _, k, h => by
    unfold IsL at h
    obtain ⟨v, r, rfl, h1, h2⟩ := h
    cases k with
    | zero => simpa using h2
    | succ k =>
      rw [List.eraseIdx_cons_succ, List.eraseIdx_cons_succ]
      exact IsL.cons h1 (IsL.erase k h2)
section
variable {X : Cx} {R : Rc} {W : WX} {N : List Str} {sc : Scope} {k i : Nat} {e : Expr} {m : M D} {pos : Pos} {x : Str}
theorem m_popO (C : Ct X R W N sc k) {pn pa : Pos} (hN : N[i]? = some x) (hv : visB sc x = true) (hd : (x == ("__debug__" : Str)) = false) (hcd : (x == ("__classdict__" : Str)) = false) (he : PE X e (tE R W m))
    (hbase : attributeBase (.Name x pn) "pop" X.env (eval (.Name x pn) X.env) = eval (.Name x pn) X.env := by rfl)
    (hfew : ((backTo pos (starEach [e] X.env)).all (fun x => !x.1) && (backToKw pos (keywordEach [] X.env)).all (fun x => x.1.isSome)
      && decide (([e] : List Expr).length + ([] : List Keyword).length + (if ([] : List Keyword).isEmpty then 0 else 1) < 30)) = true := by rfl)
    (hline : (pa.endLine == pos.line) = true := by rfl) (hst : starEach [e] X.env = (false, eval e X.env) :: starEach [] X.env := by rfl) :
    PE X (.Call (.Attribute (.Name x pn) "pop" pa) [e] [] pos) (tE R W (mPopO i m)) := by
  refine (pe_bm PySem.F.plainAttrs_list PySem.F.slot_list_pop PySem.F.type_list_pop mt_popAt (pe_var (by rw [C.eN]; exact hN) (by rw [C.esc]; exact vis_of hv) hd hcd) (pa_cons he pa_nil hst) hbase hfew hline hst rfl).imp fun σV H Q h => ?_
  obtain ⟨B, HB, ow, σ, dr, F, h⟩ := h
  unfold mPopO at h
  dsimp only at h
  split at h
  · rename_i xs0' e00
    obtain ⟨h1, ⟨_, xs0, h2, _⟩, _⟩ := F.own i _ (show heldAt σ i = some (.lst xs0') by unfold heldAt; rw [e00]; rfl)
    generalize hlw : (ow i).1 = l at h1 h2
    refine ⟨_, h1, .inl ⟨rfl, xs0, SqL.of h2⟩, B, HB, ow, σ, dr, F, Out.mono (Out.bind h) fun d s ow1 H1 F1 st1 h3 v hv => ?_⟩
    split at h3
    · rename_i z xs e0
      split at h3
      · rename_i hz
        split at h3
        · rename_i d hd'
          obtain ⟨q1, ⟨_, us, q2, q3⟩, _⟩ := F1.own i _ (show heldAt s.σ i = some (.lst xs) by unfold heldAt; rw [e0]; rfl)
          rw [h1] at q1
          have el : l = (ow1 i).1 := V.ref.inj (Option.some.inj (Option.some.inj q1))
          subst el
          obtain ⟨F2, st2⟩ := F1.own_lst (ys := xs.eraseIdx z.toNat) (vs := us.eraseIdx z.toNat) e0 (IsL.erase _ q3)
          obtain ⟨y, hy1, hy2⟩ := q3.get hd'
          have ev := isInt (R := R) (B := Ban B ow1 s.σ) (H := H1) hv
          subst ev
          have hlen : us.length = xs.length := q3.len
          refine ⟨_, us, z, z.toNat, y, rfl, rfl, q2, by omega, by omega, ?_, hy1, h3 ow1 _ F2 st2 y (hy2.stp st2)⟩
          have e0' : ¬ z < 0 := by omega
          have e1 : decide (0 ≤ z) = true := decide_eq_true hz.1
          have e2 : decide (z < (xs.length : Int)) = true := decide_eq_true hz.2.1
          simp [seqIndex?, e0', hlen, e1, e2]
        · exact h3.elim
      · exact h3.elim
    · exact h3.elim
  · exact h.elim
end
end Mi
set_option Elab.async false
set_option linter.all false
set_option maxRecDepth 100000
set_option maxHeartbeats 4000000
/-! Mi49: constant tuples of texts, as a Bool of the written part. -/
namespace Mi
open PySem L2 PySem.Spec PyProof.Rows
def strsB : List Value → List Str → Bool
  | [], [] => true
  | .str x _ :: r, y :: t => decide (x = y) && strsB r t
  | _, _ => false
theorem strsB_ok : ∀ {vs : List Value} {xs : List Str}, strsB vs xs = true → Vals (xs.map V.str) vs
  | [], [], _ => .nil
  | [], _ :: _, h => by cases h
  | v :: r, [], h => by cases v <;> cases h
  | v :: r, y :: t, h => by
    cases v with
    | str x tk =>
      obtain ⟨h1, h2⟩ := He.ba (show (decide (x = y) && strsB r t) = true from h)
      have e := of_decide_eq_true h1
      subst e
      exact .cons ⟨tk, rfl⟩ (strsB_ok h2)
    | _ => cases h
def conB (K : PySem.W.Frag) (a : Addr) (xs : List Str) : Bool := match K.lookup a with
  | some ⟨.type "tuple", _, .seq its _, _⟩ => strsB its.toList xs && decide (its.size ≤ 100)
  | _ => false
theorem con_ok {R : Rc} {a : Addr} {xs : List Str} {ss : List Nat} (h : conB R.K a xs = true) (e : ss.map (fun k => R.txts[k]?) = xs.map some) : ConK R a ss := by
  unfold conB at h
  split at h
  · rename_i d its n sl ho
    obtain ⟨h1, h2⟩ := He.ba h
    exact ⟨_, its, n, xs, ho, rfl, rfl, Nat.le_trans (of_decide_eq_true h2) (by decide +kernel), strsB_ok h1, e⟩
  · cases h
end Mi
set_option Elab.async false
set_option linter.all false
set_option maxRecDepth 100000
set_option maxHeartbeats 4000000
namespace Mi.k17
open PySem L2 PySem.Spec PyProof.Rows Mi
def top (i : Nat) : Stmt := PySem.Challenge.pw_newsbooks_k17_whole_built_and_led_to.main.body.getD i (.Pass ⟨0, 0, 0, 0⟩)
def sub (i j : Nat) : Stmt := match top i with
  | .ClassDef _ _ _ b _ _ _ _ _ _ _ => b.getD j (.Pass ⟨0, 0, 0, 0⟩)
  | s => s
def tabIter : List (Nat × Nat) := [(6, 3)]
noncomputable def f_whole_number : FM := fnD 1 1 (sRet (mAnd (mIsa [.int] (mP 0)) (mNot (tV (mIsa [.bool] (mP 0))))))
noncomputable def f_is_row : FM := fnD 1 1 (sRet (mIsa [.list, .tuple] (mP 0)))
noncomputable def f_check_worlds : FM := fnD 1 1 (sIf (tOr (tNot (tV (mCall f_whole_number (mCons (mV 0) mNil)))) (tOr (tV (mCmp .lt (hP 0) (hE (mK (.int 1))))) (tV (mCmp .gt (hP 0) (hE (mK (.int 12))))))) (sRai 1 0 (mK (.str 0))) sNil)
noncomputable def f_is_world : FM := fnD 2 2 (sRet (mAnd (mCall f_whole_number (mCons (mV 0) mNil)) (mChn .le .lt (mK (.int 0)) (mV 0) (mV 1))))
noncomputable def f_first_stranger : FM := fnD 2 5 (sSeq (sOwn 2 (mLst mNil)) (sSeq (sFor (.t [(.n 3), (.n 4)]) (wEnum (hE (mV 0))) (sSeq (sIf (tOr (tNot (tV (mCall f_is_world (mCons (mV 4) (mCons (mV 1) mNil))))) (tV (mCmp .mem (hP 4) (hP 2)))) (sRet (mV 3)) sNil) (sApp 2 (mV 4)))) (sRet (mK .non))))
noncomputable def f_lot_of : FM := fnD 3 4 (sSeq (sExp (mCall f_check_worlds (mCons (mV 1) mNil))) (sSeq (sIf (tNot (tV (mCall f_is_row (mCons (mV 0) mNil)))) (sRai 2 1 (mNeg (mK (.int 1)))) sNil) (sSeq (sSet 3 (mCall f_first_stranger (mCons (mV 0) (mCons (mV 1) mNil)))) (sSeq (sIf (tV (mIsN true (mP 3))) (sRai 2 1 (mV 3)) sNil) (sSeq (sIf (tAnd (tNot (tV (mP 0))) (tNot (tV (mP 2)))) (sRai 2 1 (mNeg (mK (.int 1)))) sNil) (sRet (mBi .tuple (mBi .sorted (mP 0)))))))))
noncomputable def f_every : FM := fnD 1 1 (sSeq (sExp (mCall f_check_worlds (mCons (mV 0) mNil))) (sRet (mBi .tuple (mBi .range (mP 0)))))
noncomputable def f_rest_of : FM := fnD 2 4 (sSeq (sSet 2 (mCall (dflt f_lot_of [.bl true]) (mCons (mV 0) (mCons (mV 1) mNil)))) (sRet (mBi .tuple (mComp [3] (.n 3) (wR1 (mV 1)) (tV (mCmp .nmem (hP 3) (hP 2))) (mV 3)))))
noncomputable def f_plus : FM := fnD 2 2 (sRet (mBi .tuple (mPlu (mP 0) (mP 1))))
noncomputable def f_common : FM := fnD 2 3 (sRet (mBi .tuple (mComp [2] (.n 2) (wOne (hE (mBi .sorted (mP 0)))) (tV (mCmp .mem (hP 2) (hP 1))) (mV 2))))
noncomputable def f_minus : FM := fnD 2 3 (sRet (mBi .tuple (mComp [2] (.n 2) (wOne (hE (mBi .sorted (mP 0)))) (tV (mCmp .nmem (hP 2) (hP 1))) (mV 2))))
noncomputable def f_cells_told : FM := fnD 1 5 (sSeq (sIf (tOr (tNot (tV (mCall f_is_row (mCons (mV 0) mNil)))) (tNot (tV (mP 0)))) (sRai 3 1 (mNeg (mK (.int 1)))) sNil) (sSeq (sOwn 1 (mLst mNil)) (sSeq (sFor (.t [(.n 2), (.n 3)]) (wEnum (hE (mV 0))) (sSeq (sIf (tOr (tNot (tV (mCall f_is_row (mCons (mV 3) mNil)))) (tNot (tV (mP 3)))) (sRai 3 1 (mV 2)) sNil) (sFor (.n 4) (wOne (hE (mV 3))) (sSeq (sIf (tOr (tNot (tV (mCall f_is_world (mCons (mV 4) (mCons (mK (.int 12)) mNil))))) (tV (mCmp .mem (hP 4) (hP 1)))) (sRai 3 1 (mV 2)) sNil) (sApp 1 (mV 4)))))) (sSeq (sIf (tV (mCmp .ne (hE (mBi .sorted (mP 1))) (hE (mBi .list (mBi .range (mBi .len (mP 1))))))) (sRai 3 1 (mBi .len (mP 0))) sNil) (sRet (mBi .tuple (mComp [3] (.n 3) (wOne (hE (mV 0))) tYes (mBi .tuple (mBi .sorted (mP 3))))))))))
noncomputable def f_cells_by : FM := fnD 1 5 (sSeq (sOwn 1 (mLst mNil)) (sSeq (sFor (.n 2) (wOne (hE (mBi .sset (mP 0)))) (sApp 1 (mBi .tuple (mComp [3, 4] (.t [(.n 3), (.n 4)]) (wEnum (hE (mV 0))) (tV (mCmp .eq (hP 4) (hP 2))) (mV 3))))) (sRet (mBi .tuple (mP 1)))))
noncomputable def f_Rank_init : FM := iniD 6 1 7 (sSeq (sSet 2 (mCall f_cells_told (mCons (mV 1) mNil))) (sSeq (sSet 3 (mBi .range (mBi .sum (mComp [4] (.n 4) (wOne (hE (mV 2))) tYes (mBi .len (mP 4)))))) (sSeq (sAtt 0 6 2 (mBi .len (mP 3))) (sSeq (sAtt 0 6 3 (mV 2)) (sAtt 0 6 4 (mBi .tuple (mComp [6] (.n 6) (wOne (hE (mV 3))) tYes (mSub (hE (mComp [4, 5] (.t [(.n 5), (.n 4)]) (wEnum (hE (mV 2))) (tV (mCmp .mem (hP 6) (hP 4))) (mV 5))) (mK (.int 0))))))))))
noncomputable def tabC : List (Nat × FM) := [(6, f_Rank_init)]
noncomputable def f_Rank_flat : FM := fnD 2 2 (sRet (mMkV tabC 0 (mCons (mTup (mCons (mCall f_every (mCons (mV 1) mNil)) mNil)) mNil)))
noncomputable def f_Rank_of_levels : FM := fnD 2 3 (sSeq (sIf (tOr (tNot (tV (mCall f_is_row (mCons (mV 1) mNil)))) (tNot (tV (mChn .le .le (mK (.int 1)) (mBi .len (mP 1)) (mK (.int 12)))))) (sRai 1 0 (mK (.str 1))) sNil) (sSeq (sIf (tNot (tV (mBi .all (mComp [2] (.n 2) (wOne (hE (mV 1))) tYes (mCall f_whole_number (mCons (mV 2) mNil)))))) (sRai 1 0 (mK (.str 1))) sNil) (sRet (mMkV tabC 0 (mCons (mCall f_cells_by (mCons (mV 1) mNil)) mNil)))))
noncomputable def f_Rank_two : FM := fnD 3 5 (sSeq (sExp (mCall f_check_worlds (mCons (mV 2) mNil))) (sSeq (sSet 3 (mCallK 2 1 f_lot_of (mCons (mV 1) (mCons (mV 2) mNil)) (mCons (mK (.bl false)) mNil))) (sSeq (sSet 4 (mCall f_rest_of (mCons (mV 3) (mCons (mV 2) mNil)))) (sRet (mMkV tabC 0 (mCons (mIf (tV (mP 4)) (mTup (mCons (mV 3) (mCons (mV 4) mNil))) (mTup (mCons (mV 3) mNil))) mNil))))))
noncomputable def f_Rank_beginnings : FM := fnD 1 4 (sSeq (sOwn 1 (mLst mNil)) (sSeq (sSet 2 (mTup mNil)) (sSeq (sFor (.n 3) (wOne (hE (mAtt 3 (mV 0)))) (sSeq (sSet 2 (mCall f_plus (mCons (mV 2) (mCons (mV 3) mNil)))) (sApp 1 (mV 2)))) (sRet (mBi .tuple (mP 1))))))
noncomputable def tabM_beginnings : List (Nat × FM) := [(6, f_Rank_beginnings)]
noncomputable def f_Rank_mul : FM := fnD 2 4 (sSeq (sIf (tNot (tV (mIsa [(.cls 6)] (mP 1)))) sNev sNil) (sSeq (sIf (tV (mCmp .ne (hE (mAtt 2 (mV 1))) (hE (mAtt 2 (mV 0))))) (sRai 5 2 (mAtt 2 (mV 1))) sNil) (sRet (mCall f_Rank_init (mCons (mCall f_cells_by (mCons (mComp [2, 3] (.t [(.n 2), (.n 3)]) (wEnum (hE (mAtt 4 (mV 0)))) tYes (mTup (mCons (mV 3) (mCons (mSub (hE (mAtt 4 (mV 1))) (mV 2)) mNil)))) mNil)) mNil)))))
noncomputable def tabMul : List (Nat × FM) := [(6, f_Rank_mul)]
noncomputable def f_Rank_eq : FM := fnD 2 2 (sRet (mAnd (mIsa [(.cls 6)] (mP 1)) (mCmp .eq (hE (mAtt 3 (mV 0))) (hE (mAtt 3 (mV 1))))))
noncomputable def tabEq : List (Nat × FM) := [(6, f_Rank_eq)]
noncomputable def f_Rank_len : FM := fnD 1 1 (sRet (mBi .len (mAtt 3 (mV 0))))
noncomputable def tabLen : List (Nat × FM) := [(6, f_Rank_len)]
noncomputable def f_Rank_getitem : FM := fnD 2 2 (sSeq (sIf (tNot (tV (mCall f_is_world (mCons (mV 1) (mCons (mBi .len (mAtt 3 (mV 0))) mNil))))) (sRai 1 0 (mK (.str 2))) sNil) (sRet (mSub (hE (mAtt 3 (mV 0))) (mV 1))))
noncomputable def tabGet : List (Nat × FM) := [(6, f_Rank_getitem)]
noncomputable def f_check_same_worlds : FM := fnD 2 2 (sIf (tV (mCmp .ne (hE (mAtt 2 (mV 0))) (hE (mAtt 2 (mV 1))))) (sRai 5 2 (mAtt 2 (mV 1))) sNil)
noncomputable def f_products : FM := fnD 1 3 (sSeq (sIf (tNot (tV (mP 0))) (sRai 1 0 (mK (.str 3))) sNil) (sSeq (sSet 1 (mSub (hP 0) (mK (.int 0)))) (sSeq (sFor (.n 2) (wOne (hE (mSli (hP 0) (oYes (mK (.int 1))) oNo))) (sSet 1 (mMulo tabMul (mV 1) (mV 2)))) (sRet (mV 1)))))
noncomputable def f_two_cells : FM := fnD 1 2 (sRet (mBi .tuple (mComp [1] (.n 1) (wOne (hE (mSli (hE (mMt tabM_beginnings (mV 0) mNil)) oNo (oYes (mNeg (mK (.int 1))))))) tYes (mCm 6 f_Rank_two (mCons (mV 1) (mCons (mAtt 2 (mV 0)) mNil))))))
noncomputable def f_finer : FM := fnD 2 4 (sSeq (sExp (mCall f_check_same_worlds (mCons (mV 0) (mCons (mV 1) mNil)))) (sRet (mBi .all (mComp2 [2, 3] (.n 2) (wOne (hE (mAtt 3 (mV 0)))) tYes [3] (.n 3) (wOne (hE (mV 2))) tYes (mCmp .eq (hE (mSub (hE (mAtt 4 (mV 1))) (mV 3))) (hE (mSub (hE (mAtt 4 (mV 1))) (mSub (hP 2) (mK (.int 0))))))))))
noncomputable def f_led_by : FM := fnD 2 2 (sSeq (sExp (mCall f_check_same_worlds (mCons (mV 0) (mCons (mV 1) mNil)))) (sRet (mIf (tV (mCall f_finer (mCons (mV 1) (mCons (mV 0) mNil)))) (mV 1) (mK .non))))
noncomputable def f_lot_of_deed : FM := fnD 3 4 (sSeq (sExp (mCall f_check_worlds (mCons (mV 2) mNil))) (sSeq (sIf (tV (mInK true [4, 5, 6, 7, 8, 9] (mV 0))) (sRai 4 5 (mV 0)) sNil) (sSeq (sSet 3 (mCallK 2 1 f_lot_of (mCons (mV 1) (mCons (mV 2) mNil)) (mCons (mInK false [7, 8] (mV 0)) mNil))) (sSeq (sIf (tAnd (tV (mInK false [7, 8] (mV 0))) (tV (mCmp .eq (hE (mBi .len (mP 3))) (hP 2)))) (sRai 2 1 (mNeg (mK (.int 1)))) sNil) (sRet (mV 3))))))
noncomputable def f_led : FM := fnD 2 6 (sSeq (sSet 2 (mCall f_lot_of_deed (mCons (mK (.str 4)) (mCons (mV 1) (mCons (mAtt 2 (mV 0)) mNil))))) (sSeq (sSet 3 (mComp [4] (.n 4) (wOne (hE (mAtt 3 (mV 0)))) tYes (mCall f_common (mCons (mV 4) (mCons (mV 2) mNil))))) (sSeq (sSet 5 (mComp [4] (.n 4) (wOne (hE (mAtt 3 (mV 0)))) tYes (mCall f_minus (mCons (mV 4) (mCons (mV 2) mNil))))) (sRet (mCall f_Rank_init (mCons (mComp [4] (.n 4) (wOne (hE (mBin .add (mV 3) (mV 5)))) (tV (mP 4)) (mV 4)) mNil))))))
noncomputable def f__law_draws : FM := fnD 1 6 (sSeq (sOwn 1 (mLst mNil)) (sSeq (sFor (.n 2) (wR1 (mBi2 .min (mBi .len (mP 0)) (mK (.int 63)))) (sSeq (sSet 3 (mBi .int (mSub (hP 0) (mV 2)))) (sSeq (sIf (tV (mCmp .lt (hP 3) (hE (mK (.int 0))))) (sSet 3 (mBin .sub (mK (.int 7)) (mV 3))) sNil) (sIf (tV (mCmp .ge (hP 3) (hE (mBin .pow (mK (.int 10)) (mK (.int 18)))))) (sFor (.n 4) (wR1 (mK (.int 50))) (sIf (tV (mCmp .gt (hP 3) (hE (mK (.int 0))))) (sSeq (sApp 1 (mBin .mod (mBi .int (mP 3)) (mK (.int 30)))) (sSet 3 (mBin .fdiv (mV 3) (mK (.int 30))))) sNil)) (sSeq (sSet 5 (mBin .mod (mBi .int (mBin .add (mBin .add (mBin .mul (mV 3) (mK (.int 48271))) (mBin .mul (mV 2) (mK (.int 6007)))) (mK (.int 17)))) (mK (.int 2147483629)))) (sFor (.n 4) (wR1 (mK (.int 6))) (sSeq (sSet 5 (mBin .mod (mBi .int (mBin .add (mBin .add (mBin .add (mBin .mul (mV 5) (mV 5)) (mBin .mul (mV 4) (mK (.int 90001)))) (mBin .mul (mV 2) (mK (.int 43)))) (mK (.int 3)))) (mK (.int 2147483587)))) (sApp 1 (mV 5))))))))) (sRet (mRsl (mP 1)))))
noncomputable def f__law_take : FM := fnD 2 2 (sSeq (sIf (tV (mCmp .eq (hE (mDrLen 0)) (hE (mK (.int 0))))) (sRet (mK (.int 0))) sNil) (sRet (mBin .mod (mBi .int (mDraw 0)) (mV 1))))
noncomputable def f__law_lot : FM := fnD 2 3 (sRet (mBi .tuple (mComp [2] (.n 2) (wR1 (mV 1)) (tV (mCmp .eq (hE (mCall f__law_take (mCons (mV 0) (mCons (mK (.int 2)) mNil)))) (hE (mK (.int 1))))) (mV 2))))
noncomputable def f__law_some : FM := fnD 2 5 (sSeq (sSet 2 (mCall f__law_take (mCons (mV 0) (mCons (mV 1) mNil)))) (sSeq (sSet 3 (mCall f__law_lot (mCons (mV 0) (mCons (mV 1) mNil)))) (sRet (mBi .tuple (mComp [4] (.n 4) (wR1 (mV 1)) (tOr (tV (mCmp .eq (hP 4) (hP 2))) (tV (mCmp .mem (hP 4) (hP 3)))) (mV 4))))))
noncomputable def f__law_rest : FM := fnD 2 3 (sRet (mBi .tuple (mComp [2] (.n 2) (wR1 (mV 1)) (tV (mCmp .nmem (hP 2) (hP 0))) (mV 2))))
noncomputable def f__law_plus : FM := fnD 2 3 (sRet (mBi .tuple (mBi .sorted (mBin .add (mBi .list (mP 0)) (mComp [2] (.n 2) (wOne (hE (mV 1))) (tV (mCmp .nmem (hP 2) (hP 0))) (mV 2))))))
noncomputable def f__law_inside : FM := fnD 2 3 (sRet (mCmp .eq (hE (mBi .len (mComp [2] (.n 2) (wOne (hE (mV 0))) (tV (mCmp .nmem (hP 2) (hP 1))) (mV 2)))) (hE (mK (.int 0)))))
noncomputable def f__law_dense : FM := fnD 1 3 (sSeq (sOwn 1 (mLst mNil)) (sSeq (sFor (.n 2) (wOne (hE (mBi .sorted (mP 0)))) (sIf (tOr (tV (mCmp .eq (hE (mBi .len (mP 1))) (hE (mK (.int 0))))) (tV (mCmp .ne (hE (mSub (hP 1) (mNeg (mK (.int 1))))) (hP 2)))) (sApp 1 (mV 2)) sNil)) (sRet (mComp [2] (.n 2) (wOne (hE (mV 0))) tYes (mIdx (hP 1) (mV 2))))))
noncomputable def f__law_rank : FM := fnD 2 3 (sRet (mCall f__law_dense (mCons (mComp [2] (.n 2) (wR1 (mV 1)) tYes (mCall f__law_take (mCons (mV 0) (mCons (mV 1) mNil)))) mNil)))
noncomputable def f__law_cells : FM := fnD 1 4 (sSeq (sOwn 1 (mLst mNil)) (sSeq (sFor (.n 2) (wR1 (mBin .add (mBi .max (mP 0)) (mK (.int 1)))) (sApp 1 (mBi .tuple (mComp [3] (.n 3) (wR1 (mBi .len (mP 0))) (tV (mCmp .eq (hE (mSub (hP 0) (mV 3))) (hP 2))) (mV 3))))) (sRet (mBi .tuple (mP 1)))))
noncomputable def f__law_best : FM := fnD 2 4 (sSeq (sSet 2 (mBi .min (mComp [3] (.n 3) (wOne (hE (mV 1))) tYes (mSub (hP 0) (mV 3))))) (sRet (mBi .tuple (mComp [3] (.n 3) (wOne (hE (mV 1))) (tV (mCmp .eq (hE (mSub (hP 0) (mV 3))) (hP 2))) (mV 3)))))
noncomputable def f__law_held : FM := fnD 1 2 (sRet (mBi .tuple (mComp [1] (.n 1) (wR1 (mBi .len (mP 0))) (tV (mCmp .eq (hE (mSub (hP 0) (mV 1))) (hE (mK (.int 0))))) (mV 1))))
noncomputable def f__law_product : FM := fnD 2 4 (sSeq (sSet 2 (mBin .add (mBi .len (mP 0)) (mK (.int 1)))) (sRet (mCall f__law_dense (mCons (mComp [3] (.n 3) (wR1 (mBi .len (mP 0))) tYes (mBin .add (mBin .mul (mSub (hP 0) (mV 3)) (mV 2)) (mSub (hP 1) (mV 3)))) mNil))))
noncomputable def f__law_turn : FM := fnD 3 12 (sSeq (sSet 3 (mBi .len (mP 0))) (sSeq (sIf (tV (mCmp .eq (hP 1) (hE (mK (.str 4))))) (sSeq (sSet 4 (mComp [5] (.n 5) (wR1 (mV 3)) tYes (mIf (tV (mCmp .mem (hP 5) (hP 2))) (mK (.int 0)) (mK (.int 1))))) (sRet (mCall f__law_product (mCons (mV 4) (mCons (mV 0) mNil))))) sNil) (sSeq (sIf (tOr (tV (mCmp .eq (hP 1) (hE (mK (.str 5))))) (tV (mCmp .eq (hP 1) (hE (mK (.str 6)))))) (sSeq (sSet 6 (mCall f__law_best (mCons (mV 0) (mCons (mV 2) mNil)))) (sSeq sNev (sSeq (sIf (tV (mCmp .eq (hP 1) (hE (mK (.str 6))))) sNev sNil) (sRet (mCall f__law_dense (mCons (mComp [9] (.n 9) (wR1 (mV 3)) tYes (mIf (tV (mCmp .mem (hP 9) (hP 6))) (mNeg (mK (.int 1))) (mSub (hP 7) (mV 9)))) mNil)))))) sNil) (sSeq (sIf (tOr (tV (mCmp .eq (hP 1) (hE (mK (.str 7))))) (tV (mCmp .eq (hP 1) (hE (mK (.str 8)))))) (sSeq (sIf (tNot (tV (mCall f__law_inside (mCons (mCall f__law_held (mCons (mV 0) mNil)) (mCons (mV 2) mNil))))) (sRet (mBi .list (mP 0))) sNil) (sSeq (sSet 6 (mCall f__law_best (mCons (mV 0) (mCons (mCall f__law_rest (mCons (mV 2) (mCons (mV 3) mNil))) mNil)))) (sSeq (sSet 10 (mCall f__law_plus (mCons (mCall f__law_held (mCons (mV 0) mNil)) (mCons (mV 6) mNil)))) (sSeq (sIf (tV (mCmp .eq (hP 1) (hE (mK (.str 8))))) (sSeq (sSet 11 (mSub (hP 0) (mSub (hP 6) (mK (.int 0))))) (sSet 10 (mBi .tuple (mComp [9] (.n 9) (wR1 (mV 3)) (tV (mCmp .le (hE (mSub (hP 0) (mV 9))) (hP 11))) (mV 9))))) sNil) (sRet (mCall f__law_dense (mCons (mComp [9] (.n 9) (wR1 (mV 3)) tYes (mIf (tV (mCmp .mem (hP 9) (hP 10))) (mNeg (mK (.int 1))) (mSub (hP 0) (mV 9)))) mNil))))))) sNil) (sRet (mBi .list (mP 0)))))))
noncomputable def f__law_is_rank : FM := fnD 2 2 (sSeq (sIf (tOr (tNot (tV (mIsa [(.cls 6)] (mP 0)))) (tV (mCmp .ne (hE (mAtt 2 (mV 0))) (hE (mBi .len (mP 1)))))) (sRet (mK (.bl false))) sNil) (sRet (mAnd (mCmp .eq (hE (mAtt 4 (mV 0))) (hE (mBi .tuple (mP 1)))) (mCmp .eq (hE (mAtt 3 (mV 0))) (hE (mCall f__law_cells (mCons (mV 1) mNil)))))))
noncomputable def f__law_finer : FM := fnD 2 4 (sSeq (sFor (.n 2) (wR1 (mBi .len (mP 0))) (sFor (.n 3) (wR1 (mBi .len (mP 0))) (sIf (tAnd (tV (mCmp .eq (hE (mSub (hP 0) (mV 2))) (hE (mSub (hP 0) (mV 3))))) (tV (mCmp .ne (hE (mSub (hP 1) (mV 2))) (hE (mSub (hP 1) (mV 3)))))) (sRet (mK (.bl false))) sNil))) (sRet (mK (.bl true))))
noncomputable def f__law_joined : FM := fnD 2 4 (sSeq (sSet 2 (mCall f__law_take (mCons (mV 0) (mCons (mBin .add (mBi .max (mP 1)) (mK (.int 1))) mNil)))) (sRet (mCall f__law_dense (mCons (mComp [3] (.n 3) (wOne (hE (mV 1))) tYes (mIf (tV (mCmp .gt (hP 3) (hP 2))) (mBin .sub (mV 3) (mK (.int 1))) (mV 3))) mNil))))
noncomputable def f__law_goal : FM := fnD 4 6 (sSeq (sSet 4 (mBi .list (mP 1))) (sSeq (sIf (tV (mCmp .eq (hP 3) (hE (mK (.int 1))))) (sRet (mCall f__law_product (mCons (mCall f__law_rank (mCons (mV 0) (mCons (mBi .len (mP 1)) mNil))) (mCons (mV 1) mNil)))) sNil) (sSeq (sIf (tV (mCmp .eq (hP 3) (hE (mK (.int 2))))) (sRet (mCall f__law_rank (mCons (mV 0) (mCons (mBi .len (mP 1)) mNil)))) sNil) (sSeq (sIf (tV (mCmp .eq (hP 3) (hE (mK (.int 4))))) (sRet (mV 4)) sNil) (sSeq (sFor (.n 5) (wOne (hE (mV 2))) (sSet 4 (mCall f__law_turn (mCons (mV 4) (mCons (mK (.str 4)) (mCons (mV 5) mNil)))))) (sSeq (sIf (tV (mCmp .eq (hP 3) (hE (mK (.int 3))))) (sSet 4 (mCall f__law_joined (mCons (mV 0) (mCons (mV 4) mNil)))) sNil) (sRet (mV 4))))))))
noncomputable def f__law_leads_right : FM := fnD 3 8 (sSeq (sSet 3 (mBi .len (mP 1))) (sSeq (sSet 4 (mV 0)) (sSeq (sSet 5 (mBi .list (mP 1))) (sSeq (sSet 6 (mCm 6 f_Rank_flat (mCons (mV 3) mNil))) (sSeq (sFor (.n 7) (wOne (hE (mV 2))) (sSeq (sSet 4 (mCall f_led (mCons (mV 4) (mCons (mBi .list (mRsl (mP 7))) mNil)))) (sSeq (sSet 5 (mCall f__law_turn (mCons (mV 5) (mCons (mK (.str 4)) (mCons (mV 7) mNil))))) (sSeq (sSet 6 (mMulo tabMul (mCm 6 f_Rank_two (mCons (mV 7) (mCons (mV 3) mNil))) (mV 6))) (sIf (tOr (tNot (tV (mCall f__law_is_rank (mCons (mV 4) (mCons (mV 5) mNil))))) (tNot (tV (mCall f__law_is_rank (mCons (mMulo tabMul (mV 6) (mV 0)) (mCons (mV 5) mNil)))))) (sRet (mK (.bl false))) sNil))))) (sRet (mK (.bl true))))))))
noncomputable def f__law_two : FM := fnD 2 3 (sRet (mCall f__law_dense (mCons (mComp [2] (.n 2) (wR1 (mV 1)) tYes (mIf (tV (mCmp .mem (hP 2) (hP 0))) (mK (.int 0)) (mK (.int 1)))) mNil)))
noncomputable def f__law_twos_right : FM := fnD 3 11 (sSeq (sSet 3 (mBi .len (mP 2))) (sSeq (sSet 4 (mCall f_two_cells (mCons (mV 1) mNil))) (sSeq (sIf (tOr (tNot (tV (mIsa [.tuple] (mP 4)))) (tV (mCmp .ne (hE (mBi .len (mP 4))) (hE (mBi .max (mP 2)))))) (sRet (mK (.bl false))) sNil) (sSeq (sOwn 5 (mLst mNil)) (sSeq (sFor (.n 6) (wR1 (mBi .max (mP 2))) (sSeq (sSet 7 (mBi .tuple (mComp [8] (.n 8) (wR1 (mV 3)) (tV (mCmp .le (hE (mSub (hP 2) (mV 8))) (hP 6))) (mV 8)))) (sSeq (sIf (tNot (tV (mCall f__law_is_rank (mCons (mSub (hP 4) (mV 6)) (mCons (mCall f__law_two (mCons (mV 7) (mCons (mV 3) mNil))) mNil))))) (sRet (mK (.bl false))) sNil) (sApp 5 (mSub (hP 4) (mV 6)))))) (sSeq (sSet 9 (mCm 6 f_Rank_flat (mCons (mV 3) mNil))) (sSeq (sFor (.n 10) (wR1 (mBi .max (mP 2))) (sSet 9 (mCall (varF f_products) (mCons (mV 9) (mCons (mPopO 5 (mCall f__law_take (mCons (mV 0) (mCons (mBi .len (mP 5)) mNil)))) mNil))))) (sRet (mCall f__law_is_rank (mCons (mV 9) (mCons (mV 2) mNil)))))))))))
noncomputable def f__law_led_right : FM := fnD 4 6 (sSeq (sSet 4 (mCall f_led_by (mCons (mV 0) (mCons (mV 1) mNil)))) (sSeq (sSet 5 (mCall f__law_finer (mCons (mV 3) (mCons (mV 2) mNil)))) (sSeq (sIf (tOr (tV (mCmp .ne (hE (mCall f_finer (mCons (mV 1) (mCons (mV 0) mNil)))) (hP 5))) (tV (mCmp .ne (hE (mEqo tabEq (mMulo tabMul (mV 1) (mV 0)) (mV 1))) (hP 5)))) (sRet (mK (.bl false))) sNil) (sSeq (sIf (tNot (tV (mP 5))) (sRet (mIsN false (mP 4))) sNil) (sSeq (sIf (tOr (tNot (tV (mIsa [(.cls 6)] (mP 4)))) (tV (mCmp .ne (hE (mAtt 2 (mV 4))) (hE (mBi .len (mP 2)))))) (sRet (mK (.bl false))) sNil) (sSeq (sIf (tV (mCmp .ne (hE (mCall f__law_product (mCons (mBi .list (mAtt 4 (mV 4))) (mCons (mV 2) mNil)))) (hE (mBi .list (mP 3))))) (sRet (mK (.bl false))) sNil) (sRet (mAnd (mCall f__law_is_rank (mCons (mMulo tabMul (mV 4) (mV 0)) (mCons (mV 3) mNil))) (mCall f__law_is_rank (mCons (mMulo tabMul (mV 1) (mV 0)) (mCons (mV 3) mNil)))))))))))
noncomputable def f__law_refused : FM := fnD 3 5 (sSeq (sSet 3 (mK (.int 0))) (sSeq (sTry [1, 2, 3, 4, 5] (sIf (tV (mCmp .eq (hP 0) (hE (mK (.int 0))))) (sExp (mCall f_led_by (mCons (mV 1) (mCons (mV 2) mNil)))) (sExp (mCall f_finer (mCons (mV 1) (mCons (mV 2) mNil))))) [⟨5, [5], 4, .set 3 (.one (.x 2))⟩]) (sRet (mV 3))))
def txl : List Str := ["worlds", "numbers", "place", "ranks", "lead", "push", "lean", "level", "sink", "ask"]
def atl : List Str := ["name", "place", "worlds", "cells", "levels", "word"]
def exN : List Nat := [1, 2, 3, 4, 5]
def exS (c h : Nat) : Bool := [(1, 1), (2, 2), (3, 3), (4, 4), (5, 5)].contains (c, h)
def hasL : List (Nat × Nat) := [(6, 2), (6, 3), (6, 4)]
def hasT (c n : Nat) : Bool := hasL.contains (c, n)
structure Hb (R : Rc) : Prop where
  txo : TxOk R
  bl : Bl R
  tx : ∀ (k : Nat) {x : Str}, txl[k]? = some x → R.txts[k]? = some x
  atx : ∀ (k : Nat) {x : Str}, atl[k]? = some x → R.atts[k]? = some x
  exf : ExF R exN exS
  sl : ∀ c, R.sl c = true
  has : ∀ c n, hasT c n = true → R.has c n = true
  six : SixI R
  ins : InI' R
  g_DEED_WORDS : R.mg "DEED_WORDS" = some (.ref (He.ga R.K "DEED_WORDS"))
  con_DEED_WORDS : ConK R (He.ga R.K "DEED_WORDS") [4, 5, 6, 7, 8, 9]
  g_GIVE_WORDS : R.mg "GIVE_WORDS" = some (.ref (He.ga R.K "GIVE_WORDS"))
  con_GIVE_WORDS : ConK R (He.ga R.K "GIVE_WORDS") [7, 8]
  at_name : AtI R 0 "name"
  at_place : AtI R 1 "place"
  at_worlds : AtI R 2 "worlds"
  at_cells : AtI R 3 "cells"
  at_levels : AtI R 4 "levels"
  at_word : AtI R 5 "word"
  g_NewsError : R.mg "NewsError" = some (.ref (R.ca 0))
  g_BadNumber : R.mg "BadNumber" = some (.ref (R.ca 1))
  xk_BadNumber : ExK R.K (R.ca 1)
  xi_BadNumber : PySem.W.findIn R.K (.ref (R.ca 1)) "__init__" = some (some (.ref (He.ma R.K (R.ca 1) "__init__")))
  xt_BadNumber : PySem.W.typeIn R.K (.ref (He.ma R.K (R.ca 1) "__init__")) = some (.type "function")
  xn_BadNumber : PySem.W.findIn R.K (.ref (R.ca 1)) "name" = some none
  xa_BadNumber : R.atts[0]? = some ("name" : Str)
  xd_BadNumber : ∃ fd, FunD R.K "__init__" "BadNumber.__init__" (defArgs (sub 3 0)) (defBody (sub 3 0)) (defScope (sub 3 0)) [] [] (He.ma R.K (R.ca 1) "__init__") fd
  g_BadLot : R.mg "BadLot" = some (.ref (R.ca 2))
  xk_BadLot : ExK R.K (R.ca 2)
  xi_BadLot : PySem.W.findIn R.K (.ref (R.ca 2)) "__init__" = some (some (.ref (He.ma R.K (R.ca 2) "__init__")))
  xt_BadLot : PySem.W.typeIn R.K (.ref (He.ma R.K (R.ca 2) "__init__")) = some (.type "function")
  xn_BadLot : PySem.W.findIn R.K (.ref (R.ca 2)) "place" = some none
  xa_BadLot : R.atts[1]? = some ("place" : Str)
  xd_BadLot : ∃ fd, FunD R.K "__init__" "BadLot.__init__" (defArgs (sub 4 0)) (defBody (sub 4 0)) (defScope (sub 4 0)) [] [] (He.ma R.K (R.ca 2) "__init__") fd
  g_BadRank : R.mg "BadRank" = some (.ref (R.ca 3))
  xk_BadRank : ExK R.K (R.ca 3)
  xi_BadRank : PySem.W.findIn R.K (.ref (R.ca 3)) "__init__" = some (some (.ref (He.ma R.K (R.ca 3) "__init__")))
  xt_BadRank : PySem.W.typeIn R.K (.ref (He.ma R.K (R.ca 3) "__init__")) = some (.type "function")
  xn_BadRank : PySem.W.findIn R.K (.ref (R.ca 3)) "place" = some none
  xa_BadRank : R.atts[1]? = some ("place" : Str)
  xd_BadRank : ∃ fd, FunD R.K "__init__" "BadRank.__init__" (defArgs (sub 5 0)) (defBody (sub 5 0)) (defScope (sub 5 0)) [] [] (He.ma R.K (R.ca 3) "__init__") fd
  g_BadWord : R.mg "BadWord" = some (.ref (R.ca 4))
  xk_BadWord : ExK R.K (R.ca 4)
  xi_BadWord : PySem.W.findIn R.K (.ref (R.ca 4)) "__init__" = some (some (.ref (He.ma R.K (R.ca 4) "__init__")))
  xt_BadWord : PySem.W.typeIn R.K (.ref (He.ma R.K (R.ca 4) "__init__")) = some (.type "function")
  xn_BadWord : PySem.W.findIn R.K (.ref (R.ca 4)) "word" = some none
  xa_BadWord : R.atts[5]? = some ("word" : Str)
  xd_BadWord : ∃ fd, FunD R.K "__init__" "BadWord.__init__" (defArgs (sub 6 0)) (defBody (sub 6 0)) (defScope (sub 6 0)) [] [] (He.ma R.K (R.ca 4) "__init__") fd
  g_OtherWorlds : R.mg "OtherWorlds" = some (.ref (R.ca 5))
  xk_OtherWorlds : ExK R.K (R.ca 5)
  xi_OtherWorlds : PySem.W.findIn R.K (.ref (R.ca 5)) "__init__" = some (some (.ref (He.ma R.K (R.ca 5) "__init__")))
  xt_OtherWorlds : PySem.W.typeIn R.K (.ref (He.ma R.K (R.ca 5) "__init__")) = some (.type "function")
  xn_OtherWorlds : PySem.W.findIn R.K (.ref (R.ca 5)) "worlds" = some none
  xa_OtherWorlds : R.atts[2]? = some ("worlds" : Str)
  xd_OtherWorlds : ∃ fd, FunD R.K "__init__" "OtherWorlds.__init__" (defArgs (sub 7 0)) (defBody (sub 7 0)) (defScope (sub 7 0)) [] [] (He.ma R.K (R.ca 5) "__init__") fd
  g_Rank : R.mg "Rank" = some (.ref (R.ca 6))
  is_Rank : ClI R 6
  sc_Rank : SlX.SCls R.K (R.ca 6)
  d_Rank_iter : ∃ fd, FunD R.K "__iter__" "Rank.__iter__" (defArgs (sub 23 17)) (defBody (sub 23 17)) (defScope (sub 23 17)) [] [] (He.ma R.K (R.ca 6) "__iter__") fd
  mt_Rank_iter : PySem.W.findIn R.K (.ref (R.ca 6)) "__iter__" = some (some (.ref (He.ma R.K (R.ca 6) "__iter__")))
  mf_Rank_iter : PySem.W.isFn R.K (.ref (He.ma R.K (R.ca 6) "__iter__")) = true
  d_whole_number : ∃ fd, FunD R.K "whole_number" "whole_number" (defArgs (top 9)) (defBody (top 9)) (defScope (top 9)) [] [] (He.ga R.K "whole_number") fd
  g_whole_number : R.mg "whole_number" = some (.ref (He.ga R.K "whole_number"))
  d_is_row : ∃ fd, FunD R.K "is_row" "is_row" (defArgs (top 10)) (defBody (top 10)) (defScope (top 10)) [] [] (He.ga R.K "is_row") fd
  g_is_row : R.mg "is_row" = some (.ref (He.ga R.K "is_row"))
  d_check_worlds : ∃ fd, FunD R.K "check_worlds" "check_worlds" (defArgs (top 11)) (defBody (top 11)) (defScope (top 11)) [] [] (He.ga R.K "check_worlds") fd
  g_check_worlds : R.mg "check_worlds" = some (.ref (He.ga R.K "check_worlds"))
  d_is_world : ∃ fd, FunD R.K "is_world" "is_world" (defArgs (top 12)) (defBody (top 12)) (defScope (top 12)) [] [] (He.ga R.K "is_world") fd
  g_is_world : R.mg "is_world" = some (.ref (He.ga R.K "is_world"))
  d_first_stranger : ∃ fd, FunD R.K "first_stranger" "first_stranger" (defArgs (top 13)) (defBody (top 13)) (defScope (top 13)) [] [] (He.ga R.K "first_stranger") fd
  g_first_stranger : R.mg "first_stranger" = some (.ref (He.ga R.K "first_stranger"))
  d_lot_of : ∃ fd, FunD R.K "lot_of" "lot_of" (defArgs (top 14)) (defBody (top 14)) (defScope (top 14)) [] [("empty", .bl true)] (He.ga R.K "lot_of") fd
  g_lot_of : R.mg "lot_of" = some (.ref (He.ga R.K "lot_of"))
  d_every : ∃ fd, FunD R.K "every" "every" (defArgs (top 15)) (defBody (top 15)) (defScope (top 15)) [] [] (He.ga R.K "every") fd
  g_every : R.mg "every" = some (.ref (He.ga R.K "every"))
  d_rest_of : ∃ fd, FunD R.K "rest_of" "rest_of" (defArgs (top 16)) (defBody (top 16)) (defScope (top 16)) [] [] (He.ga R.K "rest_of") fd
  g_rest_of : R.mg "rest_of" = some (.ref (He.ga R.K "rest_of"))
  d_plus : ∃ fd, FunD R.K "plus" "plus" (defArgs (top 17)) (defBody (top 17)) (defScope (top 17)) [] [] (He.ga R.K "plus") fd
  g_plus : R.mg "plus" = some (.ref (He.ga R.K "plus"))
  d_common : ∃ fd, FunD R.K "common" "common" (defArgs (top 18)) (defBody (top 18)) (defScope (top 18)) [] [] (He.ga R.K "common") fd
  g_common : R.mg "common" = some (.ref (He.ga R.K "common"))
  d_minus : ∃ fd, FunD R.K "minus" "minus" (defArgs (top 19)) (defBody (top 19)) (defScope (top 19)) [] [] (He.ga R.K "minus") fd
  g_minus : R.mg "minus" = some (.ref (He.ga R.K "minus"))
  d_cells_told : ∃ fd, FunD R.K "cells_told" "cells_told" (defArgs (top 21)) (defBody (top 21)) (defScope (top 21)) [] [] (He.ga R.K "cells_told") fd
  g_cells_told : R.mg "cells_told" = some (.ref (He.ga R.K "cells_told"))
  d_cells_by : ∃ fd, FunD R.K "cells_by" "cells_by" (defArgs (top 22)) (defBody (top 22)) (defScope (top 22)) [] [] (He.ga R.K "cells_by") fd
  g_cells_by : R.mg "cells_by" = some (.ref (He.ga R.K "cells_by"))
  d_Rank_init : ∃ fd, FunD R.K "__init__" "Rank.__init__" (defArgs (sub 23 1)) (defBody (sub 23 1)) (defScope (sub 23 1)) [] [] (He.ma R.K (R.ca 6) "__init__") fd
  mk_Rank : L2.Mk R.K (R.ca 6) (He.ma R.K (R.ca 6) "__init__")
  d_Rank_flat : ∃ fd, FunD R.K "flat" "Rank.flat" (defArgs (sub 23 2)) (defBody (sub 23 2)) (defScope (sub 23 2)) [] [] (cmF R.K (He.ma R.K (R.ca 6) "flat")) fd
  cm_Rank_flat : ∃ mc p, ClX.CRead R.K (R.ca 6) mc ∧ ClX.CMet R.K (R.ca 6) mc "flat" p (cmF R.K (He.ma R.K (R.ca 6) "flat"))
  d_Rank_of_levels : ∃ fd, FunD R.K "of_levels" "Rank.of_levels" (defArgs (sub 23 4)) (defBody (sub 23 4)) (defScope (sub 23 4)) [] [] (cmF R.K (He.ma R.K (R.ca 6) "of_levels")) fd
  cm_Rank_of_levels : ∃ mc p, ClX.CRead R.K (R.ca 6) mc ∧ ClX.CMet R.K (R.ca 6) mc "of_levels" p (cmF R.K (He.ma R.K (R.ca 6) "of_levels"))
  d_Rank_two : ∃ fd, FunD R.K "two" "Rank.two" (defArgs (sub 23 5)) (defBody (sub 23 5)) (defScope (sub 23 5)) [] [] (cmF R.K (He.ma R.K (R.ca 6) "two")) fd
  cm_Rank_two : ∃ mc p, ClX.CRead R.K (R.ca 6) mc ∧ ClX.CMet R.K (R.ca 6) mc "two" p (cmF R.K (He.ma R.K (R.ca 6) "two"))
  d_Rank_beginnings : ∃ fd, FunD R.K "beginnings" "Rank.beginnings" (defArgs (sub 23 12)) (defBody (sub 23 12)) (defScope (sub 23 12)) [] [] (He.ma R.K (R.ca 6) "beginnings") fd
  mt_Rank_beginnings : Meth R.K (R.ca 6) "beginnings" (He.ma R.K (R.ca 6) "beginnings")
  d_Rank_mul : ∃ fd, FunD R.K "__mul__" "Rank.__mul__" (defArgs (sub 23 13)) (defBody (sub 23 13)) (defScope (sub 23 13)) [] [] (He.ma R.K (R.ca 6) "__mul__") fd
  mt_Rank_mul : PySem.W.findIn R.K (.ref (R.ca 6)) "__mul__" = some (some (.ref (He.ma R.K (R.ca 6) "__mul__")))
  mf_Rank_mul : PySem.W.isFn R.K (.ref (He.ma R.K (R.ca 6) "__mul__")) = true
  mu_Rank_mul : PySem.W.selfFirst R.K (R.ca 6) = true
  d_Rank_eq : ∃ fd, FunD R.K "__eq__" "Rank.__eq__" (defArgs (sub 23 14)) (defBody (sub 23 14)) (defScope (sub 23 14)) [] [] (He.ma R.K (R.ca 6) "__eq__") fd
  mt_Rank_eq : PySem.W.findIn R.K (.ref (R.ca 6)) "__eq__" = some (some (.ref (He.ma R.K (R.ca 6) "__eq__")))
  mf_Rank_eq : PySem.W.isFn R.K (.ref (He.ma R.K (R.ca 6) "__eq__")) = true
  eq1_Rank_eq : PySem.W.notFirst R.K (R.ca 6) (.type "tuple") = true
  eq2_Rank_eq : PySem.W.notFirst R.K (R.ca 6) (.type "list") = true
  eq3_Rank_eq : ∀ c' n, R.has c' n = true → R.sl c' = true → PySem.W.notFirst R.K (R.ca 6) (.ref (R.ca c')) = true
  d_Rank_len : ∃ fd, FunD R.K "__len__" "Rank.__len__" (defArgs (sub 23 15)) (defBody (sub 23 15)) (defScope (sub 23 15)) [] [] (He.ma R.K (R.ca 6) "__len__") fd
  mt_Rank_len : PySem.W.findIn R.K (.ref (R.ca 6)) "__len__" = some (some (.ref (He.ma R.K (R.ca 6) "__len__")))
  mf_Rank_len : PySem.W.isFn R.K (.ref (He.ma R.K (R.ca 6) "__len__")) = true
  d_Rank_getitem : ∃ fd, FunD R.K "__getitem__" "Rank.__getitem__" (defArgs (sub 23 16)) (defBody (sub 23 16)) (defScope (sub 23 16)) [] [] (He.ma R.K (R.ca 6) "__getitem__") fd
  mt_Rank_getitem : PySem.W.findIn R.K (.ref (R.ca 6)) "__getitem__" = some (some (.ref (He.ma R.K (R.ca 6) "__getitem__")))
  mf_Rank_getitem : PySem.W.isFn R.K (.ref (He.ma R.K (R.ca 6) "__getitem__")) = true
  mn_Rank_getitem : PySem.W.fnIn R.K (He.ma R.K (R.ca 6) "__getitem__") = true
  d_check_same_worlds : ∃ fd, FunD R.K "check_same_worlds" "check_same_worlds" (defArgs (top 25)) (defBody (top 25)) (defScope (top 25)) [] [] (He.ga R.K "check_same_worlds") fd
  g_check_same_worlds : R.mg "check_same_worlds" = some (.ref (He.ga R.K "check_same_worlds"))
  d_products : ∃ fd, FunD R.K "products" "products" (defArgs (top 26)) (defBody (top 26)) (defScope (top 26)) [] [] (He.ga R.K "products") fd
  g_products : R.mg "products" = some (.ref (He.ga R.K "products"))
  d_two_cells : ∃ fd, FunD R.K "two_cells" "two_cells" (defArgs (top 27)) (defBody (top 27)) (defScope (top 27)) [] [] (He.ga R.K "two_cells") fd
  g_two_cells : R.mg "two_cells" = some (.ref (He.ga R.K "two_cells"))
  d_finer : ∃ fd, FunD R.K "finer" "finer" (defArgs (top 28)) (defBody (top 28)) (defScope (top 28)) [] [] (He.ga R.K "finer") fd
  g_finer : R.mg "finer" = some (.ref (He.ga R.K "finer"))
  d_led_by : ∃ fd, FunD R.K "led_by" "led_by" (defArgs (top 29)) (defBody (top 29)) (defScope (top 29)) [] [] (He.ga R.K "led_by") fd
  g_led_by : R.mg "led_by" = some (.ref (He.ga R.K "led_by"))
  d_lot_of_deed : ∃ fd, FunD R.K "lot_of_deed" "lot_of_deed" (defArgs (top 33)) (defBody (top 33)) (defScope (top 33)) [] [] (He.ga R.K "lot_of_deed") fd
  g_lot_of_deed : R.mg "lot_of_deed" = some (.ref (He.ga R.K "lot_of_deed"))
  d_led : ∃ fd, FunD R.K "led" "led" (defArgs (top 34)) (defBody (top 34)) (defScope (top 34)) [] [] (He.ga R.K "led") fd
  g_led : R.mg "led" = some (.ref (He.ga R.K "led"))
  d__law_draws : ∃ fd, FunD R.K "_law_draws" "_law_draws" (defArgs (top 36)) (defBody (top 36)) (defScope (top 36)) [] [] (He.ga R.K "_law_draws") fd
  g__law_draws : R.mg "_law_draws" = some (.ref (He.ga R.K "_law_draws"))
  d__law_take : ∃ fd, FunD R.K "_law_take" "_law_take" (defArgs (top 37)) (defBody (top 37)) (defScope (top 37)) [] [] (He.ga R.K "_law_take") fd
  g__law_take : R.mg "_law_take" = some (.ref (He.ga R.K "_law_take"))
  d__law_lot : ∃ fd, FunD R.K "_law_lot" "_law_lot" (defArgs (top 38)) (defBody (top 38)) (defScope (top 38)) [] [] (He.ga R.K "_law_lot") fd
  g__law_lot : R.mg "_law_lot" = some (.ref (He.ga R.K "_law_lot"))
  d__law_some : ∃ fd, FunD R.K "_law_some" "_law_some" (defArgs (top 39)) (defBody (top 39)) (defScope (top 39)) [] [] (He.ga R.K "_law_some") fd
  g__law_some : R.mg "_law_some" = some (.ref (He.ga R.K "_law_some"))
  d__law_rest : ∃ fd, FunD R.K "_law_rest" "_law_rest" (defArgs (top 40)) (defBody (top 40)) (defScope (top 40)) [] [] (He.ga R.K "_law_rest") fd
  g__law_rest : R.mg "_law_rest" = some (.ref (He.ga R.K "_law_rest"))
  d__law_plus : ∃ fd, FunD R.K "_law_plus" "_law_plus" (defArgs (top 41)) (defBody (top 41)) (defScope (top 41)) [] [] (He.ga R.K "_law_plus") fd
  g__law_plus : R.mg "_law_plus" = some (.ref (He.ga R.K "_law_plus"))
  d__law_inside : ∃ fd, FunD R.K "_law_inside" "_law_inside" (defArgs (top 42)) (defBody (top 42)) (defScope (top 42)) [] [] (He.ga R.K "_law_inside") fd
  g__law_inside : R.mg "_law_inside" = some (.ref (He.ga R.K "_law_inside"))
  d__law_dense : ∃ fd, FunD R.K "_law_dense" "_law_dense" (defArgs (top 43)) (defBody (top 43)) (defScope (top 43)) [] [] (He.ga R.K "_law_dense") fd
  g__law_dense : R.mg "_law_dense" = some (.ref (He.ga R.K "_law_dense"))
  d__law_rank : ∃ fd, FunD R.K "_law_rank" "_law_rank" (defArgs (top 44)) (defBody (top 44)) (defScope (top 44)) [] [] (He.ga R.K "_law_rank") fd
  g__law_rank : R.mg "_law_rank" = some (.ref (He.ga R.K "_law_rank"))
  d__law_cells : ∃ fd, FunD R.K "_law_cells" "_law_cells" (defArgs (top 45)) (defBody (top 45)) (defScope (top 45)) [] [] (He.ga R.K "_law_cells") fd
  g__law_cells : R.mg "_law_cells" = some (.ref (He.ga R.K "_law_cells"))
  d__law_best : ∃ fd, FunD R.K "_law_best" "_law_best" (defArgs (top 46)) (defBody (top 46)) (defScope (top 46)) [] [] (He.ga R.K "_law_best") fd
  g__law_best : R.mg "_law_best" = some (.ref (He.ga R.K "_law_best"))
  d__law_held : ∃ fd, FunD R.K "_law_held" "_law_held" (defArgs (top 47)) (defBody (top 47)) (defScope (top 47)) [] [] (He.ga R.K "_law_held") fd
  g__law_held : R.mg "_law_held" = some (.ref (He.ga R.K "_law_held"))
  d__law_product : ∃ fd, FunD R.K "_law_product" "_law_product" (defArgs (top 48)) (defBody (top 48)) (defScope (top 48)) [] [] (He.ga R.K "_law_product") fd
  g__law_product : R.mg "_law_product" = some (.ref (He.ga R.K "_law_product"))
  d__law_turn : ∃ fd, FunD R.K "_law_turn" "_law_turn" (defArgs (top 49)) (defBody (top 49)) (defScope (top 49)) [] [] (He.ga R.K "_law_turn") fd
  g__law_turn : R.mg "_law_turn" = some (.ref (He.ga R.K "_law_turn"))
  d__law_is_rank : ∃ fd, FunD R.K "_law_is_rank" "_law_is_rank" (defArgs (top 50)) (defBody (top 50)) (defScope (top 50)) [] [] (He.ga R.K "_law_is_rank") fd
  g__law_is_rank : R.mg "_law_is_rank" = some (.ref (He.ga R.K "_law_is_rank"))
  d__law_finer : ∃ fd, FunD R.K "_law_finer" "_law_finer" (defArgs (top 51)) (defBody (top 51)) (defScope (top 51)) [] [] (He.ga R.K "_law_finer") fd
  g__law_finer : R.mg "_law_finer" = some (.ref (He.ga R.K "_law_finer"))
  d__law_joined : ∃ fd, FunD R.K "_law_joined" "_law_joined" (defArgs (top 52)) (defBody (top 52)) (defScope (top 52)) [] [] (He.ga R.K "_law_joined") fd
  g__law_joined : R.mg "_law_joined" = some (.ref (He.ga R.K "_law_joined"))
  d__law_goal : ∃ fd, FunD R.K "_law_goal" "_law_goal" (defArgs (top 53)) (defBody (top 53)) (defScope (top 53)) [] [] (He.ga R.K "_law_goal") fd
  g__law_goal : R.mg "_law_goal" = some (.ref (He.ga R.K "_law_goal"))
  d__law_leads_right : ∃ fd, FunD R.K "_law_leads_right" "_law_leads_right" (defArgs (top 54)) (defBody (top 54)) (defScope (top 54)) [] [] (He.ga R.K "_law_leads_right") fd
  g__law_leads_right : R.mg "_law_leads_right" = some (.ref (He.ga R.K "_law_leads_right"))
  d__law_two : ∃ fd, FunD R.K "_law_two" "_law_two" (defArgs (top 55)) (defBody (top 55)) (defScope (top 55)) [] [] (He.ga R.K "_law_two") fd
  g__law_two : R.mg "_law_two" = some (.ref (He.ga R.K "_law_two"))
  d__law_twos_right : ∃ fd, FunD R.K "_law_twos_right" "_law_twos_right" (defArgs (top 56)) (defBody (top 56)) (defScope (top 56)) [] [] (He.ga R.K "_law_twos_right") fd
  g__law_twos_right : R.mg "_law_twos_right" = some (.ref (He.ga R.K "_law_twos_right"))
  d__law_led_right : ∃ fd, FunD R.K "_law_led_right" "_law_led_right" (defArgs (top 57)) (defBody (top 57)) (defScope (top 57)) [] [] (He.ga R.K "_law_led_right") fd
  g__law_led_right : R.mg "_law_led_right" = some (.ref (He.ga R.K "_law_led_right"))
  d__law_refused : ∃ fd, FunD R.K "_law_refused" "_law_refused" (defArgs (top 58)) (defBody (top 58)) (defScope (top 58)) [] [] (He.ga R.K "_law_refused") fd
  g__law_refused : R.mg "_law_refused" = some (.ref (He.ga R.K "_law_refused"))
theorem scx_BadNumber : FnScope ["self", "name"] ["self", "name"] (defScope (sub 3 0)) := ⟨rfl, rfl, rfl, by decide +kernel, rfl, by decide +kernel, by decide +kernel⟩
theorem Hb.ex_BadNumber {R : Rc} (hh : Hb R) : ExI R 1 0 1 := by
  obtain ⟨fd, F⟩ := hh.xd_BadNumber
  have hb := F.bindsN (ps := ["self", "name"]) (fun _ _ _ _ _ _ us hl => match us, hl with | [_, _], _ => rfl)
  obtain ⟨oc, od, dV, kV, doc, pm, an, cdv, ct, osl, rfl, lk, hcd, _, _⟩ := F.ex
  exact ⟨"name", _, _, ["self", "name"], hh.xa_BadNumber, hh.xk_BadNumber, hh.xi_BadNumber, hh.xt_BadNumber, exi_ok (k := 0) hh.xk_BadNumber hh.xn_BadNumber lk hcd scx_BadNumber (by decide +kernel) (by decide +kernel) (by decide +kernel) (by decide +kernel) (by decide +kernel) (by decide +kernel), hb⟩
theorem scx_BadLot : FnScope ["self", "place"] ["self", "place"] (defScope (sub 4 0)) := ⟨rfl, rfl, rfl, by decide +kernel, rfl, by decide +kernel, by decide +kernel⟩
theorem Hb.ex_BadLot {R : Rc} (hh : Hb R) : ExI R 2 1 1 := by
  obtain ⟨fd, F⟩ := hh.xd_BadLot
  have hb := F.bindsN (ps := ["self", "place"]) (fun _ _ _ _ _ _ us hl => match us, hl with | [_, _], _ => rfl)
  obtain ⟨oc, od, dV, kV, doc, pm, an, cdv, ct, osl, rfl, lk, hcd, _, _⟩ := F.ex
  exact ⟨"place", _, _, ["self", "place"], hh.xa_BadLot, hh.xk_BadLot, hh.xi_BadLot, hh.xt_BadLot, exi_ok (k := 0) hh.xk_BadLot hh.xn_BadLot lk hcd scx_BadLot (by decide +kernel) (by decide +kernel) (by decide +kernel) (by decide +kernel) (by decide +kernel) (by decide +kernel), hb⟩
theorem scx_BadRank : FnScope ["self", "place"] ["self", "place"] (defScope (sub 5 0)) := ⟨rfl, rfl, rfl, by decide +kernel, rfl, by decide +kernel, by decide +kernel⟩
theorem Hb.ex_BadRank {R : Rc} (hh : Hb R) : ExI R 3 1 1 := by
  obtain ⟨fd, F⟩ := hh.xd_BadRank
  have hb := F.bindsN (ps := ["self", "place"]) (fun _ _ _ _ _ _ us hl => match us, hl with | [_, _], _ => rfl)
  obtain ⟨oc, od, dV, kV, doc, pm, an, cdv, ct, osl, rfl, lk, hcd, _, _⟩ := F.ex
  exact ⟨"place", _, _, ["self", "place"], hh.xa_BadRank, hh.xk_BadRank, hh.xi_BadRank, hh.xt_BadRank, exi_ok (k := 0) hh.xk_BadRank hh.xn_BadRank lk hcd scx_BadRank (by decide +kernel) (by decide +kernel) (by decide +kernel) (by decide +kernel) (by decide +kernel) (by decide +kernel), hb⟩
theorem scx_BadWord : FnScope ["self", "word"] ["self", "word"] (defScope (sub 6 0)) := ⟨rfl, rfl, rfl, by decide +kernel, rfl, by decide +kernel, by decide +kernel⟩
theorem Hb.ex_BadWord {R : Rc} (hh : Hb R) : ExI R 4 5 1 := by
  obtain ⟨fd, F⟩ := hh.xd_BadWord
  have hb := F.bindsN (ps := ["self", "word"]) (fun _ _ _ _ _ _ us hl => match us, hl with | [_, _], _ => rfl)
  obtain ⟨oc, od, dV, kV, doc, pm, an, cdv, ct, osl, rfl, lk, hcd, _, _⟩ := F.ex
  exact ⟨"word", _, _, ["self", "word"], hh.xa_BadWord, hh.xk_BadWord, hh.xi_BadWord, hh.xt_BadWord, exi_ok (k := 0) hh.xk_BadWord hh.xn_BadWord lk hcd scx_BadWord (by decide +kernel) (by decide +kernel) (by decide +kernel) (by decide +kernel) (by decide +kernel) (by decide +kernel), hb⟩
theorem scx_OtherWorlds : FnScope ["self", "worlds"] ["self", "worlds"] (defScope (sub 7 0)) := ⟨rfl, rfl, rfl, by decide +kernel, rfl, by decide +kernel, by decide +kernel⟩
theorem Hb.ex_OtherWorlds {R : Rc} (hh : Hb R) : ExI R 5 2 1 := by
  obtain ⟨fd, F⟩ := hh.xd_OtherWorlds
  have hb := F.bindsN (ps := ["self", "worlds"]) (fun _ _ _ _ _ _ us hl => match us, hl with | [_, _], _ => rfl)
  obtain ⟨oc, od, dV, kV, doc, pm, an, cdv, ct, osl, rfl, lk, hcd, _, _⟩ := F.ex
  exact ⟨"worlds", _, _, ["self", "worlds"], hh.xa_OtherWorlds, hh.xk_OtherWorlds, hh.xi_OtherWorlds, hh.xt_OtherWorlds, exi_ok (k := 0) hh.xk_OtherWorlds hh.xn_OtherWorlds lk hcd scx_OtherWorlds (by decide +kernel) (by decide +kernel) (by decide +kernel) (by decide +kernel) (by decide +kernel) (by decide +kernel), hb⟩
theorem sc_Rank_iter : FnScope ["self"] ["self"] (defScope (sub 23 17)) := ⟨rfl, rfl, rfl, by decide +kernel, rfl, by decide +kernel, by decide +kernel⟩
theorem Hb.tabIter {R : Rc} (hh : Hb R) : ∀ c n, tabIter.lookup c = some n → ItI R c n 0 := fun c n h => by
  obtain ⟨rfl, rfl⟩ := one_at h
  obtain ⟨fd, F⟩ := hh.d_Rank_iter
  exact ⟨hh.sl _, _, fd, _, _, _, _, _, ["self"], ["self"], hh.mt_Rank_iter, hh.mf_Rank_iter, F, sc_Rank_iter, rfl, F.bindsN (fun _ _ _ _ _ _ us hl => match us, hl with | [_], _ => rfl), fun X W C => pss_one (ps_ret (m_iter C hh.bl (by decide +kernel) (by decide +kernel) (m_att C hh.at_cells (m_v C rfl (by decide +kernel) (by decide +kernel) (by decide +kernel)))))⟩
theorem sc_whole_number : FnScope ["value"] ["value"] (defScope (top 9)) := ⟨rfl, rfl, rfl, by decide +kernel, rfl, by decide +kernel, by decide +kernel⟩
theorem b_whole_number {R : Rc} (hh : Hb R) : BodyOk R ["value"] (defScope (top 9)) 0 (defBody (top 9)) (fun _ => []) (sRet (mAnd (mIsa [.int] (mP 0)) (mNot (tV (mIsa [.bool] (mP 0)))))) := fun X E v C S hp hk =>
  have bl := hh.bl
  (s_one (s_ret (m_and (m_isa C bl hh.ins (t := .int) trivial (by decide +kernel) (m_p C rfl (by decide +kernel) (by decide +kernel) (by decide +kernel)) (pe_tyN C bl (by simp) (by decide +kernel) (by decide +kernel) (by decide) (by decide +kernel)) (by decide +kernel)) (m_and1 (m_not (p_e (m_isa C bl hh.ins (t := .bool) trivial (by decide +kernel) (m_p C rfl (by decide +kernel) (by decide +kernel) (by decide +kernel)) (pe_tyN C bl (by simp) (by decide +kernel) (by decide +kernel) (by decide) (by decide +kernel)) (by decide +kernel))))))))
theorem Hb.k_whole_number {R : Rc} (hh : Hb R) : PySem.W.keepIn R.K (.ref (He.ga R.K "whole_number")) = true := let ⟨_, F⟩ := hh.d_whole_number; F.kp
theorem Hb.c_whole_number {R : Rc} (hh : Hb R) : Cal R (.ref (He.ga R.K "whole_number")) 1 f_whole_number := by
  obtain ⟨fd, F⟩ := hh.d_whole_number
  exact (FnI.raw0 (fn_okD F sc_whole_number rfl rfl hh.txo (b_whole_number hh)) (F.bindsN (fun _ _ _ _ _ _ us hl => match us, hl with | [_], _ => rfl))).cal
theorem sc_is_row : FnScope ["value"] ["value"] (defScope (top 10)) := ⟨rfl, rfl, rfl, by decide +kernel, rfl, by decide +kernel, by decide +kernel⟩
theorem b_is_row {R : Rc} (hh : Hb R) : BodyOk R ["value"] (defScope (top 10)) 0 (defBody (top 10)) (fun _ => []) (sRet (mIsa [.list, .tuple] (mP 0))) := fun X E v C S hp hk =>
  have bl := hh.bl
  (s_one (s_ret (m_isa2 C bl (t1 := .list) (t2 := .tuple) trivial trivial (by decide +kernel) (m_p C rfl (by decide +kernel) (by decide +kernel) (by decide +kernel)) (pe_tyN C bl (by simp) (by decide +kernel) (by decide +kernel) (by decide) (by decide +kernel)) (pe_tyN C bl (by simp) (by decide +kernel) (by decide +kernel) (by decide) (by decide +kernel)) (by decide +kernel))))
theorem Hb.k_is_row {R : Rc} (hh : Hb R) : PySem.W.keepIn R.K (.ref (He.ga R.K "is_row")) = true := let ⟨_, F⟩ := hh.d_is_row; F.kp
theorem Hb.c_is_row {R : Rc} (hh : Hb R) : Cal R (.ref (He.ga R.K "is_row")) 1 f_is_row := by
  obtain ⟨fd, F⟩ := hh.d_is_row
  exact (FnI.raw0 (fn_okD F sc_is_row rfl rfl hh.txo (b_is_row hh)) (F.bindsN (fun _ _ _ _ _ _ us hl => match us, hl with | [_], _ => rfl))).cal
theorem sc_check_worlds : FnScope ["worlds"] ["worlds"] (defScope (top 11)) := ⟨rfl, rfl, rfl, by decide +kernel, rfl, by decide +kernel, by decide +kernel⟩
theorem b_check_worlds {R : Rc} (hh : Hb R) : BodyOk R ["worlds"] (defScope (top 11)) 2 (defBody (top 11)) (fun _ => []) (sIf (tOr (tNot (tV (mCall f_whole_number (mCons (mV 0) mNil)))) (tOr (tV (mCmp .lt (hP 0) (hE (mK (.int 1))))) (tV (mCmp .gt (hP 0) (hE (mK (.int 12))))))) (sRai 1 0 (mK (.str 0))) sNil) := fun X E v C S hp hk =>
  have bl := hh.bl
  (s_one (s_if (w_pt (w_or (t_not (t_v (p_e (m_call C hh.c_whole_number hh.g_whole_number hh.k_whole_number (by omega) (by decide +kernel) (a_cons (m_v C rfl (by decide +kernel) (by decide +kernel) (by decide +kernel)) a_nil) (by decide +kernel))) (fun _ => rfl))) (w_or (t_cmp C (o := .lt) rfl (h_p C rfl (by decide +kernel) (by decide +kernel) (by decide +kernel)) (h_e m_int) (nomark _)) (w_or1 (t_cmp C (o := .gt) rfl (h_p C rfl (by decide +kernel) (by decide +kernel) (by decide +kernel)) (h_e m_int) (nomark _)))))) (s_one (s_rai C (hh.ex_BadNumber) (by omega) (hh.g_BadNumber) (by decide +kernel) (m_str (hh.tx 0 rfl)) (by decide +kernel))) s_nil))
theorem Hb.k_check_worlds {R : Rc} (hh : Hb R) : PySem.W.keepIn R.K (.ref (He.ga R.K "check_worlds")) = true := let ⟨_, F⟩ := hh.d_check_worlds; F.kp
theorem Hb.c_check_worlds {R : Rc} (hh : Hb R) : Cal R (.ref (He.ga R.K "check_worlds")) 3 f_check_worlds := by
  obtain ⟨fd, F⟩ := hh.d_check_worlds
  exact (FnI.raw0 (fn_okD F sc_check_worlds rfl rfl hh.txo (b_check_worlds hh)) (F.bindsN (fun _ _ _ _ _ _ us hl => match us, hl with | [_], _ => rfl))).cal
theorem sc_is_world : FnScope ["value", "worlds"] ["value", "worlds"] (defScope (top 12)) := ⟨rfl, rfl, rfl, by decide +kernel, rfl, by decide +kernel, by decide +kernel⟩
theorem b_is_world {R : Rc} (hh : Hb R) : BodyOk R ["value", "worlds"] (defScope (top 12)) 1 (defBody (top 12)) (fun _ => []) (sRet (mAnd (mCall f_whole_number (mCons (mV 0) mNil)) (mChn .le .lt (mK (.int 0)) (mV 0) (mV 1)))) := fun X E v C S hp hk =>
  have bl := hh.bl
  (s_one (s_ret (m_and (m_call C hh.c_whole_number hh.g_whole_number hh.k_whole_number (by omega) (by decide +kernel) (a_cons (m_v C rfl (by decide +kernel) (by decide +kernel) (by decide +kernel)) a_nil) (by decide +kernel)) (m_and1 (m_chn C (o := .le) (o2 := .lt) rfl rfl m_int (m_v C rfl (by decide +kernel) (by decide +kernel) (by decide +kernel)) (m_v C rfl (by decide +kernel) (by decide +kernel) (by decide +kernel)))))))
theorem Hb.k_is_world {R : Rc} (hh : Hb R) : PySem.W.keepIn R.K (.ref (He.ga R.K "is_world")) = true := let ⟨_, F⟩ := hh.d_is_world; F.kp
theorem Hb.c_is_world {R : Rc} (hh : Hb R) : Cal R (.ref (He.ga R.K "is_world")) 2 f_is_world := by
  obtain ⟨fd, F⟩ := hh.d_is_world
  exact (FnI.raw0 (fn_okD F sc_is_world rfl rfl hh.txo (b_is_world hh)) (F.bindsN (fun _ _ _ _ _ _ us hl => match us, hl with | [_, _], _ => rfl))).cal
theorem sc_first_stranger : FnScope ["row", "worlds", "seen", "place", "value"] ["row", "worlds"] (defScope (top 13)) := ⟨rfl, rfl, rfl, by decide +kernel, rfl, by decide +kernel, by decide +kernel⟩
theorem b_first_stranger {R : Rc} (hh : Hb R) : BodyOk R ["row", "worlds", "seen", "place", "value"] (defScope (top 13)) 2 (defBody (top 13)) (fun _ => []) (sSeq (sOwn 2 (mLst mNil)) (sSeq (sFor (.t [(.n 3), (.n 4)]) (wEnum (hE (mV 0))) (sSeq (sIf (tOr (tNot (tV (mCall f_is_world (mCons (mV 4) (mCons (mV 1) mNil))))) (tV (mCmp .mem (hP 4) (hP 2)))) (sRet (mV 3)) sNil) (sApp 2 (mV 4)))) (sRet (mK .non)))) := fun X E v C S hp hk =>
  have bl := hh.bl
  (s_cons (s_own C S rfl (by decide +kernel) Zo.nil (f_lst a_nil)) (s_cons (s_for C hp (n_enum _) (fun _ _ => Zo.nil) (w_enum C bl (by decide +kernel) (h_e (m_v C rfl (by decide +kernel) (by decide +kernel) (by decide +kernel)))) (g_t C (g_cons (g_n C S rfl (by decide +kernel)) (g_cons (g_n C S rfl (by decide +kernel)) g_nil))) (s_cons (s_if (w_pt (w_or (t_not (t_v (p_e (m_call C hh.c_is_world hh.g_is_world hh.k_is_world (by omega) (by decide +kernel) (a_cons (m_v C rfl (by decide +kernel) (by decide +kernel) (by decide +kernel)) (a_cons (m_v C rfl (by decide +kernel) (by decide +kernel) (by decide +kernel)) a_nil)) (by decide +kernel))) (fun _ => rfl))) (w_or1 (t_cmp C (o := .mem) rfl (h_p C rfl (by decide +kernel) (by decide +kernel) (by decide +kernel)) (h_p C rfl (by decide +kernel) (by decide +kernel) (by decide +kernel)) (by with_unfolding_all rfl))))) (s_one (s_ret (m_v C rfl (by decide +kernel) (by decide +kernel) (by decide +kernel)))) s_nil) (s_one (s_app C rfl (by decide +kernel) (by decide +kernel) (by decide +kernel) (m_v C rfl (by decide +kernel) (by decide +kernel) (by decide +kernel)))))) (s_one (s_ret m_non))))
theorem Hb.k_first_stranger {R : Rc} (hh : Hb R) : PySem.W.keepIn R.K (.ref (He.ga R.K "first_stranger")) = true := let ⟨_, F⟩ := hh.d_first_stranger; F.kp
theorem Hb.c_first_stranger {R : Rc} (hh : Hb R) : Cal R (.ref (He.ga R.K "first_stranger")) 3 f_first_stranger := by
  obtain ⟨fd, F⟩ := hh.d_first_stranger
  exact (FnI.raw0 (fn_okD F sc_first_stranger rfl rfl hh.txo (b_first_stranger hh)) (F.bindsN (fun _ _ _ _ _ _ us hl => match us, hl with | [_, _], _ => rfl))).cal
theorem sc_lot_of : FnScope ["lot", "worlds", "empty", "place"] ["lot", "worlds", "empty"] (defScope (top 14)) := ⟨rfl, rfl, rfl, by decide +kernel, rfl, by decide +kernel, by decide +kernel⟩
theorem b_lot_of {R : Rc} (hh : Hb R) : BodyOk R ["lot", "worlds", "empty", "place"] (defScope (top 14)) 3 (defBody (top 14)) (fun _ => []) (sSeq (sExp (mCall f_check_worlds (mCons (mV 1) mNil))) (sSeq (sIf (tNot (tV (mCall f_is_row (mCons (mV 0) mNil)))) (sRai 2 1 (mNeg (mK (.int 1)))) sNil) (sSeq (sSet 3 (mCall f_first_stranger (mCons (mV 0) (mCons (mV 1) mNil)))) (sSeq (sIf (tV (mIsN true (mP 3))) (sRai 2 1 (mV 3)) sNil) (sSeq (sIf (tAnd (tNot (tV (mP 0))) (tNot (tV (mP 2)))) (sRai 2 1 (mNeg (mK (.int 1)))) sNil) (sRet (mBi .tuple (mBi .sorted (mP 0))))))))) := fun X E v C S hp hk =>
  have bl := hh.bl
  (s_cons (s_exp (m_call C hh.c_check_worlds hh.g_check_worlds hh.k_check_worlds (by omega) (by decide +kernel) (a_cons (m_v C rfl (by decide +kernel) (by decide +kernel) (by decide +kernel)) a_nil) (by decide +kernel))) (s_cons (s_if (t_not (t_v (p_e (m_call C hh.c_is_row hh.g_is_row hh.k_is_row (by omega) (by decide +kernel) (a_cons (m_v C rfl (by decide +kernel) (by decide +kernel) (by decide +kernel)) a_nil) (by decide +kernel))) (fun _ => rfl))) (s_one (s_rai C (hh.ex_BadLot) (by omega) (hh.g_BadLot) (by decide +kernel) (m_neg m_int) (by decide +kernel))) s_nil) (s_cons (s_set C S rfl (by decide +kernel) Zo.nil (m_call C hh.c_first_stranger hh.g_first_stranger hh.k_first_stranger (by omega) (by decide +kernel) (a_cons (m_v C rfl (by decide +kernel) (by decide +kernel) (by decide +kernel)) (a_cons (m_v C rfl (by decide +kernel) (by decide +kernel) (by decide +kernel)) a_nil)) (by decide +kernel))) (s_cons (s_if (t_isN true rfl (m_p C rfl (by decide +kernel) (by decide +kernel) (by decide +kernel))) (s_one (s_rai C (hh.ex_BadLot) (by omega) (hh.g_BadLot) (by decide +kernel) (m_v C rfl (by decide +kernel) (by decide +kernel) (by decide +kernel)) (by decide +kernel))) s_nil) (s_cons (s_if (w_pt (w_and (t_not (t_v (m_p C rfl (by decide +kernel) (by decide +kernel) (by decide +kernel)) (fun _ => rfl))) (w_and1 (t_not (t_v (m_p C rfl (by decide +kernel) (by decide +kernel) (by decide +kernel)) (fun _ => rfl)))))) (s_one (s_rai C (hh.ex_BadLot) (by omega) (hh.g_BadLot) (by decide +kernel) (m_neg m_int) (by decide +kernel))) s_nil) (s_one (s_ret (m_biT C bl (call_tupleD C.calm) (by simp) (by decide +kernel) (by decide +kernel) (p_e (m_biB C bl srt_D (by simp) (by decide +kernel) (by decide +kernel) (m_p C rfl (by decide +kernel) (by decide +kernel) (by decide +kernel)) (by decide) (by decide +kernel))) (by decide) (by decide +kernel)))))))))
theorem Hb.k_lot_of {R : Rc} (hh : Hb R) : PySem.W.keepIn R.K (.ref (He.ga R.K "lot_of")) = true := let ⟨_, F⟩ := hh.d_lot_of; F.kp
theorem Hb.cd_lot_of {R : Rc} (hh : Hb R) : Cal R (.ref (He.ga R.K "lot_of")) 4 (dflt f_lot_of [.bl true]) := by
  obtain ⟨fd, F⟩ := hh.d_lot_of
  obtain ⟨ds, hd, hb⟩ := F.binds0 (ps := ["lot", "worlds", "empty"]) 2 (by decide) rfl (fun _ _ _ _ _ _ us ks l1 l2 => match us, ks, l1, l2 with | [_, _], [_], _, _ => ⟨_, _, _, _, _, _, rfl, rfl, rfl⟩)
  exact (FnI.rawD (fn_okD F sc_lot_of rfl rfl hh.txo (b_lot_of hh)) hb hd (fun B H => IsL.cons (by unfold Is; rfl) (IsL.nil))).cal
theorem Hb.ck_lot_of {R : Rc} (hh : Hb R) : CalK R (He.ga R.K "lot_of") 2 ["empty"] 4 f_lot_of := by
  obtain ⟨fd, F⟩ := hh.d_lot_of
  exact calK_of F (fn_okD F sc_lot_of rfl rfl hh.txo (b_lot_of hh)) 2 (fun _ _ _ _ _ _ us ws l1 l2 => match us, ws, l1, l2 with | [_, _], [_], _, _ => rfl)
theorem sc_every : FnScope ["worlds"] ["worlds"] (defScope (top 15)) := ⟨rfl, rfl, rfl, by decide +kernel, rfl, by decide +kernel, by decide +kernel⟩
theorem b_every {R : Rc} (hh : Hb R) : BodyOk R ["worlds"] (defScope (top 15)) 3 (defBody (top 15)) (fun _ => []) (sSeq (sExp (mCall f_check_worlds (mCons (mV 0) mNil))) (sRet (mBi .tuple (mBi .range (mP 0))))) := fun X E v C S hp hk =>
  have bl := hh.bl
  (s_cons (s_exp (m_call C hh.c_check_worlds hh.g_check_worlds hh.k_check_worlds (by omega) (by decide +kernel) (a_cons (m_v C rfl (by decide +kernel) (by decide +kernel) (by decide +kernel)) a_nil) (by decide +kernel))) (s_one (s_ret (m_biT C bl (call_tupleD C.calm) (by simp) (by decide +kernel) (by decide +kernel) (p_e (m_biT C bl call_rangeD (by simp) (by decide +kernel) (by decide +kernel) (m_p C rfl (by decide +kernel) (by decide +kernel) (by decide +kernel)) (by decide) (by decide +kernel))) (by decide) (by decide +kernel)))))
theorem Hb.k_every {R : Rc} (hh : Hb R) : PySem.W.keepIn R.K (.ref (He.ga R.K "every")) = true := let ⟨_, F⟩ := hh.d_every; F.kp
theorem Hb.c_every {R : Rc} (hh : Hb R) : Cal R (.ref (He.ga R.K "every")) 4 f_every := by
  obtain ⟨fd, F⟩ := hh.d_every
  exact (FnI.raw0 (fn_okD F sc_every rfl rfl hh.txo (b_every hh)) (F.bindsN (fun _ _ _ _ _ _ us hl => match us, hl with | [_], _ => rfl))).cal
theorem sc_rest_of : FnScope ["lot", "worlds", "told", "x"] ["lot", "worlds"] (defScope (top 16)) := ⟨rfl, rfl, rfl, by decide +kernel, rfl, by decide +kernel, by decide +kernel⟩
theorem b_rest_of {R : Rc} (hh : Hb R) : BodyOk R ["lot", "worlds", "told", "x"] (defScope (top 16)) 4 (defBody (top 16)) (fun _ => []) (sSeq (sSet 2 (mCall (dflt f_lot_of [.bl true]) (mCons (mV 0) (mCons (mV 1) mNil)))) (sRet (mBi .tuple (mComp [3] (.n 3) (wR1 (mV 1)) (tV (mCmp .nmem (hP 3) (hP 2))) (mV 3))))) := fun X E v C S hp hk =>
  have bl := hh.bl
  (s_cons (s_set C S rfl (by decide +kernel) Zo.nil (m_call C hh.cd_lot_of hh.g_lot_of hh.k_lot_of (by omega) (by decide +kernel) (a_cons (m_v C rfl (by decide +kernel) (by decide +kernel) (by decide +kernel)) (a_cons (m_v C rfl (by decide +kernel) (by decide +kernel) (by decide +kernel)) a_nil)) (by decide +kernel))) (s_one (s_ret (m_biT C bl (call_tupleD C.calm) (by simp) (by decide +kernel) (by decide +kernel) (p_e (m_comp C (own := [("x", 3)]) (w_r1 C bl (by decide +kernel) (m_v C rfl (by decide +kernel) (by decide +kernel) (by decide +kernel))) (by decide +kernel) rfl (fun X' C' S' => (g_n C' S' rfl (by decide +kernel))) (fun X' C' S' => (if_one (t_cmp C' (o := .nmem) rfl (h_p C' rfl (by decide +kernel) (by decide +kernel) (by decide +kernel)) (h_p C' rfl (by decide +kernel) (by decide +kernel) (by decide +kernel)) (by with_unfolding_all rfl)))) (fun X' C' S' => (m_v C' rfl (by decide +kernel) (by decide +kernel) (by decide +kernel))) (by decide))) (by decide) (by decide +kernel)))))
theorem Hb.k_rest_of {R : Rc} (hh : Hb R) : PySem.W.keepIn R.K (.ref (He.ga R.K "rest_of")) = true := let ⟨_, F⟩ := hh.d_rest_of; F.kp
theorem Hb.c_rest_of {R : Rc} (hh : Hb R) : Cal R (.ref (He.ga R.K "rest_of")) 5 f_rest_of := by
  obtain ⟨fd, F⟩ := hh.d_rest_of
  exact (FnI.raw0 (fn_okD F sc_rest_of rfl rfl hh.txo (b_rest_of hh)) (F.bindsN (fun _ _ _ _ _ _ us hl => match us, hl with | [_, _], _ => rfl))).cal
theorem sc_plus : FnScope ["one", "other"] ["one", "other"] (defScope (top 17)) := ⟨rfl, rfl, rfl, by decide +kernel, rfl, by decide +kernel, by decide +kernel⟩
theorem b_plus {R : Rc} (hh : Hb R) : BodyOk R ["one", "other"] (defScope (top 17)) 0 (defBody (top 17)) (fun _ => []) (sRet (mBi .tuple (mPlu (mP 0) (mP 1)))) := fun X E v C S hp hk =>
  have bl := hh.bl
  (s_one (s_ret (m_biT C bl (call_tupleD C.calm) (by simp) (by decide +kernel) (by decide +kernel) (p_e (m_plu C bl (by decide +kernel) (by decide +kernel) (m_p C rfl (by decide +kernel) (by decide +kernel) (by decide +kernel)) (m_p C rfl (by decide +kernel) (by decide +kernel) (by decide +kernel)) (by decide +kernel) (by decide +kernel))) (by decide) (by decide +kernel))))
theorem Hb.k_plus {R : Rc} (hh : Hb R) : PySem.W.keepIn R.K (.ref (He.ga R.K "plus")) = true := let ⟨_, F⟩ := hh.d_plus; F.kp
theorem Hb.c_plus {R : Rc} (hh : Hb R) : Cal R (.ref (He.ga R.K "plus")) 1 f_plus := by
  obtain ⟨fd, F⟩ := hh.d_plus
  exact (FnI.raw0 (fn_okD F sc_plus rfl rfl hh.txo (b_plus hh)) (F.bindsN (fun _ _ _ _ _ _ us hl => match us, hl with | [_, _], _ => rfl))).cal
theorem sc_common : FnScope ["one", "other", "x"] ["one", "other"] (defScope (top 18)) := ⟨rfl, rfl, rfl, by decide +kernel, rfl, by decide +kernel, by decide +kernel⟩
theorem b_common {R : Rc} (hh : Hb R) : BodyOk R ["one", "other", "x"] (defScope (top 18)) 0 (defBody (top 18)) (fun _ => []) (sRet (mBi .tuple (mComp [2] (.n 2) (wOne (hE (mBi .sorted (mP 0)))) (tV (mCmp .mem (hP 2) (hP 1))) (mV 2)))) := fun X E v C S hp hk =>
  have bl := hh.bl
  (s_one (s_ret (m_biT C bl (call_tupleD C.calm) (by simp) (by decide +kernel) (by decide +kernel) (p_e (m_comp C (own := [("x", 2)]) (w_one (h_e (m_biB C bl srt_D (by simp) (by decide +kernel) (by decide +kernel) (m_p C rfl (by decide +kernel) (by decide +kernel) (by decide +kernel)) (by decide) (by decide +kernel)))) (by decide +kernel) rfl (fun X' C' S' => (g_n C' S' rfl (by decide +kernel))) (fun X' C' S' => (if_one (t_cmp C' (o := .mem) rfl (h_p C' rfl (by decide +kernel) (by decide +kernel) (by decide +kernel)) (h_p C' rfl (by decide +kernel) (by decide +kernel) (by decide +kernel)) (by with_unfolding_all rfl)))) (fun X' C' S' => (m_v C' rfl (by decide +kernel) (by decide +kernel) (by decide +kernel))) (by decide))) (by decide) (by decide +kernel))))
theorem Hb.k_common {R : Rc} (hh : Hb R) : PySem.W.keepIn R.K (.ref (He.ga R.K "common")) = true := let ⟨_, F⟩ := hh.d_common; F.kp
theorem Hb.c_common {R : Rc} (hh : Hb R) : Cal R (.ref (He.ga R.K "common")) 1 f_common := by
  obtain ⟨fd, F⟩ := hh.d_common
  exact (FnI.raw0 (fn_okD F sc_common rfl rfl hh.txo (b_common hh)) (F.bindsN (fun _ _ _ _ _ _ us hl => match us, hl with | [_, _], _ => rfl))).cal
theorem sc_minus : FnScope ["one", "other", "x"] ["one", "other"] (defScope (top 19)) := ⟨rfl, rfl, rfl, by decide +kernel, rfl, by decide +kernel, by decide +kernel⟩
theorem b_minus {R : Rc} (hh : Hb R) : BodyOk R ["one", "other", "x"] (defScope (top 19)) 0 (defBody (top 19)) (fun _ => []) (sRet (mBi .tuple (mComp [2] (.n 2) (wOne (hE (mBi .sorted (mP 0)))) (tV (mCmp .nmem (hP 2) (hP 1))) (mV 2)))) := fun X E v C S hp hk =>
  have bl := hh.bl
  (s_one (s_ret (m_biT C bl (call_tupleD C.calm) (by simp) (by decide +kernel) (by decide +kernel) (p_e (m_comp C (own := [("x", 2)]) (w_one (h_e (m_biB C bl srt_D (by simp) (by decide +kernel) (by decide +kernel) (m_p C rfl (by decide +kernel) (by decide +kernel) (by decide +kernel)) (by decide) (by decide +kernel)))) (by decide +kernel) rfl (fun X' C' S' => (g_n C' S' rfl (by decide +kernel))) (fun X' C' S' => (if_one (t_cmp C' (o := .nmem) rfl (h_p C' rfl (by decide +kernel) (by decide +kernel) (by decide +kernel)) (h_p C' rfl (by decide +kernel) (by decide +kernel) (by decide +kernel)) (by with_unfolding_all rfl)))) (fun X' C' S' => (m_v C' rfl (by decide +kernel) (by decide +kernel) (by decide +kernel))) (by decide))) (by decide) (by decide +kernel))))
theorem Hb.k_minus {R : Rc} (hh : Hb R) : PySem.W.keepIn R.K (.ref (He.ga R.K "minus")) = true := let ⟨_, F⟩ := hh.d_minus; F.kp
theorem Hb.c_minus {R : Rc} (hh : Hb R) : Cal R (.ref (He.ga R.K "minus")) 1 f_minus := by
  obtain ⟨fd, F⟩ := hh.d_minus
  exact (FnI.raw0 (fn_okD F sc_minus rfl rfl hh.txo (b_minus hh)) (F.bindsN (fun _ _ _ _ _ _ us hl => match us, hl with | [_, _], _ => rfl))).cal
theorem sc_cells_told : FnScope ["cells", "seen", "place", "cell", "x"] ["cells"] (defScope (top 21)) := ⟨rfl, rfl, rfl, by decide +kernel, rfl, by decide +kernel, by decide +kernel⟩
theorem b_cells_told {R : Rc} (hh : Hb R) : BodyOk R ["cells", "seen", "place", "cell", "x"] (defScope (top 21)) 2 (defBody (top 21)) (fun _ => []) (sSeq (sIf (tOr (tNot (tV (mCall f_is_row (mCons (mV 0) mNil)))) (tNot (tV (mP 0)))) (sRai 3 1 (mNeg (mK (.int 1)))) sNil) (sSeq (sOwn 1 (mLst mNil)) (sSeq (sFor (.t [(.n 2), (.n 3)]) (wEnum (hE (mV 0))) (sSeq (sIf (tOr (tNot (tV (mCall f_is_row (mCons (mV 3) mNil)))) (tNot (tV (mP 3)))) (sRai 3 1 (mV 2)) sNil) (sFor (.n 4) (wOne (hE (mV 3))) (sSeq (sIf (tOr (tNot (tV (mCall f_is_world (mCons (mV 4) (mCons (mK (.int 12)) mNil))))) (tV (mCmp .mem (hP 4) (hP 1)))) (sRai 3 1 (mV 2)) sNil) (sApp 1 (mV 4)))))) (sSeq (sIf (tV (mCmp .ne (hE (mBi .sorted (mP 1))) (hE (mBi .list (mBi .range (mBi .len (mP 1))))))) (sRai 3 1 (mBi .len (mP 0))) sNil) (sRet (mBi .tuple (mComp [3] (.n 3) (wOne (hE (mV 0))) tYes (mBi .tuple (mBi .sorted (mP 3)))))))))) := fun X E v C S hp hk =>
  have bl := hh.bl
  (s_cons (s_if (w_pt (w_or (t_not (t_v (p_e (m_call C hh.c_is_row hh.g_is_row hh.k_is_row (by omega) (by decide +kernel) (a_cons (m_v C rfl (by decide +kernel) (by decide +kernel) (by decide +kernel)) a_nil) (by decide +kernel))) (fun _ => rfl))) (w_or1 (t_not (t_v (m_p C rfl (by decide +kernel) (by decide +kernel) (by decide +kernel)) (fun _ => rfl)))))) (s_one (s_rai C (hh.ex_BadRank) (by omega) (hh.g_BadRank) (by decide +kernel) (m_neg m_int) (by decide +kernel))) s_nil) (s_cons (s_own C S rfl (by decide +kernel) Zo.nil (f_lst a_nil)) (s_cons (s_for C hp (n_enum _) (fun _ _ => Zo.nil) (w_enum C bl (by decide +kernel) (h_e (m_v C rfl (by decide +kernel) (by decide +kernel) (by decide +kernel)))) (g_t C (g_cons (g_n C S rfl (by decide +kernel)) (g_cons (g_n C S rfl (by decide +kernel)) g_nil))) (s_cons (s_if (w_pt (w_or (t_not (t_v (p_e (m_call C hh.c_is_row hh.g_is_row hh.k_is_row (by omega) (by decide +kernel) (a_cons (m_v C rfl (by decide +kernel) (by decide +kernel) (by decide +kernel)) a_nil) (by decide +kernel))) (fun _ => rfl))) (w_or1 (t_not (t_v (m_p C rfl (by decide +kernel) (by decide +kernel) (by decide +kernel)) (fun _ => rfl)))))) (s_one (s_rai C (hh.ex_BadRank) (by omega) (hh.g_BadRank) (by decide +kernel) (m_v C rfl (by decide +kernel) (by decide +kernel) (by decide +kernel)) (by decide +kernel))) s_nil) (s_one (s_for C hp (n_one _) (fun _ _ => Zo.nil) (w_one (h_e (m_v C rfl (by decide +kernel) (by decide +kernel) (by decide +kernel)))) (g_n C S rfl (by decide +kernel)) (s_cons (s_if (w_pt (w_or (t_not (t_v (p_e (m_call C hh.c_is_world hh.g_is_world hh.k_is_world (by omega) (by decide +kernel) (a_cons (m_v C rfl (by decide +kernel) (by decide +kernel) (by decide +kernel)) (a_cons m_int a_nil)) (by decide +kernel))) (fun _ => rfl))) (w_or1 (t_cmp C (o := .mem) rfl (h_p C rfl (by decide +kernel) (by decide +kernel) (by decide +kernel)) (h_p C rfl (by decide +kernel) (by decide +kernel) (by decide +kernel)) (by with_unfolding_all rfl))))) (s_one (s_rai C (hh.ex_BadRank) (by omega) (hh.g_BadRank) (by decide +kernel) (m_v C rfl (by decide +kernel) (by decide +kernel) (by decide +kernel)) (by decide +kernel))) s_nil) (s_one (s_app C rfl (by decide +kernel) (by decide +kernel) (by decide +kernel) (m_v C rfl (by decide +kernel) (by decide +kernel) (by decide +kernel))))))))) (s_cons (s_if (t_cmp C (o := .ne) rfl (h_e (m_biB C bl srt_D (by simp) (by decide +kernel) (by decide +kernel) (m_p C rfl (by decide +kernel) (by decide +kernel) (by decide +kernel)) (by decide) (by decide +kernel))) (h_e (m_biT C bl (call_listD C.calm) (by simp) (by decide +kernel) (by decide +kernel) (p_e (m_biT C bl call_rangeD (by simp) (by decide +kernel) (by decide +kernel) (p_e (m_biB C bl (call_lenD C.K.symm) (by simp) (by decide +kernel) (by decide +kernel) (m_p C rfl (by decide +kernel) (by decide +kernel) (by decide +kernel)) (by decide) (by decide +kernel))) (by decide) (by decide +kernel))) (by decide) (by decide +kernel))) (nomark _)) (s_one (s_rai C (hh.ex_BadRank) (by omega) (hh.g_BadRank) (by decide +kernel) (m_biB C bl (call_lenD C.K.symm) (by simp) (by decide +kernel) (by decide +kernel) (m_p C rfl (by decide +kernel) (by decide +kernel) (by decide +kernel)) (by decide) (by decide +kernel)) (by decide +kernel))) s_nil) (s_one (s_ret (m_biT C bl (call_tupleD C.calm) (by simp) (by decide +kernel) (by decide +kernel) (p_e (m_comp C (own := [("cell", 3)]) (w_one (h_e (m_v C rfl (by decide +kernel) (by decide +kernel) (by decide +kernel)))) (by decide +kernel) rfl (fun X' C' S' => (g_n C' S' rfl (by decide +kernel))) (fun X' C' S' => if_no) (fun X' C' S' => (m_biT C' bl (call_tupleD C'.calm) (by simp) (by decide +kernel) (by decide +kernel) (p_e (m_biB C' bl srt_D (by simp) (by decide +kernel) (by decide +kernel) (m_p C' rfl (by decide +kernel) (by decide +kernel) (by decide +kernel)) (by decide) (by decide +kernel))) (by decide) (by decide +kernel))) (by decide))) (by decide) (by decide +kernel))))))))
theorem Hb.k_cells_told {R : Rc} (hh : Hb R) : PySem.W.keepIn R.K (.ref (He.ga R.K "cells_told")) = true := let ⟨_, F⟩ := hh.d_cells_told; F.kp
theorem Hb.c_cells_told {R : Rc} (hh : Hb R) : Cal R (.ref (He.ga R.K "cells_told")) 3 f_cells_told := by
  obtain ⟨fd, F⟩ := hh.d_cells_told
  exact (FnI.raw0 (fn_okD F sc_cells_told rfl rfl hh.txo (b_cells_told hh)) (F.bindsN (fun _ _ _ _ _ _ us hl => match us, hl with | [_], _ => rfl))).cal
theorem sc_cells_by : FnScope ["marks", "found", "mark", "x", "other"] ["marks"] (defScope (top 22)) := ⟨rfl, rfl, rfl, by decide +kernel, rfl, by decide +kernel, by decide +kernel⟩
theorem b_cells_by {R : Rc} (hh : Hb R) : BodyOk R ["marks", "found", "mark", "x", "other"] (defScope (top 22)) 0 (defBody (top 22)) (fun _ => []) (sSeq (sOwn 1 (mLst mNil)) (sSeq (sFor (.n 2) (wOne (hE (mBi .sset (mP 0)))) (sApp 1 (mBi .tuple (mComp [3, 4] (.t [(.n 3), (.n 4)]) (wEnum (hE (mV 0))) (tV (mCmp .eq (hP 4) (hP 2))) (mV 3))))) (sRet (mBi .tuple (mP 1))))) := fun X E v C S hp hk =>
  have bl := hh.bl
  (s_cons (s_own C S rfl (by decide +kernel) Zo.nil (f_lst a_nil)) (s_cons (s_for C hp (n_one _) (fun _ _ => Zo.nil) (w_one (h_e (m_sset C bl (by decide +kernel) (by decide +kernel) (m_p C rfl (by decide +kernel) (by decide +kernel) (by decide +kernel)) (by decide +kernel) (by decide +kernel)))) (g_n C S rfl (by decide +kernel)) (s_one (s_app C rfl (by decide +kernel) (by decide +kernel) (by decide +kernel) (m_biT C bl (call_tupleD C.calm) (by simp) (by decide +kernel) (by decide +kernel) (p_e (m_comp C (own := [("x", 3), ("other", 4)]) (w_enum C bl (by decide +kernel) (h_e (m_v C rfl (by decide +kernel) (by decide +kernel) (by decide +kernel)))) (by decide +kernel) rfl (fun X' C' S' => (g_t C' (g_cons (g_n C' S' rfl (by decide +kernel)) (g_cons (g_n C' S' rfl (by decide +kernel)) g_nil)))) (fun X' C' S' => (if_one (t_cmp C' (o := .eq) rfl (h_p C' rfl (by decide +kernel) (by decide +kernel) (by decide +kernel)) (h_p C' rfl (by decide +kernel) (by decide +kernel) (by decide +kernel)) (nomark _)))) (fun X' C' S' => (m_v C' rfl (by decide +kernel) (by decide +kernel) (by decide +kernel))) (by decide))) (by decide) (by decide +kernel))))) (s_one (s_ret (m_biT C bl (call_tupleD C.calm) (by simp) (by decide +kernel) (by decide +kernel) (m_p C rfl (by decide +kernel) (by decide +kernel) (by decide +kernel)) (by decide) (by decide +kernel))))))
theorem Hb.k_cells_by {R : Rc} (hh : Hb R) : PySem.W.keepIn R.K (.ref (He.ga R.K "cells_by")) = true := let ⟨_, F⟩ := hh.d_cells_by; F.kp
theorem Hb.c_cells_by {R : Rc} (hh : Hb R) : Cal R (.ref (He.ga R.K "cells_by")) 1 f_cells_by := by
  obtain ⟨fd, F⟩ := hh.d_cells_by
  exact (FnI.raw0 (fn_okD F sc_cells_by rfl rfl hh.txo (b_cells_by hh)) (F.bindsN (fun _ _ _ _ _ _ us hl => match us, hl with | [_], _ => rfl))).cal
theorem sc_Rank_init : FnScope ["self", "cells", "told", "numbers", "cell", "k", "x"] ["self", "cells"] (defScope (sub 23 1)) := ⟨rfl, rfl, rfl, by decide +kernel, rfl, by decide +kernel, by decide +kernel⟩
theorem b_Rank_init {R : Rc} (hh : Hb R) : BodyOk R ["self", "cells", "told", "numbers", "cell", "k", "x"] (defScope (sub 23 1)) 3 (defBody (sub 23 1)) (fun v => [(0, v)]) (sSeq (sSet 2 (mCall f_cells_told (mCons (mV 1) mNil))) (sSeq (sSet 3 (mBi .range (mBi .sum (mComp [4] (.n 4) (wOne (hE (mV 2))) tYes (mBi .len (mP 4)))))) (sSeq (sAtt 0 6 2 (mBi .len (mP 3))) (sSeq (sAtt 0 6 3 (mV 2)) (sAtt 0 6 4 (mBi .tuple (mComp [6] (.n 6) (wOne (hE (mV 3))) tYes (mSub (hE (mComp [4, 5] (.t [(.n 5), (.n 4)]) (wEnum (hE (mV 2))) (tV (mCmp .mem (hP 6) (hP 4))) (mV 5))) (mK (.int 0)))))))))) := fun X E v C S hp hk =>
  have bl := hh.bl
  (s_cons (s_set C S rfl (by decide +kernel) (Zo.cons (by decide) Zo.nil) (m_call C hh.c_cells_told hh.g_cells_told hh.k_cells_told (by omega) (by decide +kernel) (a_cons (m_v C rfl (by decide +kernel) (by decide +kernel) (by decide +kernel)) a_nil) (by decide +kernel))) (s_cons (s_set C S rfl (by decide +kernel) (Zo.cons (by decide) Zo.nil) (m_biT C bl call_rangeD (by simp) (by decide +kernel) (by decide +kernel) (p_e (m_biB C bl (call_sumD C.calm) (by simp) (by decide +kernel) (by decide +kernel) (p_e (m_comp C (own := [("cell", 4)]) (w_one (h_e (m_v C rfl (by decide +kernel) (by decide +kernel) (by decide +kernel)))) (by decide +kernel) rfl (fun X' C' S' => (g_n C' S' rfl (by decide +kernel))) (fun X' C' S' => if_no) (fun X' C' S' => (m_biB C' bl (call_lenD C'.K.symm) (by simp) (by decide +kernel) (by decide +kernel) (m_p C' rfl (by decide +kernel) (by decide +kernel) (by decide +kernel)) (by decide) (by decide +kernel))) (by decide))) (by decide) (by decide +kernel))) (by decide) (by decide +kernel))) (s_cons (s_att C hh.six (hh.at_worlds) (hh.has _ _ rfl) rfl (by decide +kernel) (by decide +kernel) (by decide +kernel) (m_biB C bl (call_lenD C.K.symm) (by simp) (by decide +kernel) (by decide +kernel) (m_p C rfl (by decide +kernel) (by decide +kernel) (by decide +kernel)) (by decide) (by decide +kernel))) (s_cons (s_att C hh.six (hh.at_cells) (hh.has _ _ rfl) rfl (by decide +kernel) (by decide +kernel) (by decide +kernel) (m_v C rfl (by decide +kernel) (by decide +kernel) (by decide +kernel))) (s_one (s_att C hh.six (hh.at_levels) (hh.has _ _ rfl) rfl (by decide +kernel) (by decide +kernel) (by decide +kernel) (m_biT C bl (call_tupleD C.calm) (by simp) (by decide +kernel) (by decide +kernel) (p_e (m_comp C (own := [("x", 6)]) (w_one (h_e (m_v C rfl (by decide +kernel) (by decide +kernel) (by decide +kernel)))) (by decide +kernel) rfl (fun X' C' S' => (g_n C' S' rfl (by decide +kernel))) (fun X' C' S' => if_no) (fun X' C' S' => (m_sub C' (h_e (m_comp C' (own := [("cell", 4), ("k", 5)]) (w_enum C' bl (by decide +kernel) (h_e (m_v C' rfl (by decide +kernel) (by decide +kernel) (by decide +kernel)))) (by decide +kernel) rfl (fun X'' C'' S'' => (g_t C'' (g_cons (g_n C'' S'' rfl (by decide +kernel)) (g_cons (g_n C'' S'' rfl (by decide +kernel)) g_nil)))) (fun X'' C'' S'' => (if_one (t_cmp C'' (o := .mem) rfl (h_p C'' rfl (by decide +kernel) (by decide +kernel) (by decide +kernel)) (h_p C'' rfl (by decide +kernel) (by decide +kernel) (by decide +kernel)) (by with_unfolding_all rfl)))) (fun X'' C'' S'' => (m_v C'' rfl (by decide +kernel) (by decide +kernel) (by decide +kernel))) (by decide))) m_int (fun _ _ => rfl))) (by decide))) (by decide) (by decide +kernel))))))))
theorem Hb.c_Rank {R : Rc} (hh : Hb R) : Cal R (.ref (R.ca 6)) 5 f_Rank_init := by
  obtain ⟨fd, F⟩ := hh.d_Rank_init
  exact InI.cal hh.mk_Rank (InI.raw0 (ini_okD (hh.sl 6) F sc_Rank_init rfl rfl hh.txo (b_Rank_init hh)) (F.bindsN (fun _ _ _ _ _ _ us hl => match us, hl with | [_, _], _ => rfl)))
theorem Hb.k_Rank {R : Rc} (hh : Hb R) : PySem.W.keepIn R.K (.ref (R.ca 6)) = true := hh.mk_Rank.kp
theorem Hb.tabC {R : Rc} (hh : Hb R) : TabC R 5 tabC := fun c G h => by
  obtain ⟨rfl, rfl⟩ := one_at h
  exact ⟨hh.c_Rank, hh.k_Rank⟩
theorem sc_Rank_flat : FnScope ["cls", "worlds"] ["cls", "worlds"] (defScope (sub 23 2)) := ⟨rfl, rfl, rfl, by decide +kernel, rfl, by decide +kernel, by decide +kernel⟩
theorem b_Rank_flat {R : Rc} (hh : Hb R) : BodyOk R ["cls", "worlds"] (defScope (sub 23 2)) 5 (defBody (sub 23 2)) (fun _ => []) (sRet (mMkV tabC 0 (mCons (mTup (mCons (mCall f_every (mCons (mV 1) mNil)) mNil)) mNil))) := fun X E v C S hp hk =>
  have bl := hh.bl
  (s_one (s_ret (m_mkv C hh.tabC (by omega) rfl (by decide +kernel) (by decide +kernel) (by decide +kernel) (a_cons (m_tup (a_cons (m_call C hh.c_every hh.g_every hh.k_every (by omega) (by decide +kernel) (a_cons (m_v C rfl (by decide +kernel) (by decide +kernel) (by decide +kernel)) a_nil) (by decide +kernel)) a_nil)) a_nil))))
theorem Hb.c_Rank_flat {R : Rc} (hh : Hb R) : Cal R (.ref (cmF R.K (He.ma R.K (R.ca 6) "flat"))) 6 f_Rank_flat := by
  obtain ⟨fd, F⟩ := hh.d_Rank_flat
  exact (FnI.raw0 (fn_okD F sc_Rank_flat rfl rfl hh.txo (b_Rank_flat hh)) (F.bindsN (fun _ _ _ _ _ _ us hl => match us, hl with | [_, _], _ => rfl))).cal
theorem Hb.m_Rank_flat {R : Rc} (hh : Hb R) : CmI R "flat" 6 6 f_Rank_flat := let ⟨mc, p, h1, h2⟩ := hh.cm_Rank_flat; ⟨mc, p, _, h1, h2, hh.c_Rank_flat⟩
theorem sc_Rank_of_levels : FnScope ["cls", "numbers", "number"] ["cls", "numbers"] (defScope (sub 23 4)) := ⟨rfl, rfl, rfl, by decide +kernel, rfl, by decide +kernel, by decide +kernel⟩
theorem b_Rank_of_levels {R : Rc} (hh : Hb R) : BodyOk R ["cls", "numbers", "number"] (defScope (sub 23 4)) 5 (defBody (sub 23 4)) (fun _ => []) (sSeq (sIf (tOr (tNot (tV (mCall f_is_row (mCons (mV 1) mNil)))) (tNot (tV (mChn .le .le (mK (.int 1)) (mBi .len (mP 1)) (mK (.int 12)))))) (sRai 1 0 (mK (.str 1))) sNil) (sSeq (sIf (tNot (tV (mBi .all (mComp [2] (.n 2) (wOne (hE (mV 1))) tYes (mCall f_whole_number (mCons (mV 2) mNil)))))) (sRai 1 0 (mK (.str 1))) sNil) (sRet (mMkV tabC 0 (mCons (mCall f_cells_by (mCons (mV 1) mNil)) mNil))))) := fun X E v C S hp hk =>
  have bl := hh.bl
  (s_cons (s_if (w_pt (w_or (t_not (t_v (p_e (m_call C hh.c_is_row hh.g_is_row hh.k_is_row (by omega) (by decide +kernel) (a_cons (m_v C rfl (by decide +kernel) (by decide +kernel) (by decide +kernel)) a_nil) (by decide +kernel))) (fun _ => rfl))) (w_or1 (t_not (t_chn C (o := .le) (o2 := .le) rfl rfl m_int (m_biB C bl (call_lenD C.K.symm) (by simp) (by decide +kernel) (by decide +kernel) (m_p C rfl (by decide +kernel) (by decide +kernel) (by decide +kernel)) (by decide) (by decide +kernel)) m_int))))) (s_one (s_rai C (hh.ex_BadNumber) (by omega) (hh.g_BadNumber) (by decide +kernel) (m_str (hh.tx 1 rfl)) (by decide +kernel))) s_nil) (s_cons (s_if (t_not (t_v (p_e (m_biB C bl (call_allD C.calm) (by simp) (by decide +kernel) (by decide +kernel) (p_e (m_comp C (own := [("number", 2)]) (w_one (h_e (m_v C rfl (by decide +kernel) (by decide +kernel) (by decide +kernel)))) (by decide +kernel) rfl (fun X' C' S' => (g_n C' S' rfl (by decide +kernel))) (fun X' C' S' => if_no) (fun X' C' S' => (m_call C' hh.c_whole_number hh.g_whole_number hh.k_whole_number (by omega) (by decide +kernel) (a_cons (m_v C' rfl (by decide +kernel) (by decide +kernel) (by decide +kernel)) a_nil) (by decide +kernel))) (by decide))) (by decide) (by decide +kernel))) (fun _ => rfl))) (s_one (s_rai C (hh.ex_BadNumber) (by omega) (hh.g_BadNumber) (by decide +kernel) (m_str (hh.tx 1 rfl)) (by decide +kernel))) s_nil) (s_one (s_ret (m_mkv C hh.tabC (by omega) rfl (by decide +kernel) (by decide +kernel) (by decide +kernel) (a_cons (m_call C hh.c_cells_by hh.g_cells_by hh.k_cells_by (by omega) (by decide +kernel) (a_cons (m_v C rfl (by decide +kernel) (by decide +kernel) (by decide +kernel)) a_nil) (by decide +kernel)) a_nil))))))
theorem Hb.c_Rank_of_levels {R : Rc} (hh : Hb R) : Cal R (.ref (cmF R.K (He.ma R.K (R.ca 6) "of_levels"))) 6 f_Rank_of_levels := by
  obtain ⟨fd, F⟩ := hh.d_Rank_of_levels
  exact (FnI.raw0 (fn_okD F sc_Rank_of_levels rfl rfl hh.txo (b_Rank_of_levels hh)) (F.bindsN (fun _ _ _ _ _ _ us hl => match us, hl with | [_, _], _ => rfl))).cal
theorem Hb.m_Rank_of_levels {R : Rc} (hh : Hb R) : CmI R "of_levels" 6 6 f_Rank_of_levels := let ⟨mc, p, h1, h2⟩ := hh.cm_Rank_of_levels; ⟨mc, p, _, h1, h2, hh.c_Rank_of_levels⟩
theorem sc_Rank_two : FnScope ["cls", "lot", "worlds", "told", "rest"] ["cls", "lot", "worlds"] (defScope (sub 23 5)) := ⟨rfl, rfl, rfl, by decide +kernel, rfl, by decide +kernel, by decide +kernel⟩
theorem b_Rank_two {R : Rc} (hh : Hb R) : BodyOk R ["cls", "lot", "worlds", "told", "rest"] (defScope (sub 23 5)) 5 (defBody (sub 23 5)) (fun _ => []) (sSeq (sExp (mCall f_check_worlds (mCons (mV 2) mNil))) (sSeq (sSet 3 (mCallK 2 1 f_lot_of (mCons (mV 1) (mCons (mV 2) mNil)) (mCons (mK (.bl false)) mNil))) (sSeq (sSet 4 (mCall f_rest_of (mCons (mV 3) (mCons (mV 2) mNil)))) (sRet (mMkV tabC 0 (mCons (mIf (tV (mP 4)) (mTup (mCons (mV 3) (mCons (mV 4) mNil))) (mTup (mCons (mV 3) mNil))) mNil)))))) := fun X E v C S hp hk =>
  have bl := hh.bl
  (s_cons (s_exp (m_call C hh.c_check_worlds hh.g_check_worlds hh.k_check_worlds (by omega) (by decide +kernel) (a_cons (m_v C rfl (by decide +kernel) (by decide +kernel) (by decide +kernel)) a_nil) (by decide +kernel))) (s_cons (s_set C S rfl (by decide +kernel) Zo.nil (m_callK C hh.ck_lot_of rfl hh.g_lot_of hh.k_lot_of (by omega) (by decide +kernel) (a_cons (m_v C rfl (by decide +kernel) (by decide +kernel) (by decide +kernel)) (a_cons (m_v C rfl (by decide +kernel) (by decide +kernel) (by decide +kernel)) a_nil)) (k_cons m_bl k_nil) (by decide +kernel))) (s_cons (s_set C S rfl (by decide +kernel) Zo.nil (m_call C hh.c_rest_of hh.g_rest_of hh.k_rest_of (by omega) (by decide +kernel) (a_cons (m_v C rfl (by decide +kernel) (by decide +kernel) (by decide +kernel)) (a_cons (m_v C rfl (by decide +kernel) (by decide +kernel) (by decide +kernel)) a_nil)) (by decide +kernel))) (s_one (s_ret (m_mkv C hh.tabC (by omega) rfl (by decide +kernel) (by decide +kernel) (by decide +kernel) (a_cons (m_if (t_v (m_p C rfl (by decide +kernel) (by decide +kernel) (by decide +kernel)) (fun _ => rfl)) (m_tup (a_cons (m_v C rfl (by decide +kernel) (by decide +kernel) (by decide +kernel)) (a_cons (m_v C rfl (by decide +kernel) (by decide +kernel) (by decide +kernel)) a_nil))) (m_tup (a_cons (m_v C rfl (by decide +kernel) (by decide +kernel) (by decide +kernel)) a_nil))) a_nil)))))))
theorem Hb.c_Rank_two {R : Rc} (hh : Hb R) : Cal R (.ref (cmF R.K (He.ma R.K (R.ca 6) "two"))) 6 f_Rank_two := by
  obtain ⟨fd, F⟩ := hh.d_Rank_two
  exact (FnI.raw0 (fn_okD F sc_Rank_two rfl rfl hh.txo (b_Rank_two hh)) (F.bindsN (fun _ _ _ _ _ _ us hl => match us, hl with | [_, _, _], _ => rfl))).cal
theorem Hb.m_Rank_two {R : Rc} (hh : Hb R) : CmI R "two" 6 6 f_Rank_two := let ⟨mc, p, h1, h2⟩ := hh.cm_Rank_two; ⟨mc, p, _, h1, h2, hh.c_Rank_two⟩
theorem sc_Rank_beginnings : FnScope ["self", "found", "begun", "cell"] ["self"] (defScope (sub 23 12)) := ⟨rfl, rfl, rfl, by decide +kernel, rfl, by decide +kernel, by decide +kernel⟩
theorem b_Rank_beginnings {R : Rc} (hh : Hb R) : BodyOk R ["self", "found", "begun", "cell"] (defScope (sub 23 12)) 1 (defBody (sub 23 12)) (fun _ => []) (sSeq (sOwn 1 (mLst mNil)) (sSeq (sSet 2 (mTup mNil)) (sSeq (sFor (.n 3) (wOne (hE (mAtt 3 (mV 0)))) (sSeq (sSet 2 (mCall f_plus (mCons (mV 2) (mCons (mV 3) mNil)))) (sApp 1 (mV 2)))) (sRet (mBi .tuple (mP 1)))))) := fun X E v C S hp hk =>
  have bl := hh.bl
  (s_cons (s_own C S rfl (by decide +kernel) Zo.nil (f_lst a_nil)) (s_cons (s_set C S rfl (by decide +kernel) Zo.nil (m_tup a_nil)) (s_cons (s_for C hp (n_one _) (fun _ _ => Zo.nil) (w_one (h_e (m_att C hh.at_cells (m_v C rfl (by decide +kernel) (by decide +kernel) (by decide +kernel))))) (g_n C S rfl (by decide +kernel)) (s_cons (s_set C S rfl (by decide +kernel) Zo.nil (m_call C hh.c_plus hh.g_plus hh.k_plus (by omega) (by decide +kernel) (a_cons (m_v C rfl (by decide +kernel) (by decide +kernel) (by decide +kernel)) (a_cons (m_v C rfl (by decide +kernel) (by decide +kernel) (by decide +kernel)) a_nil)) (by decide +kernel))) (s_one (s_app C rfl (by decide +kernel) (by decide +kernel) (by decide +kernel) (m_v C rfl (by decide +kernel) (by decide +kernel) (by decide +kernel)))))) (s_one (s_ret (m_biT C bl (call_tupleD C.calm) (by simp) (by decide +kernel) (by decide +kernel) (m_p C rfl (by decide +kernel) (by decide +kernel) (by decide +kernel)) (by decide) (by decide +kernel)))))))
theorem Hb.c_Rank_beginnings {R : Rc} (hh : Hb R) : Cal R (.ref (He.ma R.K (R.ca 6) "beginnings")) 2 f_Rank_beginnings := by
  obtain ⟨fd, F⟩ := hh.d_Rank_beginnings
  exact (FnI.raw0 (fn_okD F sc_Rank_beginnings rfl rfl hh.txo (b_Rank_beginnings hh)) (F.bindsN (fun _ _ _ _ _ _ us hl => match us, hl with | [_], _ => rfl))).cal
theorem Hb.tabM_beginnings {R : Rc} (hh : Hb R) : TabM R "beginnings" 2 tabM_beginnings := fun c G h => by
  obtain ⟨rfl, rfl⟩ := one_at h
  exact ⟨hh.sl _, hh.sc_Rank, _, hh.mt_Rank_beginnings, hh.c_Rank_beginnings⟩
theorem sc_Rank_mul : FnScope ["self", "other", "x", "level"] ["self", "other"] (defScope (sub 23 13)) := ⟨rfl, rfl, rfl, by decide +kernel, rfl, by decide +kernel, by decide +kernel⟩
theorem b_Rank_mul {R : Rc} (hh : Hb R) : BodyOk R ["self", "other", "x", "level"] (defScope (sub 23 13)) 5 (defBody (sub 23 13)) (fun _ => []) (sSeq (sIf (tNot (tV (mIsa [(.cls 6)] (mP 1)))) sNev sNil) (sSeq (sIf (tV (mCmp .ne (hE (mAtt 2 (mV 1))) (hE (mAtt 2 (mV 0))))) (sRai 5 2 (mAtt 2 (mV 1))) sNil) (sRet (mCall f_Rank_init (mCons (mCall f_cells_by (mCons (mComp [2, 3] (.t [(.n 2), (.n 3)]) (wEnum (hE (mAtt 4 (mV 0)))) tYes (mTup (mCons (mV 3) (mCons (mSub (hE (mAtt 4 (mV 1))) (mV 2)) mNil)))) mNil)) mNil))))) := fun X E v C S hp hk =>
  have bl := hh.bl
  (s_cons (s_if (t_not (t_v (p_e (m_isa C bl hh.ins (t := (.cls 6)) hh.is_Rank (by decide +kernel) (m_p C rfl (by decide +kernel) (by decide +kernel) (by decide +kernel)) (pe_clN C hh.g_Rank (by decide +kernel) (by decide +kernel)) (by decide +kernel))) (fun _ => rfl))) (s_one s_nev) s_nil) (s_cons (s_if (t_cmp C (o := .ne) rfl (h_e (m_att C hh.at_worlds (m_v C rfl (by decide +kernel) (by decide +kernel) (by decide +kernel)))) (h_e (m_att C hh.at_worlds (m_v C rfl (by decide +kernel) (by decide +kernel) (by decide +kernel)))) (nomark _)) (s_one (s_rai C (hh.ex_OtherWorlds) (by omega) (hh.g_OtherWorlds) (by decide +kernel) (m_att C hh.at_worlds (m_v C rfl (by decide +kernel) (by decide +kernel) (by decide +kernel))) (by decide +kernel))) s_nil) (s_one (s_ret (m_call C hh.c_Rank hh.g_Rank hh.k_Rank (by omega) (by decide +kernel) (a_cons (m_call C hh.c_cells_by hh.g_cells_by hh.k_cells_by (by omega) (by decide +kernel) (a_cons (m_comp C (own := [("x", 2), ("level", 3)]) (w_enum C bl (by decide +kernel) (h_e (m_att C hh.at_levels (m_v C rfl (by decide +kernel) (by decide +kernel) (by decide +kernel))))) (by decide +kernel) rfl (fun X' C' S' => (g_t C' (g_cons (g_n C' S' rfl (by decide +kernel)) (g_cons (g_n C' S' rfl (by decide +kernel)) g_nil)))) (fun X' C' S' => if_no) (fun X' C' S' => (m_tup (a_cons (m_v C' rfl (by decide +kernel) (by decide +kernel) (by decide +kernel)) (a_cons (m_sub C' (h_e (m_att C' hh.at_levels (m_v C' rfl (by decide +kernel) (by decide +kernel) (by decide +kernel)))) (m_v C' rfl (by decide +kernel) (by decide +kernel) (by decide +kernel)) (fun _ _ => rfl)) a_nil)))) (by decide)) a_nil) (by decide +kernel)) a_nil) (by decide +kernel))))))
theorem Hb.c_Rank_mul {R : Rc} (hh : Hb R) : Cal R (.ref (He.ma R.K (R.ca 6) "__mul__")) 6 f_Rank_mul := by
  obtain ⟨fd, F⟩ := hh.d_Rank_mul
  exact (FnI.raw0 (fn_okD F sc_Rank_mul rfl rfl hh.txo (b_Rank_mul hh)) (F.bindsN (fun _ _ _ _ _ _ us hl => match us, hl with | [_, _], _ => rfl))).cal
theorem Hb.tabMul {R : Rc} (hh : Hb R) : TabU R 6 tabMul := fun c G h => by
  obtain ⟨rfl, rfl⟩ := one_at h
  exact ⟨hh.sl _, hh.mu_Rank_mul, _, hh.mt_Rank_mul, hh.mf_Rank_mul, hh.c_Rank_mul⟩
theorem sc_Rank_eq : FnScope ["self", "other"] ["self", "other"] (defScope (sub 23 14)) := ⟨rfl, rfl, rfl, by decide +kernel, rfl, by decide +kernel, by decide +kernel⟩
theorem b_Rank_eq {R : Rc} (hh : Hb R) : BodyOk R ["self", "other"] (defScope (sub 23 14)) 0 (defBody (sub 23 14)) (fun _ => []) (sRet (mAnd (mIsa [(.cls 6)] (mP 1)) (mCmp .eq (hE (mAtt 3 (mV 0))) (hE (mAtt 3 (mV 1)))))) := fun X E v C S hp hk =>
  have bl := hh.bl
  (s_one (s_ret (m_and (m_isa C bl hh.ins (t := (.cls 6)) hh.is_Rank (by decide +kernel) (m_p C rfl (by decide +kernel) (by decide +kernel) (by decide +kernel)) (pe_clN C hh.g_Rank (by decide +kernel) (by decide +kernel)) (by decide +kernel)) (m_and1 (m_cmp C (o := .eq) rfl (h_e (m_att C hh.at_cells (m_v C rfl (by decide +kernel) (by decide +kernel) (by decide +kernel)))) (h_e (m_att C hh.at_cells (m_v C rfl (by decide +kernel) (by decide +kernel) (by decide +kernel)))) (nomark _))))))
theorem Hb.c_Rank_eq {R : Rc} (hh : Hb R) : Cal R (.ref (He.ma R.K (R.ca 6) "__eq__")) 1 f_Rank_eq := by
  obtain ⟨fd, F⟩ := hh.d_Rank_eq
  exact (FnI.raw0 (fn_okD F sc_Rank_eq rfl rfl hh.txo (b_Rank_eq hh)) (F.bindsN (fun _ _ _ _ _ _ us hl => match us, hl with | [_, _], _ => rfl))).cal
theorem Hb.tabEq {R : Rc} (hh : Hb R) : TabE R 1 tabEq := fun c G h => by
  obtain ⟨rfl, rfl⟩ := one_at h
  exact ⟨hh.sl _, hh.eq1_Rank_eq, hh.eq2_Rank_eq, hh.eq3_Rank_eq, _, hh.mt_Rank_eq, hh.mf_Rank_eq, hh.c_Rank_eq⟩
theorem sc_Rank_len : FnScope ["self"] ["self"] (defScope (sub 23 15)) := ⟨rfl, rfl, rfl, by decide +kernel, rfl, by decide +kernel, by decide +kernel⟩
theorem b_Rank_len {R : Rc} (hh : Hb R) : BodyOk R ["self"] (defScope (sub 23 15)) 0 (defBody (sub 23 15)) (fun _ => []) (sRet (mBi .len (mAtt 3 (mV 0)))) := fun X E v C S hp hk =>
  have bl := hh.bl
  (s_one (s_ret (m_biB C bl (call_lenD C.K.symm) (by simp) (by decide +kernel) (by decide +kernel) (p_e (m_att C hh.at_cells (m_v C rfl (by decide +kernel) (by decide +kernel) (by decide +kernel)))) (by decide) (by decide +kernel))))
theorem Hb.c_Rank_len {R : Rc} (hh : Hb R) : Cal R (.ref (He.ma R.K (R.ca 6) "__len__")) 1 f_Rank_len := by
  obtain ⟨fd, F⟩ := hh.d_Rank_len
  exact (FnI.raw0 (fn_okD F sc_Rank_len rfl rfl hh.txo (b_Rank_len hh)) (F.bindsN (fun _ _ _ _ _ _ us hl => match us, hl with | [_], _ => rfl))).cal
theorem Hb.f_Rank_len {R : Rc} (hh : Hb R) : FnI R (He.ma R.K (R.ca 6) "__len__") 1 f_Rank_len := by
  obtain ⟨fd, F⟩ := hh.d_Rank_len
  exact FnI.raw0 (fn_okD F sc_Rank_len rfl rfl hh.txo (b_Rank_len hh)) (F.bindsN (fun _ _ _ _ _ _ us hl => match us, hl with | [_], _ => rfl))
theorem Hb.tabLen {R : Rc} (hh : Hb R) : TabL R 1 tabLen := fun c G h => by
  obtain ⟨rfl, rfl⟩ := one_at h
  exact ⟨hh.sl _, _, hh.mt_Rank_len, hh.mf_Rank_len, hh.f_Rank_len⟩
theorem sc_Rank_getitem : FnScope ["self", "at"] ["self", "at"] (defScope (sub 23 16)) := ⟨rfl, rfl, rfl, by decide +kernel, rfl, by decide +kernel, by decide +kernel⟩
theorem b_Rank_getitem {R : Rc} (hh : Hb R) : BodyOk R ["self", "at"] (defScope (sub 23 16)) 2 (defBody (sub 23 16)) (fun _ => []) (sSeq (sIf (tNot (tV (mCall f_is_world (mCons (mV 1) (mCons (mBi .len (mAtt 3 (mV 0))) mNil))))) (sRai 1 0 (mK (.str 2))) sNil) (sRet (mSub (hE (mAtt 3 (mV 0))) (mV 1)))) := fun X E v C S hp hk =>
  have bl := hh.bl
  (s_cons (s_if (t_not (t_v (p_e (m_call C hh.c_is_world hh.g_is_world hh.k_is_world (by omega) (by decide +kernel) (a_cons (m_v C rfl (by decide +kernel) (by decide +kernel) (by decide +kernel)) (a_cons (m_biB C bl (call_lenD C.K.symm) (by simp) (by decide +kernel) (by decide +kernel) (p_e (m_att C hh.at_cells (m_v C rfl (by decide +kernel) (by decide +kernel) (by decide +kernel)))) (by decide) (by decide +kernel)) a_nil)) (by decide +kernel))) (fun _ => rfl))) (s_one (s_rai C (hh.ex_BadNumber) (by omega) (hh.g_BadNumber) (by decide +kernel) (m_str (hh.tx 2 rfl)) (by decide +kernel))) s_nil) (s_one (s_ret (m_sub C (h_e (m_att C hh.at_cells (m_v C rfl (by decide +kernel) (by decide +kernel) (by decide +kernel)))) (m_v C rfl (by decide +kernel) (by decide +kernel) (by decide +kernel)) (fun _ _ => rfl)))))
theorem Hb.c_Rank_getitem {R : Rc} (hh : Hb R) : Cal R (.ref (He.ma R.K (R.ca 6) "__getitem__")) 3 f_Rank_getitem := by
  obtain ⟨fd, F⟩ := hh.d_Rank_getitem
  exact (FnI.raw0 (fn_okD F sc_Rank_getitem rfl rfl hh.txo (b_Rank_getitem hh)) (F.bindsN (fun _ _ _ _ _ _ us hl => match us, hl with | [_, _], _ => rfl))).cal
theorem Hb.f_Rank_getitem {R : Rc} (hh : Hb R) : FnI R (He.ma R.K (R.ca 6) "__getitem__") 3 f_Rank_getitem := by
  obtain ⟨fd, F⟩ := hh.d_Rank_getitem
  exact FnI.raw0 (fn_okD F sc_Rank_getitem rfl rfl hh.txo (b_Rank_getitem hh)) (F.bindsN (fun _ _ _ _ _ _ us hl => match us, hl with | [_, _], _ => rfl))
theorem Hb.tabGet {R : Rc} (hh : Hb R) : TabG R 3 tabGet := fun c G h => by
  obtain ⟨rfl, rfl⟩ := one_at h
  exact ⟨hh.sl _, _, hh.mt_Rank_getitem, hh.mn_Rank_getitem, hh.mf_Rank_getitem, hh.f_Rank_getitem⟩
theorem sc_check_same_worlds : FnScope ["one", "other"] ["one", "other"] (defScope (top 25)) := ⟨rfl, rfl, rfl, by decide +kernel, rfl, by decide +kernel, by decide +kernel⟩
theorem b_check_same_worlds {R : Rc} (hh : Hb R) : BodyOk R ["one", "other"] (defScope (top 25)) 2 (defBody (top 25)) (fun _ => []) (sIf (tV (mCmp .ne (hE (mAtt 2 (mV 0))) (hE (mAtt 2 (mV 1))))) (sRai 5 2 (mAtt 2 (mV 1))) sNil) := fun X E v C S hp hk =>
  have bl := hh.bl
  (s_one (s_if (t_cmp C (o := .ne) rfl (h_e (m_att C hh.at_worlds (m_v C rfl (by decide +kernel) (by decide +kernel) (by decide +kernel)))) (h_e (m_att C hh.at_worlds (m_v C rfl (by decide +kernel) (by decide +kernel) (by decide +kernel)))) (nomark _)) (s_one (s_rai C (hh.ex_OtherWorlds) (by omega) (hh.g_OtherWorlds) (by decide +kernel) (m_att C hh.at_worlds (m_v C rfl (by decide +kernel) (by decide +kernel) (by decide +kernel))) (by decide +kernel))) s_nil))
theorem Hb.k_check_same_worlds {R : Rc} (hh : Hb R) : PySem.W.keepIn R.K (.ref (He.ga R.K "check_same_worlds")) = true := let ⟨_, F⟩ := hh.d_check_same_worlds; F.kp
theorem Hb.c_check_same_worlds {R : Rc} (hh : Hb R) : Cal R (.ref (He.ga R.K "check_same_worlds")) 3 f_check_same_worlds := by
  obtain ⟨fd, F⟩ := hh.d_check_same_worlds
  exact (FnI.raw0 (fn_okD F sc_check_same_worlds rfl rfl hh.txo (b_check_same_worlds hh)) (F.bindsN (fun _ _ _ _ _ _ us hl => match us, hl with | [_, _], _ => rfl))).cal
theorem sc_products : FnScope ["ranks", "total", "rank"] ["ranks"] (defScope (top 26)) := ⟨rfl, rfl, rfl, by decide +kernel, rfl, by decide +kernel, by decide +kernel⟩
theorem b_products {R : Rc} (hh : Hb R) : BodyOk R ["ranks", "total", "rank"] (defScope (top 26)) 6 (defBody (top 26)) (fun _ => []) (sSeq (sIf (tNot (tV (mP 0))) (sRai 1 0 (mK (.str 3))) sNil) (sSeq (sSet 1 (mSub (hP 0) (mK (.int 0)))) (sSeq (sFor (.n 2) (wOne (hE (mSli (hP 0) (oYes (mK (.int 1))) oNo))) (sSet 1 (mMulo tabMul (mV 1) (mV 2)))) (sRet (mV 1))))) := fun X E v C S hp hk =>
  have bl := hh.bl
  (s_cons (s_if (t_not (t_v (m_p C rfl (by decide +kernel) (by decide +kernel) (by decide +kernel)) (fun _ => rfl))) (s_one (s_rai C (hh.ex_BadNumber) (by omega) (hh.g_BadNumber) (by decide +kernel) (m_str (hh.tx 3 rfl)) (by decide +kernel))) s_nil) (s_cons (s_set C S rfl (by decide +kernel) Zo.nil (m_sub C (h_p C rfl (by decide +kernel) (by decide +kernel) (by decide +kernel)) m_int (fun _ _ => rfl))) (s_cons (s_for C hp (n_one _) (fun _ _ => Zo.nil) (w_one (h_e (m_sli (h_p C rfl (by decide +kernel) (by decide +kernel) (by decide +kernel)) (o_yes m_int) o_no))) (g_n C S rfl (by decide +kernel)) (s_one (s_set C S rfl (by decide +kernel) Zo.nil (m_mulo C hh.tabMul (by omega) (m_v C rfl (by decide +kernel) (by decide +kernel) (by decide +kernel)) (m_v C rfl (by decide +kernel) (by decide +kernel) (by decide +kernel)))))) (s_one (s_ret (m_v C rfl (by decide +kernel) (by decide +kernel) (by decide +kernel)))))))
theorem Hb.k_products {R : Rc} (hh : Hb R) : PySem.W.keepIn R.K (.ref (He.ga R.K "products")) = true := let ⟨_, F⟩ := hh.d_products; F.kp
theorem Hb.c_products {R : Rc} (hh : Hb R) : Cal R (.ref (He.ga R.K "products")) 7 (varF f_products) := by
  obtain ⟨fd, F⟩ := hh.d_products
  exact (fn_varD F sc_products rfl hh.txo (b_products hh) (fun _ _ _ _ _ _ => rfl) (fun _ _ _ _ _ _ _ _ => rfl)).cal
theorem sc_two_cells : FnScope ["rank", "lot"] ["rank"] (defScope (top 27)) := ⟨rfl, rfl, rfl, by decide +kernel, rfl, by decide +kernel, by decide +kernel⟩
theorem b_two_cells {R : Rc} (hh : Hb R) : BodyOk R ["rank", "lot"] (defScope (top 27)) 6 (defBody (top 27)) (fun _ => []) (sRet (mBi .tuple (mComp [1] (.n 1) (wOne (hE (mSli (hE (mMt tabM_beginnings (mV 0) mNil)) oNo (oYes (mNeg (mK (.int 1))))))) tYes (mCm 6 f_Rank_two (mCons (mV 1) (mCons (mAtt 2 (mV 0)) mNil)))))) := fun X E v C S hp hk =>
  have bl := hh.bl
  (s_one (s_ret (m_biT C bl (call_tupleD C.calm) (by simp) (by decide +kernel) (by decide +kernel) (p_e (m_comp C (own := [("lot", 1)]) (w_one (h_e (m_sli (h_e (m_mt0 C hh.tabM_beginnings (by omega) (m_v C rfl (by decide +kernel) (by decide +kernel) (by decide +kernel)))) o_no (o_yes (m_neg m_int))))) (by decide +kernel) rfl (fun X' C' S' => (g_n C' S' rfl (by decide +kernel))) (fun X' C' S' => if_no) (fun X' C' S' => (m_cm C' (by omega) hh.m_Rank_two (by decide +kernel) hh.g_Rank (by decide +kernel) (a_cons (m_v C' rfl (by decide +kernel) (by decide +kernel) (by decide +kernel)) (a_cons (m_att C' hh.at_worlds (m_v C' rfl (by decide +kernel) (by decide +kernel) (by decide +kernel))) a_nil)))) (by decide))) (by decide) (by decide +kernel))))
theorem Hb.k_two_cells {R : Rc} (hh : Hb R) : PySem.W.keepIn R.K (.ref (He.ga R.K "two_cells")) = true := let ⟨_, F⟩ := hh.d_two_cells; F.kp
theorem Hb.c_two_cells {R : Rc} (hh : Hb R) : Cal R (.ref (He.ga R.K "two_cells")) 7 f_two_cells := by
  obtain ⟨fd, F⟩ := hh.d_two_cells
  exact (FnI.raw0 (fn_okD F sc_two_cells rfl rfl hh.txo (b_two_cells hh)) (F.bindsN (fun _ _ _ _ _ _ us hl => match us, hl with | [_], _ => rfl))).cal
theorem sc_finer : FnScope ["one", "other", "cell", "x"] ["one", "other"] (defScope (top 28)) := ⟨rfl, rfl, rfl, by decide +kernel, rfl, by decide +kernel, by decide +kernel⟩
theorem b_finer {R : Rc} (hh : Hb R) : BodyOk R ["one", "other", "cell", "x"] (defScope (top 28)) 3 (defBody (top 28)) (fun _ => []) (sSeq (sExp (mCall f_check_same_worlds (mCons (mV 0) (mCons (mV 1) mNil)))) (sRet (mBi .all (mComp2 [2, 3] (.n 2) (wOne (hE (mAtt 3 (mV 0)))) tYes [3] (.n 3) (wOne (hE (mV 2))) tYes (mCmp .eq (hE (mSub (hE (mAtt 4 (mV 1))) (mV 3))) (hE (mSub (hE (mAtt 4 (mV 1))) (mSub (hP 2) (mK (.int 0)))))))))) := fun X E v C S hp hk =>
  have bl := hh.bl
  (s_cons (s_exp (m_call C hh.c_check_same_worlds hh.g_check_same_worlds hh.k_check_same_worlds (by omega) (by decide +kernel) (a_cons (m_v C rfl (by decide +kernel) (by decide +kernel) (by decide +kernel)) (a_cons (m_v C rfl (by decide +kernel) (by decide +kernel) (by decide +kernel)) a_nil)) (by decide +kernel))) (s_one (s_ret (m_biB C bl (call_allD C.calm) (by simp) (by decide +kernel) (by decide +kernel) (p_e (m_comp2 C (own := [("cell", 2), ("x", 3)]) (w_one (h_e (m_att C hh.at_cells (m_v C rfl (by decide +kernel) (by decide +kernel) (by decide +kernel))))) (by decide +kernel) rfl (fun X' C' S' => (g_n C' S' rfl (by decide +kernel))) (fun X' C' S' => if_no) (fun X' C' S' => (w_one (h_e (m_v C' rfl (by decide +kernel) (by decide +kernel) (by decide +kernel))))) (fun X' C' S' => (g_n C' S' rfl (by decide +kernel))) (fun X' C' S' => if_no) (fun X' C' S' => (m_cmp C' (o := .eq) rfl (h_e (m_sub C' (h_e (m_att C' hh.at_levels (m_v C' rfl (by decide +kernel) (by decide +kernel) (by decide +kernel)))) (m_v C' rfl (by decide +kernel) (by decide +kernel) (by decide +kernel)) (fun _ _ => rfl))) (h_e (m_sub C' (h_e (m_att C' hh.at_levels (m_v C' rfl (by decide +kernel) (by decide +kernel) (by decide +kernel)))) (m_sub C' (h_p C' rfl (by decide +kernel) (by decide +kernel) (by decide +kernel)) m_int (fun _ _ => rfl)) (fun _ _ => rfl))) (nomark _))) (by decide) (by decide) (by decide))) (by decide) (by decide +kernel)))))
theorem Hb.k_finer {R : Rc} (hh : Hb R) : PySem.W.keepIn R.K (.ref (He.ga R.K "finer")) = true := let ⟨_, F⟩ := hh.d_finer; F.kp
theorem Hb.c_finer {R : Rc} (hh : Hb R) : Cal R (.ref (He.ga R.K "finer")) 4 f_finer := by
  obtain ⟨fd, F⟩ := hh.d_finer
  exact (FnI.raw0 (fn_okD F sc_finer rfl rfl hh.txo (b_finer hh)) (F.bindsN (fun _ _ _ _ _ _ us hl => match us, hl with | [_, _], _ => rfl))).cal
theorem sc_led_by : FnScope ["rank", "goal"] ["rank", "goal"] (defScope (top 29)) := ⟨rfl, rfl, rfl, by decide +kernel, rfl, by decide +kernel, by decide +kernel⟩
theorem b_led_by {R : Rc} (hh : Hb R) : BodyOk R ["rank", "goal"] (defScope (top 29)) 4 (defBody (top 29)) (fun _ => []) (sSeq (sExp (mCall f_check_same_worlds (mCons (mV 0) (mCons (mV 1) mNil)))) (sRet (mIf (tV (mCall f_finer (mCons (mV 1) (mCons (mV 0) mNil)))) (mV 1) (mK .non)))) := fun X E v C S hp hk =>
  have bl := hh.bl
  (s_cons (s_exp (m_call C hh.c_check_same_worlds hh.g_check_same_worlds hh.k_check_same_worlds (by omega) (by decide +kernel) (a_cons (m_v C rfl (by decide +kernel) (by decide +kernel) (by decide +kernel)) (a_cons (m_v C rfl (by decide +kernel) (by decide +kernel) (by decide +kernel)) a_nil)) (by decide +kernel))) (s_one (s_ret (m_if (t_v (p_e (m_call C hh.c_finer hh.g_finer hh.k_finer (by omega) (by decide +kernel) (a_cons (m_v C rfl (by decide +kernel) (by decide +kernel) (by decide +kernel)) (a_cons (m_v C rfl (by decide +kernel) (by decide +kernel) (by decide +kernel)) a_nil)) (by decide +kernel))) (fun _ => rfl)) (m_v C rfl (by decide +kernel) (by decide +kernel) (by decide +kernel)) m_non))))
theorem Hb.k_led_by {R : Rc} (hh : Hb R) : PySem.W.keepIn R.K (.ref (He.ga R.K "led_by")) = true := let ⟨_, F⟩ := hh.d_led_by; F.kp
theorem Hb.c_led_by {R : Rc} (hh : Hb R) : Cal R (.ref (He.ga R.K "led_by")) 5 f_led_by := by
  obtain ⟨fd, F⟩ := hh.d_led_by
  exact (FnI.raw0 (fn_okD F sc_led_by rfl rfl hh.txo (b_led_by hh)) (F.bindsN (fun _ _ _ _ _ _ us hl => match us, hl with | [_, _], _ => rfl))).cal
theorem sc_lot_of_deed : FnScope ["word", "lot", "worlds", "told"] ["word", "lot", "worlds"] (defScope (top 33)) := ⟨rfl, rfl, rfl, by decide +kernel, rfl, by decide +kernel, by decide +kernel⟩
theorem b_lot_of_deed {R : Rc} (hh : Hb R) : BodyOk R ["word", "lot", "worlds", "told"] (defScope (top 33)) 4 (defBody (top 33)) (fun _ => []) (sSeq (sExp (mCall f_check_worlds (mCons (mV 2) mNil))) (sSeq (sIf (tV (mInK true [4, 5, 6, 7, 8, 9] (mV 0))) (sRai 4 5 (mV 0)) sNil) (sSeq (sSet 3 (mCallK 2 1 f_lot_of (mCons (mV 1) (mCons (mV 2) mNil)) (mCons (mInK false [7, 8] (mV 0)) mNil))) (sSeq (sIf (tAnd (tV (mInK false [7, 8] (mV 0))) (tV (mCmp .eq (hE (mBi .len (mP 3))) (hP 2)))) (sRai 2 1 (mNeg (mK (.int 1)))) sNil) (sRet (mV 3)))))) := fun X E v C S hp hk =>
  have bl := hh.bl
  (s_cons (s_exp (m_call C hh.c_check_worlds hh.g_check_worlds hh.k_check_worlds (by omega) (by decide +kernel) (a_cons (m_v C rfl (by decide +kernel) (by decide +kernel) (by decide +kernel)) a_nil) (by decide +kernel))) (s_cons (s_if (t_inK C true rfl (by decide +kernel) hh.g_DEED_WORDS (by decide +kernel) hh.con_DEED_WORDS (m_v C rfl (by decide +kernel) (by decide +kernel) (by decide +kernel)) (by with_unfolding_all rfl)) (s_one (s_rai C (hh.ex_BadWord) (by omega) (hh.g_BadWord) (by decide +kernel) (m_v C rfl (by decide +kernel) (by decide +kernel) (by decide +kernel)) (by decide +kernel))) s_nil) (s_cons (s_set C S rfl (by decide +kernel) Zo.nil (m_callK C hh.ck_lot_of rfl hh.g_lot_of hh.k_lot_of (by omega) (by decide +kernel) (a_cons (m_v C rfl (by decide +kernel) (by decide +kernel) (by decide +kernel)) (a_cons (m_v C rfl (by decide +kernel) (by decide +kernel) (by decide +kernel)) a_nil)) (k_cons (m_inK C false rfl (by decide +kernel) hh.g_GIVE_WORDS (by decide +kernel) hh.con_GIVE_WORDS (m_v C rfl (by decide +kernel) (by decide +kernel) (by decide +kernel)) (by with_unfolding_all rfl)) k_nil) (by decide +kernel))) (s_cons (s_if (w_pt (w_and (t_inK C false rfl (by decide +kernel) hh.g_GIVE_WORDS (by decide +kernel) hh.con_GIVE_WORDS (m_v C rfl (by decide +kernel) (by decide +kernel) (by decide +kernel)) (by with_unfolding_all rfl)) (w_and1 (t_cmp C (o := .eq) rfl (h_e (m_biB C bl (call_lenD C.K.symm) (by simp) (by decide +kernel) (by decide +kernel) (m_p C rfl (by decide +kernel) (by decide +kernel) (by decide +kernel)) (by decide) (by decide +kernel))) (h_p C rfl (by decide +kernel) (by decide +kernel) (by decide +kernel)) (nomark _))))) (s_one (s_rai C (hh.ex_BadLot) (by omega) (hh.g_BadLot) (by decide +kernel) (m_neg m_int) (by decide +kernel))) s_nil) (s_one (s_ret (m_v C rfl (by decide +kernel) (by decide +kernel) (by decide +kernel))))))))
theorem Hb.k_lot_of_deed {R : Rc} (hh : Hb R) : PySem.W.keepIn R.K (.ref (He.ga R.K "lot_of_deed")) = true := let ⟨_, F⟩ := hh.d_lot_of_deed; F.kp
theorem Hb.c_lot_of_deed {R : Rc} (hh : Hb R) : Cal R (.ref (He.ga R.K "lot_of_deed")) 5 f_lot_of_deed := by
  obtain ⟨fd, F⟩ := hh.d_lot_of_deed
  exact (FnI.raw0 (fn_okD F sc_lot_of_deed rfl rfl hh.txo (b_lot_of_deed hh)) (F.bindsN (fun _ _ _ _ _ _ us hl => match us, hl with | [_, _, _], _ => rfl))).cal
theorem sc_led : FnScope ["rank", "lot", "told", "ahead", "cell", "behind"] ["rank", "lot"] (defScope (top 34)) := ⟨rfl, rfl, rfl, by decide +kernel, rfl, by decide +kernel, by decide +kernel⟩
theorem b_led {R : Rc} (hh : Hb R) : BodyOk R ["rank", "lot", "told", "ahead", "cell", "behind"] (defScope (top 34)) 5 (defBody (top 34)) (fun _ => []) (sSeq (sSet 2 (mCall f_lot_of_deed (mCons (mK (.str 4)) (mCons (mV 1) (mCons (mAtt 2 (mV 0)) mNil))))) (sSeq (sSet 3 (mComp [4] (.n 4) (wOne (hE (mAtt 3 (mV 0)))) tYes (mCall f_common (mCons (mV 4) (mCons (mV 2) mNil))))) (sSeq (sSet 5 (mComp [4] (.n 4) (wOne (hE (mAtt 3 (mV 0)))) tYes (mCall f_minus (mCons (mV 4) (mCons (mV 2) mNil))))) (sRet (mCall f_Rank_init (mCons (mComp [4] (.n 4) (wOne (hE (mBin .add (mV 3) (mV 5)))) (tV (mP 4)) (mV 4)) mNil)))))) := fun X E v C S hp hk =>
  have bl := hh.bl
  (s_cons (s_set C S rfl (by decide +kernel) Zo.nil (m_call C hh.c_lot_of_deed hh.g_lot_of_deed hh.k_lot_of_deed (by omega) (by decide +kernel) (a_cons (m_str (hh.tx 4 rfl)) (a_cons (m_v C rfl (by decide +kernel) (by decide +kernel) (by decide +kernel)) (a_cons (m_att C hh.at_worlds (m_v C rfl (by decide +kernel) (by decide +kernel) (by decide +kernel))) a_nil))) (by decide +kernel))) (s_cons (s_setC C S rfl (by decide +kernel) Zo.nil (sw_ok C.esc (by decide +kernel) (by decide +kernel) (by decide +kernel) (by decide +kernel)) (own := [("cell", 4)]) (w_one (h_e (m_att C hh.at_cells (m_v C rfl (by decide +kernel) (by decide +kernel) (by decide +kernel))))) (by decide +kernel) rfl (fun X' C' S' => (g_n C' S' rfl (by decide +kernel))) (fun X' C' S' => if_no) (fun X' C' S' => (m_call C' hh.c_common hh.g_common hh.k_common (by omega) (by decide +kernel) (a_cons (m_v C' rfl (by decide +kernel) (by decide +kernel) (by decide +kernel)) (a_cons (m_v C' rfl (by decide +kernel) (by decide +kernel) (by decide +kernel)) a_nil)) (by decide +kernel))) (by decide)) (s_cons (s_setC C S rfl (by decide +kernel) Zo.nil (sw_ok C.esc (by decide +kernel) (by decide +kernel) (by decide +kernel) (by decide +kernel)) (own := [("cell", 4)]) (w_one (h_e (m_att C hh.at_cells (m_v C rfl (by decide +kernel) (by decide +kernel) (by decide +kernel))))) (by decide +kernel) rfl (fun X' C' S' => (g_n C' S' rfl (by decide +kernel))) (fun X' C' S' => if_no) (fun X' C' S' => (m_call C' hh.c_minus hh.g_minus hh.k_minus (by omega) (by decide +kernel) (a_cons (m_v C' rfl (by decide +kernel) (by decide +kernel) (by decide +kernel)) (a_cons (m_v C' rfl (by decide +kernel) (by decide +kernel) (by decide +kernel)) a_nil)) (by decide +kernel))) (by decide)) (s_one (s_ret (m_call C hh.c_Rank hh.g_Rank hh.k_Rank (by omega) (by decide +kernel) (a_cons (m_comp C (own := [("cell", 4)]) (w_one (h_e (m_bin C (o := .add) rfl (m_v C rfl (by decide +kernel) (by decide +kernel) (by decide +kernel)) (m_v C rfl (by decide +kernel) (by decide +kernel) (by decide +kernel))))) (by decide +kernel) rfl (fun X' C' S' => (g_n C' S' rfl (by decide +kernel))) (fun X' C' S' => (if_one (t_v (m_p C' rfl (by decide +kernel) (by decide +kernel) (by decide +kernel)) (fun _ => rfl)))) (fun X' C' S' => (m_v C' rfl (by decide +kernel) (by decide +kernel) (by decide +kernel))) (by decide)) a_nil) (by decide +kernel)))))))
theorem Hb.k_led {R : Rc} (hh : Hb R) : PySem.W.keepIn R.K (.ref (He.ga R.K "led")) = true := let ⟨_, F⟩ := hh.d_led; F.kp
theorem Hb.c_led {R : Rc} (hh : Hb R) : Cal R (.ref (He.ga R.K "led")) 6 f_led := by
  obtain ⟨fd, F⟩ := hh.d_led
  exact (FnI.raw0 (fn_okD F sc_led rfl rfl hh.txo (b_led hh)) (F.bindsN (fun _ _ _ _ _ _ us hl => match us, hl with | [_, _], _ => rfl))).cal
theorem sc__law_draws : FnScope ["_law_script", "_law_draws_here", "_law_place", "_law_cell", "_law_turn_here", "_law_seed"] ["_law_script"] (defScope (top 36)) := ⟨rfl, rfl, rfl, by decide +kernel, rfl, by decide +kernel, by decide +kernel⟩
theorem b__law_draws {R : Rc} (hh : Hb R) : BodyOk R ["_law_script", "_law_draws_here", "_law_place", "_law_cell", "_law_turn_here", "_law_seed"] (defScope (top 36)) 0 (defBody (top 36)) (fun _ => []) (sSeq (sOwn 1 (mLst mNil)) (sSeq (sFor (.n 2) (wR1 (mBi2 .min (mBi .len (mP 0)) (mK (.int 63)))) (sSeq (sSet 3 (mBi .int (mSub (hP 0) (mV 2)))) (sSeq (sIf (tV (mCmp .lt (hP 3) (hE (mK (.int 0))))) (sSet 3 (mBin .sub (mK (.int 7)) (mV 3))) sNil) (sIf (tV (mCmp .ge (hP 3) (hE (mBin .pow (mK (.int 10)) (mK (.int 18)))))) (sFor (.n 4) (wR1 (mK (.int 50))) (sIf (tV (mCmp .gt (hP 3) (hE (mK (.int 0))))) (sSeq (sApp 1 (mBin .mod (mBi .int (mP 3)) (mK (.int 30)))) (sSet 3 (mBin .fdiv (mV 3) (mK (.int 30))))) sNil)) (sSeq (sSet 5 (mBin .mod (mBi .int (mBin .add (mBin .add (mBin .mul (mV 3) (mK (.int 48271))) (mBin .mul (mV 2) (mK (.int 6007)))) (mK (.int 17)))) (mK (.int 2147483629)))) (sFor (.n 4) (wR1 (mK (.int 6))) (sSeq (sSet 5 (mBin .mod (mBi .int (mBin .add (mBin .add (mBin .add (mBin .mul (mV 5) (mV 5)) (mBin .mul (mV 4) (mK (.int 90001)))) (mBin .mul (mV 2) (mK (.int 43)))) (mK (.int 3)))) (mK (.int 2147483587)))) (sApp 1 (mV 5))))))))) (sRet (mRsl (mP 1))))) := fun X E v C S hp hk =>
  have bl := hh.bl
  (s_cons (s_own C S rfl (by decide +kernel) Zo.nil (f_lst a_nil)) (s_cons (s_for C hp (n_r1 _) (fun _ _ => Zo.nil) (w_r1 C bl (by decide +kernel) (m_bi2B C bl (call_min2D C.calm) (by simp) (by decide +kernel) (by decide +kernel) (m_biB C bl (call_lenD C.K.symm) (by simp) (by decide +kernel) (by decide +kernel) (m_p C rfl (by decide +kernel) (by decide +kernel) (by decide +kernel)) (by decide) (by decide +kernel)) m_int (by decide) (by decide +kernel))) (g_n C S rfl (by decide +kernel)) (s_cons (s_set C S rfl (by decide +kernel) Zo.nil (m_biT C bl call_intD (by simp) (by decide +kernel) (by decide +kernel) (p_e (m_sub C (h_p C rfl (by decide +kernel) (by decide +kernel) (by decide +kernel)) (m_v C rfl (by decide +kernel) (by decide +kernel) (by decide +kernel)) (fun _ _ => rfl))) (by decide) (by decide +kernel))) (s_cons (s_if (t_cmp C (o := .lt) rfl (h_p C rfl (by decide +kernel) (by decide +kernel) (by decide +kernel)) (h_e m_int) (nomark _)) (s_one (s_set C S rfl (by decide +kernel) Zo.nil (m_bin C (o := .sub) rfl m_int (m_v C rfl (by decide +kernel) (by decide +kernel) (by decide +kernel))))) s_nil) (s_one (s_if (t_cmp C (o := .ge) rfl (h_p C rfl (by decide +kernel) (by decide +kernel) (by decide +kernel)) (h_e (m_bin C (o := .pow) rfl m_int m_int)) (nomark _)) (s_one (s_for C hp (n_r1 _) (fun _ _ => Zo.nil) (w_r1 C bl (by decide +kernel) m_int) (g_n C S rfl (by decide +kernel)) (s_one (s_if (t_cmp C (o := .gt) rfl (h_p C rfl (by decide +kernel) (by decide +kernel) (by decide +kernel)) (h_e m_int) (nomark _)) (s_cons (s_app C rfl (by decide +kernel) (by decide +kernel) (by decide +kernel) (m_bin C (o := .mod) rfl (m_biT C bl call_intD (by simp) (by decide +kernel) (by decide +kernel) (m_p C rfl (by decide +kernel) (by decide +kernel) (by decide +kernel)) (by decide) (by decide +kernel)) m_int)) (s_one (s_set C S rfl (by decide +kernel) Zo.nil (m_bin C (o := .fdiv) rfl (m_v C rfl (by decide +kernel) (by decide +kernel) (by decide +kernel)) m_int)))) s_nil)))) (s_cons (s_set C S rfl (by decide +kernel) Zo.nil (m_bin C (o := .mod) rfl (m_biT C bl call_intD (by simp) (by decide +kernel) (by decide +kernel) (p_e (m_bin C (o := .add) rfl (m_bin C (o := .add) rfl (m_bin C (o := .mul) rfl (m_v C rfl (by decide +kernel) (by decide +kernel) (by decide +kernel)) m_int) (m_bin C (o := .mul) rfl (m_v C rfl (by decide +kernel) (by decide +kernel) (by decide +kernel)) m_int)) m_int)) (by decide) (by decide +kernel)) m_int)) (s_one (s_for C hp (n_r1 _) (fun _ _ => Zo.nil) (w_r1 C bl (by decide +kernel) m_int) (g_n C S rfl (by decide +kernel)) (s_cons (s_set C S rfl (by decide +kernel) Zo.nil (m_bin C (o := .mod) rfl (m_biT C bl call_intD (by simp) (by decide +kernel) (by decide +kernel) (p_e (m_bin C (o := .add) rfl (m_bin C (o := .add) rfl (m_bin C (o := .add) rfl (m_bin C (o := .mul) rfl (m_v C rfl (by decide +kernel) (by decide +kernel) (by decide +kernel)) (m_v C rfl (by decide +kernel) (by decide +kernel) (by decide +kernel))) (m_bin C (o := .mul) rfl (m_v C rfl (by decide +kernel) (by decide +kernel) (by decide +kernel)) m_int)) (m_bin C (o := .mul) rfl (m_v C rfl (by decide +kernel) (by decide +kernel) (by decide +kernel)) m_int)) m_int)) (by decide) (by decide +kernel)) m_int)) (s_one (s_app C rfl (by decide +kernel) (by decide +kernel) (by decide +kernel) (m_v C rfl (by decide +kernel) (by decide +kernel) (by decide +kernel))))))))))))) (s_one (s_ret (m_rsl C (m_p C rfl (by decide +kernel) (by decide +kernel) (by decide +kernel)))))))
theorem Hb.k__law_draws {R : Rc} (hh : Hb R) : PySem.W.keepIn R.K (.ref (He.ga R.K "_law_draws")) = true := let ⟨_, F⟩ := hh.d__law_draws; F.kp
theorem Hb.c__law_draws {R : Rc} (hh : Hb R) : Cal R (.ref (He.ga R.K "_law_draws")) 1 f__law_draws := by
  obtain ⟨fd, F⟩ := hh.d__law_draws
  exact (FnI.raw0 (fn_okD F sc__law_draws rfl rfl hh.txo (b__law_draws hh)) (F.bindsN (fun _ _ _ _ _ _ us hl => match us, hl with | [_], _ => rfl))).cal
theorem sc__law_take : FnScope ["_law_draws_here", "_law_bound"] ["_law_draws_here", "_law_bound"] (defScope (top 37)) := ⟨rfl, rfl, rfl, by decide +kernel, rfl, by decide +kernel, by decide +kernel⟩
theorem b__law_take {R : Rc} (hh : Hb R) : BodyOk R ["_law_draws_here", "_law_bound"] (defScope (top 37)) 0 (defBody (top 37)) (fun _ => []) (sSeq (sIf (tV (mCmp .eq (hE (mDrLen 0)) (hE (mK (.int 0))))) (sRet (mK (.int 0))) sNil) (sRet (mBin .mod (mBi .int (mDraw 0)) (mV 1)))) := fun X E v C S hp hk =>
  have bl := hh.bl
  (s_cons (s_if (t_cmp C (o := .eq) rfl (h_e (m_drLen C bl rfl (by decide +kernel) (by decide +kernel) (by decide +kernel) (by decide +kernel) (by decide +kernel))) (h_e m_int) (nomark _)) (s_one (s_ret m_int)) s_nil) (s_one (s_ret (m_bin C (o := .mod) rfl (m_biT C bl call_intD (by simp) (by decide +kernel) (by decide +kernel) (p_e (m_draw C rfl (by decide +kernel) (by decide +kernel) (by decide +kernel))) (by decide) (by decide +kernel)) (m_v C rfl (by decide +kernel) (by decide +kernel) (by decide +kernel))))))
theorem Hb.k__law_take {R : Rc} (hh : Hb R) : PySem.W.keepIn R.K (.ref (He.ga R.K "_law_take")) = true := let ⟨_, F⟩ := hh.d__law_take; F.kp
theorem Hb.c__law_take {R : Rc} (hh : Hb R) : Cal R (.ref (He.ga R.K "_law_take")) 1 f__law_take := by
  obtain ⟨fd, F⟩ := hh.d__law_take
  exact (FnI.raw0 (fn_okD F sc__law_take rfl rfl hh.txo (b__law_take hh)) (F.bindsN (fun _ _ _ _ _ _ us hl => match us, hl with | [_, _], _ => rfl))).cal
theorem sc__law_lot : FnScope ["_law_draws_here", "_law_worlds", "_law_world"] ["_law_draws_here", "_law_worlds"] (defScope (top 38)) := ⟨rfl, rfl, rfl, by decide +kernel, rfl, by decide +kernel, by decide +kernel⟩
theorem b__law_lot {R : Rc} (hh : Hb R) : BodyOk R ["_law_draws_here", "_law_worlds", "_law_world"] (defScope (top 38)) 1 (defBody (top 38)) (fun _ => []) (sRet (mBi .tuple (mComp [2] (.n 2) (wR1 (mV 1)) (tV (mCmp .eq (hE (mCall f__law_take (mCons (mV 0) (mCons (mK (.int 2)) mNil)))) (hE (mK (.int 1))))) (mV 2)))) := fun X E v C S hp hk =>
  have bl := hh.bl
  (s_one (s_ret (m_biT C bl (call_tupleD C.calm) (by simp) (by decide +kernel) (by decide +kernel) (p_e (m_comp C (own := [("_law_world", 2)]) (w_r1 C bl (by decide +kernel) (m_v C rfl (by decide +kernel) (by decide +kernel) (by decide +kernel))) (by decide +kernel) rfl (fun X' C' S' => (g_n C' S' rfl (by decide +kernel))) (fun X' C' S' => (if_one (t_cmp C' (o := .eq) rfl (h_e (m_call C' hh.c__law_take hh.g__law_take hh.k__law_take (by omega) (by decide +kernel) (a_cons (m_v C' rfl (by decide +kernel) (by decide +kernel) (by decide +kernel)) (a_cons m_int a_nil)) (by decide +kernel))) (h_e m_int) (nomark _)))) (fun X' C' S' => (m_v C' rfl (by decide +kernel) (by decide +kernel) (by decide +kernel))) (by decide))) (by decide) (by decide +kernel))))
theorem Hb.k__law_lot {R : Rc} (hh : Hb R) : PySem.W.keepIn R.K (.ref (He.ga R.K "_law_lot")) = true := let ⟨_, F⟩ := hh.d__law_lot; F.kp
theorem Hb.c__law_lot {R : Rc} (hh : Hb R) : Cal R (.ref (He.ga R.K "_law_lot")) 2 f__law_lot := by
  obtain ⟨fd, F⟩ := hh.d__law_lot
  exact (FnI.raw0 (fn_okD F sc__law_lot rfl rfl hh.txo (b__law_lot hh)) (F.bindsN (fun _ _ _ _ _ _ us hl => match us, hl with | [_, _], _ => rfl))).cal
theorem sc__law_some : FnScope ["_law_draws_here", "_law_worlds", "_law_first", "_law_more", "_law_world"] ["_law_draws_here", "_law_worlds"] (defScope (top 39)) := ⟨rfl, rfl, rfl, by decide +kernel, rfl, by decide +kernel, by decide +kernel⟩
theorem b__law_some {R : Rc} (hh : Hb R) : BodyOk R ["_law_draws_here", "_law_worlds", "_law_first", "_law_more", "_law_world"] (defScope (top 39)) 2 (defBody (top 39)) (fun _ => []) (sSeq (sSet 2 (mCall f__law_take (mCons (mV 0) (mCons (mV 1) mNil)))) (sSeq (sSet 3 (mCall f__law_lot (mCons (mV 0) (mCons (mV 1) mNil)))) (sRet (mBi .tuple (mComp [4] (.n 4) (wR1 (mV 1)) (tOr (tV (mCmp .eq (hP 4) (hP 2))) (tV (mCmp .mem (hP 4) (hP 3)))) (mV 4)))))) := fun X E v C S hp hk =>
  have bl := hh.bl
  (s_cons (s_set C S rfl (by decide +kernel) Zo.nil (m_call C hh.c__law_take hh.g__law_take hh.k__law_take (by omega) (by decide +kernel) (a_cons (m_v C rfl (by decide +kernel) (by decide +kernel) (by decide +kernel)) (a_cons (m_v C rfl (by decide +kernel) (by decide +kernel) (by decide +kernel)) a_nil)) (by decide +kernel))) (s_cons (s_set C S rfl (by decide +kernel) Zo.nil (m_call C hh.c__law_lot hh.g__law_lot hh.k__law_lot (by omega) (by decide +kernel) (a_cons (m_v C rfl (by decide +kernel) (by decide +kernel) (by decide +kernel)) (a_cons (m_v C rfl (by decide +kernel) (by decide +kernel) (by decide +kernel)) a_nil)) (by decide +kernel))) (s_one (s_ret (m_biT C bl (call_tupleD C.calm) (by simp) (by decide +kernel) (by decide +kernel) (p_e (m_comp C (own := [("_law_world", 4)]) (w_r1 C bl (by decide +kernel) (m_v C rfl (by decide +kernel) (by decide +kernel) (by decide +kernel))) (by decide +kernel) rfl (fun X' C' S' => (g_n C' S' rfl (by decide +kernel))) (fun X' C' S' => (if_one (w_pt (w_or (t_cmp C' (o := .eq) rfl (h_p C' rfl (by decide +kernel) (by decide +kernel) (by decide +kernel)) (h_p C' rfl (by decide +kernel) (by decide +kernel) (by decide +kernel)) (nomark _)) (w_or1 (t_cmp C' (o := .mem) rfl (h_p C' rfl (by decide +kernel) (by decide +kernel) (by decide +kernel)) (h_p C' rfl (by decide +kernel) (by decide +kernel) (by decide +kernel)) (by with_unfolding_all rfl))))))) (fun X' C' S' => (m_v C' rfl (by decide +kernel) (by decide +kernel) (by decide +kernel))) (by decide))) (by decide) (by decide +kernel))))))
theorem Hb.k__law_some {R : Rc} (hh : Hb R) : PySem.W.keepIn R.K (.ref (He.ga R.K "_law_some")) = true := let ⟨_, F⟩ := hh.d__law_some; F.kp
theorem Hb.c__law_some {R : Rc} (hh : Hb R) : Cal R (.ref (He.ga R.K "_law_some")) 3 f__law_some := by
  obtain ⟨fd, F⟩ := hh.d__law_some
  exact (FnI.raw0 (fn_okD F sc__law_some rfl rfl hh.txo (b__law_some hh)) (F.bindsN (fun _ _ _ _ _ _ us hl => match us, hl with | [_, _], _ => rfl))).cal
theorem sc__law_rest : FnScope ["_law_lot_here", "_law_worlds", "_law_world"] ["_law_lot_here", "_law_worlds"] (defScope (top 40)) := ⟨rfl, rfl, rfl, by decide +kernel, rfl, by decide +kernel, by decide +kernel⟩
theorem b__law_rest {R : Rc} (hh : Hb R) : BodyOk R ["_law_lot_here", "_law_worlds", "_law_world"] (defScope (top 40)) 0 (defBody (top 40)) (fun _ => []) (sRet (mBi .tuple (mComp [2] (.n 2) (wR1 (mV 1)) (tV (mCmp .nmem (hP 2) (hP 0))) (mV 2)))) := fun X E v C S hp hk =>
  have bl := hh.bl
  (s_one (s_ret (m_biT C bl (call_tupleD C.calm) (by simp) (by decide +kernel) (by decide +kernel) (p_e (m_comp C (own := [("_law_world", 2)]) (w_r1 C bl (by decide +kernel) (m_v C rfl (by decide +kernel) (by decide +kernel) (by decide +kernel))) (by decide +kernel) rfl (fun X' C' S' => (g_n C' S' rfl (by decide +kernel))) (fun X' C' S' => (if_one (t_cmp C' (o := .nmem) rfl (h_p C' rfl (by decide +kernel) (by decide +kernel) (by decide +kernel)) (h_p C' rfl (by decide +kernel) (by decide +kernel) (by decide +kernel)) (by with_unfolding_all rfl)))) (fun X' C' S' => (m_v C' rfl (by decide +kernel) (by decide +kernel) (by decide +kernel))) (by decide))) (by decide) (by decide +kernel))))
theorem Hb.k__law_rest {R : Rc} (hh : Hb R) : PySem.W.keepIn R.K (.ref (He.ga R.K "_law_rest")) = true := let ⟨_, F⟩ := hh.d__law_rest; F.kp
theorem Hb.c__law_rest {R : Rc} (hh : Hb R) : Cal R (.ref (He.ga R.K "_law_rest")) 1 f__law_rest := by
  obtain ⟨fd, F⟩ := hh.d__law_rest
  exact (FnI.raw0 (fn_okD F sc__law_rest rfl rfl hh.txo (b__law_rest hh)) (F.bindsN (fun _ _ _ _ _ _ us hl => match us, hl with | [_, _], _ => rfl))).cal
theorem sc__law_plus : FnScope ["_law_one", "_law_other", "_law_world"] ["_law_one", "_law_other"] (defScope (top 41)) := ⟨rfl, rfl, rfl, by decide +kernel, rfl, by decide +kernel, by decide +kernel⟩
theorem b__law_plus {R : Rc} (hh : Hb R) : BodyOk R ["_law_one", "_law_other", "_law_world"] (defScope (top 41)) 0 (defBody (top 41)) (fun _ => []) (sRet (mBi .tuple (mBi .sorted (mBin .add (mBi .list (mP 0)) (mComp [2] (.n 2) (wOne (hE (mV 1))) (tV (mCmp .nmem (hP 2) (hP 0))) (mV 2)))))) := fun X E v C S hp hk =>
  have bl := hh.bl
  (s_one (s_ret (m_biT C bl (call_tupleD C.calm) (by simp) (by decide +kernel) (by decide +kernel) (p_e (m_biB C bl srt_D (by simp) (by decide +kernel) (by decide +kernel) (p_e (m_bin C (o := .add) rfl (m_biT C bl (call_listD C.calm) (by simp) (by decide +kernel) (by decide +kernel) (m_p C rfl (by decide +kernel) (by decide +kernel) (by decide +kernel)) (by decide) (by decide +kernel)) (m_comp C (own := [("_law_world", 2)]) (w_one (h_e (m_v C rfl (by decide +kernel) (by decide +kernel) (by decide +kernel)))) (by decide +kernel) rfl (fun X' C' S' => (g_n C' S' rfl (by decide +kernel))) (fun X' C' S' => (if_one (t_cmp C' (o := .nmem) rfl (h_p C' rfl (by decide +kernel) (by decide +kernel) (by decide +kernel)) (h_p C' rfl (by decide +kernel) (by decide +kernel) (by decide +kernel)) (by with_unfolding_all rfl)))) (fun X' C' S' => (m_v C' rfl (by decide +kernel) (by decide +kernel) (by decide +kernel))) (by decide)))) (by decide) (by decide +kernel))) (by decide) (by decide +kernel))))
theorem Hb.k__law_plus {R : Rc} (hh : Hb R) : PySem.W.keepIn R.K (.ref (He.ga R.K "_law_plus")) = true := let ⟨_, F⟩ := hh.d__law_plus; F.kp
theorem Hb.c__law_plus {R : Rc} (hh : Hb R) : Cal R (.ref (He.ga R.K "_law_plus")) 1 f__law_plus := by
  obtain ⟨fd, F⟩ := hh.d__law_plus
  exact (FnI.raw0 (fn_okD F sc__law_plus rfl rfl hh.txo (b__law_plus hh)) (F.bindsN (fun _ _ _ _ _ _ us hl => match us, hl with | [_, _], _ => rfl))).cal
theorem sc__law_inside : FnScope ["_law_one", "_law_other", "_law_world"] ["_law_one", "_law_other"] (defScope (top 42)) := ⟨rfl, rfl, rfl, by decide +kernel, rfl, by decide +kernel, by decide +kernel⟩
theorem b__law_inside {R : Rc} (hh : Hb R) : BodyOk R ["_law_one", "_law_other", "_law_world"] (defScope (top 42)) 0 (defBody (top 42)) (fun _ => []) (sRet (mCmp .eq (hE (mBi .len (mComp [2] (.n 2) (wOne (hE (mV 0))) (tV (mCmp .nmem (hP 2) (hP 1))) (mV 2)))) (hE (mK (.int 0))))) := fun X E v C S hp hk =>
  have bl := hh.bl
  (s_one (s_ret (m_cmp C (o := .eq) rfl (h_e (m_biB C bl (call_lenD C.K.symm) (by simp) (by decide +kernel) (by decide +kernel) (p_e (m_comp C (own := [("_law_world", 2)]) (w_one (h_e (m_v C rfl (by decide +kernel) (by decide +kernel) (by decide +kernel)))) (by decide +kernel) rfl (fun X' C' S' => (g_n C' S' rfl (by decide +kernel))) (fun X' C' S' => (if_one (t_cmp C' (o := .nmem) rfl (h_p C' rfl (by decide +kernel) (by decide +kernel) (by decide +kernel)) (h_p C' rfl (by decide +kernel) (by decide +kernel) (by decide +kernel)) (by with_unfolding_all rfl)))) (fun X' C' S' => (m_v C' rfl (by decide +kernel) (by decide +kernel) (by decide +kernel))) (by decide))) (by decide) (by decide +kernel))) (h_e m_int) (nomark _))))
theorem Hb.k__law_inside {R : Rc} (hh : Hb R) : PySem.W.keepIn R.K (.ref (He.ga R.K "_law_inside")) = true := let ⟨_, F⟩ := hh.d__law_inside; F.kp
theorem Hb.c__law_inside {R : Rc} (hh : Hb R) : Cal R (.ref (He.ga R.K "_law_inside")) 1 f__law_inside := by
  obtain ⟨fd, F⟩ := hh.d__law_inside
  exact (FnI.raw0 (fn_okD F sc__law_inside rfl rfl hh.txo (b__law_inside hh)) (F.bindsN (fun _ _ _ _ _ _ us hl => match us, hl with | [_, _], _ => rfl))).cal
theorem sc__law_dense : FnScope ["_law_numbers", "_law_unlike", "_law_number"] ["_law_numbers"] (defScope (top 43)) := ⟨rfl, rfl, rfl, by decide +kernel, rfl, by decide +kernel, by decide +kernel⟩
theorem b__law_dense {R : Rc} (hh : Hb R) : BodyOk R ["_law_numbers", "_law_unlike", "_law_number"] (defScope (top 43)) 0 (defBody (top 43)) (fun _ => []) (sSeq (sOwn 1 (mLst mNil)) (sSeq (sFor (.n 2) (wOne (hE (mBi .sorted (mP 0)))) (sIf (tOr (tV (mCmp .eq (hE (mBi .len (mP 1))) (hE (mK (.int 0))))) (tV (mCmp .ne (hE (mSub (hP 1) (mNeg (mK (.int 1))))) (hP 2)))) (sApp 1 (mV 2)) sNil)) (sRet (mComp [2] (.n 2) (wOne (hE (mV 0))) tYes (mIdx (hP 1) (mV 2)))))) := fun X E v C S hp hk =>
  have bl := hh.bl
  (s_cons (s_own C S rfl (by decide +kernel) Zo.nil (f_lst a_nil)) (s_cons (s_for C hp (n_one _) (fun _ _ => Zo.nil) (w_one (h_e (m_biB C bl srt_D (by simp) (by decide +kernel) (by decide +kernel) (m_p C rfl (by decide +kernel) (by decide +kernel) (by decide +kernel)) (by decide) (by decide +kernel)))) (g_n C S rfl (by decide +kernel)) (s_one (s_if (w_pt (w_or (t_cmp C (o := .eq) rfl (h_e (m_biB C bl (call_lenD C.K.symm) (by simp) (by decide +kernel) (by decide +kernel) (m_p C rfl (by decide +kernel) (by decide +kernel) (by decide +kernel)) (by decide) (by decide +kernel))) (h_e m_int) (nomark _)) (w_or1 (t_cmp C (o := .ne) rfl (h_e (m_sub C (h_p C rfl (by decide +kernel) (by decide +kernel) (by decide +kernel)) (m_neg m_int) (fun _ _ => rfl))) (h_p C rfl (by decide +kernel) (by decide +kernel) (by decide +kernel)) (nomark _))))) (s_one (s_app C rfl (by decide +kernel) (by decide +kernel) (by decide +kernel) (m_v C rfl (by decide +kernel) (by decide +kernel) (by decide +kernel)))) s_nil))) (s_one (s_ret (m_comp C (own := [("_law_number", 2)]) (w_one (h_e (m_v C rfl (by decide +kernel) (by decide +kernel) (by decide +kernel)))) (by decide +kernel) rfl (fun X' C' S' => (g_n C' S' rfl (by decide +kernel))) (fun X' C' S' => if_no) (fun X' C' S' => (m_idx C' (h_p C' rfl (by decide +kernel) (by decide +kernel) (by decide +kernel)) (m_v C' rfl (by decide +kernel) (by decide +kernel) (by decide +kernel)))) (by decide))))))
theorem Hb.k__law_dense {R : Rc} (hh : Hb R) : PySem.W.keepIn R.K (.ref (He.ga R.K "_law_dense")) = true := let ⟨_, F⟩ := hh.d__law_dense; F.kp
theorem Hb.c__law_dense {R : Rc} (hh : Hb R) : Cal R (.ref (He.ga R.K "_law_dense")) 1 f__law_dense := by
  obtain ⟨fd, F⟩ := hh.d__law_dense
  exact (FnI.raw0 (fn_okD F sc__law_dense rfl rfl hh.txo (b__law_dense hh)) (F.bindsN (fun _ _ _ _ _ _ us hl => match us, hl with | [_], _ => rfl))).cal
theorem sc__law_rank : FnScope ["_law_draws_here", "_law_worlds", "_law_world"] ["_law_draws_here", "_law_worlds"] (defScope (top 44)) := ⟨rfl, rfl, rfl, by decide +kernel, rfl, by decide +kernel, by decide +kernel⟩
theorem b__law_rank {R : Rc} (hh : Hb R) : BodyOk R ["_law_draws_here", "_law_worlds", "_law_world"] (defScope (top 44)) 1 (defBody (top 44)) (fun _ => []) (sRet (mCall f__law_dense (mCons (mComp [2] (.n 2) (wR1 (mV 1)) tYes (mCall f__law_take (mCons (mV 0) (mCons (mV 1) mNil)))) mNil))) := fun X E v C S hp hk =>
  have bl := hh.bl
  (s_one (s_ret (m_call C hh.c__law_dense hh.g__law_dense hh.k__law_dense (by omega) (by decide +kernel) (a_cons (m_comp C (own := [("_law_world", 2)]) (w_r1 C bl (by decide +kernel) (m_v C rfl (by decide +kernel) (by decide +kernel) (by decide +kernel))) (by decide +kernel) rfl (fun X' C' S' => (g_n C' S' rfl (by decide +kernel))) (fun X' C' S' => if_no) (fun X' C' S' => (m_call C' hh.c__law_take hh.g__law_take hh.k__law_take (by omega) (by decide +kernel) (a_cons (m_v C' rfl (by decide +kernel) (by decide +kernel) (by decide +kernel)) (a_cons (m_v C' rfl (by decide +kernel) (by decide +kernel) (by decide +kernel)) a_nil)) (by decide +kernel))) (by decide)) a_nil) (by decide +kernel))))
theorem Hb.k__law_rank {R : Rc} (hh : Hb R) : PySem.W.keepIn R.K (.ref (He.ga R.K "_law_rank")) = true := let ⟨_, F⟩ := hh.d__law_rank; F.kp
theorem Hb.c__law_rank {R : Rc} (hh : Hb R) : Cal R (.ref (He.ga R.K "_law_rank")) 2 f__law_rank := by
  obtain ⟨fd, F⟩ := hh.d__law_rank
  exact (FnI.raw0 (fn_okD F sc__law_rank rfl rfl hh.txo (b__law_rank hh)) (F.bindsN (fun _ _ _ _ _ _ us hl => match us, hl with | [_, _], _ => rfl))).cal
theorem sc__law_cells : FnScope ["_law_levels", "_law_cells_here", "_law_level", "_law_world"] ["_law_levels"] (defScope (top 45)) := ⟨rfl, rfl, rfl, by decide +kernel, rfl, by decide +kernel, by decide +kernel⟩
theorem b__law_cells {R : Rc} (hh : Hb R) : BodyOk R ["_law_levels", "_law_cells_here", "_law_level", "_law_world"] (defScope (top 45)) 0 (defBody (top 45)) (fun _ => []) (sSeq (sOwn 1 (mLst mNil)) (sSeq (sFor (.n 2) (wR1 (mBin .add (mBi .max (mP 0)) (mK (.int 1)))) (sApp 1 (mBi .tuple (mComp [3] (.n 3) (wR1 (mBi .len (mP 0))) (tV (mCmp .eq (hE (mSub (hP 0) (mV 3))) (hP 2))) (mV 3))))) (sRet (mBi .tuple (mP 1))))) := fun X E v C S hp hk =>
  have bl := hh.bl
  (s_cons (s_own C S rfl (by decide +kernel) Zo.nil (f_lst a_nil)) (s_cons (s_for C hp (n_r1 _) (fun _ _ => Zo.nil) (w_r1 C bl (by decide +kernel) (m_bin C (o := .add) rfl (m_biB C bl (call_maxD C.calm) (by simp) (by decide +kernel) (by decide +kernel) (m_p C rfl (by decide +kernel) (by decide +kernel) (by decide +kernel)) (by decide) (by decide +kernel)) m_int)) (g_n C S rfl (by decide +kernel)) (s_one (s_app C rfl (by decide +kernel) (by decide +kernel) (by decide +kernel) (m_biT C bl (call_tupleD C.calm) (by simp) (by decide +kernel) (by decide +kernel) (p_e (m_comp C (own := [("_law_world", 3)]) (w_r1 C bl (by decide +kernel) (m_biB C bl (call_lenD C.K.symm) (by simp) (by decide +kernel) (by decide +kernel) (m_p C rfl (by decide +kernel) (by decide +kernel) (by decide +kernel)) (by decide) (by decide +kernel))) (by decide +kernel) rfl (fun X' C' S' => (g_n C' S' rfl (by decide +kernel))) (fun X' C' S' => (if_one (t_cmp C' (o := .eq) rfl (h_e (m_sub C' (h_p C' rfl (by decide +kernel) (by decide +kernel) (by decide +kernel)) (m_v C' rfl (by decide +kernel) (by decide +kernel) (by decide +kernel)) (fun _ _ => rfl))) (h_p C' rfl (by decide +kernel) (by decide +kernel) (by decide +kernel)) (nomark _)))) (fun X' C' S' => (m_v C' rfl (by decide +kernel) (by decide +kernel) (by decide +kernel))) (by decide))) (by decide) (by decide +kernel))))) (s_one (s_ret (m_biT C bl (call_tupleD C.calm) (by simp) (by decide +kernel) (by decide +kernel) (m_p C rfl (by decide +kernel) (by decide +kernel) (by decide +kernel)) (by decide) (by decide +kernel))))))
theorem Hb.k__law_cells {R : Rc} (hh : Hb R) : PySem.W.keepIn R.K (.ref (He.ga R.K "_law_cells")) = true := let ⟨_, F⟩ := hh.d__law_cells; F.kp
theorem Hb.c__law_cells {R : Rc} (hh : Hb R) : Cal R (.ref (He.ga R.K "_law_cells")) 1 f__law_cells := by
  obtain ⟨fd, F⟩ := hh.d__law_cells
  exact (FnI.raw0 (fn_okD F sc__law_cells rfl rfl hh.txo (b__law_cells hh)) (F.bindsN (fun _ _ _ _ _ _ us hl => match us, hl with | [_], _ => rfl))).cal
theorem sc__law_best : FnScope ["_law_levels", "_law_lot_here", "_law_least", "_law_world"] ["_law_levels", "_law_lot_here"] (defScope (top 46)) := ⟨rfl, rfl, rfl, by decide +kernel, rfl, by decide +kernel, by decide +kernel⟩
theorem b__law_best {R : Rc} (hh : Hb R) : BodyOk R ["_law_levels", "_law_lot_here", "_law_least", "_law_world"] (defScope (top 46)) 0 (defBody (top 46)) (fun _ => []) (sSeq (sSet 2 (mBi .min (mComp [3] (.n 3) (wOne (hE (mV 1))) tYes (mSub (hP 0) (mV 3))))) (sRet (mBi .tuple (mComp [3] (.n 3) (wOne (hE (mV 1))) (tV (mCmp .eq (hE (mSub (hP 0) (mV 3))) (hP 2))) (mV 3))))) := fun X E v C S hp hk =>
  have bl := hh.bl
  (s_cons (s_set C S rfl (by decide +kernel) Zo.nil (m_biB C bl (call_minD C.calm) (by simp) (by decide +kernel) (by decide +kernel) (p_e (m_comp C (own := [("_law_world", 3)]) (w_one (h_e (m_v C rfl (by decide +kernel) (by decide +kernel) (by decide +kernel)))) (by decide +kernel) rfl (fun X' C' S' => (g_n C' S' rfl (by decide +kernel))) (fun X' C' S' => if_no) (fun X' C' S' => (m_sub C' (h_p C' rfl (by decide +kernel) (by decide +kernel) (by decide +kernel)) (m_v C' rfl (by decide +kernel) (by decide +kernel) (by decide +kernel)) (fun _ _ => rfl))) (by decide))) (by decide) (by decide +kernel))) (s_one (s_ret (m_biT C bl (call_tupleD C.calm) (by simp) (by decide +kernel) (by decide +kernel) (p_e (m_comp C (own := [("_law_world", 3)]) (w_one (h_e (m_v C rfl (by decide +kernel) (by decide +kernel) (by decide +kernel)))) (by decide +kernel) rfl (fun X' C' S' => (g_n C' S' rfl (by decide +kernel))) (fun X' C' S' => (if_one (t_cmp C' (o := .eq) rfl (h_e (m_sub C' (h_p C' rfl (by decide +kernel) (by decide +kernel) (by decide +kernel)) (m_v C' rfl (by decide +kernel) (by decide +kernel) (by decide +kernel)) (fun _ _ => rfl))) (h_p C' rfl (by decide +kernel) (by decide +kernel) (by decide +kernel)) (nomark _)))) (fun X' C' S' => (m_v C' rfl (by decide +kernel) (by decide +kernel) (by decide +kernel))) (by decide))) (by decide) (by decide +kernel)))))
theorem Hb.k__law_best {R : Rc} (hh : Hb R) : PySem.W.keepIn R.K (.ref (He.ga R.K "_law_best")) = true := let ⟨_, F⟩ := hh.d__law_best; F.kp
theorem Hb.c__law_best {R : Rc} (hh : Hb R) : Cal R (.ref (He.ga R.K "_law_best")) 1 f__law_best := by
  obtain ⟨fd, F⟩ := hh.d__law_best
  exact (FnI.raw0 (fn_okD F sc__law_best rfl rfl hh.txo (b__law_best hh)) (F.bindsN (fun _ _ _ _ _ _ us hl => match us, hl with | [_, _], _ => rfl))).cal
theorem sc__law_held : FnScope ["_law_levels", "_law_world"] ["_law_levels"] (defScope (top 47)) := ⟨rfl, rfl, rfl, by decide +kernel, rfl, by decide +kernel, by decide +kernel⟩
theorem b__law_held {R : Rc} (hh : Hb R) : BodyOk R ["_law_levels", "_law_world"] (defScope (top 47)) 0 (defBody (top 47)) (fun _ => []) (sRet (mBi .tuple (mComp [1] (.n 1) (wR1 (mBi .len (mP 0))) (tV (mCmp .eq (hE (mSub (hP 0) (mV 1))) (hE (mK (.int 0))))) (mV 1)))) := fun X E v C S hp hk =>
  have bl := hh.bl
  (s_one (s_ret (m_biT C bl (call_tupleD C.calm) (by simp) (by decide +kernel) (by decide +kernel) (p_e (m_comp C (own := [("_law_world", 1)]) (w_r1 C bl (by decide +kernel) (m_biB C bl (call_lenD C.K.symm) (by simp) (by decide +kernel) (by decide +kernel) (m_p C rfl (by decide +kernel) (by decide +kernel) (by decide +kernel)) (by decide) (by decide +kernel))) (by decide +kernel) rfl (fun X' C' S' => (g_n C' S' rfl (by decide +kernel))) (fun X' C' S' => (if_one (t_cmp C' (o := .eq) rfl (h_e (m_sub C' (h_p C' rfl (by decide +kernel) (by decide +kernel) (by decide +kernel)) (m_v C' rfl (by decide +kernel) (by decide +kernel) (by decide +kernel)) (fun _ _ => rfl))) (h_e m_int) (nomark _)))) (fun X' C' S' => (m_v C' rfl (by decide +kernel) (by decide +kernel) (by decide +kernel))) (by decide))) (by decide) (by decide +kernel))))
theorem Hb.k__law_held {R : Rc} (hh : Hb R) : PySem.W.keepIn R.K (.ref (He.ga R.K "_law_held")) = true := let ⟨_, F⟩ := hh.d__law_held; F.kp
theorem Hb.c__law_held {R : Rc} (hh : Hb R) : Cal R (.ref (He.ga R.K "_law_held")) 1 f__law_held := by
  obtain ⟨fd, F⟩ := hh.d__law_held
  exact (FnI.raw0 (fn_okD F sc__law_held rfl rfl hh.txo (b__law_held hh)) (F.bindsN (fun _ _ _ _ _ _ us hl => match us, hl with | [_], _ => rfl))).cal
theorem sc__law_product : FnScope ["_law_one", "_law_other", "_law_size", "_law_world"] ["_law_one", "_law_other"] (defScope (top 48)) := ⟨rfl, rfl, rfl, by decide +kernel, rfl, by decide +kernel, by decide +kernel⟩
theorem b__law_product {R : Rc} (hh : Hb R) : BodyOk R ["_law_one", "_law_other", "_law_size", "_law_world"] (defScope (top 48)) 1 (defBody (top 48)) (fun _ => []) (sSeq (sSet 2 (mBin .add (mBi .len (mP 0)) (mK (.int 1)))) (sRet (mCall f__law_dense (mCons (mComp [3] (.n 3) (wR1 (mBi .len (mP 0))) tYes (mBin .add (mBin .mul (mSub (hP 0) (mV 3)) (mV 2)) (mSub (hP 1) (mV 3)))) mNil)))) := fun X E v C S hp hk =>
  have bl := hh.bl
  (s_cons (s_set C S rfl (by decide +kernel) Zo.nil (m_bin C (o := .add) rfl (m_biB C bl (call_lenD C.K.symm) (by simp) (by decide +kernel) (by decide +kernel) (m_p C rfl (by decide +kernel) (by decide +kernel) (by decide +kernel)) (by decide) (by decide +kernel)) m_int)) (s_one (s_ret (m_call C hh.c__law_dense hh.g__law_dense hh.k__law_dense (by omega) (by decide +kernel) (a_cons (m_comp C (own := [("_law_world", 3)]) (w_r1 C bl (by decide +kernel) (m_biB C bl (call_lenD C.K.symm) (by simp) (by decide +kernel) (by decide +kernel) (m_p C rfl (by decide +kernel) (by decide +kernel) (by decide +kernel)) (by decide) (by decide +kernel))) (by decide +kernel) rfl (fun X' C' S' => (g_n C' S' rfl (by decide +kernel))) (fun X' C' S' => if_no) (fun X' C' S' => (m_bin C' (o := .add) rfl (m_bin C' (o := .mul) rfl (m_sub C' (h_p C' rfl (by decide +kernel) (by decide +kernel) (by decide +kernel)) (m_v C' rfl (by decide +kernel) (by decide +kernel) (by decide +kernel)) (fun _ _ => rfl)) (m_v C' rfl (by decide +kernel) (by decide +kernel) (by decide +kernel))) (m_sub C' (h_p C' rfl (by decide +kernel) (by decide +kernel) (by decide +kernel)) (m_v C' rfl (by decide +kernel) (by decide +kernel) (by decide +kernel)) (fun _ _ => rfl)))) (by decide)) a_nil) (by decide +kernel)))))
theorem Hb.k__law_product {R : Rc} (hh : Hb R) : PySem.W.keepIn R.K (.ref (He.ga R.K "_law_product")) = true := let ⟨_, F⟩ := hh.d__law_product; F.kp
theorem Hb.c__law_product {R : Rc} (hh : Hb R) : Cal R (.ref (He.ga R.K "_law_product")) 2 f__law_product := by
  obtain ⟨fd, F⟩ := hh.d__law_product
  exact (FnI.raw0 (fn_okD F sc__law_product rfl rfl hh.txo (b__law_product hh)) (F.bindsN (fun _ _ _ _ _ _ us hl => match us, hl with | [_, _], _ => rfl))).cal
theorem sc__law_turn : FnScope ["_law_levels", "_law_word", "_law_lot_here", "_law_worlds", "_law_away", "_law_world", "_law_best_here", "_law_numbers", "_law_level", "_law_at", "_law_first", "_law_bound"] ["_law_levels", "_law_word", "_law_lot_here"] (defScope (top 49)) := ⟨rfl, rfl, rfl, by decide +kernel, rfl, by decide +kernel, by decide +kernel⟩
theorem b__law_turn {R : Rc} (hh : Hb R) : BodyOk R ["_law_levels", "_law_word", "_law_lot_here", "_law_worlds", "_law_away", "_law_world", "_law_best_here", "_law_numbers", "_law_level", "_law_at", "_law_first", "_law_bound"] (defScope (top 49)) 2 (defBody (top 49)) (fun _ => []) (sSeq (sSet 3 (mBi .len (mP 0))) (sSeq (sIf (tV (mCmp .eq (hP 1) (hE (mK (.str 4))))) (sSeq (sSet 4 (mComp [5] (.n 5) (wR1 (mV 3)) tYes (mIf (tV (mCmp .mem (hP 5) (hP 2))) (mK (.int 0)) (mK (.int 1))))) (sRet (mCall f__law_product (mCons (mV 4) (mCons (mV 0) mNil))))) sNil) (sSeq (sIf (tOr (tV (mCmp .eq (hP 1) (hE (mK (.str 5))))) (tV (mCmp .eq (hP 1) (hE (mK (.str 6)))))) (sSeq (sSet 6 (mCall f__law_best (mCons (mV 0) (mCons (mV 2) mNil)))) (sSeq sNev (sSeq (sIf (tV (mCmp .eq (hP 1) (hE (mK (.str 6))))) sNev sNil) (sRet (mCall f__law_dense (mCons (mComp [9] (.n 9) (wR1 (mV 3)) tYes (mIf (tV (mCmp .mem (hP 9) (hP 6))) (mNeg (mK (.int 1))) (mSub (hP 7) (mV 9)))) mNil)))))) sNil) (sSeq (sIf (tOr (tV (mCmp .eq (hP 1) (hE (mK (.str 7))))) (tV (mCmp .eq (hP 1) (hE (mK (.str 8)))))) (sSeq (sIf (tNot (tV (mCall f__law_inside (mCons (mCall f__law_held (mCons (mV 0) mNil)) (mCons (mV 2) mNil))))) (sRet (mBi .list (mP 0))) sNil) (sSeq (sSet 6 (mCall f__law_best (mCons (mV 0) (mCons (mCall f__law_rest (mCons (mV 2) (mCons (mV 3) mNil))) mNil)))) (sSeq (sSet 10 (mCall f__law_plus (mCons (mCall f__law_held (mCons (mV 0) mNil)) (mCons (mV 6) mNil)))) (sSeq (sIf (tV (mCmp .eq (hP 1) (hE (mK (.str 8))))) (sSeq (sSet 11 (mSub (hP 0) (mSub (hP 6) (mK (.int 0))))) (sSet 10 (mBi .tuple (mComp [9] (.n 9) (wR1 (mV 3)) (tV (mCmp .le (hE (mSub (hP 0) (mV 9))) (hP 11))) (mV 9))))) sNil) (sRet (mCall f__law_dense (mCons (mComp [9] (.n 9) (wR1 (mV 3)) tYes (mIf (tV (mCmp .mem (hP 9) (hP 10))) (mNeg (mK (.int 1))) (mSub (hP 0) (mV 9)))) mNil))))))) sNil) (sRet (mBi .list (mP 0))))))) := fun X E v C S hp hk =>
  have bl := hh.bl
  (s_cons (s_set C S rfl (by decide +kernel) Zo.nil (m_biB C bl (call_lenD C.K.symm) (by simp) (by decide +kernel) (by decide +kernel) (m_p C rfl (by decide +kernel) (by decide +kernel) (by decide +kernel)) (by decide) (by decide +kernel))) (s_cons (s_if (t_cmp C (o := .eq) rfl (h_p C rfl (by decide +kernel) (by decide +kernel) (by decide +kernel)) (h_e (m_str (hh.tx 4 rfl))) (nomark _)) (s_cons (s_setC C S rfl (by decide +kernel) Zo.nil (sw_ok C.esc (by decide +kernel) (by decide +kernel) (by decide +kernel) (by decide +kernel)) (own := [("_law_world", 5)]) (w_r1 C bl (by decide +kernel) (m_v C rfl (by decide +kernel) (by decide +kernel) (by decide +kernel))) (by decide +kernel) rfl (fun X' C' S' => (g_n C' S' rfl (by decide +kernel))) (fun X' C' S' => if_no) (fun X' C' S' => (m_if (t_cmp C' (o := .mem) rfl (h_p C' rfl (by decide +kernel) (by decide +kernel) (by decide +kernel)) (h_p C' rfl (by decide +kernel) (by decide +kernel) (by decide +kernel)) (by with_unfolding_all rfl)) m_int m_int)) (by decide)) (s_one (s_ret (m_call C hh.c__law_product hh.g__law_product hh.k__law_product (by omega) (by decide +kernel) (a_cons (m_v C rfl (by decide +kernel) (by decide +kernel) (by decide +kernel)) (a_cons (m_v C rfl (by decide +kernel) (by decide +kernel) (by decide +kernel)) a_nil)) (by decide +kernel))))) s_nil) (s_cons (s_if (w_pt (w_or (t_cmp C (o := .eq) rfl (h_p C rfl (by decide +kernel) (by decide +kernel) (by decide +kernel)) (h_e (m_str (hh.tx 5 rfl))) (nomark _)) (w_or1 (t_cmp C (o := .eq) rfl (h_p C rfl (by decide +kernel) (by decide +kernel) (by decide +kernel)) (h_e (m_str (hh.tx 6 rfl))) (nomark _))))) (s_cons (s_set C S rfl (by decide +kernel) Zo.nil (m_call C hh.c__law_best hh.g__law_best hh.k__law_best (by omega) (by decide +kernel) (a_cons (m_v C rfl (by decide +kernel) (by decide +kernel) (by decide +kernel)) (a_cons (m_v C rfl (by decide +kernel) (by decide +kernel) (by decide +kernel)) a_nil)) (by decide +kernel))) (s_cons s_nev (s_cons (s_if (t_cmp C (o := .eq) rfl (h_p C rfl (by decide +kernel) (by decide +kernel) (by decide +kernel)) (h_e (m_str (hh.tx 6 rfl))) (nomark _)) (s_one s_nev) s_nil) (s_one (s_ret (m_call C hh.c__law_dense hh.g__law_dense hh.k__law_dense (by omega) (by decide +kernel) (a_cons (m_comp C (own := [("_law_at", 9)]) (w_r1 C bl (by decide +kernel) (m_v C rfl (by decide +kernel) (by decide +kernel) (by decide +kernel))) (by decide +kernel) rfl (fun X' C' S' => (g_n C' S' rfl (by decide +kernel))) (fun X' C' S' => if_no) (fun X' C' S' => (m_if (t_cmp C' (o := .mem) rfl (h_p C' rfl (by decide +kernel) (by decide +kernel) (by decide +kernel)) (h_p C' rfl (by decide +kernel) (by decide +kernel) (by decide +kernel)) (by with_unfolding_all rfl)) (m_neg m_int) (m_sub C' (h_p C' rfl (by decide +kernel) (by decide +kernel) (by decide +kernel)) (m_v C' rfl (by decide +kernel) (by decide +kernel) (by decide +kernel)) (fun _ _ => rfl)))) (by decide)) a_nil) (by decide +kernel))))))) s_nil) (s_cons (s_if (w_pt (w_or (t_cmp C (o := .eq) rfl (h_p C rfl (by decide +kernel) (by decide +kernel) (by decide +kernel)) (h_e (m_str (hh.tx 7 rfl))) (nomark _)) (w_or1 (t_cmp C (o := .eq) rfl (h_p C rfl (by decide +kernel) (by decide +kernel) (by decide +kernel)) (h_e (m_str (hh.tx 8 rfl))) (nomark _))))) (s_cons (s_if (t_not (t_v (p_e (m_call C hh.c__law_inside hh.g__law_inside hh.k__law_inside (by omega) (by decide +kernel) (a_cons (m_call C hh.c__law_held hh.g__law_held hh.k__law_held (by omega) (by decide +kernel) (a_cons (m_v C rfl (by decide +kernel) (by decide +kernel) (by decide +kernel)) a_nil) (by decide +kernel)) (a_cons (m_v C rfl (by decide +kernel) (by decide +kernel) (by decide +kernel)) a_nil)) (by decide +kernel))) (fun _ => rfl))) (s_one (s_ret (m_biT C bl (call_listD C.calm) (by simp) (by decide +kernel) (by decide +kernel) (m_p C rfl (by decide +kernel) (by decide +kernel) (by decide +kernel)) (by decide) (by decide +kernel)))) s_nil) (s_cons (s_set C S rfl (by decide +kernel) Zo.nil (m_call C hh.c__law_best hh.g__law_best hh.k__law_best (by omega) (by decide +kernel) (a_cons (m_v C rfl (by decide +kernel) (by decide +kernel) (by decide +kernel)) (a_cons (m_call C hh.c__law_rest hh.g__law_rest hh.k__law_rest (by omega) (by decide +kernel) (a_cons (m_v C rfl (by decide +kernel) (by decide +kernel) (by decide +kernel)) (a_cons (m_v C rfl (by decide +kernel) (by decide +kernel) (by decide +kernel)) a_nil)) (by decide +kernel)) a_nil)) (by decide +kernel))) (s_cons (s_set C S rfl (by decide +kernel) Zo.nil (m_call C hh.c__law_plus hh.g__law_plus hh.k__law_plus (by omega) (by decide +kernel) (a_cons (m_call C hh.c__law_held hh.g__law_held hh.k__law_held (by omega) (by decide +kernel) (a_cons (m_v C rfl (by decide +kernel) (by decide +kernel) (by decide +kernel)) a_nil) (by decide +kernel)) (a_cons (m_v C rfl (by decide +kernel) (by decide +kernel) (by decide +kernel)) a_nil)) (by decide +kernel))) (s_cons (s_if (t_cmp C (o := .eq) rfl (h_p C rfl (by decide +kernel) (by decide +kernel) (by decide +kernel)) (h_e (m_str (hh.tx 8 rfl))) (nomark _)) (s_cons (s_set C S rfl (by decide +kernel) Zo.nil (m_sub C (h_p C rfl (by decide +kernel) (by decide +kernel) (by decide +kernel)) (m_sub C (h_p C rfl (by decide +kernel) (by decide +kernel) (by decide +kernel)) m_int (fun _ _ => rfl)) (fun _ _ => rfl))) (s_one (s_set C S rfl (by decide +kernel) Zo.nil (m_biT C bl (call_tupleD C.calm) (by simp) (by decide +kernel) (by decide +kernel) (p_e (m_comp C (own := [("_law_at", 9)]) (w_r1 C bl (by decide +kernel) (m_v C rfl (by decide +kernel) (by decide +kernel) (by decide +kernel))) (by decide +kernel) rfl (fun X' C' S' => (g_n C' S' rfl (by decide +kernel))) (fun X' C' S' => (if_one (t_cmp C' (o := .le) rfl (h_e (m_sub C' (h_p C' rfl (by decide +kernel) (by decide +kernel) (by decide +kernel)) (m_v C' rfl (by decide +kernel) (by decide +kernel) (by decide +kernel)) (fun _ _ => rfl))) (h_p C' rfl (by decide +kernel) (by decide +kernel) (by decide +kernel)) (nomark _)))) (fun X' C' S' => (m_v C' rfl (by decide +kernel) (by decide +kernel) (by decide +kernel))) (by decide))) (by decide) (by decide +kernel))))) s_nil) (s_one (s_ret (m_call C hh.c__law_dense hh.g__law_dense hh.k__law_dense (by omega) (by decide +kernel) (a_cons (m_comp C (own := [("_law_at", 9)]) (w_r1 C bl (by decide +kernel) (m_v C rfl (by decide +kernel) (by decide +kernel) (by decide +kernel))) (by decide +kernel) rfl (fun X' C' S' => (g_n C' S' rfl (by decide +kernel))) (fun X' C' S' => if_no) (fun X' C' S' => (m_if (t_cmp C' (o := .mem) rfl (h_p C' rfl (by decide +kernel) (by decide +kernel) (by decide +kernel)) (h_p C' rfl (by decide +kernel) (by decide +kernel) (by decide +kernel)) (by with_unfolding_all rfl)) (m_neg m_int) (m_sub C' (h_p C' rfl (by decide +kernel) (by decide +kernel) (by decide +kernel)) (m_v C' rfl (by decide +kernel) (by decide +kernel) (by decide +kernel)) (fun _ _ => rfl)))) (by decide)) a_nil) (by decide +kernel)))))))) s_nil) (s_one (s_ret (m_biT C bl (call_listD C.calm) (by simp) (by decide +kernel) (by decide +kernel) (m_p C rfl (by decide +kernel) (by decide +kernel) (by decide +kernel)) (by decide) (by decide +kernel))))))))
theorem Hb.k__law_turn {R : Rc} (hh : Hb R) : PySem.W.keepIn R.K (.ref (He.ga R.K "_law_turn")) = true := let ⟨_, F⟩ := hh.d__law_turn; F.kp
theorem Hb.c__law_turn {R : Rc} (hh : Hb R) : Cal R (.ref (He.ga R.K "_law_turn")) 3 f__law_turn := by
  obtain ⟨fd, F⟩ := hh.d__law_turn
  exact (FnI.raw0 (fn_okD F sc__law_turn rfl rfl hh.txo (b__law_turn hh)) (F.bindsN (fun _ _ _ _ _ _ us hl => match us, hl with | [_, _, _], _ => rfl))).cal
theorem sc__law_is_rank : FnScope ["_law_told", "_law_levels"] ["_law_told", "_law_levels"] (defScope (top 50)) := ⟨rfl, rfl, rfl, by decide +kernel, rfl, by decide +kernel, by decide +kernel⟩
theorem b__law_is_rank {R : Rc} (hh : Hb R) : BodyOk R ["_law_told", "_law_levels"] (defScope (top 50)) 1 (defBody (top 50)) (fun _ => []) (sSeq (sIf (tOr (tNot (tV (mIsa [(.cls 6)] (mP 0)))) (tV (mCmp .ne (hE (mAtt 2 (mV 0))) (hE (mBi .len (mP 1)))))) (sRet (mK (.bl false))) sNil) (sRet (mAnd (mCmp .eq (hE (mAtt 4 (mV 0))) (hE (mBi .tuple (mP 1)))) (mCmp .eq (hE (mAtt 3 (mV 0))) (hE (mCall f__law_cells (mCons (mV 1) mNil))))))) := fun X E v C S hp hk =>
  have bl := hh.bl
  (s_cons (s_if (w_pt (w_or (t_not (t_v (p_e (m_isa C bl hh.ins (t := (.cls 6)) hh.is_Rank (by decide +kernel) (m_p C rfl (by decide +kernel) (by decide +kernel) (by decide +kernel)) (pe_clN C hh.g_Rank (by decide +kernel) (by decide +kernel)) (by decide +kernel))) (fun _ => rfl))) (w_or1 (t_cmp C (o := .ne) rfl (h_e (m_att C hh.at_worlds (m_v C rfl (by decide +kernel) (by decide +kernel) (by decide +kernel)))) (h_e (m_biB C bl (call_lenD C.K.symm) (by simp) (by decide +kernel) (by decide +kernel) (m_p C rfl (by decide +kernel) (by decide +kernel) (by decide +kernel)) (by decide) (by decide +kernel))) (nomark _))))) (s_one (s_ret m_bl)) s_nil) (s_one (s_ret (m_and (m_cmp C (o := .eq) rfl (h_e (m_att C hh.at_levels (m_v C rfl (by decide +kernel) (by decide +kernel) (by decide +kernel)))) (h_e (m_biT C bl (call_tupleD C.calm) (by simp) (by decide +kernel) (by decide +kernel) (m_p C rfl (by decide +kernel) (by decide +kernel) (by decide +kernel)) (by decide) (by decide +kernel))) (nomark _)) (m_and1 (m_cmp C (o := .eq) rfl (h_e (m_att C hh.at_cells (m_v C rfl (by decide +kernel) (by decide +kernel) (by decide +kernel)))) (h_e (m_call C hh.c__law_cells hh.g__law_cells hh.k__law_cells (by omega) (by decide +kernel) (a_cons (m_v C rfl (by decide +kernel) (by decide +kernel) (by decide +kernel)) a_nil) (by decide +kernel))) (nomark _)))))))
theorem Hb.k__law_is_rank {R : Rc} (hh : Hb R) : PySem.W.keepIn R.K (.ref (He.ga R.K "_law_is_rank")) = true := let ⟨_, F⟩ := hh.d__law_is_rank; F.kp
theorem Hb.c__law_is_rank {R : Rc} (hh : Hb R) : Cal R (.ref (He.ga R.K "_law_is_rank")) 2 f__law_is_rank := by
  obtain ⟨fd, F⟩ := hh.d__law_is_rank
  exact (FnI.raw0 (fn_okD F sc__law_is_rank rfl rfl hh.txo (b__law_is_rank hh)) (F.bindsN (fun _ _ _ _ _ _ us hl => match us, hl with | [_, _], _ => rfl))).cal
theorem sc__law_finer : FnScope ["_law_one", "_law_other", "_law_x", "_law_y"] ["_law_one", "_law_other"] (defScope (top 51)) := ⟨rfl, rfl, rfl, by decide +kernel, rfl, by decide +kernel, by decide +kernel⟩
theorem b__law_finer {R : Rc} (hh : Hb R) : BodyOk R ["_law_one", "_law_other", "_law_x", "_law_y"] (defScope (top 51)) 0 (defBody (top 51)) (fun _ => []) (sSeq (sFor (.n 2) (wR1 (mBi .len (mP 0))) (sFor (.n 3) (wR1 (mBi .len (mP 0))) (sIf (tAnd (tV (mCmp .eq (hE (mSub (hP 0) (mV 2))) (hE (mSub (hP 0) (mV 3))))) (tV (mCmp .ne (hE (mSub (hP 1) (mV 2))) (hE (mSub (hP 1) (mV 3)))))) (sRet (mK (.bl false))) sNil))) (sRet (mK (.bl true)))) := fun X E v C S hp hk =>
  have bl := hh.bl
  (s_cons (s_for C hp (n_r1 _) (fun _ _ => Zo.nil) (w_r1 C bl (by decide +kernel) (m_biB C bl (call_lenD C.K.symm) (by simp) (by decide +kernel) (by decide +kernel) (m_p C rfl (by decide +kernel) (by decide +kernel) (by decide +kernel)) (by decide) (by decide +kernel))) (g_n C S rfl (by decide +kernel)) (s_one (s_for C hp (n_r1 _) (fun _ _ => Zo.nil) (w_r1 C bl (by decide +kernel) (m_biB C bl (call_lenD C.K.symm) (by simp) (by decide +kernel) (by decide +kernel) (m_p C rfl (by decide +kernel) (by decide +kernel) (by decide +kernel)) (by decide) (by decide +kernel))) (g_n C S rfl (by decide +kernel)) (s_one (s_if (w_pt (w_and (t_cmp C (o := .eq) rfl (h_e (m_sub C (h_p C rfl (by decide +kernel) (by decide +kernel) (by decide +kernel)) (m_v C rfl (by decide +kernel) (by decide +kernel) (by decide +kernel)) (fun _ _ => rfl))) (h_e (m_sub C (h_p C rfl (by decide +kernel) (by decide +kernel) (by decide +kernel)) (m_v C rfl (by decide +kernel) (by decide +kernel) (by decide +kernel)) (fun _ _ => rfl))) (nomark _)) (w_and1 (t_cmp C (o := .ne) rfl (h_e (m_sub C (h_p C rfl (by decide +kernel) (by decide +kernel) (by decide +kernel)) (m_v C rfl (by decide +kernel) (by decide +kernel) (by decide +kernel)) (fun _ _ => rfl))) (h_e (m_sub C (h_p C rfl (by decide +kernel) (by decide +kernel) (by decide +kernel)) (m_v C rfl (by decide +kernel) (by decide +kernel) (by decide +kernel)) (fun _ _ => rfl))) (nomark _))))) (s_one (s_ret m_bl)) s_nil))))) (s_one (s_ret m_bl)))
theorem Hb.k__law_finer {R : Rc} (hh : Hb R) : PySem.W.keepIn R.K (.ref (He.ga R.K "_law_finer")) = true := let ⟨_, F⟩ := hh.d__law_finer; F.kp
theorem Hb.c__law_finer {R : Rc} (hh : Hb R) : Cal R (.ref (He.ga R.K "_law_finer")) 1 f__law_finer := by
  obtain ⟨fd, F⟩ := hh.d__law_finer
  exact (FnI.raw0 (fn_okD F sc__law_finer rfl rfl hh.txo (b__law_finer hh)) (F.bindsN (fun _ _ _ _ _ _ us hl => match us, hl with | [_, _], _ => rfl))).cal
theorem sc__law_joined : FnScope ["_law_draws_here", "_law_levels", "_law_at", "_law_level"] ["_law_draws_here", "_law_levels"] (defScope (top 52)) := ⟨rfl, rfl, rfl, by decide +kernel, rfl, by decide +kernel, by decide +kernel⟩
theorem b__law_joined {R : Rc} (hh : Hb R) : BodyOk R ["_law_draws_here", "_law_levels", "_law_at", "_law_level"] (defScope (top 52)) 1 (defBody (top 52)) (fun _ => []) (sSeq (sSet 2 (mCall f__law_take (mCons (mV 0) (mCons (mBin .add (mBi .max (mP 1)) (mK (.int 1))) mNil)))) (sRet (mCall f__law_dense (mCons (mComp [3] (.n 3) (wOne (hE (mV 1))) tYes (mIf (tV (mCmp .gt (hP 3) (hP 2))) (mBin .sub (mV 3) (mK (.int 1))) (mV 3))) mNil)))) := fun X E v C S hp hk =>
  have bl := hh.bl
  (s_cons (s_set C S rfl (by decide +kernel) Zo.nil (m_call C hh.c__law_take hh.g__law_take hh.k__law_take (by omega) (by decide +kernel) (a_cons (m_v C rfl (by decide +kernel) (by decide +kernel) (by decide +kernel)) (a_cons (m_bin C (o := .add) rfl (m_biB C bl (call_maxD C.calm) (by simp) (by decide +kernel) (by decide +kernel) (m_p C rfl (by decide +kernel) (by decide +kernel) (by decide +kernel)) (by decide) (by decide +kernel)) m_int) a_nil)) (by decide +kernel))) (s_one (s_ret (m_call C hh.c__law_dense hh.g__law_dense hh.k__law_dense (by omega) (by decide +kernel) (a_cons (m_comp C (own := [("_law_level", 3)]) (w_one (h_e (m_v C rfl (by decide +kernel) (by decide +kernel) (by decide +kernel)))) (by decide +kernel) rfl (fun X' C' S' => (g_n C' S' rfl (by decide +kernel))) (fun X' C' S' => if_no) (fun X' C' S' => (m_if (t_cmp C' (o := .gt) rfl (h_p C' rfl (by decide +kernel) (by decide +kernel) (by decide +kernel)) (h_p C' rfl (by decide +kernel) (by decide +kernel) (by decide +kernel)) (nomark _)) (m_bin C' (o := .sub) rfl (m_v C' rfl (by decide +kernel) (by decide +kernel) (by decide +kernel)) m_int) (m_v C' rfl (by decide +kernel) (by decide +kernel) (by decide +kernel)))) (by decide)) a_nil) (by decide +kernel)))))
theorem Hb.k__law_joined {R : Rc} (hh : Hb R) : PySem.W.keepIn R.K (.ref (He.ga R.K "_law_joined")) = true := let ⟨_, F⟩ := hh.d__law_joined; F.kp
theorem Hb.c__law_joined {R : Rc} (hh : Hb R) : Cal R (.ref (He.ga R.K "_law_joined")) 2 f__law_joined := by
  obtain ⟨fd, F⟩ := hh.d__law_joined
  exact (FnI.raw0 (fn_okD F sc__law_joined rfl rfl hh.txo (b__law_joined hh)) (F.bindsN (fun _ _ _ _ _ _ us hl => match us, hl with | [_, _], _ => rfl))).cal
theorem sc__law_goal : FnScope ["_law_draws_here", "_law_levels", "_law_leads", "_law_kind", "_law_goal_here", "_law_lot_here"] ["_law_draws_here", "_law_levels", "_law_leads", "_law_kind"] (defScope (top 53)) := ⟨rfl, rfl, rfl, by decide +kernel, rfl, by decide +kernel, by decide +kernel⟩
theorem b__law_goal {R : Rc} (hh : Hb R) : BodyOk R ["_law_draws_here", "_law_levels", "_law_leads", "_law_kind", "_law_goal_here", "_law_lot_here"] (defScope (top 53)) 3 (defBody (top 53)) (fun _ => []) (sSeq (sSet 4 (mBi .list (mP 1))) (sSeq (sIf (tV (mCmp .eq (hP 3) (hE (mK (.int 1))))) (sRet (mCall f__law_product (mCons (mCall f__law_rank (mCons (mV 0) (mCons (mBi .len (mP 1)) mNil))) (mCons (mV 1) mNil)))) sNil) (sSeq (sIf (tV (mCmp .eq (hP 3) (hE (mK (.int 2))))) (sRet (mCall f__law_rank (mCons (mV 0) (mCons (mBi .len (mP 1)) mNil)))) sNil) (sSeq (sIf (tV (mCmp .eq (hP 3) (hE (mK (.int 4))))) (sRet (mV 4)) sNil) (sSeq (sFor (.n 5) (wOne (hE (mV 2))) (sSet 4 (mCall f__law_turn (mCons (mV 4) (mCons (mK (.str 4)) (mCons (mV 5) mNil)))))) (sSeq (sIf (tV (mCmp .eq (hP 3) (hE (mK (.int 3))))) (sSet 4 (mCall f__law_joined (mCons (mV 0) (mCons (mV 4) mNil)))) sNil) (sRet (mV 4)))))))) := fun X E v C S hp hk =>
  have bl := hh.bl
  (s_cons (s_set C S rfl (by decide +kernel) Zo.nil (m_biT C bl (call_listD C.calm) (by simp) (by decide +kernel) (by decide +kernel) (m_p C rfl (by decide +kernel) (by decide +kernel) (by decide +kernel)) (by decide) (by decide +kernel))) (s_cons (s_if (t_cmp C (o := .eq) rfl (h_p C rfl (by decide +kernel) (by decide +kernel) (by decide +kernel)) (h_e m_int) (nomark _)) (s_one (s_ret (m_call C hh.c__law_product hh.g__law_product hh.k__law_product (by omega) (by decide +kernel) (a_cons (m_call C hh.c__law_rank hh.g__law_rank hh.k__law_rank (by omega) (by decide +kernel) (a_cons (m_v C rfl (by decide +kernel) (by decide +kernel) (by decide +kernel)) (a_cons (m_biB C bl (call_lenD C.K.symm) (by simp) (by decide +kernel) (by decide +kernel) (m_p C rfl (by decide +kernel) (by decide +kernel) (by decide +kernel)) (by decide) (by decide +kernel)) a_nil)) (by decide +kernel)) (a_cons (m_v C rfl (by decide +kernel) (by decide +kernel) (by decide +kernel)) a_nil)) (by decide +kernel)))) s_nil) (s_cons (s_if (t_cmp C (o := .eq) rfl (h_p C rfl (by decide +kernel) (by decide +kernel) (by decide +kernel)) (h_e m_int) (nomark _)) (s_one (s_ret (m_call C hh.c__law_rank hh.g__law_rank hh.k__law_rank (by omega) (by decide +kernel) (a_cons (m_v C rfl (by decide +kernel) (by decide +kernel) (by decide +kernel)) (a_cons (m_biB C bl (call_lenD C.K.symm) (by simp) (by decide +kernel) (by decide +kernel) (m_p C rfl (by decide +kernel) (by decide +kernel) (by decide +kernel)) (by decide) (by decide +kernel)) a_nil)) (by decide +kernel)))) s_nil) (s_cons (s_if (t_cmp C (o := .eq) rfl (h_p C rfl (by decide +kernel) (by decide +kernel) (by decide +kernel)) (h_e m_int) (nomark _)) (s_one (s_ret (m_v C rfl (by decide +kernel) (by decide +kernel) (by decide +kernel)))) s_nil) (s_cons (s_for C hp (n_one _) (fun _ _ => Zo.nil) (w_one (h_e (m_v C rfl (by decide +kernel) (by decide +kernel) (by decide +kernel)))) (g_n C S rfl (by decide +kernel)) (s_one (s_set C S rfl (by decide +kernel) Zo.nil (m_call C hh.c__law_turn hh.g__law_turn hh.k__law_turn (by omega) (by decide +kernel) (a_cons (m_v C rfl (by decide +kernel) (by decide +kernel) (by decide +kernel)) (a_cons (m_str (hh.tx 4 rfl)) (a_cons (m_v C rfl (by decide +kernel) (by decide +kernel) (by decide +kernel)) a_nil))) (by decide +kernel))))) (s_cons (s_if (t_cmp C (o := .eq) rfl (h_p C rfl (by decide +kernel) (by decide +kernel) (by decide +kernel)) (h_e m_int) (nomark _)) (s_one (s_set C S rfl (by decide +kernel) Zo.nil (m_call C hh.c__law_joined hh.g__law_joined hh.k__law_joined (by omega) (by decide +kernel) (a_cons (m_v C rfl (by decide +kernel) (by decide +kernel) (by decide +kernel)) (a_cons (m_v C rfl (by decide +kernel) (by decide +kernel) (by decide +kernel)) a_nil)) (by decide +kernel)))) s_nil) (s_one (s_ret (m_v C rfl (by decide +kernel) (by decide +kernel) (by decide +kernel))))))))))
theorem Hb.k__law_goal {R : Rc} (hh : Hb R) : PySem.W.keepIn R.K (.ref (He.ga R.K "_law_goal")) = true := let ⟨_, F⟩ := hh.d__law_goal; F.kp
theorem Hb.c__law_goal {R : Rc} (hh : Hb R) : Cal R (.ref (He.ga R.K "_law_goal")) 4 f__law_goal := by
  obtain ⟨fd, F⟩ := hh.d__law_goal
  exact (FnI.raw0 (fn_okD F sc__law_goal rfl rfl hh.txo (b__law_goal hh)) (F.bindsN (fun _ _ _ _ _ _ us hl => match us, hl with | [_, _, _, _], _ => rfl))).cal
theorem sc__law_leads_right : FnScope ["_law_rank_here", "_law_levels", "_law_leads", "_law_worlds", "_law_now", "_law_due", "_law_whole", "_law_lot_here"] ["_law_rank_here", "_law_levels", "_law_leads"] (defScope (top 54)) := ⟨rfl, rfl, rfl, by decide +kernel, rfl, by decide +kernel, by decide +kernel⟩
theorem b__law_leads_right {R : Rc} (hh : Hb R) : BodyOk R ["_law_rank_here", "_law_levels", "_law_leads", "_law_worlds", "_law_now", "_law_due", "_law_whole", "_law_lot_here"] (defScope (top 54)) 6 (defBody (top 54)) (fun _ => []) (sSeq (sSet 3 (mBi .len (mP 1))) (sSeq (sSet 4 (mV 0)) (sSeq (sSet 5 (mBi .list (mP 1))) (sSeq (sSet 6 (mCm 6 f_Rank_flat (mCons (mV 3) mNil))) (sSeq (sFor (.n 7) (wOne (hE (mV 2))) (sSeq (sSet 4 (mCall f_led (mCons (mV 4) (mCons (mBi .list (mRsl (mP 7))) mNil)))) (sSeq (sSet 5 (mCall f__law_turn (mCons (mV 5) (mCons (mK (.str 4)) (mCons (mV 7) mNil))))) (sSeq (sSet 6 (mMulo tabMul (mCm 6 f_Rank_two (mCons (mV 7) (mCons (mV 3) mNil))) (mV 6))) (sIf (tOr (tNot (tV (mCall f__law_is_rank (mCons (mV 4) (mCons (mV 5) mNil))))) (tNot (tV (mCall f__law_is_rank (mCons (mMulo tabMul (mV 6) (mV 0)) (mCons (mV 5) mNil)))))) (sRet (mK (.bl false))) sNil))))) (sRet (mK (.bl true)))))))) := fun X E v C S hp hk =>
  have bl := hh.bl
  (s_cons (s_set C S rfl (by decide +kernel) Zo.nil (m_biB C bl (call_lenD C.K.symm) (by simp) (by decide +kernel) (by decide +kernel) (m_p C rfl (by decide +kernel) (by decide +kernel) (by decide +kernel)) (by decide) (by decide +kernel))) (s_cons (s_set C S rfl (by decide +kernel) Zo.nil (m_v C rfl (by decide +kernel) (by decide +kernel) (by decide +kernel))) (s_cons (s_set C S rfl (by decide +kernel) Zo.nil (m_biT C bl (call_listD C.calm) (by simp) (by decide +kernel) (by decide +kernel) (m_p C rfl (by decide +kernel) (by decide +kernel) (by decide +kernel)) (by decide) (by decide +kernel))) (s_cons (s_set C S rfl (by decide +kernel) Zo.nil (m_cm C (by omega) hh.m_Rank_flat (by decide +kernel) hh.g_Rank (by decide +kernel) (a_cons (m_v C rfl (by decide +kernel) (by decide +kernel) (by decide +kernel)) a_nil))) (s_cons (s_for C hp (n_one _) (fun _ _ => Zo.nil) (w_one (h_e (m_v C rfl (by decide +kernel) (by decide +kernel) (by decide +kernel)))) (g_n C S rfl (by decide +kernel)) (s_cons (s_set C S rfl (by decide +kernel) Zo.nil (m_call C hh.c_led hh.g_led hh.k_led (by omega) (by decide +kernel) (a_cons (m_v C rfl (by decide +kernel) (by decide +kernel) (by decide +kernel)) (a_cons (m_biT C bl (call_listD C.calm) (by simp) (by decide +kernel) (by decide +kernel) (p_e (m_rsl C (m_p C rfl (by decide +kernel) (by decide +kernel) (by decide +kernel)))) (by decide) (by decide +kernel)) a_nil)) (by decide +kernel))) (s_cons (s_set C S rfl (by decide +kernel) Zo.nil (m_call C hh.c__law_turn hh.g__law_turn hh.k__law_turn (by omega) (by decide +kernel) (a_cons (m_v C rfl (by decide +kernel) (by decide +kernel) (by decide +kernel)) (a_cons (m_str (hh.tx 4 rfl)) (a_cons (m_v C rfl (by decide +kernel) (by decide +kernel) (by decide +kernel)) a_nil))) (by decide +kernel))) (s_cons (s_set C S rfl (by decide +kernel) Zo.nil (m_mulo C hh.tabMul (by omega) (m_cm C (by omega) hh.m_Rank_two (by decide +kernel) hh.g_Rank (by decide +kernel) (a_cons (m_v C rfl (by decide +kernel) (by decide +kernel) (by decide +kernel)) (a_cons (m_v C rfl (by decide +kernel) (by decide +kernel) (by decide +kernel)) a_nil))) (m_v C rfl (by decide +kernel) (by decide +kernel) (by decide +kernel)))) (s_one (s_if (w_pt (w_or (t_not (t_v (p_e (m_call C hh.c__law_is_rank hh.g__law_is_rank hh.k__law_is_rank (by omega) (by decide +kernel) (a_cons (m_v C rfl (by decide +kernel) (by decide +kernel) (by decide +kernel)) (a_cons (m_v C rfl (by decide +kernel) (by decide +kernel) (by decide +kernel)) a_nil)) (by decide +kernel))) (fun _ => rfl))) (w_or1 (t_not (t_v (p_e (m_call C hh.c__law_is_rank hh.g__law_is_rank hh.k__law_is_rank (by omega) (by decide +kernel) (a_cons (m_mulo C hh.tabMul (by omega) (m_v C rfl (by decide +kernel) (by decide +kernel) (by decide +kernel)) (m_v C rfl (by decide +kernel) (by decide +kernel) (by decide +kernel))) (a_cons (m_v C rfl (by decide +kernel) (by decide +kernel) (by decide +kernel)) a_nil)) (by decide +kernel))) (fun _ => rfl)))))) (s_one (s_ret m_bl)) s_nil)))))) (s_one (s_ret m_bl)))))))
theorem Hb.k__law_leads_right {R : Rc} (hh : Hb R) : PySem.W.keepIn R.K (.ref (He.ga R.K "_law_leads_right")) = true := let ⟨_, F⟩ := hh.d__law_leads_right; F.kp
theorem Hb.c__law_leads_right {R : Rc} (hh : Hb R) : Cal R (.ref (He.ga R.K "_law_leads_right")) 7 f__law_leads_right := by
  obtain ⟨fd, F⟩ := hh.d__law_leads_right
  exact (FnI.raw0 (fn_okD F sc__law_leads_right rfl rfl hh.txo (b__law_leads_right hh)) (F.bindsN (fun _ _ _ _ _ _ us hl => match us, hl with | [_, _, _], _ => rfl))).cal
theorem sc__law_two : FnScope ["_law_lot_here", "_law_worlds", "_law_at"] ["_law_lot_here", "_law_worlds"] (defScope (top 55)) := ⟨rfl, rfl, rfl, by decide +kernel, rfl, by decide +kernel, by decide +kernel⟩
theorem b__law_two {R : Rc} (hh : Hb R) : BodyOk R ["_law_lot_here", "_law_worlds", "_law_at"] (defScope (top 55)) 1 (defBody (top 55)) (fun _ => []) (sRet (mCall f__law_dense (mCons (mComp [2] (.n 2) (wR1 (mV 1)) tYes (mIf (tV (mCmp .mem (hP 2) (hP 0))) (mK (.int 0)) (mK (.int 1)))) mNil))) := fun X E v C S hp hk =>
  have bl := hh.bl
  (s_one (s_ret (m_call C hh.c__law_dense hh.g__law_dense hh.k__law_dense (by omega) (by decide +kernel) (a_cons (m_comp C (own := [("_law_at", 2)]) (w_r1 C bl (by decide +kernel) (m_v C rfl (by decide +kernel) (by decide +kernel) (by decide +kernel))) (by decide +kernel) rfl (fun X' C' S' => (g_n C' S' rfl (by decide +kernel))) (fun X' C' S' => if_no) (fun X' C' S' => (m_if (t_cmp C' (o := .mem) rfl (h_p C' rfl (by decide +kernel) (by decide +kernel) (by decide +kernel)) (h_p C' rfl (by decide +kernel) (by decide +kernel) (by decide +kernel)) (by with_unfolding_all rfl)) m_int m_int)) (by decide)) a_nil) (by decide +kernel))))
theorem Hb.k__law_two {R : Rc} (hh : Hb R) : PySem.W.keepIn R.K (.ref (He.ga R.K "_law_two")) = true := let ⟨_, F⟩ := hh.d__law_two; F.kp
theorem Hb.c__law_two {R : Rc} (hh : Hb R) : Cal R (.ref (He.ga R.K "_law_two")) 2 f__law_two := by
  obtain ⟨fd, F⟩ := hh.d__law_two
  exact (FnI.raw0 (fn_okD F sc__law_two rfl rfl hh.txo (b__law_two hh)) (F.bindsN (fun _ _ _ _ _ _ us hl => match us, hl with | [_, _], _ => rfl))).cal
theorem sc__law_twos_right : FnScope ["_law_draws_here", "_law_goal_here", "_law_levels", "_law_worlds", "_law_told", "_law_left", "_law_bound", "_law_lot_here", "_law_at", "_law_total", "_law_turn_here"] ["_law_draws_here", "_law_goal_here", "_law_levels"] (defScope (top 56)) := ⟨rfl, rfl, rfl, by decide +kernel, rfl, by decide +kernel, by decide +kernel⟩
theorem b__law_twos_right {R : Rc} (hh : Hb R) : BodyOk R ["_law_draws_here", "_law_goal_here", "_law_levels", "_law_worlds", "_law_told", "_law_left", "_law_bound", "_law_lot_here", "_law_at", "_law_total", "_law_turn_here"] (defScope (top 56)) 7 (defBody (top 56)) (fun _ => []) (sSeq (sSet 3 (mBi .len (mP 2))) (sSeq (sSet 4 (mCall f_two_cells (mCons (mV 1) mNil))) (sSeq (sIf (tOr (tNot (tV (mIsa [.tuple] (mP 4)))) (tV (mCmp .ne (hE (mBi .len (mP 4))) (hE (mBi .max (mP 2)))))) (sRet (mK (.bl false))) sNil) (sSeq (sOwn 5 (mLst mNil)) (sSeq (sFor (.n 6) (wR1 (mBi .max (mP 2))) (sSeq (sSet 7 (mBi .tuple (mComp [8] (.n 8) (wR1 (mV 3)) (tV (mCmp .le (hE (mSub (hP 2) (mV 8))) (hP 6))) (mV 8)))) (sSeq (sIf (tNot (tV (mCall f__law_is_rank (mCons (mSub (hP 4) (mV 6)) (mCons (mCall f__law_two (mCons (mV 7) (mCons (mV 3) mNil))) mNil))))) (sRet (mK (.bl false))) sNil) (sApp 5 (mSub (hP 4) (mV 6)))))) (sSeq (sSet 9 (mCm 6 f_Rank_flat (mCons (mV 3) mNil))) (sSeq (sFor (.n 10) (wR1 (mBi .max (mP 2))) (sSet 9 (mCall (varF f_products) (mCons (mV 9) (mCons (mPopO 5 (mCall f__law_take (mCons (mV 0) (mCons (mBi .len (mP 5)) mNil)))) mNil))))) (sRet (mCall f__law_is_rank (mCons (mV 9) (mCons (mV 2) mNil))))))))))) := fun X E v C S hp hk =>
  have bl := hh.bl
  (s_cons (s_set C S rfl (by decide +kernel) Zo.nil (m_biB C bl (call_lenD C.K.symm) (by simp) (by decide +kernel) (by decide +kernel) (m_p C rfl (by decide +kernel) (by decide +kernel) (by decide +kernel)) (by decide) (by decide +kernel))) (s_cons (s_set C S rfl (by decide +kernel) Zo.nil (m_call C hh.c_two_cells hh.g_two_cells hh.k_two_cells (by omega) (by decide +kernel) (a_cons (m_v C rfl (by decide +kernel) (by decide +kernel) (by decide +kernel)) a_nil) (by decide +kernel))) (s_cons (s_if (w_pt (w_or (t_not (t_v (p_e (m_isa C bl hh.ins (t := .tuple) trivial (by decide +kernel) (m_p C rfl (by decide +kernel) (by decide +kernel) (by decide +kernel)) (pe_tyN C bl (by simp) (by decide +kernel) (by decide +kernel) (by decide) (by decide +kernel)) (by decide +kernel))) (fun _ => rfl))) (w_or1 (t_cmp C (o := .ne) rfl (h_e (m_biB C bl (call_lenD C.K.symm) (by simp) (by decide +kernel) (by decide +kernel) (m_p C rfl (by decide +kernel) (by decide +kernel) (by decide +kernel)) (by decide) (by decide +kernel))) (h_e (m_biB C bl (call_maxD C.calm) (by simp) (by decide +kernel) (by decide +kernel) (m_p C rfl (by decide +kernel) (by decide +kernel) (by decide +kernel)) (by decide) (by decide +kernel))) (nomark _))))) (s_one (s_ret m_bl)) s_nil) (s_cons (s_own C S rfl (by decide +kernel) Zo.nil (f_lst a_nil)) (s_cons (s_for C hp (n_r1 _) (fun _ _ => Zo.nil) (w_r1 C bl (by decide +kernel) (m_biB C bl (call_maxD C.calm) (by simp) (by decide +kernel) (by decide +kernel) (m_p C rfl (by decide +kernel) (by decide +kernel) (by decide +kernel)) (by decide) (by decide +kernel))) (g_n C S rfl (by decide +kernel)) (s_cons (s_set C S rfl (by decide +kernel) Zo.nil (m_biT C bl (call_tupleD C.calm) (by simp) (by decide +kernel) (by decide +kernel) (p_e (m_comp C (own := [("_law_at", 8)]) (w_r1 C bl (by decide +kernel) (m_v C rfl (by decide +kernel) (by decide +kernel) (by decide +kernel))) (by decide +kernel) rfl (fun X' C' S' => (g_n C' S' rfl (by decide +kernel))) (fun X' C' S' => (if_one (t_cmp C' (o := .le) rfl (h_e (m_sub C' (h_p C' rfl (by decide +kernel) (by decide +kernel) (by decide +kernel)) (m_v C' rfl (by decide +kernel) (by decide +kernel) (by decide +kernel)) (fun _ _ => rfl))) (h_p C' rfl (by decide +kernel) (by decide +kernel) (by decide +kernel)) (nomark _)))) (fun X' C' S' => (m_v C' rfl (by decide +kernel) (by decide +kernel) (by decide +kernel))) (by decide))) (by decide) (by decide +kernel))) (s_cons (s_if (t_not (t_v (p_e (m_call C hh.c__law_is_rank hh.g__law_is_rank hh.k__law_is_rank (by omega) (by decide +kernel) (a_cons (m_sub C (h_p C rfl (by decide +kernel) (by decide +kernel) (by decide +kernel)) (m_v C rfl (by decide +kernel) (by decide +kernel) (by decide +kernel)) (fun _ _ => rfl)) (a_cons (m_call C hh.c__law_two hh.g__law_two hh.k__law_two (by omega) (by decide +kernel) (a_cons (m_v C rfl (by decide +kernel) (by decide +kernel) (by decide +kernel)) (a_cons (m_v C rfl (by decide +kernel) (by decide +kernel) (by decide +kernel)) a_nil)) (by decide +kernel)) a_nil)) (by decide +kernel))) (fun _ => rfl))) (s_one (s_ret m_bl)) s_nil) (s_one (s_app C rfl (by decide +kernel) (by decide +kernel) (by decide +kernel) (m_sub C (h_p C rfl (by decide +kernel) (by decide +kernel) (by decide +kernel)) (m_v C rfl (by decide +kernel) (by decide +kernel) (by decide +kernel)) (fun _ _ => rfl))))))) (s_cons (s_set C S rfl (by decide +kernel) Zo.nil (m_cm C (by omega) hh.m_Rank_flat (by decide +kernel) hh.g_Rank (by decide +kernel) (a_cons (m_v C rfl (by decide +kernel) (by decide +kernel) (by decide +kernel)) a_nil))) (s_cons (s_for C hp (n_r1 _) (fun _ _ => Zo.nil) (w_r1 C bl (by decide +kernel) (m_biB C bl (call_maxD C.calm) (by simp) (by decide +kernel) (by decide +kernel) (m_p C rfl (by decide +kernel) (by decide +kernel) (by decide +kernel)) (by decide) (by decide +kernel))) (g_n C S rfl (by decide +kernel)) (s_one (s_set C S rfl (by decide +kernel) Zo.nil (m_call C hh.c_products hh.g_products hh.k_products (by omega) (by decide +kernel) (a_cons (m_v C rfl (by decide +kernel) (by decide +kernel) (by decide +kernel)) (a_cons (m_popO C rfl (by decide +kernel) (by decide +kernel) (by decide +kernel) (m_call C hh.c__law_take hh.g__law_take hh.k__law_take (by omega) (by decide +kernel) (a_cons (m_v C rfl (by decide +kernel) (by decide +kernel) (by decide +kernel)) (a_cons (m_biB C bl (call_lenD C.K.symm) (by simp) (by decide +kernel) (by decide +kernel) (m_p C rfl (by decide +kernel) (by decide +kernel) (by decide +kernel)) (by decide) (by decide +kernel)) a_nil)) (by decide +kernel))) a_nil)) (by decide +kernel))))) (s_one (s_ret (m_call C hh.c__law_is_rank hh.g__law_is_rank hh.k__law_is_rank (by omega) (by decide +kernel) (a_cons (m_v C rfl (by decide +kernel) (by decide +kernel) (by decide +kernel)) (a_cons (m_v C rfl (by decide +kernel) (by decide +kernel) (by decide +kernel)) a_nil)) (by decide +kernel)))))))))))
theorem Hb.k__law_twos_right {R : Rc} (hh : Hb R) : PySem.W.keepIn R.K (.ref (He.ga R.K "_law_twos_right")) = true := let ⟨_, F⟩ := hh.d__law_twos_right; F.kp
theorem Hb.c__law_twos_right {R : Rc} (hh : Hb R) : Cal R (.ref (He.ga R.K "_law_twos_right")) 8 f__law_twos_right := by
  obtain ⟨fd, F⟩ := hh.d__law_twos_right
  exact (FnI.raw0 (fn_okD F sc__law_twos_right rfl rfl hh.txo (b__law_twos_right hh)) (F.bindsN (fun _ _ _ _ _ _ us hl => match us, hl with | [_, _, _], _ => rfl))).cal
theorem sc__law_led_right : FnScope ["_law_rank_here", "_law_goal_here", "_law_levels", "_law_later", "_law_told", "_law_fits"] ["_law_rank_here", "_law_goal_here", "_law_levels", "_law_later"] (defScope (top 57)) := ⟨rfl, rfl, rfl, by decide +kernel, rfl, by decide +kernel, by decide +kernel⟩
theorem b__law_led_right {R : Rc} (hh : Hb R) : BodyOk R ["_law_rank_here", "_law_goal_here", "_law_levels", "_law_later", "_law_told", "_law_fits"] (defScope (top 57)) 6 (defBody (top 57)) (fun _ => []) (sSeq (sSet 4 (mCall f_led_by (mCons (mV 0) (mCons (mV 1) mNil)))) (sSeq (sSet 5 (mCall f__law_finer (mCons (mV 3) (mCons (mV 2) mNil)))) (sSeq (sIf (tOr (tV (mCmp .ne (hE (mCall f_finer (mCons (mV 1) (mCons (mV 0) mNil)))) (hP 5))) (tV (mCmp .ne (hE (mEqo tabEq (mMulo tabMul (mV 1) (mV 0)) (mV 1))) (hP 5)))) (sRet (mK (.bl false))) sNil) (sSeq (sIf (tNot (tV (mP 5))) (sRet (mIsN false (mP 4))) sNil) (sSeq (sIf (tOr (tNot (tV (mIsa [(.cls 6)] (mP 4)))) (tV (mCmp .ne (hE (mAtt 2 (mV 4))) (hE (mBi .len (mP 2)))))) (sRet (mK (.bl false))) sNil) (sSeq (sIf (tV (mCmp .ne (hE (mCall f__law_product (mCons (mBi .list (mAtt 4 (mV 4))) (mCons (mV 2) mNil)))) (hE (mBi .list (mP 3))))) (sRet (mK (.bl false))) sNil) (sRet (mAnd (mCall f__law_is_rank (mCons (mMulo tabMul (mV 4) (mV 0)) (mCons (mV 3) mNil))) (mCall f__law_is_rank (mCons (mMulo tabMul (mV 1) (mV 0)) (mCons (mV 3) mNil))))))))))) := fun X E v C S hp hk =>
  have bl := hh.bl
  (s_cons (s_set C S rfl (by decide +kernel) Zo.nil (m_call C hh.c_led_by hh.g_led_by hh.k_led_by (by omega) (by decide +kernel) (a_cons (m_v C rfl (by decide +kernel) (by decide +kernel) (by decide +kernel)) (a_cons (m_v C rfl (by decide +kernel) (by decide +kernel) (by decide +kernel)) a_nil)) (by decide +kernel))) (s_cons (s_set C S rfl (by decide +kernel) Zo.nil (m_call C hh.c__law_finer hh.g__law_finer hh.k__law_finer (by omega) (by decide +kernel) (a_cons (m_v C rfl (by decide +kernel) (by decide +kernel) (by decide +kernel)) (a_cons (m_v C rfl (by decide +kernel) (by decide +kernel) (by decide +kernel)) a_nil)) (by decide +kernel))) (s_cons (s_if (w_pt (w_or (t_cmp C (o := .ne) rfl (h_e (m_call C hh.c_finer hh.g_finer hh.k_finer (by omega) (by decide +kernel) (a_cons (m_v C rfl (by decide +kernel) (by decide +kernel) (by decide +kernel)) (a_cons (m_v C rfl (by decide +kernel) (by decide +kernel) (by decide +kernel)) a_nil)) (by decide +kernel))) (h_p C rfl (by decide +kernel) (by decide +kernel) (by decide +kernel)) (nomark _)) (w_or1 (t_cmp C (o := .ne) rfl (h_e (m_eqo C (fun c _ _ => hh.sl c) hh.tabEq (by omega) (m_mulo C hh.tabMul (by omega) (m_v C rfl (by decide +kernel) (by decide +kernel) (by decide +kernel)) (m_v C rfl (by decide +kernel) (by decide +kernel) (by decide +kernel))) (m_v C rfl (by decide +kernel) (by decide +kernel) (by decide +kernel)))) (h_p C rfl (by decide +kernel) (by decide +kernel) (by decide +kernel)) (nomark _))))) (s_one (s_ret m_bl)) s_nil) (s_cons (s_if (t_not (t_v (m_p C rfl (by decide +kernel) (by decide +kernel) (by decide +kernel)) (fun _ => rfl))) (s_one (s_ret (m_isN false rfl (m_p C rfl (by decide +kernel) (by decide +kernel) (by decide +kernel))))) s_nil) (s_cons (s_if (w_pt (w_or (t_not (t_v (p_e (m_isa C bl hh.ins (t := (.cls 6)) hh.is_Rank (by decide +kernel) (m_p C rfl (by decide +kernel) (by decide +kernel) (by decide +kernel)) (pe_clN C hh.g_Rank (by decide +kernel) (by decide +kernel)) (by decide +kernel))) (fun _ => rfl))) (w_or1 (t_cmp C (o := .ne) rfl (h_e (m_att C hh.at_worlds (m_v C rfl (by decide +kernel) (by decide +kernel) (by decide +kernel)))) (h_e (m_biB C bl (call_lenD C.K.symm) (by simp) (by decide +kernel) (by decide +kernel) (m_p C rfl (by decide +kernel) (by decide +kernel) (by decide +kernel)) (by decide) (by decide +kernel))) (nomark _))))) (s_one (s_ret m_bl)) s_nil) (s_cons (s_if (t_cmp C (o := .ne) rfl (h_e (m_call C hh.c__law_product hh.g__law_product hh.k__law_product (by omega) (by decide +kernel) (a_cons (m_biT C bl (call_listD C.calm) (by simp) (by decide +kernel) (by decide +kernel) (p_e (m_att C hh.at_levels (m_v C rfl (by decide +kernel) (by decide +kernel) (by decide +kernel)))) (by decide) (by decide +kernel)) (a_cons (m_v C rfl (by decide +kernel) (by decide +kernel) (by decide +kernel)) a_nil)) (by decide +kernel))) (h_e (m_biT C bl (call_listD C.calm) (by simp) (by decide +kernel) (by decide +kernel) (m_p C rfl (by decide +kernel) (by decide +kernel) (by decide +kernel)) (by decide) (by decide +kernel))) (nomark _)) (s_one (s_ret m_bl)) s_nil) (s_one (s_ret (m_and (m_call C hh.c__law_is_rank hh.g__law_is_rank hh.k__law_is_rank (by omega) (by decide +kernel) (a_cons (m_mulo C hh.tabMul (by omega) (m_v C rfl (by decide +kernel) (by decide +kernel) (by decide +kernel)) (m_v C rfl (by decide +kernel) (by decide +kernel) (by decide +kernel))) (a_cons (m_v C rfl (by decide +kernel) (by decide +kernel) (by decide +kernel)) a_nil)) (by decide +kernel)) (m_and1 (m_call C hh.c__law_is_rank hh.g__law_is_rank hh.k__law_is_rank (by omega) (by decide +kernel) (a_cons (m_mulo C hh.tabMul (by omega) (m_v C rfl (by decide +kernel) (by decide +kernel) (by decide +kernel)) (m_v C rfl (by decide +kernel) (by decide +kernel) (by decide +kernel))) (a_cons (m_v C rfl (by decide +kernel) (by decide +kernel) (by decide +kernel)) a_nil)) (by decide +kernel))))))))))))
theorem Hb.k__law_led_right {R : Rc} (hh : Hb R) : PySem.W.keepIn R.K (.ref (He.ga R.K "_law_led_right")) = true := let ⟨_, F⟩ := hh.d__law_led_right; F.kp
theorem Hb.c__law_led_right {R : Rc} (hh : Hb R) : Cal R (.ref (He.ga R.K "_law_led_right")) 7 f__law_led_right := by
  obtain ⟨fd, F⟩ := hh.d__law_led_right
  exact (FnI.raw0 (fn_okD F sc__law_led_right rfl rfl hh.txo (b__law_led_right hh)) (F.bindsN (fun _ _ _ _ _ _ us hl => match us, hl with | [_, _, _, _], _ => rfl))).cal
theorem sc__law_refused : FnScope ["_law_door", "_law_rank_here", "_law_other", "_law_worlds", "error"] ["_law_door", "_law_rank_here", "_law_other"] (defScope (top 58)) := ⟨rfl, rfl, rfl, by decide +kernel, rfl, by decide +kernel, by decide +kernel⟩
theorem b__law_refused {R : Rc} (hh : Hb R) : BodyOk R ["_law_door", "_law_rank_here", "_law_other", "_law_worlds", "error"] (defScope (top 58)) 5 (defBody (top 58)) (fun _ => []) (sSeq (sSet 3 (mK (.int 0))) (sSeq (sTry [1, 2, 3, 4, 5] (sIf (tV (mCmp .eq (hP 0) (hE (mK (.int 0))))) (sExp (mCall f_led_by (mCons (mV 1) (mCons (mV 2) mNil)))) (sExp (mCall f_finer (mCons (mV 1) (mCons (mV 2) mNil))))) [⟨5, [5], 4, .set 3 (.one (.x 2))⟩]) (sRet (mV 3)))) := fun X E v C S hp hk =>
  have bl := hh.bl
  (s_cons (s_set C S rfl (by decide +kernel) Zo.nil m_int) (s_cons (s_try C S hk (exmI_of hh.exf (by decide)) (fun _ _ => ⟨Zo.nil, fun _ _ => Zo.nil⟩) (fun X W C S hp hk => (s_one (s_if (t_cmp C (o := .eq) rfl (h_p C rfl (by decide +kernel) (by decide +kernel) (by decide +kernel)) (h_e m_int) (nomark _)) (s_one (s_exp (m_call C hh.c_led_by hh.g_led_by hh.k_led_by (by omega) (by decide +kernel) (a_cons (m_v C rfl (by decide +kernel) (by decide +kernel) (by decide +kernel)) (a_cons (m_v C rfl (by decide +kernel) (by decide +kernel) (by decide +kernel)) a_nil)) (by decide +kernel)))) (s_one (s_exp (m_call C hh.c_finer hh.g_finer hh.k_finer (by omega) (by decide +kernel) (a_cons (m_v C rfl (by decide +kernel) (by decide +kernel) (by decide +kernel)) (a_cons (m_v C rfl (by decide +kernel) (by decide +kernel) (by decide +kernel)) a_nil)) (by decide +kernel))))))) ⟨c_set C S hh.g_OtherWorlds (by decide +kernel) (by decide +kernel) rfl (by decide +kernel) rfl (by decide +kernel) (x_one (x_att C rfl (by decide +kernel) (by decide +kernel) (by decide +kernel) (hh.atx 2 rfl))), trivial⟩) (s_one (s_ret (m_v C rfl (by decide +kernel) (by decide +kernel) (by decide +kernel))))))
theorem Hb.k__law_refused {R : Rc} (hh : Hb R) : PySem.W.keepIn R.K (.ref (He.ga R.K "_law_refused")) = true := let ⟨_, F⟩ := hh.d__law_refused; F.kp
theorem Hb.c__law_refused {R : Rc} (hh : Hb R) : Cal R (.ref (He.ga R.K "_law_refused")) 6 f__law_refused := by
  obtain ⟨fd, F⟩ := hh.d__law_refused
  exact (FnI.raw0 (fn_okD F sc__law_refused rfl rfl hh.txo (b__law_refused hh)) (F.bindsN (fun _ _ _ _ _ _ us hl => match us, hl with | [_, _, _], _ => rfl))).cal
noncomputable def f_law : Sm := (sSeq (sSet 2 (mBin .add (mK (.int 1)) (mCall f__law_take (mCons (mV 1) (mCons (mK (.int 5)) mNil))))) (sSeq (sSet 3 (mCall f__law_rank (mCons (mV 1) (mCons (mV 2) mNil)))) (sSeq (sSet 4 (mCall f__law_take (mCons (mV 1) (mCons (mK (.int 5)) mNil)))) (sSeq (sSet 5 (mComp [6] (.n 6) (wR1 (mBin .add (mK (.int 1)) (mCall f__law_take (mCons (mV 1) (mCons (mK (.int 4)) mNil))))) tYes (mCall f__law_some (mCons (mV 1) (mCons (mV 2) mNil))))) (sSeq (sSet 7 (mCall f__law_goal (mCons (mV 1) (mCons (mV 3) (mCons (mV 5) (mCons (mV 4) mNil)))))) (sSeq (sSet 8 (mCm 6 f_Rank_of_levels (mCons (mV 3) mNil))) (sSeq (sSet 9 (mCm 6 f_Rank_of_levels (mCons (mV 7) mNil))) (sSeq (sIf (tOr (tNot (tV (mCall f__law_leads_right (mCons (mV 8) (mCons (mV 3) (mCons (mV 5) mNil)))))) (tNot (tV (mCall f__law_led_right (mCons (mV 8) (mCons (mV 9) (mCons (mV 3) (mCons (mV 7) mNil)))))))) (sRet (mK (.bl false))) sNil) (sSeq (sIf (tOr (tNot (tV (mCall f__law_led_right (mCons (mV 9) (mCons (mV 8) (mCons (mV 7) (mCons (mV 3) mNil))))))) (tNot (tV (mCall f__law_led_right (mCons (mV 8) (mCons (mV 8) (mCons (mV 3) (mCons (mV 3) mNil)))))))) (sRet (mK (.bl false))) sNil) (sSeq (sIf (tOr (tNot (tV (mCall f__law_twos_right (mCons (mV 1) (mCons (mV 9) (mCons (mV 7) mNil)))))) (tNot (tV (mCall f__law_twos_right (mCons (mV 1) (mCons (mV 8) (mCons (mV 3) mNil))))))) (sRet (mK (.bl false))) sNil) (sSeq (sSet 10 (mCm 6 f_Rank_flat (mCons (mBin .add (mV 2) (mK (.int 1))) mNil))) (sSeq (sFor (.n 11) (wR1 (mK (.int 2))) (sIf (tOr (tV (mCmp .ne (hE (mCall f__law_refused (mCons (mV 11) (mCons (mV 8) (mCons (mV 10) mNil))))) (hE (mBin .add (mV 2) (mK (.int 1)))))) (tV (mCmp .ne (hE (mCall f__law_refused (mCons (mV 11) (mCons (mV 10) (mCons (mV 8) mNil))))) (hP 2)))) (sRet (mK (.bl false))) sNil)) (sRet (mAnd (mCmp .eq (hE (mAtt 4 (mV 8))) (hE (mBi .tuple (mP 3)))) (mCmp .eq (hE (mAtt 4 (mV 9))) (hE (mBi .tuple (mP 7))))))))))))))))))
def lawN : List PySem.Str := ["_law_script", "_law_draws_here", "_law_worlds", "_law_levels", "_law_kind", "_law_leads", "_law_turn_here", "_law_later", "_law_rank_here", "_law_goal_here", "_law_wider", "_law_door"]
def lawK : Nat := 8
theorem sc_law : FnScope lawN ["_law_script"] (defScope (top 59)) := ⟨rfl, rfl, rfl, by decide +kernel, rfl, by decide +kernel, by decide +kernel⟩
theorem b_law {R : Rc} (hh : Hb R) : BodyOk R ["_law_script", "_law_draws_here", "_law_worlds", "_law_levels", "_law_kind", "_law_leads", "_law_turn_here", "_law_later", "_law_rank_here", "_law_goal_here", "_law_wider", "_law_door"] (defScope (top 59)) lawK (defBody (top 59)).tail (fun _ => []) f_law := fun X E v C S hp hk =>
  have bl := hh.bl
  (s_cons (s_set C S rfl (by decide +kernel) Zo.nil (m_bin C (o := .add) rfl m_int (m_call C hh.c__law_take hh.g__law_take hh.k__law_take (by decide) (by decide +kernel) (a_cons (m_v C rfl (by decide +kernel) (by decide +kernel) (by decide +kernel)) (a_cons m_int a_nil)) (by decide +kernel)))) (s_cons (s_set C S rfl (by decide +kernel) Zo.nil (m_call C hh.c__law_rank hh.g__law_rank hh.k__law_rank (by decide) (by decide +kernel) (a_cons (m_v C rfl (by decide +kernel) (by decide +kernel) (by decide +kernel)) (a_cons (m_v C rfl (by decide +kernel) (by decide +kernel) (by decide +kernel)) a_nil)) (by decide +kernel))) (s_cons (s_set C S rfl (by decide +kernel) Zo.nil (m_call C hh.c__law_take hh.g__law_take hh.k__law_take (by decide) (by decide +kernel) (a_cons (m_v C rfl (by decide +kernel) (by decide +kernel) (by decide +kernel)) (a_cons m_int a_nil)) (by decide +kernel))) (s_cons (s_setC C S rfl (by decide +kernel) Zo.nil (sw_ok C.esc (by decide +kernel) (by decide +kernel) (by decide +kernel) (by decide +kernel)) (own := [("_law_turn_here", 6)]) (w_r1 C bl (by decide +kernel) (m_bin C (o := .add) rfl m_int (m_call C hh.c__law_take hh.g__law_take hh.k__law_take (by decide) (by decide +kernel) (a_cons (m_v C rfl (by decide +kernel) (by decide +kernel) (by decide +kernel)) (a_cons m_int a_nil)) (by decide +kernel)))) (by decide +kernel) rfl (fun X' C' S' => (g_n C' S' rfl (by decide +kernel))) (fun X' C' S' => if_no) (fun X' C' S' => (m_call C' hh.c__law_some hh.g__law_some hh.k__law_some (by decide) (by decide +kernel) (a_cons (m_v C' rfl (by decide +kernel) (by decide +kernel) (by decide +kernel)) (a_cons (m_v C' rfl (by decide +kernel) (by decide +kernel) (by decide +kernel)) a_nil)) (by decide +kernel))) (by decide)) (s_cons (s_set C S rfl (by decide +kernel) Zo.nil (m_call C hh.c__law_goal hh.g__law_goal hh.k__law_goal (by decide) (by decide +kernel) (a_cons (m_v C rfl (by decide +kernel) (by decide +kernel) (by decide +kernel)) (a_cons (m_v C rfl (by decide +kernel) (by decide +kernel) (by decide +kernel)) (a_cons (m_v C rfl (by decide +kernel) (by decide +kernel) (by decide +kernel)) (a_cons (m_v C rfl (by decide +kernel) (by decide +kernel) (by decide +kernel)) a_nil)))) (by decide +kernel))) (s_cons (s_set C S rfl (by decide +kernel) Zo.nil (m_cm C (by decide) hh.m_Rank_of_levels (by decide +kernel) hh.g_Rank (by decide +kernel) (a_cons (m_v C rfl (by decide +kernel) (by decide +kernel) (by decide +kernel)) a_nil))) (s_cons (s_set C S rfl (by decide +kernel) Zo.nil (m_cm C (by decide) hh.m_Rank_of_levels (by decide +kernel) hh.g_Rank (by decide +kernel) (a_cons (m_v C rfl (by decide +kernel) (by decide +kernel) (by decide +kernel)) a_nil))) (s_cons (s_if (w_pt (w_or (t_not (t_v (p_e (m_call C hh.c__law_leads_right hh.g__law_leads_right hh.k__law_leads_right (by decide) (by decide +kernel) (a_cons (m_v C rfl (by decide +kernel) (by decide +kernel) (by decide +kernel)) (a_cons (m_v C rfl (by decide +kernel) (by decide +kernel) (by decide +kernel)) (a_cons (m_v C rfl (by decide +kernel) (by decide +kernel) (by decide +kernel)) a_nil))) (by decide +kernel))) (fun _ => rfl))) (w_or1 (t_not (t_v (p_e (m_call C hh.c__law_led_right hh.g__law_led_right hh.k__law_led_right (by decide) (by decide +kernel) (a_cons (m_v C rfl (by decide +kernel) (by decide +kernel) (by decide +kernel)) (a_cons (m_v C rfl (by decide +kernel) (by decide +kernel) (by decide +kernel)) (a_cons (m_v C rfl (by decide +kernel) (by decide +kernel) (by decide +kernel)) (a_cons (m_v C rfl (by decide +kernel) (by decide +kernel) (by decide +kernel)) a_nil)))) (by decide +kernel))) (fun _ => rfl)))))) (s_one (s_ret m_bl)) s_nil) (s_cons (s_if (w_pt (w_or (t_not (t_v (p_e (m_call C hh.c__law_led_right hh.g__law_led_right hh.k__law_led_right (by decide) (by decide +kernel) (a_cons (m_v C rfl (by decide +kernel) (by decide +kernel) (by decide +kernel)) (a_cons (m_v C rfl (by decide +kernel) (by decide +kernel) (by decide +kernel)) (a_cons (m_v C rfl (by decide +kernel) (by decide +kernel) (by decide +kernel)) (a_cons (m_v C rfl (by decide +kernel) (by decide +kernel) (by decide +kernel)) a_nil)))) (by decide +kernel))) (fun _ => rfl))) (w_or1 (t_not (t_v (p_e (m_call C hh.c__law_led_right hh.g__law_led_right hh.k__law_led_right (by decide) (by decide +kernel) (a_cons (m_v C rfl (by decide +kernel) (by decide +kernel) (by decide +kernel)) (a_cons (m_v C rfl (by decide +kernel) (by decide +kernel) (by decide +kernel)) (a_cons (m_v C rfl (by decide +kernel) (by decide +kernel) (by decide +kernel)) (a_cons (m_v C rfl (by decide +kernel) (by decide +kernel) (by decide +kernel)) a_nil)))) (by decide +kernel))) (fun _ => rfl)))))) (s_one (s_ret m_bl)) s_nil) (s_cons (s_if (w_pt (w_or (t_not (t_v (p_e (m_call C hh.c__law_twos_right hh.g__law_twos_right hh.k__law_twos_right (by decide) (by decide +kernel) (a_cons (m_v C rfl (by decide +kernel) (by decide +kernel) (by decide +kernel)) (a_cons (m_v C rfl (by decide +kernel) (by decide +kernel) (by decide +kernel)) (a_cons (m_v C rfl (by decide +kernel) (by decide +kernel) (by decide +kernel)) a_nil))) (by decide +kernel))) (fun _ => rfl))) (w_or1 (t_not (t_v (p_e (m_call C hh.c__law_twos_right hh.g__law_twos_right hh.k__law_twos_right (by decide) (by decide +kernel) (a_cons (m_v C rfl (by decide +kernel) (by decide +kernel) (by decide +kernel)) (a_cons (m_v C rfl (by decide +kernel) (by decide +kernel) (by decide +kernel)) (a_cons (m_v C rfl (by decide +kernel) (by decide +kernel) (by decide +kernel)) a_nil))) (by decide +kernel))) (fun _ => rfl)))))) (s_one (s_ret m_bl)) s_nil) (s_cons (s_set C S rfl (by decide +kernel) Zo.nil (m_cm C (by decide) hh.m_Rank_flat (by decide +kernel) hh.g_Rank (by decide +kernel) (a_cons (m_bin C (o := .add) rfl (m_v C rfl (by decide +kernel) (by decide +kernel) (by decide +kernel)) m_int) a_nil))) (s_cons (s_for C hp (n_r1 _) (fun _ _ => Zo.nil) (w_r1 C bl (by decide +kernel) m_int) (g_n C S rfl (by decide +kernel)) (s_one (s_if (w_pt (w_or (t_cmp C (o := .ne) rfl (h_e (m_call C hh.c__law_refused hh.g__law_refused hh.k__law_refused (by decide) (by decide +kernel) (a_cons (m_v C rfl (by decide +kernel) (by decide +kernel) (by decide +kernel)) (a_cons (m_v C rfl (by decide +kernel) (by decide +kernel) (by decide +kernel)) (a_cons (m_v C rfl (by decide +kernel) (by decide +kernel) (by decide +kernel)) a_nil))) (by decide +kernel))) (h_e (m_bin C (o := .add) rfl (m_v C rfl (by decide +kernel) (by decide +kernel) (by decide +kernel)) m_int)) (nomark _)) (w_or1 (t_cmp C (o := .ne) rfl (h_e (m_call C hh.c__law_refused hh.g__law_refused hh.k__law_refused (by decide) (by decide +kernel) (a_cons (m_v C rfl (by decide +kernel) (by decide +kernel) (by decide +kernel)) (a_cons (m_v C rfl (by decide +kernel) (by decide +kernel) (by decide +kernel)) (a_cons (m_v C rfl (by decide +kernel) (by decide +kernel) (by decide +kernel)) a_nil))) (by decide +kernel))) (h_p C rfl (by decide +kernel) (by decide +kernel) (by decide +kernel)) (nomark _))))) (s_one (s_ret m_bl)) s_nil))) (s_one (s_ret (m_and (m_cmp C (o := .eq) rfl (h_e (m_att C hh.at_levels (m_v C rfl (by decide +kernel) (by decide +kernel) (by decide +kernel)))) (h_e (m_biT C bl (call_tupleD C.calm) (by simp) (by decide +kernel) (by decide +kernel) (m_p C rfl (by decide +kernel) (by decide +kernel) (by decide +kernel)) (by decide) (by decide +kernel))) (nomark _)) (m_and1 (m_cmp C (o := .eq) rfl (h_e (m_att C hh.at_levels (m_v C rfl (by decide +kernel) (by decide +kernel) (by decide +kernel)))) (h_e (m_biT C bl (call_tupleD C.calm) (by simp) (by decide +kernel) (by decide +kernel) (m_p C rfl (by decide +kernel) (by decide +kernel) (by decide +kernel)) (by decide) (by decide +kernel))) (nomark _))))))))))))))))))
theorem b_law1 {R : Rc} (hh : Hb R) {X : Cx} {W : WX} {z : ZK} {k : Nat} (C : Ct X R W ["_law_script", "_law_draws_here", "_law_worlds", "_law_levels", "_law_kind", "_law_leads", "_law_turn_here", "_law_later", "_law_rank_here", "_law_goal_here", "_law_wider", "_law_door"] (defScope (top 59)) k) (hk : lawK ≤ k) (S : Fs X (defScope (top 59))) (hz : z = []) : PS X ((defBody (top 59)).getD 0 (.Pass ⟨0, 0, 0, 0⟩)) (tS R W z (sSet 1 (mCall f__law_draws (mCons (mV 0) mNil)))) := by
  subst hz
  exact s_set C S rfl (by decide +kernel) Zo.nil (m_call C hh.c__law_draws hh.g__law_draws hh.k__law_draws (by unfold lawK at hk; omega) (by decide +kernel) (a_cons (m_v C rfl (by decide +kernel) (by decide +kernel) (by decide +kernel)) a_nil) (by decide +kernel))
end Mi.k17
set_option Elab.async false
set_option linter.all false
set_option maxRecDepth 100000
set_option maxHeartbeats 0
namespace Mi.k17
open PySem PySem.W PySem.Calls PyProof.Rows L2 Mi
abbrev Rw : OpenRow := OpenLaw.row PySem.Challenge.rw_newsbooks_k17_whole_built_and_led_to
abbrev qv : Program := view Rw.prog [59]
def n0 : List PySem.Str := ["_wall", "NewsError", "BadNumber", "BadLot", "BadRank", "BadWord", "OtherWorlds", "whole_number", "is_row", "check_worlds", "is_world", "first_stranger", "lot_of", "every", "rest_of", "plus", "common", "minus", "cells_told", "cells_by", "Rank", "check_same_worlds", "products", "two_cells", "finer", "led_by", "DEED_WORDS", "GIVE_WORDS", "lot_of_deed", "led"]
def n1 : List PySem.Str := ["_law_draws", "_law_take", "_law_lot", "_law_some", "_law_rest", "_law_plus", "_law_inside", "_law_dense", "_law_rank", "_law_cells", "_law_best", "_law_held", "_law_product", "_law_turn", "_law_is_rank", "_law_finer", "_law_joined", "_law_goal", "_law_leads_right", "_law_two", "_law_twos_right", "_law_led_right", "_law_refused"]
def names : List PySem.Str := n0 ++ n1
def fn0 : List DefM := [⟨fun K => He.ga K "whole_number", "whole_number", "whole_number", defArgs (top 9), defBody (top 9), defScope (top 9), [], []⟩,
  ⟨fun K => He.ga K "is_row", "is_row", "is_row", defArgs (top 10), defBody (top 10), defScope (top 10), [], []⟩,
  ⟨fun K => He.ga K "check_worlds", "check_worlds", "check_worlds", defArgs (top 11), defBody (top 11), defScope (top 11), [], []⟩,
  ⟨fun K => He.ga K "is_world", "is_world", "is_world", defArgs (top 12), defBody (top 12), defScope (top 12), [], []⟩,
  ⟨fun K => He.ga K "first_stranger", "first_stranger", "first_stranger", defArgs (top 13), defBody (top 13), defScope (top 13), [], []⟩,
  ⟨fun K => He.ga K "lot_of", "lot_of", "lot_of", defArgs (top 14), defBody (top 14), defScope (top 14), [], [("empty", .bl true)]⟩,
  ⟨fun K => He.ga K "every", "every", "every", defArgs (top 15), defBody (top 15), defScope (top 15), [], []⟩,
  ⟨fun K => He.ga K "rest_of", "rest_of", "rest_of", defArgs (top 16), defBody (top 16), defScope (top 16), [], []⟩,
  ⟨fun K => He.ga K "plus", "plus", "plus", defArgs (top 17), defBody (top 17), defScope (top 17), [], []⟩,
  ⟨fun K => He.ga K "common", "common", "common", defArgs (top 18), defBody (top 18), defScope (top 18), [], []⟩,
  ⟨fun K => He.ga K "minus", "minus", "minus", defArgs (top 19), defBody (top 19), defScope (top 19), [], []⟩,
  ⟨fun K => He.ga K "cells_told", "cells_told", "cells_told", defArgs (top 21), defBody (top 21), defScope (top 21), [], []⟩]
def fn1 : List DefM := [⟨fun K => He.ga K "cells_by", "cells_by", "cells_by", defArgs (top 22), defBody (top 22), defScope (top 22), [], []⟩,
  ⟨fun K => (He.ma K (He.ga K "Rank") "__init__"), "__init__", "Rank.__init__", defArgs (sub 23 1), defBody (sub 23 1), defScope (sub 23 1), [], []⟩,
  ⟨fun K => cmF K (He.ma K (He.ga K "Rank") "flat"), "flat", "Rank.flat", defArgs (sub 23 2), defBody (sub 23 2), defScope (sub 23 2), [], []⟩,
  ⟨fun K => cmF K (He.ma K (He.ga K "Rank") "of_levels"), "of_levels", "Rank.of_levels", defArgs (sub 23 4), defBody (sub 23 4), defScope (sub 23 4), [], []⟩,
  ⟨fun K => cmF K (He.ma K (He.ga K "Rank") "two"), "two", "Rank.two", defArgs (sub 23 5), defBody (sub 23 5), defScope (sub 23 5), [], []⟩,
  ⟨fun K => (He.ma K (He.ga K "Rank") "beginnings"), "beginnings", "Rank.beginnings", defArgs (sub 23 12), defBody (sub 23 12), defScope (sub 23 12), [], []⟩,
  ⟨fun K => (He.ma K (He.ga K "Rank") "__mul__"), "__mul__", "Rank.__mul__", defArgs (sub 23 13), defBody (sub 23 13), defScope (sub 23 13), [], []⟩,
  ⟨fun K => (He.ma K (He.ga K "Rank") "__eq__"), "__eq__", "Rank.__eq__", defArgs (sub 23 14), defBody (sub 23 14), defScope (sub 23 14), [], []⟩,
  ⟨fun K => (He.ma K (He.ga K "Rank") "__len__"), "__len__", "Rank.__len__", defArgs (sub 23 15), defBody (sub 23 15), defScope (sub 23 15), [], []⟩,
  ⟨fun K => (He.ma K (He.ga K "Rank") "__getitem__"), "__getitem__", "Rank.__getitem__", defArgs (sub 23 16), defBody (sub 23 16), defScope (sub 23 16), [], []⟩,
  ⟨fun K => He.ga K "check_same_worlds", "check_same_worlds", "check_same_worlds", defArgs (top 25), defBody (top 25), defScope (top 25), [], []⟩,
  ⟨fun K => He.ga K "products", "products", "products", defArgs (top 26), defBody (top 26), defScope (top 26), [], []⟩]
def fn2 : List DefM := [⟨fun K => He.ga K "two_cells", "two_cells", "two_cells", defArgs (top 27), defBody (top 27), defScope (top 27), [], []⟩,
  ⟨fun K => He.ga K "finer", "finer", "finer", defArgs (top 28), defBody (top 28), defScope (top 28), [], []⟩,
  ⟨fun K => He.ga K "led_by", "led_by", "led_by", defArgs (top 29), defBody (top 29), defScope (top 29), [], []⟩,
  ⟨fun K => He.ga K "lot_of_deed", "lot_of_deed", "lot_of_deed", defArgs (top 33), defBody (top 33), defScope (top 33), [], []⟩,
  ⟨fun K => He.ga K "led", "led", "led", defArgs (top 34), defBody (top 34), defScope (top 34), [], []⟩,
  ⟨fun K => He.ga K "_law_draws", "_law_draws", "_law_draws", defArgs (top 36), defBody (top 36), defScope (top 36), [], []⟩,
  ⟨fun K => He.ga K "_law_take", "_law_take", "_law_take", defArgs (top 37), defBody (top 37), defScope (top 37), [], []⟩,
  ⟨fun K => He.ga K "_law_lot", "_law_lot", "_law_lot", defArgs (top 38), defBody (top 38), defScope (top 38), [], []⟩,
  ⟨fun K => He.ga K "_law_some", "_law_some", "_law_some", defArgs (top 39), defBody (top 39), defScope (top 39), [], []⟩,
  ⟨fun K => He.ga K "_law_rest", "_law_rest", "_law_rest", defArgs (top 40), defBody (top 40), defScope (top 40), [], []⟩,
  ⟨fun K => He.ga K "_law_plus", "_law_plus", "_law_plus", defArgs (top 41), defBody (top 41), defScope (top 41), [], []⟩,
  ⟨fun K => He.ga K "_law_inside", "_law_inside", "_law_inside", defArgs (top 42), defBody (top 42), defScope (top 42), [], []⟩]
def fn3 : List DefM := [⟨fun K => He.ga K "_law_dense", "_law_dense", "_law_dense", defArgs (top 43), defBody (top 43), defScope (top 43), [], []⟩,
  ⟨fun K => He.ga K "_law_rank", "_law_rank", "_law_rank", defArgs (top 44), defBody (top 44), defScope (top 44), [], []⟩,
  ⟨fun K => He.ga K "_law_cells", "_law_cells", "_law_cells", defArgs (top 45), defBody (top 45), defScope (top 45), [], []⟩,
  ⟨fun K => He.ga K "_law_best", "_law_best", "_law_best", defArgs (top 46), defBody (top 46), defScope (top 46), [], []⟩,
  ⟨fun K => He.ga K "_law_held", "_law_held", "_law_held", defArgs (top 47), defBody (top 47), defScope (top 47), [], []⟩,
  ⟨fun K => He.ga K "_law_product", "_law_product", "_law_product", defArgs (top 48), defBody (top 48), defScope (top 48), [], []⟩,
  ⟨fun K => He.ga K "_law_turn", "_law_turn", "_law_turn", defArgs (top 49), defBody (top 49), defScope (top 49), [], []⟩,
  ⟨fun K => He.ga K "_law_is_rank", "_law_is_rank", "_law_is_rank", defArgs (top 50), defBody (top 50), defScope (top 50), [], []⟩,
  ⟨fun K => He.ga K "_law_finer", "_law_finer", "_law_finer", defArgs (top 51), defBody (top 51), defScope (top 51), [], []⟩,
  ⟨fun K => He.ga K "_law_joined", "_law_joined", "_law_joined", defArgs (top 52), defBody (top 52), defScope (top 52), [], []⟩,
  ⟨fun K => He.ga K "_law_goal", "_law_goal", "_law_goal", defArgs (top 53), defBody (top 53), defScope (top 53), [], []⟩,
  ⟨fun K => He.ga K "_law_leads_right", "_law_leads_right", "_law_leads_right", defArgs (top 54), defBody (top 54), defScope (top 54), [], []⟩]
def fn4 : List DefM := [⟨fun K => He.ga K "_law_two", "_law_two", "_law_two", defArgs (top 55), defBody (top 55), defScope (top 55), [], []⟩,
  ⟨fun K => He.ga K "_law_twos_right", "_law_twos_right", "_law_twos_right", defArgs (top 56), defBody (top 56), defScope (top 56), [], []⟩,
  ⟨fun K => He.ga K "_law_led_right", "_law_led_right", "_law_led_right", defArgs (top 57), defBody (top 57), defScope (top 57), [], []⟩,
  ⟨fun K => He.ga K "_law_refused", "_law_refused", "_law_refused", defArgs (top 58), defBody (top 58), defScope (top 58), [], []⟩,
  ⟨fun K => (He.ma K (He.ga K "Rank") "__iter__"), "__iter__", "Rank.__iter__", defArgs (sub 23 17), defBody (sub 23 17), defScope (sub 23 17), [], []⟩,
  ⟨fun K => He.ga K "law", "law", "law", defArgs (top 59), defBody (top 59), defScope (top 59), [], []⟩,
  ⟨fun K => He.ma K (He.ga K "BadNumber") "__init__", "__init__", "BadNumber.__init__", defArgs (sub 3 0), defBody (sub 3 0), defScope (sub 3 0), [], []⟩,
  ⟨fun K => He.ma K (He.ga K "BadLot") "__init__", "__init__", "BadLot.__init__", defArgs (sub 4 0), defBody (sub 4 0), defScope (sub 4 0), [], []⟩,
  ⟨fun K => He.ma K (He.ga K "BadRank") "__init__", "__init__", "BadRank.__init__", defArgs (sub 5 0), defBody (sub 5 0), defScope (sub 5 0), [], []⟩,
  ⟨fun K => He.ma K (He.ga K "BadWord") "__init__", "__init__", "BadWord.__init__", defArgs (sub 6 0), defBody (sub 6 0), defScope (sub 6 0), [], []⟩,
  ⟨fun K => He.ma K (He.ga K "OtherWorlds") "__init__", "__init__", "OtherWorlds.__init__", defArgs (sub 7 0), defBody (sub 7 0), defScope (sub 7 0), [], []⟩]
def fns : List DefM := fn0 ++ fn1 ++ fn2 ++ fn3 ++ fn4
def exL (K : PySem.W.Frag) : List Bool := [He.eqO (PySem.W.nsIn K mainGlobals "len") (some none),
  He.eqO (PySem.W.nsIn K mainGlobals "list") (some none),
  He.eqO (PySem.W.nsIn K mainGlobals "tuple") (some none),
  He.eqO (PySem.W.nsIn K mainGlobals "sorted") (some none),
  He.eqO (PySem.W.nsIn K mainGlobals "set") (some none),
  He.eqO (PySem.W.nsIn K mainGlobals "sum") (some none),
  He.eqO (PySem.W.nsIn K mainGlobals "min") (some none),
  He.eqO (PySem.W.nsIn K mainGlobals "max") (some none),
  He.eqO (PySem.W.nsIn K mainGlobals "all") (some none),
  He.eqO (PySem.W.nsIn K mainGlobals "any") (some none),
  He.eqO (PySem.W.nsIn K mainGlobals "int") (some none),
  He.eqO (PySem.W.nsIn K mainGlobals "range") (some none),
  He.eqO (PySem.W.nsIn K mainGlobals "abs") (some none),
  He.eqO (PySem.W.nsIn K mainGlobals "isinstance") (some none),
  He.eqO (PySem.W.nsIn K mainGlobals "enumerate") (some none),
  He.eqO (PySem.W.nsIn K mainGlobals "zip") (some none),
  He.eqO (PySem.W.nsIn K mainGlobals "reversed") (some none),
  He.eqO (PySem.W.nsIn K mainGlobals "bool") (some none),
  He.eqO (PySem.W.nsIn K mainGlobals "str") (some none),
  He.eqO (PySem.W.nsIn K mainGlobals "Exception") (some none),
  He.eqO (PySem.W.nsIn K mainGlobals "ValueError") (some none),
  He.eqO (PySem.W.nsIn K mainGlobals "type") (some none),
  He.eqO (PySem.W.nsIn K mainGlobals "dict") (some none),
  He.eqO (PySem.W.nsIn K mainGlobals "iter") (some none),
  He.eqO (PySem.W.nsIn K mainGlobals "NotImplemented") (some none),
  xfB K (He.ga K "BadNumber"),
  He.eqO (PySem.W.findIn K (.ref (He.ga K "BadNumber")) "name") (some none),
  He.eqO (PySem.W.findIn K (.ref (He.ga K "BadNumber")) "place") (some none),
  He.eqO (PySem.W.findIn K (.ref (He.ga K "BadNumber")) "worlds") (some none),
  He.eqO (PySem.W.findIn K (.ref (He.ga K "BadNumber")) "cells") (some none),
  He.eqO (PySem.W.findIn K (.ref (He.ga K "BadNumber")) "levels") (some none),
  He.eqO (PySem.W.findIn K (.ref (He.ga K "BadNumber")) "word") (some none),
  xfB K (He.ga K "BadLot"),
  He.eqO (PySem.W.findIn K (.ref (He.ga K "BadLot")) "name") (some none),
  He.eqO (PySem.W.findIn K (.ref (He.ga K "BadLot")) "place") (some none),
  He.eqO (PySem.W.findIn K (.ref (He.ga K "BadLot")) "worlds") (some none),
  He.eqO (PySem.W.findIn K (.ref (He.ga K "BadLot")) "cells") (some none),
  He.eqO (PySem.W.findIn K (.ref (He.ga K "BadLot")) "levels") (some none),
  He.eqO (PySem.W.findIn K (.ref (He.ga K "BadLot")) "word") (some none),
  xfB K (He.ga K "BadRank"),
  He.eqO (PySem.W.findIn K (.ref (He.ga K "BadRank")) "name") (some none),
  He.eqO (PySem.W.findIn K (.ref (He.ga K "BadRank")) "place") (some none),
  He.eqO (PySem.W.findIn K (.ref (He.ga K "BadRank")) "worlds") (some none),
  He.eqO (PySem.W.findIn K (.ref (He.ga K "BadRank")) "cells") (some none),
  He.eqO (PySem.W.findIn K (.ref (He.ga K "BadRank")) "levels") (some none),
  He.eqO (PySem.W.findIn K (.ref (He.ga K "BadRank")) "word") (some none),
  xfB K (He.ga K "BadWord"),
  He.eqO (PySem.W.findIn K (.ref (He.ga K "BadWord")) "name") (some none),
  He.eqO (PySem.W.findIn K (.ref (He.ga K "BadWord")) "place") (some none),
  He.eqO (PySem.W.findIn K (.ref (He.ga K "BadWord")) "worlds") (some none),
  He.eqO (PySem.W.findIn K (.ref (He.ga K "BadWord")) "cells") (some none),
  He.eqO (PySem.W.findIn K (.ref (He.ga K "BadWord")) "levels") (some none),
  He.eqO (PySem.W.findIn K (.ref (He.ga K "BadWord")) "word") (some none),
  xfB K (He.ga K "OtherWorlds"),
  He.eqO (PySem.W.findIn K (.ref (He.ga K "OtherWorlds")) "name") (some none),
  He.eqO (PySem.W.findIn K (.ref (He.ga K "OtherWorlds")) "place") (some none),
  He.eqO (PySem.W.findIn K (.ref (He.ga K "OtherWorlds")) "worlds") (some none),
  He.eqO (PySem.W.findIn K (.ref (He.ga K "OtherWorlds")) "cells") (some none),
  He.eqO (PySem.W.findIn K (.ref (He.ga K "OtherWorlds")) "levels") (some none),
  He.eqO (PySem.W.findIn K (.ref (He.ga K "OtherWorlds")) "word") (some none),
  decide (PySem.W.exmOne K (.ref (He.ga K "BadNumber")) (.ref (He.ga K "BadNumber")) = some true),
  decide (PySem.W.exmOne K (.ref (He.ga K "BadNumber")) (.ref (He.ga K "BadLot")) = some false),
  decide (PySem.W.exmOne K (.ref (He.ga K "BadNumber")) (.ref (He.ga K "BadRank")) = some false),
  decide (PySem.W.exmOne K (.ref (He.ga K "BadNumber")) (.ref (He.ga K "BadWord")) = some false),
  decide (PySem.W.exmOne K (.ref (He.ga K "BadNumber")) (.ref (He.ga K "OtherWorlds")) = some false),
  decide (PySem.W.exmOne K (.ref (He.ga K "BadLot")) (.ref (He.ga K "BadNumber")) = some false),
  decide (PySem.W.exmOne K (.ref (He.ga K "BadLot")) (.ref (He.ga K "BadLot")) = some true),
  decide (PySem.W.exmOne K (.ref (He.ga K "BadLot")) (.ref (He.ga K "BadRank")) = some false),
  decide (PySem.W.exmOne K (.ref (He.ga K "BadLot")) (.ref (He.ga K "BadWord")) = some false),
  decide (PySem.W.exmOne K (.ref (He.ga K "BadLot")) (.ref (He.ga K "OtherWorlds")) = some false),
  decide (PySem.W.exmOne K (.ref (He.ga K "BadRank")) (.ref (He.ga K "BadNumber")) = some false),
  decide (PySem.W.exmOne K (.ref (He.ga K "BadRank")) (.ref (He.ga K "BadLot")) = some false),
  decide (PySem.W.exmOne K (.ref (He.ga K "BadRank")) (.ref (He.ga K "BadRank")) = some true),
  decide (PySem.W.exmOne K (.ref (He.ga K "BadRank")) (.ref (He.ga K "BadWord")) = some false),
  decide (PySem.W.exmOne K (.ref (He.ga K "BadRank")) (.ref (He.ga K "OtherWorlds")) = some false),
  decide (PySem.W.exmOne K (.ref (He.ga K "BadWord")) (.ref (He.ga K "BadNumber")) = some false),
  decide (PySem.W.exmOne K (.ref (He.ga K "BadWord")) (.ref (He.ga K "BadLot")) = some false),
  decide (PySem.W.exmOne K (.ref (He.ga K "BadWord")) (.ref (He.ga K "BadRank")) = some false),
  decide (PySem.W.exmOne K (.ref (He.ga K "BadWord")) (.ref (He.ga K "BadWord")) = some true),
  decide (PySem.W.exmOne K (.ref (He.ga K "BadWord")) (.ref (He.ga K "OtherWorlds")) = some false),
  decide (PySem.W.exmOne K (.ref (He.ga K "OtherWorlds")) (.ref (He.ga K "BadNumber")) = some false),
  decide (PySem.W.exmOne K (.ref (He.ga K "OtherWorlds")) (.ref (He.ga K "BadLot")) = some false),
  decide (PySem.W.exmOne K (.ref (He.ga K "OtherWorlds")) (.ref (He.ga K "BadRank")) = some false),
  decide (PySem.W.exmOne K (.ref (He.ga K "OtherWorlds")) (.ref (He.ga K "BadWord")) = some false),
  decide (PySem.W.exmOne K (.ref (He.ga K "OtherWorlds")) (.ref (He.ga K "OtherWorlds")) = some true),
  He.eqO (PySem.W.nsIn K mainGlobals "DEED_WORDS") (some (some (.ref (He.ga K "DEED_WORDS")))),
  conB K (He.ga K "DEED_WORDS") ["lead", "push", "lean", "level", "sink", "ask"],
  He.eqO (PySem.W.nsIn K mainGlobals "GIVE_WORDS") (some (some (.ref (He.ga K "GIVE_WORDS")))),
  conB K (He.ga K "GIVE_WORDS") ["level", "sink"],
  sclsB K (He.ga K "Rank"),
  isiB K (He.ga K "Rank"),
  kitB1 K (He.ga K "Rank"),
  slotB K (He.ga K "Rank") "worlds" 2,
  slotB K (He.ga K "Rank") "cells" 0,
  slotB K (He.ga K "Rank") "levels" 1,
  He.eqO (PySem.W.nsIn K mainGlobals "NewsError") (some (some (.ref (He.ga K "NewsError")))),
  He.eqO (PySem.W.nsIn K mainGlobals "BadNumber") (some (some (.ref (He.ga K "BadNumber")))),
  exkB K (He.ga K "BadNumber"),
  He.eqO (PySem.W.findIn K (.ref (He.ga K "BadNumber")) "__init__") (some (some (.ref (He.ma K (He.ga K "BadNumber") "__init__")))),
  decide (PySem.W.typeIn K (.ref (He.ma K (He.ga K "BadNumber") "__init__")) = some (.type "function")),
  He.eqO (PySem.W.nsIn K mainGlobals "BadLot") (some (some (.ref (He.ga K "BadLot")))),
  exkB K (He.ga K "BadLot"),
  He.eqO (PySem.W.findIn K (.ref (He.ga K "BadLot")) "__init__") (some (some (.ref (He.ma K (He.ga K "BadLot") "__init__")))),
  decide (PySem.W.typeIn K (.ref (He.ma K (He.ga K "BadLot") "__init__")) = some (.type "function")),
  He.eqO (PySem.W.nsIn K mainGlobals "BadRank") (some (some (.ref (He.ga K "BadRank")))),
  exkB K (He.ga K "BadRank"),
  He.eqO (PySem.W.findIn K (.ref (He.ga K "BadRank")) "__init__") (some (some (.ref (He.ma K (He.ga K "BadRank") "__init__")))),
  decide (PySem.W.typeIn K (.ref (He.ma K (He.ga K "BadRank") "__init__")) = some (.type "function")),
  He.eqO (PySem.W.nsIn K mainGlobals "BadWord") (some (some (.ref (He.ga K "BadWord")))),
  exkB K (He.ga K "BadWord"),
  He.eqO (PySem.W.findIn K (.ref (He.ga K "BadWord")) "__init__") (some (some (.ref (He.ma K (He.ga K "BadWord") "__init__")))),
  decide (PySem.W.typeIn K (.ref (He.ma K (He.ga K "BadWord") "__init__")) = some (.type "function")),
  He.eqO (PySem.W.nsIn K mainGlobals "OtherWorlds") (some (some (.ref (He.ga K "OtherWorlds")))),
  exkB K (He.ga K "OtherWorlds"),
  He.eqO (PySem.W.findIn K (.ref (He.ga K "OtherWorlds")) "__init__") (some (some (.ref (He.ma K (He.ga K "OtherWorlds") "__init__")))),
  decide (PySem.W.typeIn K (.ref (He.ma K (He.ga K "OtherWorlds") "__init__")) = some (.type "function")),
  He.eqO (PySem.W.nsIn K mainGlobals "Rank") (some (some (.ref (He.ga K "Rank")))),
  He.eqO (PySem.W.findIn K (.ref (He.ga K "Rank")) "__iter__") (some (some (.ref (He.ma K (He.ga K "Rank") "__iter__")))),
  PySem.W.isFn K (.ref (He.ma K (He.ga K "Rank") "__iter__")),
  He.eqO (PySem.W.nsIn K mainGlobals "whole_number") (some (some (.ref (He.ga K "whole_number")))),
  He.eqO (PySem.W.nsIn K mainGlobals "is_row") (some (some (.ref (He.ga K "is_row")))),
  He.eqO (PySem.W.nsIn K mainGlobals "check_worlds") (some (some (.ref (He.ga K "check_worlds")))),
  He.eqO (PySem.W.nsIn K mainGlobals "is_world") (some (some (.ref (He.ga K "is_world")))),
  He.eqO (PySem.W.nsIn K mainGlobals "first_stranger") (some (some (.ref (He.ga K "first_stranger")))),
  He.eqO (PySem.W.nsIn K mainGlobals "lot_of") (some (some (.ref (He.ga K "lot_of")))),
  He.eqO (PySem.W.nsIn K mainGlobals "every") (some (some (.ref (He.ga K "every")))),
  He.eqO (PySem.W.nsIn K mainGlobals "rest_of") (some (some (.ref (He.ga K "rest_of")))),
  He.eqO (PySem.W.nsIn K mainGlobals "plus") (some (some (.ref (He.ga K "plus")))),
  He.eqO (PySem.W.nsIn K mainGlobals "common") (some (some (.ref (He.ga K "common")))),
  He.eqO (PySem.W.nsIn K mainGlobals "minus") (some (some (.ref (He.ga K "minus")))),
  He.eqO (PySem.W.nsIn K mainGlobals "cells_told") (some (some (.ref (He.ga K "cells_told")))),
  He.eqO (PySem.W.nsIn K mainGlobals "cells_by") (some (some (.ref (He.ga K "cells_by")))),
  PySem.W.makesIn K (He.ga K "Rank"),
  He.eqO (PySem.W.findIn K (.ref (He.ga K "Rank")) "__init__") (some (some (.ref (He.ma K (He.ga K "Rank") "__init__")))),
  PySem.W.isFn K (.ref (He.ma K (He.ga K "Rank") "__init__")),
  PySem.W.keepIn K (.ref (He.ga K "Rank")),
  PySem.W.readsIn K (He.ga K "Rank") (.type "type"),
  He.eqO (PySem.W.specialIn K (.ref (He.ga K "Rank")) "__getattribute__") (some (some (.builtin "type.__getattribute__"))),
  cmB K (He.ga K "Rank") (.type "type") "flat",
  cmB K (He.ga K "Rank") (.type "type") "of_levels",
  cmB K (He.ga K "Rank") (.type "type") "two",
  He.eqO (PySem.W.findIn K (.ref (He.ga K "Rank")) "beginnings") (some (some (.ref (He.ma K (He.ga K "Rank") "beginnings")))),
  PySem.W.isFn K (.ref (He.ma K (He.ga K "Rank") "beginnings")),
  PySem.W.keepIn K (.ref (He.ma K (He.ga K "Rank") "beginnings")),
  He.eqO (PySem.W.findIn K (.ref (He.ga K "Rank")) "__mul__") (some (some (.ref (He.ma K (He.ga K "Rank") "__mul__")))),
  PySem.W.isFn K (.ref (He.ma K (He.ga K "Rank") "__mul__")),
  PySem.W.selfFirst K (He.ga K "Rank"),
  He.eqO (PySem.W.findIn K (.ref (He.ga K "Rank")) "__eq__") (some (some (.ref (He.ma K (He.ga K "Rank") "__eq__")))),
  PySem.W.isFn K (.ref (He.ma K (He.ga K "Rank") "__eq__")),
  PySem.W.notFirst K (He.ga K "Rank") (.type "tuple"),
  PySem.W.notFirst K (He.ga K "Rank") (.type "list"),
  PySem.W.notFirst K (He.ga K "Rank") (.ref (He.ga K "Rank")),
  He.eqO (PySem.W.findIn K (.ref (He.ga K "Rank")) "__len__") (some (some (.ref (He.ma K (He.ga K "Rank") "__len__")))),
  PySem.W.isFn K (.ref (He.ma K (He.ga K "Rank") "__len__")),
  He.eqO (PySem.W.findIn K (.ref (He.ga K "Rank")) "__getitem__") (some (some (.ref (He.ma K (He.ga K "Rank") "__getitem__")))),
  PySem.W.isFn K (.ref (He.ma K (He.ga K "Rank") "__getitem__")),
  PySem.W.fnIn K (He.ma K (He.ga K "Rank") "__getitem__"),
  He.eqO (PySem.W.nsIn K mainGlobals "check_same_worlds") (some (some (.ref (He.ga K "check_same_worlds")))),
  He.eqO (PySem.W.nsIn K mainGlobals "products") (some (some (.ref (He.ga K "products")))),
  He.eqO (PySem.W.nsIn K mainGlobals "two_cells") (some (some (.ref (He.ga K "two_cells")))),
  He.eqO (PySem.W.nsIn K mainGlobals "finer") (some (some (.ref (He.ga K "finer")))),
  He.eqO (PySem.W.nsIn K mainGlobals "led_by") (some (some (.ref (He.ga K "led_by")))),
  He.eqO (PySem.W.nsIn K mainGlobals "lot_of_deed") (some (some (.ref (He.ga K "lot_of_deed")))),
  He.eqO (PySem.W.nsIn K mainGlobals "led") (some (some (.ref (He.ga K "led")))),
  He.eqO (PySem.W.nsIn K mainGlobals "_law_draws") (some (some (.ref (He.ga K "_law_draws")))),
  He.eqO (PySem.W.nsIn K mainGlobals "_law_take") (some (some (.ref (He.ga K "_law_take")))),
  He.eqO (PySem.W.nsIn K mainGlobals "_law_lot") (some (some (.ref (He.ga K "_law_lot")))),
  He.eqO (PySem.W.nsIn K mainGlobals "_law_some") (some (some (.ref (He.ga K "_law_some")))),
  He.eqO (PySem.W.nsIn K mainGlobals "_law_rest") (some (some (.ref (He.ga K "_law_rest")))),
  He.eqO (PySem.W.nsIn K mainGlobals "_law_plus") (some (some (.ref (He.ga K "_law_plus")))),
  He.eqO (PySem.W.nsIn K mainGlobals "_law_inside") (some (some (.ref (He.ga K "_law_inside")))),
  He.eqO (PySem.W.nsIn K mainGlobals "_law_dense") (some (some (.ref (He.ga K "_law_dense")))),
  He.eqO (PySem.W.nsIn K mainGlobals "_law_rank") (some (some (.ref (He.ga K "_law_rank")))),
  He.eqO (PySem.W.nsIn K mainGlobals "_law_cells") (some (some (.ref (He.ga K "_law_cells")))),
  He.eqO (PySem.W.nsIn K mainGlobals "_law_best") (some (some (.ref (He.ga K "_law_best")))),
  He.eqO (PySem.W.nsIn K mainGlobals "_law_held") (some (some (.ref (He.ga K "_law_held")))),
  He.eqO (PySem.W.nsIn K mainGlobals "_law_product") (some (some (.ref (He.ga K "_law_product")))),
  He.eqO (PySem.W.nsIn K mainGlobals "_law_turn") (some (some (.ref (He.ga K "_law_turn")))),
  He.eqO (PySem.W.nsIn K mainGlobals "_law_is_rank") (some (some (.ref (He.ga K "_law_is_rank")))),
  He.eqO (PySem.W.nsIn K mainGlobals "_law_finer") (some (some (.ref (He.ga K "_law_finer")))),
  He.eqO (PySem.W.nsIn K mainGlobals "_law_joined") (some (some (.ref (He.ga K "_law_joined")))),
  He.eqO (PySem.W.nsIn K mainGlobals "_law_goal") (some (some (.ref (He.ga K "_law_goal")))),
  He.eqO (PySem.W.nsIn K mainGlobals "_law_leads_right") (some (some (.ref (He.ga K "_law_leads_right")))),
  He.eqO (PySem.W.nsIn K mainGlobals "_law_two") (some (some (.ref (He.ga K "_law_two")))),
  He.eqO (PySem.W.nsIn K mainGlobals "_law_twos_right") (some (some (.ref (He.ga K "_law_twos_right")))),
  He.eqO (PySem.W.nsIn K mainGlobals "_law_led_right") (some (some (.ref (He.ga K "_law_led_right")))),
  He.eqO (PySem.W.nsIn K mainGlobals "_law_refused") (some (some (.ref (He.ga K "_law_refused")))),
  He.eqO (PySem.W.nsIn K mainGlobals "law") (some (some (.ref (He.ga K "law"))))]
def exB (K : PySem.W.Frag) : Bool := (exL K).all id

abbrev hk : PySem.W.Hook := hookM 6 exB fns
def ob (s : PySem.W.SharedT) : AlM := obsMG 6 exB fns (HandSHeadRun.getT s)
theorem ob_eq (s : PySem.W.SharedT) : ob s = hk.obs s.abs := obsMG_eq (HandSHeadRun.getT_eq s)
theorem run (w : World) : HandSHeadRun.RunEq Rw qv hk ob 8000 names w := by
  intro os
  kernel_rfl
end Mi.k17
set_option Elab.async false
set_option linter.all false
set_option maxRecDepth 100000
set_option maxHeartbeats 4000000
namespace Mi.k17
open Mi Mi.Pl
theorem v_whole (i : Int) (dr) : f_whole_number [.int i] dr = .ok (.bl true) dr := by
  simp [f_whole_number, e_fn1]
theorem v_rowL (xs dr) : f_is_row [.lst xs] dr = .ok (.bl true) dr := by
  simp [f_is_row, e_fn1]
theorem v_rowT (xs dr) : f_is_row [.tup xs] dr = .ok (.bl true) dr := by
  simp [f_is_row, e_fn1]
theorem v_check (n : Int) (dr) (h : 1 ≤ n ∧ n ≤ 12) : f_check_worlds [.int n] dr = .ok .non dr := by
  have h1 : ¬ n < 1 := by omega
  have h2 : ¬ 12 < n := by omega
  simp [f_check_worlds, e_fn1, v_whole, h1, h2]
theorem v_world (i n : Int) (dr) : f_is_world [.int i, .int n] dr = .ok (.bl (decide (0 ≤ i ∧ i < n))) dr := by
  by_cases h : 0 ≤ i
  · simp [f_is_world, e_fn2, v_whole, h]
  · simp [f_is_world, e_fn2, v_whole, h]
theorem v_every (n : Nat) (dr) (h : 1 ≤ n ∧ n ≤ 12) : f_every [.int n] dr = .ok (.tup ((List.range n).map fun i => .int (i : Nat))) dr := by
  simp [f_every, e_fn1, v_check n dr (by omega), range_of (show n ≤ 1000000 by omega), tuple_rng (show n ≤ 1000000 by omega)]
end Mi.k17
set_option Elab.async false
set_option linter.all false
set_option maxRecDepth 100000
set_option maxHeartbeats 4000000
namespace Mi.k17
open Mi Mi.Pl
theorem v_stranger (row : D) (ws : List Int) (n : Int) (dr) (hr : row.seq = some (ws.map .int)) (hw : ∀ x ∈ ws, 0 ≤ x ∧ x < n) (nd : ws.Nodup) (hl : ws.length < line) : f_first_stranger [row, .int n] dr = .ok .non dr := by
  obtain ⟨s', h1, js, a, b, h3, h2⟩ := for_inv (ws.zipIdx 0) (fun q => D.tup [.int (q.2 : Nat), .int q.1]) (fun done s => ∃ js a b, js = done.map (·.1) ∧ s = ⟨[.val row, .val (.int n), .own (.lst (js.map .int)), a, b], dr⟩)
    (g := .t [(.n 3), (.n 4)]) (w := wEnum (hE (mV 0))) (b := sSeq (sIf (tOr (tNot (tV (mCall f_is_world (mCons (mV 4) (mCons (mV 1) mNil))))) (tV (mCmp .mem (hP 4) (hP 2)))) (sRet (mV 3)) sNil) (sApp 2 (mV 4)))
    (s := ⟨[.val row, .val (.int n), .own (.lst []), .em, .em], dr⟩) (by simp [hr, enumD_map]) ⟨[], _, _, rfl, rfl⟩
    (by
      rintro done ⟨x, k⟩ rest s e ⟨js, a, b, ej, rfl⟩
      have e1 : ws = js ++ x :: rest.map (·.1) := by
        have := congrArg (List.map Prod.fst) e
        rw [ej]
        simpa using this
      have hx : 0 ≤ x ∧ x < n := hw x (by rw [e1]; simp)
      have hn : ¬ x ∈ js := fun h => by
        rw [e1] at nd
        exact (List.nodup_append.mp nd).2.2 x h x List.mem_cons_self rfl
      have hlen : js.length < line := by
        have := congrArg List.length e1
        simp only [List.length_append, List.length_cons, List.length_map] at this ⊢
        omega
      have hm := mem_lst x js
      rw [decide_eq_false hn] at hm
      refine ⟨⟨[.val row, .val (.int n), .own (.lst ((js ++ [x]).map .int)), .val (.int (k : Nat)), .val (.int x)], dr⟩, .inl ?_, js ++ [x], _, _, by simp [ej], rfl⟩
      rw [e_turnF]
      simp [v_world, hx, hm, hlen])
  simp only [f_first_stranger, e_fn2]
  simp [h1, h2]
end Mi.k17
set_option Elab.async false
set_option linter.all false
set_option maxRecDepth 100000
set_option maxHeartbeats 4000000
namespace Mi.k17
open Mi Mi.Pl
theorem v_row {row ws} (h : RowI row ws) (dr) : f_is_row [row] dr = .ok (.bl true) dr := by
  simp [f_is_row, e_fn1, h.isr]
theorem v_lot_of (row : D) (ws : List Int) (n : Int) (b : Bool) (dr) (hr : RowI row ws) (hn : 1 ≤ n ∧ n ≤ 12) (hw : ∀ x ∈ ws, 0 ≤ x ∧ x < n) (nd : ws.Nodup) (hl : ws.length < line) (he : ws ≠ []) :
    f_lot_of [row, .int n, .bl b] dr = .ok (.tup ((isort ws).map .int)) dr := by
  have h1 : ws.isEmpty = false := by cases ws with
    | nil => exact absurd rfl he
    | cons _ _ => rfl
  simp [f_lot_of, e_fn3, v_check n dr hn, v_row hr, v_stranger row ws n dr hr.seq hw nd hl, hr.tru, h1, hr.srt]
/-- the cells that a rank is made of -/
theorem v_told_in (cs : List (List Int)) (row : D) (dr) (k : Nat) (seen : List Int) (c : List Int) (a : SV) (hw : ∀ x ∈ c, 0 ≤ x ∧ x < 12) (nd : (seen ++ c).Nodup) (hl : (seen ++ c).length < line) :
    ∃ a', sFor (.n 4) (wOne (hE (mV 3))) (sSeq (sIf (tOr (tNot (tV (mCall f_is_world (mCons (mV 4) (mCons (mK (.int 12)) mNil))))) (tV (mCmp .mem (hP 4) (hP 1)))) (sRai 3 1 (mV 2)) sNil) (sApp 1 (mV 4)))
      ⟨[.val row, .own (.lst (seen.map .int)), .val (.int k), .val (.tup (c.map .int)), a], dr⟩ = .nx ⟨[.val row, .own (.lst ((seen ++ c).map .int)), .val (.int k), .val (.tup (c.map .int)), a'], dr⟩ := by
  obtain ⟨s', h1, js, a', h3, rfl⟩ := for_inv c (fun q => D.int q) (fun done s => ∃ js a, js = seen ++ done ∧ s = ⟨[.val row, .own (.lst (js.map .int)), .val (.int k), .val (.tup (c.map .int)), a], dr⟩)
    (g := .n 4) (w := wOne (hE (mV 3))) (b := sSeq (sIf (tOr (tNot (tV (mCall f_is_world (mCons (mV 4) (mCons (mK (.int 12)) mNil))))) (tV (mCmp .mem (hP 4) (hP 1)))) (sRai 3 1 (mV 2)) sNil) (sApp 1 (mV 4)))
    (s := ⟨[.val row, .own (.lst (seen.map .int)), .val (.int k), .val (.tup (c.map .int)), a], dr⟩) (by simp) ⟨seen, _, by simp, rfl⟩
    (by
      rintro done x rest s e ⟨js, a, ej, rfl⟩
      have hx : 0 ≤ x ∧ x < 12 := hw x (by rw [e]; simp)
      have e2 : seen ++ c = js ++ x :: rest := by rw [e, ej]; simp
      have hn : ¬ x ∈ js := fun h => by
        rw [e2] at nd
        exact (List.nodup_append.mp nd).2.2 x h x List.mem_cons_self rfl
      have hlen : js.length < line := by
        have := congrArg List.length e2
        simp only [List.length_append, List.length_cons] at this hl ⊢
        omega
      have hm := mem_lst x js
      rw [decide_eq_false hn] at hm
      refine ⟨⟨[.val row, .own (.lst ((js ++ [x]).map .int)), .val (.int k), .val (.tup (c.map .int)), .val (.int x)], dr⟩, .inl ?_, js ++ [x], _, by simp [ej], rfl⟩
      rw [e_turnF]
      simp [v_world, hx, hm, hlen])
  exact ⟨a', by rw [h1, h3]⟩
theorem v_told (row : D) (cs : List (List Int)) (n : Nat) (dr) (hq : row.seq = some (cs.map fun c => .tup (c.map .int))) (hi : row.items = some (cs.map fun c => .tup (c.map .int))) (hr : row.isa [.list, .tuple] = some true) (ht : row.tru = some true) 
    (hc : ∀ c ∈ cs, c ≠ [] ∧ ∀ x ∈ c, 0 ≤ x ∧ x < 12) (nd : cs.flatten.Nodup) (hs : isort cs.flatten = (List.range n).map fun (i : Nat) => (i : Int)) (hn : n ≤ 12) (hcl : cs.length ≤ line) :
    f_cells_told [row] dr = .ok (.tup (cs.map fun c => .tup ((isort c).map .int))) dr := by
  have hfl : cs.flatten.length = n := by
    have := congrArg List.length hs
    rw [isort_len] at this
    simpa using this
  have hline := line_ge
  have vr : ∀ dr, f_is_row [row] dr = .ok (.bl true) dr := fun dr => by simp [f_is_row, e_fn1, hr]
  obtain ⟨s', h1, js, a, b, d, h3, hb, rfl⟩ := for_inv (cs.zipIdx 0) (fun q => D.tup [.int (q.2 : Nat), .tup (q.1.map .int)]) (fun done s => ∃ js a b d, js = (done.map (·.1)).flatten ∧ b.isVal = true ∧ s = ⟨[.val row, .own (.lst (js.map .int)), a, b, d], dr⟩)
    (g := .t [(.n 2), (.n 3)]) (w := wEnum (hE (mV 0))) (b := (sSeq (sIf (tOr (tNot (tV (mCall f_is_row (mCons (mV 3) mNil)))) (tNot (tV (mP 3)))) (sRai 3 1 (mV 2)) sNil) (sFor (.n 4) (wOne (hE (mV 3))) (sSeq (sIf (tOr (tNot (tV (mCall f_is_world (mCons (mV 4) (mCons (mK (.int 12)) mNil))))) (tV (mCmp .mem (hP 4) (hP 1)))) (sRai 3 1 (mV 2)) sNil) (sApp 1 (mV 4))))))
    (s := ⟨[.val row, .own (.lst []), .em, .em, .em], dr⟩) (by simp [hq, enumD_map]) ⟨[], _, _, _, rfl, rfl, rfl⟩
    (by
      rintro done ⟨c, k⟩ rest s e ⟨js, a, b, d, ej, _, rfl⟩
      have e1 : cs = done.map (·.1) ++ c :: rest.map (·.1) := by
        have := congrArg (List.map Prod.fst) e
        simpa using this
      obtain ⟨hne, hw⟩ := hc c (by rw [e1]; simp)
      have e2 : cs.flatten = (js ++ c) ++ (rest.map (·.1)).flatten := by rw [e1, ej]; simp
      have hn2 : (js ++ c).Nodup := by rw [e2] at nd; exact (List.nodup_append.mp nd).1
      have hlen : (js ++ c).length < line := by
        have := congrArg List.length e2
        rw [hfl, List.length_append] at this
        omega
      obtain ⟨a', q⟩ := v_told_in cs row dr k js c d hw hn2 hlen
      have h1 : c.isEmpty = false := by cases c with
        | nil => exact absurd rfl hne
        | cons _ _ => rfl
      refine ⟨⟨[.val row, .own (.lst ((js ++ c).map .int)), .val (.int (k : Nat)), .val (.tup (c.map .int)), a'], dr⟩, .inl ?_, js ++ c, _, _, _, by simp [ej], rfl, rfl⟩
      rw [e_turnF]
      simp only [e_bind_2, List.set_cons_succ, List.set_cons_zero, List.set_nil]
      rw [e_sSeq]
      have hv := v_rowT (c.map .int)
      have hz : (c.map D.int).isEmpty = false := by simpa using h1
      simp [hv, hz]
      simpa using q)
  have ej : js = cs.flatten := by rw [h3]; simp
  have hcomp := comp_all cs (fun c => D.tup (c.map .int)) (fun c => D.tup ((isort c).map .int)) (vs := [3]) (g := .n 3) (w := wOne (hE (mV 0))) (t := tYes) (el := mBi .tuple (mBi .sorted (mP 3)))
    (s := ⟨[.val row, .own (.lst (js.map .int)), a, b, d], dr⟩) (by simp [hi]) (by simpa [freeS] using hb) hcl (fun c _ => ⟨[.val row, .own (.lst (js.map .int)), a, .val (.tup (c.map .int)), d], by simp [wipeS], by simp [wipeS], rfl, .inr ⟨_, rfl, rfl, by simp [srt_t]⟩⟩)
  have hs2 : isort js = (List.range n).map fun (i : Nat) => (i : Int) := by rw [ej]; exact hs
  have hjl : js.length = n := by rw [ej]; exact hfl
  have hlay : (D.lst ((List.range n).map fun (i : Nat) => D.int (i : Int))).lay 9 = true := by
    rw [lay_lst]
    exact layL_map fun k _ => lay_int _ _
  have hne := ne_self hlay
  have hmm : ((List.range n).map fun (i : Nat) => (i : Int)).map D.int = (List.range n).map fun (i : Nat) => D.int (i : Int) := by rw [List.map_map]; rfl
  simp only [f_cells_told, e_fn1]
  simp [vr, ht, h1, srt_l, hs2, hjl, range_of (show n ≤ 1000000 by omega), list_rng (show n ≤ 1000000 by omega), hmm, hne, hcomp]
end Mi.k17
set_option Elab.async false
set_option linter.all false
set_option maxRecDepth 100000
set_option maxHeartbeats 4000000
namespace Mi.k17
open Mi Mi.Pl
theorem v_cells_by {κ : Type} (marks : D) (T : List κ) (kd : κ → D) (key : Nat → D) (n : Nat) (q : Nat → κ → Bool) (dr) (hS : bi .sset marks = some (.lst (T.map kd)))
    (hq : marks.seq = some ((List.range n).map key)) (he : ∀ i, i < n → ∀ t ∈ T, cmp .eq (key i) (kd t) = some (q i t)) (hn : n ≤ 1000000) (hT : T.length ≤ 1000000) :
    f_cells_by [marks] dr = .ok (.tup (T.map fun t => .tup (((List.range n).filter fun i => q i t).map fun i => .int (i : Nat)))) dr := by
  have hline := line_ge
  obtain ⟨s', h1, js, a, h3, rfl⟩ := for_inv T kd (fun done s => ∃ js a, js = done.map (fun t => D.tup (((List.range n).filter fun i => q i t).map fun i => .int (i : Nat))) ∧ s = ⟨[.val marks, .own (.lst js), a, .em, .em], dr⟩)
    (g := .n 2) (w := wOne (hE (mBi .sset (mP 0)))) (b := sApp 1 (mBi .tuple (mComp [3, 4] (.t [(.n 3), (.n 4)]) (wEnum (hE (mV 0))) (tV (mCmp .eq (hP 4) (hP 2))) (mV 3))))
    (s := ⟨[.val marks, .own (.lst []), .em, .em, .em], dr⟩) (by simp [hS]) ⟨[], _, rfl, rfl⟩
    (by
      rintro done t rest s e ⟨js, a, ej, rfl⟩
      have hlen : js.length < line := by
        rw [ej, List.length_map]
        have := congrArg List.length e
        rw [List.length_append, List.length_cons] at this
        omega
      have ht : t ∈ T := by rw [e]; simp
      have hcomp := comp_map (List.range n) (fun i => D.tup [.int (i : Nat), key i]) (fun i => q i t) (fun i => D.int (i : Nat)) (vs := [3, 4]) (g := .t [(.n 3), (.n 4)]) (w := wEnum (hE (mV 0))) (t := tV (mCmp .eq (hP 4) (hP 2))) (el := mV 3)
        (s := ⟨[.val marks, .own (.lst js), .val (kd t), .em, .em], dr⟩) (by simp [hq, enumD_range]) rfl (by rw [List.length_range]; omega)
        (fun i hi => ⟨[.val marks, .own (.lst js), .val (kd t), .val (.int (i : Nat)), .val (key i)], by simp [wipeS], by simp [wipeS], rfl, by
          have hh := he i (List.mem_range.mp hi) t ht
          cases hqq : q i t with
          | false => exact .inl ⟨rfl, by simp [hh, hqq]⟩
          | true => exact .inr ⟨_, rfl, by simp [hh, hqq], by simp⟩⟩)
      refine ⟨⟨[.val marks, .own (.lst (js ++ [D.tup (((List.range n).filter fun i => q i t).map fun i => .int (i : Nat))])), .val (kd t), .em, .em], dr⟩, .inl ?_, _, _, by simp [ej], rfl⟩
      rw [e_turnF]
      simp [hcomp, hlen])
  simp only [f_cells_by, e_fn1]
  simp [h1, h3]
/-- a rank made -/
def rkD (n m : Nat) (f : Nat → Nat) : D := .ins 6 [2, 3, 4] [.int (n : Nat), .tup (cellsD n m f), .tup (lvD n f)]
theorem v_init (n m : Nat) (f : Nat → Nat) (row : D) (dr) (h : Rk n m f) (hq : row.seq = some (cellsD n m f)) (hi : row.items = some (cellsD n m f)) (hr : row.isa [.list, .tuple] = some true) (ht : row.tru = some true) :
    f_Rank_init [row] dr = .ok (rkD n m f) dr := by
  have hline := line_ge
  have h0 := h.lo
  have h12 := h.hi
  have e1 : cellsD n m f = (cellsI n m f).map fun c => D.tup (c.map .int) := by unfold cellsD cellsI; rw [List.map_map]; rfl
  have hm : m ≤ 12 := Nat.le_trans h.m_le h12
  have htold := v_told row (cellsI n m f) n dr (by rw [hq, e1]) (by rw [hi, e1]) hr ht
    (fun c hc => by
      obtain ⟨k, hk, rfl⟩ := List.mem_map.mp hc
      obtain ⟨i, hi, e⟩ := h.all k (List.mem_range.mp hk)
      refine ⟨List.ne_nil_of_mem (mem_cellI.mpr ⟨i, hi, e, rfl⟩), fun x hx => ?_⟩
      obtain ⟨j, hj, _, rfl⟩ := mem_cellI.mp hx
      omega) (cellsI_nd n m f) (cellsI_sort h.bd) h12 (by simp [cellsI]; omega)
  have e2 : ((cellsI n m f).map fun c => D.tup ((isort c).map .int)) = cellsD n m f := by
    rw [e1]
    apply List.map_congr_left
    intro c hc
    obtain ⟨k, hk, rfl⟩ := List.mem_map.mp hc
    rw [isort_idL (cellI_lt n f k)]
  rw [e2] at htold
  have hcell : cellsD n m f = (List.range m).map fun k => D.tup ((cellI n f k).map .int) := rfl
  have c1 := comp_all (List.range m) (fun k => D.tup ((cellI n f k).map .int)) (fun k => D.int ((cellI n f k).length : Nat)) (vs := [4]) (g := .n 4) (w := wOne (hE (mV 2))) (t := tYes) (el := mBi .len (mP 4))
    (s := ⟨[.own (.ins 6 [] []), .val row, .val (.tup (cellsD n m f)), .em, .em, .em, .em], dr⟩) (by simp [hcell]) rfl (by rw [List.length_range]; omega)
    (fun k hk => ⟨[.own (.ins 6 [] []), .val row, .val (.tup (cellsD n m f)), .em, .val (.tup ((cellI n f k).map .int)), .em, .em], by simp [wipeS], by simp [wipeS], rfl, .inr ⟨_, rfl, rfl, by simp⟩⟩)
  have s1 : bi .sum (.lst ((List.range m).map fun k => D.int ((cellI n f k).length : Nat))) = some (.int (n : Nat)) := by
    have q := sum_lst ((List.range m).map fun k => (((cellI n f k).length : Nat) : Int))
    rw [List.map_map, sum_cast, cells_total h.bd] at q
    exact q
  have c2 : ∀ (x : Nat), x < n → ∀ z, mComp [4, 5] (.t [(.n 5), (.n 4)]) (wEnum (hE (mV 2))) (tV (mCmp .mem (hP 6) (hP 4))) (mV 5) ⟨[.own z, .val row, .val (.tup (cellsD n m f)), .val (.rng 0 n), .em, .em, .val (.int (x : Nat))], dr⟩ = .ok (.lst [.int (f x : Nat)]) ⟨[.own z, .val row, .val (.tup (cellsD n m f)), .val (.rng 0 n), .em, .em, .val (.int (x : Nat))], dr⟩ := by
    intro x hx z
    have q := comp_map (List.range m) (fun k => D.tup [.int (k : Nat), D.tup ((cellI n f k).map .int)]) (fun k => k == f x) (fun k => D.int (k : Nat)) (vs := [4, 5]) (g := .t [(.n 5), (.n 4)]) (w := wEnum (hE (mV 2))) (t := tV (mCmp .mem (hP 6) (hP 4))) (el := mV 5)
      (s := ⟨[.own z, .val row, .val (.tup (cellsD n m f)), .val (.rng 0 n), .em, .em, .val (.int (x : Nat))], dr⟩) (by simp [hcell, enumD_range]) rfl (by rw [List.length_range]; omega)
      (fun k hk => ⟨[.own z, .val row, .val (.tup (cellsD n m f)), .val (.rng 0 n), .val (D.tup ((cellI n f k).map .int)), .val (.int (k : Nat)), .val (.int (x : Nat))], by simp [wipeS], by simp [wipeS], rfl, by
        have hh := mem_tup (x : Int) (cellI n f k)
        have hb : decide ((x : Int) ∈ cellI n f k) = (k == f x) := by
          by_cases e : k = f x
          · rw [decide_eq_true (mem_cellI.mpr ⟨x, hx, e.symm, rfl⟩), e]; simp
          · rw [decide_eq_false (fun z => by obtain ⟨j, _, h2, h3⟩ := mem_cellI.mp z; have : x = j := by omega
                                             subst this; exact e h2.symm), beq_eq_false_iff_ne.mpr e]
        rw [hb] at hh
        cases hqq : (k == f x) with
        | false => exact .inl ⟨rfl, by simp [hh, hqq]⟩
        | true => exact .inr ⟨_, rfl, by simp [hh, hqq], by simp⟩⟩)
    rw [filter_one (h.bd x hx)] at q
    exact q
  have c3 : ∀ z, mComp [6] (.n 6) (wOne (hE (mV 3))) tYes (mSub (hE (mComp [4, 5] (.t [(.n 5), (.n 4)]) (wEnum (hE (mV 2))) (tV (mCmp .mem (hP 6) (hP 4))) (mV 5))) (mK (.int 0))) ⟨[.own z, .val row, .val (.tup (cellsD n m f)), .val (.rng 0 n), .em, .em, .em], dr⟩ = .ok (.lst (lvD n f)) ⟨[.own z, .val row, .val (.tup (cellsD n m f)), .val (.rng 0 n), .em, .em, .em], dr⟩ := by
    intro z
    exact comp_all (List.range n) (fun x => D.int (x : Nat)) (fun x => D.int (f x : Nat)) (by simp [items_rng (show n ≤ 1000000 by omega)]) rfl (by rw [List.length_range]; omega)
      (fun x hx => ⟨[.own z, .val row, .val (.tup (cellsD n m f)), .val (.rng 0 n), .em, .em, .val (.int (x : Nat))], by simp [wipeS], by simp [wipeS], rfl, .inr ⟨_, rfl, rfl, by simp [c2 x (List.mem_range.mp hx) z, ixN_zero]⟩⟩)
  simp only [f_Rank_init, e_ini1]
  simp [htold, c1, s1, range_of (show n ≤ 1000000 by omega), len_rng (show n < 1000000 by omega), c3]
  rfl
end Mi.k17
set_option Elab.async false
set_option linter.all false
set_option maxRecDepth 100000
set_option maxHeartbeats 4000000
namespace Mi.k17
open Mi Mi.Pl
/-- the cells told by intsD -/
theorem v_cells_int (n : Nat) (a : Nat → Int) (h1 : 1 ≤ n) (h2 : n ≤ 12) : ∃ m f, Rk n m f ∧ (Lv n f fun i j => a i < a j) ∧ ∀ dr, f_cells_by [.lst ((List.range n).map fun i => .int (a i))] dr = .ok (.tup (cellsD n m f)) dr := by
  let ks := (List.range n).map a
  have hl : (isort (nub ks)).length ≤ n := by
    rw [isort_len]
    have := nub_len ks
    simpa [ks] using this
  obtain ⟨f, r1, r2, r3⟩ := rk_of (· < ·) (fun (x y : Int) h k => by omega) (fun x y h => by omega) (isort (nub ks)) (isort_nub_lt ks) n a
    (fun k => by rw [mem_isort, mem_nub]; simp [ks]) hl h1 h2 (fun i t => a i == t) (fun i _ t _ => by simp)
  refine ⟨_, f, r1, r2, fun dr => ?_⟩
  have e1 : ((List.range n).map fun i => D.int (a i)) = ks.map .int := by simp only [ks, List.map_map]; rfl
  rw [v_cells_by (.lst ((List.range n).map fun i => .int (a i))) (isort (nub ks)) D.int (fun i => .int (a i)) n (fun i t => a i == t) dr (by rw [e1]; exact sset_ints ks (by simp [ks]; omega)) rfl (fun i _ t _ => by simp) (by omega) (by omega), r3]
/-- .. by pairs -/
theorem v_cells_two (n : Nat) (a b : Nat → Nat) (h1 : 1 ≤ n) (h2 : n ≤ 12) : ∃ m f, Rk n m f ∧ Lv n f (lex a b) ∧ ∀ dr, f_cells_by [.lst ((List.range n).map fun i => .tup [.int (a i : Nat), .int (b i : Nat)])] dr = .ok (.tup (cellsD n m f)) dr := by
  let ks := (List.range n).map fun i => [(a i : Int), (b i : Int)]
  have hl : (rsort (nub ks)).length ≤ n := by
    rw [(rsort_perm _).length_eq]
    have := nub_len ks
    simpa [ks] using this
  obtain ⟨f, r1, r2, r3⟩ := rk_of rlt (fun x y h k => rlt_as h k) (fun x y h => rlt_tot h) (rsort (nub ks)) (rsort_nub_lt ks) n (fun i => [(a i : Int), (b i : Int)])
    (fun k => by rw [mem_rsort, mem_nub]; simp [ks]) hl h1 h2 (fun i t => decide ([(a i : Int), (b i : Int)] = t)) (fun i _ t _ => by simp)
  refine ⟨_, f, r1, ⟨r2.bd, r2.dn, fun i hi j hj => (r2.od i hi j hj).trans (rlt_two.trans ?_)⟩, fun dr => ?_⟩
  · unfold lex
    omega
  have e1 : ((List.range n).map fun i => D.tup [.int (a i : Nat), .int (b i : Nat)]) = ks.map fun r => .tup (r.map .int) := by simp only [ks, List.map_map]; rfl
  have hne : ks ≠ [] := by
    intro z
    have := congrArg List.length z
    simp [ks] at this
    omega
  rw [v_cells_by (.lst ((List.range n).map fun i => .tup [.int (a i : Nat), .int (b i : Nat)])) (rsort (nub ks)) (fun r => .tup (r.map .int)) (fun i => .tup [.int (a i : Nat), .int (b i : Nat)]) n (fun i t => decide ([(a i : Int), (b i : Int)] = t)) dr
    (by rw [e1]; exact sset_rows ks hne (rowsOk_two a b h1 h2)) rfl (fun i _ t _ => by
      have hl : (D.tup (t.map .int)).lay 9 = true := by rw [lay_tup]; exact layL_map fun k _ => lay_int _ _
      have q := eqvL_ints [(a i : Int), (b i : Int)] t
      simp only [List.map_cons, List.map_nil] at q
      simp only [cmp, hl]
      simp [q]) (by omega) (by omega), r3]
theorem tru_cells {n m f} (h : Rk n m f) : (D.tup (cellsD n m f)).tru = some true := by
  have hm : 0 < m := Nat.lt_of_le_of_lt (Nat.zero_le _) (h.bd 0 h.lo)
  rw [tru_tup]
  have : (cellsD n m f).isEmpty = false := by
    cases e : cellsD n m f with
    | nil => have := congrArg List.length e; simp [cellsD] at this; omega
    | cons _ _ => rfl
  rw [this]
  rfl
theorem v_init_t {n m f} (h : Rk n m f) (dr) : f_Rank_init [.tup (cellsD n m f)] dr = .ok (rkD n m f) dr := v_init n m f _ dr h rfl rfl rfl (tru_cells h)
theorem v_init_l {n m f} (h : Rk n m f) (dr) : f_Rank_init [.lst (cellsD n m f)] dr = .ok (rkD n m f) dr := v_init n m f _ dr h rfl rfl rfl (by have := tru_cells h; simpa using this)
/-- two ranks of the same order are one -/
theorem rk_same {n m m' f g} (a : Rk n m f) (b : Rk n m' g) (h : ∀ i, i < n → f i = g i) : rkD n m f = rkD n m' g := by
  have := a.m_eq b h
  subst this
  unfold rkD
  rw [cellsD_congr h, lvD_congr h]
theorem tabC_at : tabC.lookup 6 = some f_Rank_init := by simp [tabC]
theorem tabMul_at : tabMul.lookup 6 = some f_Rank_mul := by simp [tabMul]
theorem tabEq_at : tabEq.lookup 6 = some f_Rank_eq := by simp [tabEq]
theorem tabLen_at : tabLen.lookup 6 = some f_Rank_len := by simp [tabLen]
theorem tabGet_at : tabGet.lookup 6 = some f_Rank_getitem := by simp [tabGet]
/-- all worlds alike -/
theorem flat_rk {n : Nat} (h1 : 1 ≤ n) (h2 : n ≤ 12) : Rk n 1 fun _ => 0 := ⟨h1, h2, fun _ _ => Nat.one_pos, fun k hk => ⟨0, h1, by omega⟩⟩
theorem flat_lv {n : Nat} (h1 : 1 ≤ n) : Lv n (fun _ => 0) fun _ _ => False := ⟨fun _ _ => h1, fun i _ m h => (by cases h), fun i _ j _ => (by simp)⟩
theorem v_flat (n : Nat) (dr) (h1 : 1 ≤ n) (h2 : n ≤ 12) : f_Rank_flat [.cls 6, .int n] dr = .ok (rkD n 1 fun _ => 0) dr := by
  have e : cellsD n 1 (fun _ => 0) = [.tup ((List.range n).map fun i => .int (i : Nat))] := by
    have e2 : ((List.range n).filter fun i => (0 : Nat) == 0) = List.range n := List.filter_eq_self.mpr fun _ _ => rfl
    simp only [cellsD, cellI, cellN]
    show [D.tup ((((List.range n).filter fun i => (0 : Nat) == 0).map fun (i : Nat) => (i : Int)).map .int)] = _
    rw [e2, List.map_map]
    rfl
  have q := v_init_t (flat_rk h1 h2) dr
  rw [e] at q
  have hl := line_ge
  simp [f_Rank_flat, e_fn2, tabC_at, v_every n dr ⟨h1, h2⟩, q, show 1 ≤ line by omega]
theorem v_of_levels (n : Nat) (a : Nat → Int) (h1 : 1 ≤ n) (h2 : n ≤ 12) : ∃ m f, Rk n m f ∧ (Lv n f fun i j => a i < a j) ∧ ∀ dr, f_Rank_of_levels [.cls 6, .lst ((List.range n).map fun i => .int (a i))] dr = .ok (rkD n m f) dr := by
  obtain ⟨m, f, r1, r2, r3⟩ := v_cells_int n a h1 h2
  refine ⟨m, f, r1, r2, fun dr => ?_⟩
  have hl := line_ge
  have c1 := comp_all (List.range n) (fun i => D.int (a i)) (fun i => D.bl true) (vs := [2]) (g := .n 2) (w := wOne (hE (mV 1))) (t := tYes) (el := mCall f_whole_number (mCons (mV 2) mNil))
    (s := ⟨[.val (.cls 6), .val (.lst ((List.range n).map fun i => .int (a i))), .em], dr⟩) (by simp) rfl (by rw [List.length_range]; omega)
    (fun i hi => ⟨[.val (.cls 6), .val (.lst ((List.range n).map fun i => .int (a i))), .val (.int (a i))], by simp [wipeS], by simp [wipeS], rfl, .inr ⟨_, rfl, rfl, by simp [v_whole]⟩⟩)
  have h3 : bi .all (.lst ((List.range n).map fun i => D.bl true)) = some (.bl true) := by
    show (bools ((List.range n).map fun i => D.bl true)).map (fun bs => D.bl (bs.all id)) = _
    rw [bools_map (fun _ => true)]
    simp
  have g1 : (1 : Int) ≤ (n : Nat) := by omega
  have g2 : ((n : Nat) : Int) ≤ 12 := by omega
  simp [f_Rank_of_levels, e_fn2, v_rowL, g1, g2, c1, h3, tabC_at, r3, v_init_t r1]
theorem v_mul {n m m' f g} (a : Rk n m f) (b : Rk n m' g) : ∃ k u, Rk n k u ∧ Lv n u (lex f g) ∧ ∀ dr, f_Rank_mul [rkD n m f, rkD n m' g] dr = .ok (rkD n k u) dr := by
  obtain ⟨k, u, r1, r2, r3⟩ := v_cells_two n f g a.lo a.hi
  refine ⟨k, u, r1, r2, fun dr => ?_⟩
  have hl := line_ge
  have h2 := a.hi
  have c1 := comp_all (List.range n) (fun i => D.tup [.int (i : Nat), .int (f i : Nat)]) (fun i => D.tup [.int (f i : Nat), .int (g i : Nat)]) (vs := [2, 3]) (g := .t [(.n 2), (.n 3)]) (w := wEnum (hE (mAtt 4 (mV 0)))) (t := tYes) (el := mTup (mCons (mV 3) (mCons (mSub (hE (mAtt 4 (mV 1))) (mV 2)) mNil)))
    (s := ⟨[.val (rkD n m f), .val (rkD n m' g), .em, .em], dr⟩) (by simp [rkD, lvD, enumD_range]) rfl (by rw [List.length_range]; omega)
    (fun i hi => ⟨[.val (rkD n m f), .val (rkD n m' g), .val (.int (i : Nat)), .val (.int (f i : Nat))], by simp [wipeS], by simp [wipeS], rfl, .inr ⟨_, rfl, rfl, by
      have hi := List.mem_range.mp hi
      simp [rkD, lvD, ixN_nat hi, hi, show 2 ≤ line by omega]⟩⟩)
  simp only [f_Rank_mul, e_fn2]
  simp only [rkD] at c1 ⊢
  simp [c1, r3, v_init_t r1]
  rfl
theorem v_mul_no {n n' m m' f g} (dr) (h : n ≠ n') : f_Rank_mul [rkD n m f, rkD n' m' g] dr = .ex 5 [2] [.int (n' : Nat)] dr := by
  have h2 : ((n' : Nat) : Int) ≠ (n : Nat) := by omega
  have h3 : (((n' : Nat) : Int) == (n : Nat)) = false := beq_eq_false_iff_ne.mpr h2
  simp [f_Rank_mul, e_fn2, rkD, h3]
theorem mul_at {a b : M D} {s s1 s2 : S} {vs vs' c c' ns ns'} (h1 : a s = .ok (.ins 6 ns vs) s1) (h2 : b s1 = .ok (.ins 6 ns' vs') s2) (h3 : f_Rank_mul [.ins 6 ns vs, .ins 6 ns' vs'] s2.dr = .ok (.ins 6 c c') s2.dr) : mMulo tabMul a b s = .ok (.ins 6 c c') s2 := by
  simp only [mMulo, h1, h2, e_then_ok, tabMul_at, if_true]
  show (callF f_Rank_mul [D.ins 6 ns vs, D.ins 6 ns' vs'] ⟨s2.σ, s2.dr⟩).then _ = _
  simp [h3]
theorem e_mul {n m m' k f g u} {a b : M D} {s s1 s2 : S} (h1 : a s = .ok (rkD n m f) s1) (h2 : b s1 = .ok (rkD n m' g) s2) (h3 : ∀ dr, f_Rank_mul [rkD n m f, rkD n m' g] dr = .ok (rkD n k u) dr) : mMulo tabMul a b s = .ok (rkD n k u) s2 := mul_at h1 h2 (h3 _)
theorem e_mul_no {n n' m m' f g} {a b : M D} {s s1 s2 : S} (h : n ≠ n') (h1 : a s = .ok (rkD n m f) s1) (h2 : b s1 = .ok (rkD n' m' g) s2) : mMulo tabMul a b s = .ex 5 [2] [.int (n' : Nat)] s2 := by
  have q := v_mul_no (m := m) (m' := m') (f := f) (g := g) s2.dr h
  unfold rkD at *
  simp only [mMulo, h1, h2, e_then_ok, tabMul_at, if_true]
  show (callF f_Rank_mul _ ⟨s2.σ, s2.dr⟩).then _ = _
  simp [q]
end Mi.k17
set_option Elab.async false
set_option linter.all false
set_option maxRecDepth 100000
set_option maxHeartbeats 4000000
namespace Mi.k17
open Mi Mi.Pl
theorem v_dense (n : Nat) (a : Nat → Int) (h1 : 1 ≤ n) (h2 : n ≤ 12) : ∃ f, (Lv n f fun i j => a i < a j) ∧ (∃ m, Rk n m f) ∧ ∀ dr, f__law_dense [.lst ((List.range n).map fun i => .int (a i))] dr = .ok (.lst (lvD n f)) dr := by
  have hline := line_ge
  let ks := (List.range n).map a
  have e1 : ((List.range n).map fun i => D.int (a i)) = ks.map .int := by simp only [ks, List.map_map]; rfl
  have hsl : (isort ks).length = n := by rw [isort_len]; simp [ks]
  -- the walk
  have hw : ∀ dr, ∃ (T : List Int) (a' : SV), T.Pairwise (· < ·) ∧ (∀ x, x ∈ T ↔ x ∈ isort ks) ∧ T.length ≤ n ∧ sFor (.n 2) (wOne (hE (mBi .sorted (mP 0)))) (sIf (tOr (tV (mCmp .eq (hE (mBi .len (mP 1))) (hE (mK (.int 0))))) (tV (mCmp .ne (hE (mSub (hP 1) (mNeg (mK (.int 1))))) (hP 2)))) (sApp 1 (mV 2)) sNil)
      ⟨[.val (.lst (ks.map .int)), .own (.lst []), .em], dr⟩ = .nx ⟨[.val (.lst (ks.map .int)), .own (.lst (T.map .int)), a'], dr⟩ ∧ a'.isVal = true := by
    intro dr
    obtain ⟨s', q1, T, a', q2, q3, q4, q5, rfl⟩ := for_inv (isort ks) D.int (fun done s => ∃ (T : List Int) (a' : SV), T.Pairwise (· < ·) ∧ (∀ x, x ∈ T ↔ x ∈ done) ∧ T.length ≤ done.length ∧ a'.isVal = true ∧ s = ⟨[.val (.lst (ks.map .int)), .own (.lst (T.map .int)), a'], dr⟩)
      (g := .n 2) (w := wOne (hE (mBi .sorted (mP 0)))) (b := sIf (tOr (tV (mCmp .eq (hE (mBi .len (mP 1))) (hE (mK (.int 0))))) (tV (mCmp .ne (hE (mSub (hP 1) (mNeg (mK (.int 1))))) (hP 2)))) (sApp 1 (mV 2)) sNil)
      (s := ⟨[.val (.lst (ks.map .int)), .own (.lst []), .em], dr⟩) (by simp [srt_l]) ⟨[], .em, List.Pairwise.nil, fun _ => Iff.rfl, Nat.le_refl _, rfl, rfl⟩
      (by
        rintro done x rest s e ⟨T, a', p1, p2, p3, p4, rfl⟩
        have hle : ∀ y ∈ done, y ≤ x := by
          have q := isort_sorted ks
          rw [e] at q
          exact fun y hy => (List.pairwise_append.mp q).2.2 y hy x List.mem_cons_self
        have hdl : done.length < n := by
          have := congrArg List.length e
          rw [hsl, List.length_append, List.length_cons] at this
          omega
        rcases List.eq_nil_or_concat T with rfl | ⟨T', y, rfl⟩
        · refine ⟨⟨[.val (.lst (ks.map .int)), .own (.lst ([x].map .int)), .val (.int x)], dr⟩, .inl ?_, [x], _, by simp, fun z => ?_, by simp, rfl, rfl⟩
          · rw [e_turnF]
            simp [show 0 < line by omega]
          · have hd : done = [] := by
              cases done with
              | nil => rfl
              | cons d r => have := (p2 d).mpr List.mem_cons_self; cases this
            rw [hd]
            rfl
        · rw [List.concat_eq_append] at *
          have hyd : y ∈ done := (p2 y).mp (by simp)
          have hyx := hle y hyd
          have hsub : Mi.sub (.lst ((T' ++ [y]).map .int)) (.int (-1)) = some (.int y) := by
            rw [sub_lst]
            have : ixN ((T' ++ [y]).map D.int).length (-1) = some T'.length := by
              unfold ixN
              rw [if_neg (by omega)]
              simp
              omega
            rw [this]
            simp
          have hlen : ((T' ++ [y]).map D.int).length < line := by rw [List.length_map]; omega
          have hl0 : ((((T' ++ [y]).map D.int).length : Nat) : Int) ≠ 0 := by simp; omega
          by_cases hxy : y = x
          · subst hxy
            refine ⟨⟨[.val (.lst (ks.map .int)), .own (.lst ((T' ++ [y]).map .int)), .val (.int y)], dr⟩, .inl ?_, T' ++ [y], _, p1, fun z => ?_, by simp at p3 ⊢; omega, rfl, rfl⟩
            · rw [e_turnF]
              generalize hG : (T' ++ [y]).map D.int = G at *
              have hb : ((G.length : Int) == 0) = false := beq_eq_false_iff_ne.mpr hl0
              simp [hsub, hb]
            · rw [p2 z]
              simp
              intro hz
              exact hz ▸ hyd
          · have hlt : ∀ z ∈ T' ++ [y], z < x := by
              intro z hz
              have := hle z ((p2 z).mp hz)
              rcases List.mem_append.mp hz with hz | hz
              · have := (List.pairwise_append.mp p1).2.2 z hz y (by simp)
                omega
              · simp at hz
                omega
            refine ⟨⟨[.val (.lst (ks.map .int)), .own (.lst ((T' ++ [y] ++ [x]).map .int)), .val (.int x)], dr⟩, .inl ?_, T' ++ [y] ++ [x], _, ?_, fun z => ?_, by simp at p3 ⊢; omega, rfl, rfl⟩
            · rw [e_turnF]
              rw [List.map_append (l₁ := T' ++ [y])]
              generalize hG : (T' ++ [y]).map D.int = G at *
              have hb : ((G.length : Int) == 0) = false := beq_eq_false_iff_ne.mpr hl0
              have hb2 : (y == x) = false := beq_eq_false_iff_ne.mpr hxy
              simp [hsub, hb, hb2, hlen]
            · rw [List.pairwise_append]
              exact ⟨p1, by simp, fun z hz w hw => by simp at hw; rw [hw]; exact hlt z hz⟩
            · rw [List.mem_append, p2 z, List.mem_append])
    exact ⟨T, a', q2, q3, by rw [hsl] at q4; exact q4, q1, q5⟩
  let T := isort (nub ks)
  have hTl : T.length ≤ n := by
    show (isort (nub ks)).length ≤ n
    rw [isort_len]
    have := nub_len ks
    simpa [ks] using this
  have hTm : ∀ k, k ∈ T ↔ ∃ i, i < n ∧ a i = k := fun k => by
    show k ∈ isort (nub ks) ↔ _
    rw [mem_isort, mem_nub]
    simp [ks]
  obtain ⟨f, g1, g2, g3, g4⟩ := idx_spec (· < ·) (fun (x y : Int) h k => by omega) (fun x y h => by omega) T (isort_nub_lt ks) n a hTm hTl
  refine ⟨f, g4, ⟨T.length, h1, h2, g3, g2⟩, fun dr => ?_⟩
  obtain ⟨T2, a', t1, t2, t3, t4, t5⟩ := hw dr
  have hT2 : T2 = T := sorted_uniq t1 (isort_nub_lt ks) fun x => by
    rw [t2, hTm, mem_isort]
    simp [ks]
  subst hT2
  have c1 := comp_all (List.range n) (fun i => D.int (a i)) (fun i => D.int (f i : Nat)) (vs := [2]) (g := .n 2) (w := wOne (hE (mV 0))) (t := tYes) (el := mIdx (hP 1) (mV 2))
    (s := ⟨[.val (.lst (ks.map .int)), .own (.lst (T.map .int)), a'], dr⟩) (by simp [ks]) (by simpa [freeS] using t5) (by rw [List.length_range]; omega)
    (fun i hi => ⟨[.val (.lst (ks.map .int)), .own (.lst (T.map .int)), .val (.int (a i))], by simp [wipeS], by simp [wipeS], rfl, .inr ⟨_, rfl, rfl, by
      have q := idxD_ints (lt_nodup t1) (g1 i (List.mem_range.mp hi))
      simp [q]⟩⟩)
  rw [e1]
  simp only [f__law_dense, e_fn1]
  simp [t4, c1]
  rfl
end Mi.k17
set_option Elab.async false
set_option linter.all false
set_option maxRecDepth 100000
set_option maxHeartbeats 4000000
namespace Mi.k17
open Mi Mi.Pl
theorem v_take (b : Int) (hb : 0 < b) (dr) : ∃ (x : Nat) (dr' : List Int), f__law_take [.dr, .int b] dr = .ok (.int (x : Nat)) dr' ∧ (x : Int) < b := by
  cases h : dr.getLast? with
  | none =>
    have : dr = [] := List.getLast?_eq_none_iff.mp h
    subst this
    refine ⟨0, [], ?_, hb⟩
    simp [f__law_take, e_fn2]
  | some z =>
    have hne : dr ≠ [] := fun e => by subst e; cases h
    have hl : ((dr.length : Nat) : Int) ≠ 0 := by
      have := List.length_pos_iff.mpr hne
      omega
    have hl2 : (((dr.length : Nat) : Int) == 0) = false := beq_eq_false_iff_ne.mpr hl
    have h1 := Int.emod_nonneg z (show b ≠ 0 by omega)
    have h2 := Int.emod_lt_of_pos z hb
    refine ⟨(z % b).toNat, dr.dropLast, ?_, by omega⟩
    have hm : bin .mod (.int z) (.int b) = some (.int (z % b)) := by simp [bin, binI, hb]
    rw [Int.toNat_of_nonneg h1]
    simp [f__law_take, e_fn2, hl2, h, hm]
theorem v_lot (n : Nat) (h2 : n ≤ 12) (dr) : ∃ (ws : List Int) (dr' : List Int), f__law_lot [.dr, .int n] dr = .ok (.tup (ws.map .int)) dr' := by
  have hline := line_ge
  obtain ⟨ds, dr', c1, c2, c3, c4⟩ := comp_dr (List.range n) (fun i => D.int (i : Nat)) (fun d => ∃ i : Int, d = .int i) (vs := [2]) (g := .n 2) (w := wR1 (mV 1)) (t := tV (mCmp .eq (hE (mCall f__law_take (mCons (mV 0) (mCons (mK (.int 2)) mNil)))) (hE (mK (.int 1))))) (el := mV 2)
    (s := ⟨[.val .dr, .val (.int n), .em], dr⟩) (by simp [small_of (show -1000000 ≤ (n : Int) ∧ (n : Int) ≤ 1000000 by omega), rngL0]) rfl (by rw [List.length_range]; omega)
    (fun i hi dr => ⟨[.val .dr, .val (.int n), .val (.int (i : Nat))], by simp [wipeS], by simp [wipeS], rfl, by
      obtain ⟨x, dr1, q, _⟩ := v_take 2 (by omega) dr
      refine ⟨dr1, ?_⟩
      by_cases hx : (x : Int) = 1
      · exact .inr ⟨by simp [q, hx], .int (i : Nat), dr1, by simp, _, rfl⟩
      · have hx2 : ((x : Int) == 1) = false := beq_eq_false_iff_ne.mpr hx
        exact .inl (by simp [q, hx2])⟩)
  have hds : ∃ ws : List Int, ds = ws.map .int := by
    clear c1 c3 c4
    induction ds with
    | nil => exact ⟨[], rfl⟩
    | cons d r ih =>
      obtain ⟨i, rfl⟩ := c2 d List.mem_cons_self
      obtain ⟨ws, rfl⟩ := ih fun d hd => c2 d (List.mem_cons_of_mem _ hd)
      exact ⟨i :: ws, rfl⟩
  obtain ⟨ws, rfl⟩ := hds
  refine ⟨ws, dr', ?_⟩
  simp [f__law_lot, e_fn2, c1]
/-- a lot of worlds -/
def ltN (n : Nat) (p : Nat → Bool) : List Nat := (List.range n).filter p
def natD (l : List Nat) : List D := l.map fun i => .int (i : Nat)
theorem natD_int (l : List Nat) : natD l = (l.map fun (i : Nat) => (i : Int)).map .int := by unfold natD; rw [List.map_map]; rfl
theorem v_some (n : Nat) (h1 : 1 ≤ n) (h2 : n ≤ 12) (dr) : ∃ (p : Nat → Bool) (dr' : List Int), f__law_some [.dr, .int n] dr = .ok (.tup (natD (ltN n p))) dr' ∧ ltN n p ≠ [] := by
  have hline := line_ge
  obtain ⟨x, dr1, q1, hx⟩ := v_take n (by omega) dr
  obtain ⟨ws, dr2, q2⟩ := v_lot n h2 dr1
  have c1 := comp_map (List.range n) (fun i => D.int (i : Nat)) (fun i => i == x || decide ((i : Int) ∈ ws)) (fun i => D.int (i : Nat)) (vs := [4]) (g := .n 4) (w := wR1 (mV 1)) (t := tOr (tV (mCmp .eq (hP 4) (hP 2))) (tV (mCmp .mem (hP 4) (hP 3)))) (el := mV 4)
    (s := ⟨[.val .dr, .val (.int n), .val (.int (x : Nat)), .val (.tup (ws.map .int)), .em], dr2⟩) (by simp [small_of (show -1000000 ≤ (n : Int) ∧ (n : Int) ≤ 1000000 by omega), rngL0]) rfl (by rw [List.length_range]; omega)
    (fun i hi => ⟨[.val .dr, .val (.int n), .val (.int (x : Nat)), .val (.tup (ws.map .int)), .val (.int (i : Nat))], by simp [wipeS], by simp [wipeS], rfl, by
      have hm := mem_tup (i : Int) ws
      by_cases e : i = x
      · subst e
        exact .inr ⟨.int (i : Nat), by simp, by simp, by simp⟩
      · have e2 : ((i : Int) == (x : Nat)) = false := beq_eq_false_iff_ne.mpr (by omega)
        have e3 : (i == x) = false := beq_eq_false_iff_ne.mpr e
        by_cases hw : (i : Int) ∈ ws
        · rw [decide_eq_true hw] at hm
          exact .inr ⟨.int (i : Nat), by simp [hw], by simp [e2, hm], by simp⟩
        · rw [decide_eq_false hw] at hm
          exact .inl ⟨by simp [e3, hw], by simp [e2, hm]⟩⟩)
  refine ⟨fun i => i == x || decide ((i : Int) ∈ ws), dr2, ?_, ?_⟩
  · simp [f__law_some, e_fn2, q1, q2, c1]
    rfl
  · exact List.ne_nil_of_mem (List.mem_filter.mpr ⟨List.mem_range.mpr (show x < n by omega), by simp⟩)
theorem v_rank (n : Nat) (h1 : 1 ≤ n) (h2 : n ≤ 12) (dr) : ∃ (f : Nat → Nat) (dr' : List Int), f__law_rank [.dr, .int n] dr = .ok (.lst (lvD n f)) dr' ∧ (Lv n f fun i j => f i < f j) ∧ ∃ m, Rk n m f := by
  have hline := line_ge
  obtain ⟨ds, dr', c1, c2, _, c3⟩ := comp_dr (List.range n) (fun i => D.int (i : Nat)) (fun d => ∃ i : Int, d = .int i) (vs := [2]) (g := .n 2) (w := wR1 (mV 1)) (t := tYes) (el := mCall f__law_take (mCons (mV 0) (mCons (mV 1) mNil)))
    (s := ⟨[.val .dr, .val (.int n), .em], dr⟩) (by simp [small_of (show -1000000 ≤ (n : Int) ∧ (n : Int) ≤ 1000000 by omega), rngL0]) rfl (by rw [List.length_range]; omega)
    (fun i hi dr => ⟨[.val .dr, .val (.int n), .val (.int (i : Nat))], by simp [wipeS], by simp [wipeS], rfl, by
      obtain ⟨x, dr1, q, _⟩ := v_take n (by omega) dr
      exact ⟨dr, .inr ⟨rfl, .int (x : Nat), dr1, by simp [q], _, rfl⟩⟩⟩)
  have c3 := c3 rfl
  rw [List.length_range] at c3
  have hds : ∃ a : Nat → Int, ds = (List.range n).map fun i => .int (a i) := by
    refine ⟨fun i => match ds[i]? with
      | some (.int z) => z
      | _ => 0, ?_⟩
    apply List.ext_getElem?
    intro i
    by_cases hi : i < n
    · obtain ⟨z, hz⟩ := c2 (ds[i]'(by omega)) (List.getElem_mem _)
      have e : ds[i]? = some (.int z) := by rw [List.getElem?_eq_getElem (by omega), hz]
      rw [List.getElem?_map, List.getElem?_range hi, e]
      simp [e]
    · rw [List.getElem?_eq_none (by omega), List.getElem?_eq_none (by simp; omega)]
  obtain ⟨a, rfl⟩ := hds
  obtain ⟨f, q1, q2, q3⟩ := v_dense n a h1 h2
  refine ⟨f, dr', ?_, ⟨q1.bd, q1.dn, fun i _ j _ => Iff.rfl⟩, q2⟩
  simp [f__law_rank, e_fn2, c1, q3]
end Mi.k17
set_option Elab.async false
set_option linter.all false
set_option maxRecDepth 100000
set_option maxHeartbeats 4000000
namespace Mi.k17
open Mi Mi.Pl
theorem lay_lv (n f) : (D.tup (lvD n f)).lay 9 = true := by rw [lay_tup]; exact layL_map fun k _ => lay_int _ _
theorem lay_cells (n m f) : (D.tup (cellsD n m f)).lay 9 = true := by
  rw [lay_tup]
  refine layL_map fun k _ => ?_
  rw [lay_tup]
  exact layL_map fun k _ => lay_int _ _
theorem v_lproduct {n f g} (h1 : 1 ≤ n) (h2 : n ≤ 12) (hf : ∀ i, i < n → f i < 100) (hg : ∀ i, i < n → g i < n) : ∃ u, Lv n u (lex f g) ∧ (∃ m, Rk n m u) ∧ ∀ dr, f__law_product [.lst (lvD n f), .lst (lvD n g)] dr = .ok (.lst (lvD n u)) dr := by
  have hline := line_ge
  obtain ⟨u, r1, r2, r3⟩ := v_dense n (fun i => (f i : Int) * ((n : Int) + 1) + (g i : Nat)) h1 h2
  refine ⟨u, ⟨r1.bd, r1.dn, fun i hi j hj => (r1.od i hi j hj).trans ?_⟩, r2, fun dr => ?_⟩
  · have a1 := hf i hi
    have a2 := hf j hj
    have a3 := hg i hi
    have a4 := hg j hj
    unfold lex
    generalize f i = p at *
    generalize f j = q at *
    rcases Nat.lt_trichotomy p q with z | z | z
    · have : (p : Int) * ((n : Int) + 1) + ((n : Int) + 1) ≤ (q : Int) * ((n : Int) + 1) := by
        have w : ((p : Int) + 1) * ((n : Int) + 1) ≤ (q : Int) * ((n : Int) + 1) := Int.mul_le_mul_of_nonneg_right (by omega) (by omega)
        rw [Int.add_mul, Int.one_mul] at w
        exact w
      omega
    · subst z
      omega
    · have : (q : Int) * ((n : Int) + 1) + ((n : Int) + 1) ≤ (p : Int) * ((n : Int) + 1) := by
        have w : ((q : Int) + 1) * ((n : Int) + 1) ≤ (p : Int) * ((n : Int) + 1) := Int.mul_le_mul_of_nonneg_right (by omega) (by omega)
        rw [Int.add_mul, Int.one_mul] at w
        exact w
      omega
  · have hsub : ∀ f i, i < n → Mi.sub (.lst (lvD n f)) (.int (i : Nat)) = some (.int (f i : Nat)) := fun f i hin => by simp [lvD, ixN_nat hin, hin]
    have hln : bi .len (.lst (lvD n f)) = some (.int (n : Nat)) := by simp [lvD]
    have c1 := comp_all (List.range n) (fun i => D.int (i : Nat)) (fun i => D.int ((f i : Int) * ((n : Int) + 1) + (g i : Nat))) (vs := [3]) (g := .n 3) (w := wR1 (mBi .len (mP 0))) (t := tYes) (el := mBin .add (mBin .mul (mSub (hP 0) (mV 3)) (mV 2)) (mSub (hP 1) (mV 3)))
      (s := ⟨[.val (.lst (lvD n f)), .val (.lst (lvD n g)), .val (.int ((n : Int) + 1)), .em], dr⟩) (by simp [hln, small_of (show -1000000 ≤ (n : Int) ∧ (n : Int) ≤ 1000000 by omega), rngL0]) rfl (by rw [List.length_range]; omega)
      (fun i hi => ⟨[.val (.lst (lvD n f)), .val (.lst (lvD n g)), .val (.int ((n : Int) + 1)), .val (.int (i : Nat))], by simp [wipeS], by simp [wipeS], rfl, .inr ⟨_, rfl, rfl, by
        have s1 := hsub f i (List.mem_range.mp hi)
        have s2 := hsub g i (List.mem_range.mp hi)
        have a1 := hf i (List.mem_range.mp hi)
        have hsm : small64 (f i : Int) = true := by
          unfold small64
          rw [decide_eq_true (by omega), decide_eq_true (by omega)]
          rfl
        have hmul : bin .mul (.int (f i : Nat)) (.int ((n : Int) + 1)) = some (.int ((f i : Int) * ((n : Int) + 1))) := by
          show (if (small64 (f i : Int) || small64 ((n : Int) + 1)) = true then some (D.int ((f i : Int) * ((n : Int) + 1))) else none) = _
          rw [hsm]
          rfl
        simp [s1, s2, hmul]⟩⟩)
    simp only [f__law_product, e_fn2]
    simp [hln, c1, r3]
/-- equal levels, or not -/
def eqF (n : Nat) (f g : Nat → Nat) : Bool := (List.range n).all fun i => f i == g i
theorem eqF_true {n f g} : eqF n f g = true ↔ ∀ i, i < n → f i = g i := by simp [eqF]
theorem eqv_lv (n f g) : D.eqvL (lvD n f) (lvD n g) = eqF n f g := by
  have e : ∀ f : Nat → Nat, lvD n f = ((List.range n).map fun i => ((f i : Nat) : Int)).map .int := fun f => by unfold lvD; rw [List.map_map]; rfl
  rw [e, e, eqvL_ints, Bool.eq_iff_iff, decide_eq_true_iff, eqF_true]
  constructor
  · intro h i hi
    have := congrArg (fun l => l[i]?) h
    simp [hi] at this
    omega
  · intro h
    apply List.map_congr_left
    intro i hi
    rw [h i (List.mem_range.mp hi)]
theorem eqvL_rows : ∀ A B : List (List Int), D.eqvL (A.map fun r => .tup (r.map .int)) (B.map fun r => .tup (r.map .int)) = decide (A = B)
  | [], [] => by simp
  | [], _ :: _ => by simp
  | _ :: _, [] => by simp
  | a :: r, b :: t => by
    simp only [List.map_cons, eqvL_cc, eqv_tup, eqvL_ints, eqvL_rows r t, List.cons.injEq]
    by_cases h : a = b <;> by_cases k : r = t <;> simp [h, k]
theorem eqv_cells {n m m' f g} (a : Rk n m f) (b : Rk n m' g) : D.eqvL (cellsD n m f) (cellsD n m' g) = eqF n f g := by
  have e : ∀ m f, cellsD n m f = (cellsI n m f).map fun r => .tup (r.map .int) := fun m f => by unfold cellsD cellsI; rw [List.map_map]; rfl
  rw [e, e, eqvL_rows, Bool.eq_iff_iff, decide_eq_true_iff, eqF_true]
  constructor
  · intro h i hi
    have h2 := congrArg (fun l => l[f i]?) h
    have hfi := a.bd i hi
    simp only [cellsI, List.getElem?_map, List.getElem?_range hfi, Option.map_some] at h2
    have hlen := congrArg List.length h
    simp only [cellsI, List.length_map, List.length_range] at hlen
    rw [List.getElem?_range (by omega)] at h2
    simp only [Option.map_some, Option.some.injEq] at h2
    have h3 : ((i : Nat) : Int) ∈ cellI n f (f i) := mem_cellI.mpr ⟨i, hi, rfl, rfl⟩
    rw [h2] at h3
    obtain ⟨j, _, q1, q2⟩ := mem_cellI.mp h3
    have : i = j := by omega
    subst this
    exact q1.symm
  · intro h
    have := a.m_eq b h
    subst this
    unfold cellsI
    apply List.map_congr_left
    intro k _
    rw [cellI_congr h]
theorem v_eq {n m m' f g} (a : Rk n m f) (b : Rk n m' g) (dr) : f_Rank_eq [rkD n m f, rkD n m' g] dr = .ok (.bl (eqF n f g)) dr := by
  have e1 : cmp .eq (.tup (cellsD n m f)) (.tup (cellsD n m' g)) = some (eqF n f g) := by
    unfold cmp
    rw [lay_cells, lay_cells]
    simp [eqv_cells a b]
  simp [f_Rank_eq, e_fn2, rkD, e1]
theorem e_eq {n m m' f g} {a b : M D} {s s1 s2 : S} (ha : Rk n m f) (hb : Rk n m' g) (h1 : a s = .ok (rkD n m f) s1) (h2 : b s1 = .ok (rkD n m' g) s2) : mEqo tabEq a b s = .ok (.bl (eqF n f g)) s2 := by
  have q := v_eq ha hb s2.dr
  unfold rkD at *
  simp only [mEqo, h1, h2, e_then_ok, tabEq_at, D.eqR, if_true]
  show (callF f_Rank_eq _ ⟨s2.σ, s2.dr⟩).then _ = _
  simp [q]
end Mi.k17
set_option Elab.async false
set_option linter.all false
set_option maxRecDepth 100000
set_option maxHeartbeats 4000000
namespace Mi.k17
open Mi Mi.Pl
theorem attR_rk (n m f k s) : attR k (rkD n m f) s = oget (lookA [2, 3, 4] [.int (n : Nat), .tup (cellsD n m f), .tup (lvD n f)] k) s := nr rfl
theorem e_att {n m f k d} {a : M D} {s s1 : S} (h1 : a s = .ok (rkD n m f) s1) (h2 : lookA [2, 3, 4] [.int (n : Nat), .tup (cellsD n m f), .tup (lvD n f)] k = some d) : mAtt k a s = .ok d s1 := by
  rw [e_mAtt, h1, e_then_ok, attR_rk, h2]
  rfl
theorem att4 {n m f} {a : M D} {s s1 : S} (h1 : a s = .ok (rkD n m f) s1) : mAtt 4 a s = .ok (.tup (lvD n f)) s1 := e_att h1 (by simp)
theorem att3 {n m f} {a : M D} {s s1 : S} (h1 : a s = .ok (rkD n m f) s1) : mAtt 3 a s = .ok (.tup (cellsD n m f)) s1 := e_att h1 (by simp)
theorem att2 {n m f} {a : M D} {s s1 : S} (h1 : a s = .ok (rkD n m f) s1) : mAtt 2 a s = .ok (.int (n : Nat)) s1 := e_att h1 (by simp)
theorem sub_lv {n f i} (h : i < n) : Mi.sub (.tup (lvD n f)) (.int (i : Nat)) = some (.int (f i : Nat)) := by simp [lvD, ixN_nat h, h]
theorem sub_lvl {n f i} (h : i < n) : Mi.sub (.lst (lvD n f)) (.int (i : Nat)) = some (.int (f i : Nat)) := by simp [lvD, ixN_nat h, h]
/-! ### a walk that gives back at the first that fits -/
theorem forL_find {α : Type} {f : D → Sm} {F : α → D} (I : S → Prop) (p : α → Bool) (d : α → D) : ∀ {ks : List α} {s : S}, I s → (∀ k ∈ ks, ∀ s, I s → if p k = true then ∃ s', f (F k) s = .rt (d k) s' ∧ s'.dr = s.dr else ∃ s', f (F k) s = .nx s' ∧ I s' ∧ s'.dr = s.dr) →
    match ks.find? p with
    | some k => ∃ s', forL none f (ks.map F) s = .rt (d k) s' ∧ s'.dr = s.dr
    | none => ∃ s', forL none f (ks.map F) s = .nx s' ∧ I s' ∧ s'.dr = s.dr
  | [], s, h, _ => ⟨s, forL_nil, h, rfl⟩
  | k :: ks, s, h, ht => by
    have q := ht k List.mem_cons_self s h
    cases hp : p k with
    | true =>
      rw [hp, if_pos rfl] at q
      obtain ⟨s', q1, q2⟩ := q
      rw [List.find?_cons_of_pos hp]
      exact ⟨s', by rw [List.map_cons, forL_cons, q1]; rfl, q2⟩
    | false =>
      rw [hp, if_neg (by simp)] at q
      obtain ⟨s1, q1, q2, q3⟩ := q
      rw [List.find?_cons_of_neg (by simp [hp])]
      have ih := forL_find I p d (ks := ks) q2 fun k' hk' => ht k' (List.mem_cons_of_mem _ hk')
      cases hf : ks.find? p with
      | some k' =>
        rw [hf] at ih
        obtain ⟨s', r1, r2⟩ := ih
        exact ⟨s', by rw [List.map_cons, forL_cons, q1, turn_nx, r1], r2.trans q3⟩
      | none =>
        rw [hf] at ih
        obtain ⟨s', r1, r2, r3⟩ := ih
        exact ⟨s', by rw [List.map_cons, forL_cons, q1, turn_nx, r1], r2, r3.trans q3⟩
theorem for_find {α : Type} (ks : List α) (F : α → D) (I : S → Prop) (p : α → Bool) (d : α → D) {g : Tg} {w : M Wk} {b : Sm} {s : S} (hw : w s = .ok ⟨ks.map F, none⟩ s) (h0 : I s)
    (ht : ∀ k ∈ ks, ∀ s, I s → if p k = true then ∃ s', turnF g b (F k) s = .rt (d k) s' ∧ s'.dr = s.dr else ∃ s', turnF g b (F k) s = .nx s' ∧ I s' ∧ s'.dr = s.dr) :
    match ks.find? p with
    | some k => ∃ s', sFor g w b s = .rt (d k) s' ∧ s'.dr = s.dr
    | none => ∃ s', sFor g w b s = .nx s' ∧ I s' ∧ s'.dr = s.dr := by
  have q := forL_find (f := turnF g b) I p d (ks := ks) h0 ht
  cases hf : ks.find? p with
  | some k =>
    rw [hf] at q
    obtain ⟨s', q1, q2⟩ := q
    exact ⟨s', by rw [sFor_lit hw, q1]; rfl, q2⟩
  | none =>
    rw [hf] at q
    obtain ⟨s', q1, q2, q3⟩ := q
    exact ⟨s', by rw [sFor_lit hw, q1]; simp, q2, q3⟩
/-- the first pair of worlds that fits -/
def pairF (n n2 : Nat) (c : Nat → Nat → Bool) : Option (Nat × Nat) := match (List.range n).find? fun x => ((List.range n2).find? (c x)).isSome with
  | some x => match (List.range n2).find? (c x) with
    | some y => some (x, y)
    | none => none
  | none => none
theorem pairF_none {n n2 c} : pairF n n2 c = none ↔ ∀ x, x < n → ∀ y, y < n2 → c x y = false := by
  unfold pairF
  constructor
  · intro h x hx y hy
    cases q : c x y with
    | false => rfl
    | true =>
      exfalso
      have h1 : ((List.range n2).find? (c x)).isSome = true := List.find?_isSome.mpr ⟨y, List.mem_range.mpr hy, q⟩
      cases h2 : (List.range n).find? fun x => ((List.range n2).find? (c x)).isSome with
      | none => exact absurd h1 (by have := List.find?_eq_none.mp h2 x (List.mem_range.mpr hx); simpa using this)
      | some x' =>
        rw [h2] at h
        dsimp only at h
        have h3 := List.find?_some h2
        cases h4 : (List.range n2).find? (c x') with
        | none => rw [h4] at h3; cases h3
        | some y' => rw [h4] at h; cases h
  · intro h
    have : (List.range n).find? (fun x => ((List.range n2).find? (c x)).isSome) = none := List.find?_eq_none.mpr fun x hx => by
      simp only [Bool.not_eq_true, Option.isSome_eq_false_iff, Option.isNone_iff_eq_none]
      exact List.find?_eq_none.mpr fun y hy => by rw [h x (List.mem_range.mp hx) y (List.mem_range.mp hy)]; simp
    rw [this]
theorem pairF_some {n n2 c x y} (h : pairF n n2 c = some (x, y)) : x < n ∧ y < n2 ∧ c x y = true := by
  unfold pairF at h
  cases h2 : (List.range n).find? fun x => ((List.range n2).find? (c x)).isSome with
  | none => rw [h2] at h; cases h
  | some x' =>
    rw [h2] at h
    dsimp only at h
    cases h4 : (List.range n2).find? (c x') with
    | none => rw [h4] at h; cases h
    | some y' =>
      rw [h4] at h
      cases h
      exact ⟨List.mem_range.mp (List.mem_of_find?_eq_some h2), List.mem_range.mp (List.mem_of_find?_eq_some h4), List.find?_some h4⟩
/-- two walks, one in the other -/
theorem for_pair {n n2 : Nat} (c : Nat → Nat → Bool) (d : Nat → Nat → D) (F G : Nat → D) (I J : Nat → S → Prop) (I0 : S → Prop) {g1 g2 : Tg} {w1 w2 : M Wk} {b : Sm} {s : S} (hw : w1 s = .ok ⟨(List.range n).map F, none⟩ s) (h0 : I0 s)
    (h1 : ∀ x, x < n → ∀ s, I0 s → ∃ s', turnF g1 (sFor g2 w2 b) (F x) s = sFor g2 w2 b s' ∧ I x s' ∧ s'.dr = s.dr ∧ w2 s' = .ok ⟨(List.range n2).map G, none⟩ s')
    (h2 : ∀ x, x < n → ∀ y, y < n2 → ∀ s, I x s → if c x y = true then ∃ s', turnF g2 b (G y) s = .rt (d x y) s' ∧ s'.dr = s.dr else ∃ s', turnF g2 b (G y) s = .nx s' ∧ I x s' ∧ s'.dr = s.dr)
    (h3 : ∀ x s, I x s → I0 s) :
    match pairF n n2 c with
    | some q => ∃ s', sFor g1 w1 (sFor g2 w2 b) s = .rt (d q.1 q.2) s' ∧ s'.dr = s.dr
    | none => ∃ s', sFor g1 w1 (sFor g2 w2 b) s = .nx s' ∧ I0 s' ∧ s'.dr = s.dr := by
  have key := for_find (List.range n) F I0 (fun x => ((List.range n2).find? (c x)).isSome) (fun x => match (List.range n2).find? (c x) with
    | some y => d x y
    | none => .non) (g := g1) (w := w1) (b := sFor g2 w2 b) (s := s) hw h0 (fun x hx s hs => by
      have hx := List.mem_range.mp hx
      obtain ⟨s1, q1, q2, q3, q4⟩ := h1 x hx s hs
      have q := for_find (List.range n2) G (I x) (c x) (d x) (g := g2) (w := w2) (b := b) (s := s1) q4 q2 (fun y hy s hs => h2 x hx y (List.mem_range.mp hy) s hs)
      cases hf : (List.range n2).find? (c x) with
      | some y =>
        rw [hf] at q
        obtain ⟨s', r1, r2⟩ := q
        rw [if_pos (show (some y).isSome = true from rfl)]
        exact ⟨s', by rw [q1, r1], r2.trans q3⟩
      | none =>
        rw [hf] at q
        obtain ⟨s', r1, r2, r3⟩ := q
        rw [if_neg (by simp)]
        exact ⟨s', by rw [q1, r1], h3 x _ r2, r3.trans q3⟩)
  unfold pairF
  cases h5 : (List.range n).find? fun x => ((List.range n2).find? (c x)).isSome with
  | none =>
    rw [h5] at key
    exact key
  | some x =>
    rw [h5] at key
    have h6 := List.find?_some h5
    cases h7 : (List.range n2).find? (c x) with
    | none => rw [h7] at h6; cases h6
    | some y =>
      dsimp only at key ⊢
      rw [h7] at key ⊢
      exact key
/-- opposite pairs -/
theorem v_same {n m m' f g} (dr) : f_check_same_worlds [rkD n m f, rkD n m' g] dr = .ok .non dr := by
  simp only [f_check_same_worlds, e_fn2]
  have a := att2 (n := n) (m := m) (f := f) (a := mV 0) (s := ⟨[.val (rkD n m f), .val (rkD n m' g)], dr⟩) rfl
  have b := att2 (n := n) (m := m') (f := g) (a := mV 1) (s := ⟨[.val (rkD n m f), .val (rkD n m' g)], dr⟩) rfl
  simp [attR_rk]
theorem v_same_no {n n' m m' f g} (dr) (h : n ≠ n') : f_check_same_worlds [rkD n m f, rkD n' m' g] dr = .ex 5 [2] [.int (n' : Nat)] dr := by
  have h2 : (((n : Nat) : Int) == (n' : Nat)) = false := beq_eq_false_iff_ne.mpr (by omega)
  simp [f_check_same_worlds, e_fn2, attR_rk, h2]
/-- the law's own walks over levels -/
theorem lpair {n f g} (hn : n ≤ 12) (dr) (c : Nat → Nat → Bool) (d : Nat → Nat → D) (cond : M Bool) (ret : M D)
    (hc : ∀ x, x < n → ∀ y, y < n → cond ⟨[.val (.lst (lvD n f)), .val (.lst (lvD n g)), .val (.int (x : Nat)), .val (.int (y : Nat))], dr⟩ = .ok (c x y) ⟨[.val (.lst (lvD n f)), .val (.lst (lvD n g)), .val (.int (x : Nat)), .val (.int (y : Nat))], dr⟩)
    (hd : ∀ x, x < n → ∀ y, y < n → ret ⟨[.val (.lst (lvD n f)), .val (.lst (lvD n g)), .val (.int (x : Nat)), .val (.int (y : Nat))], dr⟩ = .ok (d x y) ⟨[.val (.lst (lvD n f)), .val (.lst (lvD n g)), .val (.int (x : Nat)), .val (.int (y : Nat))], dr⟩) :
    match pairF n n c with
    | some q => ∃ s', sFor (.n 2) (wR1 (mBi .len (mP 0))) (sFor (.n 3) (wR1 (mBi .len (mP 0))) (sIf cond (sRet ret) sNil)) ⟨[.val (.lst (lvD n f)), .val (.lst (lvD n g)), .em, .em], dr⟩ = .rt (d q.1 q.2) s' ∧ s'.dr = dr
    | none => ∃ s', sFor (.n 2) (wR1 (mBi .len (mP 0))) (sFor (.n 3) (wR1 (mBi .len (mP 0))) (sIf cond (sRet ret) sNil)) ⟨[.val (.lst (lvD n f)), .val (.lst (lvD n g)), .em, .em], dr⟩ = .nx s' ∧ s'.dr = dr := by
  have hln : bi .len (.lst (lvD n f)) = some (.int (n : Nat)) := by simp [lvD]
  have hsm := small_of (show -1000000 ≤ (n : Int) ∧ (n : Int) ≤ 1000000 by omega)
  have key := for_pair (n := n) (n2 := n) c d (fun i => D.int (i : Nat)) (fun i => D.int (i : Nat))
    (fun x s => ∃ b, s = ⟨[.val (.lst (lvD n f)), .val (.lst (lvD n g)), .val (.int (x : Nat)), b], dr⟩) (fun _ _ => True) (fun s => ∃ a b, s = ⟨[.val (.lst (lvD n f)), .val (.lst (lvD n g)), a, b], dr⟩)
    (g1 := .n 2) (g2 := .n 3) (w1 := wR1 (mBi .len (mP 0))) (w2 := wR1 (mBi .len (mP 0))) (b := sIf cond (sRet ret) sNil)
    (s := ⟨[.val (.lst (lvD n f)), .val (.lst (lvD n g)), .em, .em], dr⟩) (by simp [hln, hsm, rngL0]) ⟨_, _, rfl⟩
    (by
      rintro x hx s ⟨a, b, rfl⟩
      exact ⟨⟨[.val (.lst (lvD n f)), .val (.lst (lvD n g)), .val (.int (x : Nat)), b], dr⟩, by rw [e_turnF]; simp, ⟨_, rfl⟩, rfl, by simp [hln, hsm, rngL0]⟩)
    (by
      rintro x hx y hy s ⟨b, rfl⟩
      have q1 := hc x hx y hy
      have q2 := hd x hx y hy
      cases h : c x y with
      | true =>
        rw [if_pos rfl]
        rw [h] at q1
        refine ⟨⟨[.val (.lst (lvD n f)), .val (.lst (lvD n g)), .val (.int (x : Nat)), .val (.int (y : Nat))], dr⟩, ?_, rfl⟩
        rw [e_turnF]
        simp [q1, q2]
      | false =>
        rw [if_neg (by simp)]
        rw [h] at q1
        refine ⟨⟨[.val (.lst (lvD n f)), .val (.lst (lvD n g)), .val (.int (x : Nat)), .val (.int (y : Nat))], dr⟩, ?_, ⟨_, rfl⟩, rfl⟩
        rw [e_turnF]
        simp [q1])
    (by rintro x s ⟨b, rfl⟩; exact ⟨_, _, rfl⟩)
  cases hp : pairF n n c with
  | some q => rw [hp] at key; exact key
  | none =>
    rw [hp] at key
    obtain ⟨s', k1, _, k2⟩ := key
    exact ⟨s', k1, k2⟩
def finC (f g : Nat → Nat) (x y : Nat) : Bool := decide (f x = f y) && !decide (g x = g y)
theorem v_lfiner {n f g} (hn : n ≤ 12) (dr) : f__law_finer [.lst (lvD n f), .lst (lvD n g)] dr = .ok (.bl (pairF n n (finC f g)).isNone) dr := by
  have key := lpair (f := f) (g := g) hn dr (finC f g) (fun x y => .bl false) (tAnd (tV (mCmp .eq (hE (mSub (hP 0) (mV 2))) (hE (mSub (hP 0) (mV 3))))) (tV (mCmp .ne (hE (mSub (hP 1) (mV 2))) (hE (mSub (hP 1) (mV 3)))))) (mK (.bl false))
    (fun x hx y hy => by
      have s1 := sub_lvl (f := f) hx
      have s2 := sub_lvl (f := f) hy
      have s3 := sub_lvl (f := g) hx
      have s4 := sub_lvl (f := g) hy
      have b1 : (((f x : Nat) : Int) == (f y : Nat)) = decide (f x = f y) := by rw [Bool.eq_iff_iff]; simp; omega
      have b2 : (((g x : Nat) : Int) == (g y : Nat)) = decide (g x = g y) := by rw [Bool.eq_iff_iff]; simp; omega
      by_cases h1 : f x = f y <;> simp [s1, s2, s3, s4, b1, b2, h1, finC]) (fun x hx y hy => by simp)
  simp only [f__law_finer, e_fn2]
  cases hp : pairF n n (finC f g) with
  | some q =>
    rw [hp] at key
    obtain ⟨s', k1, k2⟩ := key
    simp [k1, k2]
  | none =>
    rw [hp] at key
    obtain ⟨s', k1, k2⟩ := key
    simp [k1, k2]
end Mi.k17
set_option Elab.async false
set_option linter.all false
set_option maxRecDepth 100000
set_option maxHeartbeats 4000000
namespace Mi.k17
open Mi Mi.Pl
theorem cast_lt {l : List Nat} (h : l.Pairwise (· < ·)) : (l.map fun (i : Nat) => (i : Int)).Pairwise (· < ·) := map_int_lt h
theorem cast_mem {l : List Nat} {x : Int} : x ∈ (l.map fun (i : Nat) => (i : Int)) ↔ ∃ i : Nat, i ∈ l ∧ (i : Int) = x := by simp
theorem cast_mem' {l : List Nat} {i : Nat} : (i : Int) ∈ (l.map fun (i : Nat) => (i : Int)) ↔ i ∈ l := by
  rw [cast_mem]
  constructor
  · rintro ⟨j, hj, e⟩
    have : j = i := by omega
    rwa [← this]
  · exact fun h => ⟨i, h, rfl⟩
/-- the union, ascending -/
theorem v_plus (A B C : List Nat) (dr) (ha : A.length < 64) (hb : B.length < 64) (sa : ∀ x ∈ A, x ≤ 6) (sb : ∀ x ∈ B, x ≤ 6) (hc : C.Pairwise (· < ·)) (hm : ∀ x, x ∈ C ↔ x ∈ A ∨ x ∈ B) : f_plus [.tup (natD A), .tup (natD B)] dr = .ok (.tup (natD C)) dr := by
  have p1 := pluI_of (is := A.map fun (i : Nat) => (i : Int)) (by simpa using ha) (fun i hi => by obtain ⟨j, hj, rfl⟩ := cast_mem.mp hi; have := sa j hj; omega)
  have p2 := pluI_of (is := B.map fun (i : Nat) => (i : Int)) (by simpa using hb) (fun i hi => by obtain ⟨j, hj, rfl⟩ := cast_mem.mp hi; have := sb j hj; omega)
  rw [← natD_int] at p1 p2
  have e : isort (nub ((A.map fun (i : Nat) => (i : Int)) ++ B.map fun (i : Nat) => (i : Int))) = C.map fun (i : Nat) => (i : Int) := sorted_uniq (isort_nub_lt _) (cast_lt hc) fun x => by
    rw [mem_isort, mem_nub, List.mem_append, cast_mem, cast_mem, cast_mem]
    constructor
    · rintro (⟨i, hi, e⟩ | ⟨i, hi, e⟩)
      · exact ⟨i, (hm i).mpr (.inl hi), e⟩
      · exact ⟨i, (hm i).mpr (.inr hi), e⟩
    · rintro ⟨i, hi, e⟩
      rcases (hm i).mp hi with z | z
      · exact .inl ⟨i, z, e⟩
      · exact .inr ⟨i, z, e⟩
  simp only [f_plus, e_fn2]
  simp [e_mPlu, p1, p2, e]
  rw [natD_int, List.map_map]
def ltF (n : Nat) (f : Nat → Nat) (k : Nat) : List Nat := (List.range n).filter fun i => decide (f i ≤ k)
theorem mem_ltF {n f k i} : i ∈ ltF n f k ↔ i < n ∧ f i ≤ k := by simp [ltF]
theorem ltF_asc (n f k) : (ltF n f k).Pairwise (· < ·) := (range_lt n).filter _
theorem ltF_len (n f k) : (ltF n f k).length ≤ n := by
  have := List.length_filter_le (fun i => decide (f i ≤ k)) (List.range n)
  simpa [ltF] using this
def begD (n m : Nat) (f : Nat → Nat) : List D := (List.range m).map fun k => .tup (natD (ltF n f k))
theorem cellI_nat (n f k) : (cellI n f k).map D.int = natD (cellN n f k) := by unfold cellI natD; rw [List.map_map]; rfl
theorem v_begin {n m f} (h : Rk n m f) (hn : n ≤ 6) (dr) : f_Rank_beginnings [rkD n m f] dr = .ok (.tup (begD n m f)) dr := by
  have hline := line_ge
  have hm := h.m_le
  obtain ⟨s', q1, js, b, x, q3, q4, rfl⟩ := for_inv (List.range m) (fun k => D.tup (natD (cellN n f k))) (fun done s => ∃ js b x, js = done.map (fun k => D.tup (natD (ltF n f k))) ∧ b = (match done.getLast? with
      | some k => D.tup (natD (ltF n f k))
      | none => .tup []) ∧ s = ⟨[.val (rkD n m f), .own (.lst js), .val b, x], dr⟩)
    (g := .n 3) (w := wOne (hE (mAtt 3 (mV 0)))) (b := sSeq (sSet 2 (mCall f_plus (mCons (mV 2) (mCons (mV 3) mNil)))) (sApp 1 (mV 2)))
    (s := ⟨[.val (rkD n m f), .own (.lst []), .val (.tup []), .em], dr⟩) (by simp [attR_rk, cellsD, cellI_nat]) ⟨[], _, _, rfl, rfl, rfl⟩
    (by
      rintro done k rest s e ⟨js, b, x, ej, eb, rfl⟩
      have hk : done = List.range k := by
        have e2 := congrArg (fun l => l[done.length]?) e
        simp at e2
        have hlen := congrArg List.length e
        simp at hlen
        rw [List.getElem?_range (by omega)] at e2
        have e3 : done.length = k := Option.some.inj e2
        have e4 := congrArg (List.take done.length) e
        rw [List.take_left, List.take_range, Nat.min_eq_left (by omega)] at e4
        rw [← e4, e3]
      have hlen : js.length < line := by
        rw [ej, List.length_map]
        have := congrArg List.length e
        simp at this
        omega
      have hcl : (cellN n f k).length < 64 := by
        have := List.length_filter_le (fun i => f i == k) (List.range n)
        simp [cellN] at this ⊢
        omega
      have hp : f_plus [b, .tup (natD (cellN n f k))] dr = .ok (.tup (natD (ltF n f k))) dr := by
        subst hk
        cases k with
        | zero =>
          have eb' : b = .tup (natD []) := eb
          rw [eb']
          exact v_plus [] _ _ dr (by simp) hcl (by simp) (fun x hx => by have := (mem_cellN.mp hx).1; omega) (ltF_asc n f 0) fun x => by rw [mem_ltF, mem_cellN]; simp
        | succ k =>
          have eb' : b = .tup (natD (ltF n f k)) := by rw [eb, List.range_succ]; simp
          rw [eb']
          exact v_plus _ _ _ dr (by have := ltF_len n f k; omega) hcl (fun x hx => by have := (mem_ltF.mp hx).1; omega) (fun x hx => by have := (mem_cellN.mp hx).1; omega) (ltF_asc n f (k + 1)) fun x => by rw [mem_ltF, mem_ltF, mem_cellN]; omega
      refine ⟨⟨[.val (rkD n m f), .own (.lst (js ++ [D.tup (natD (ltF n f k))])), .val (.tup (natD (ltF n f k))), .val (D.tup (natD (cellN n f k)))], dr⟩, .inl ?_, _, _, _, by simp [ej], by simp, rfl⟩
      rw [e_turnF]
      simp [hp, hlen])
  simp only [f_Rank_beginnings, e_fn1]
  simp [q1, q3]
  rfl
theorem max_lv {n m f} (h : Rk n m f) : ∃ x, bi .max (.lst (lvD n f)) = some (.int x) ∧ x + 1 = (m : Nat) := by
  have h0 := h.lo
  have hne : (List.range n).map (fun x => ((f x : Nat) : Int)) ≠ [] := by
    intro z
    have := congrArg List.length z
    simp at this
    omega
  obtain ⟨x, m1, m2, m3⟩ := max_lst hne
  rw [List.map_map] at m1
  refine ⟨x, m1, ?_⟩
  obtain ⟨i, hi, rfl⟩ := List.mem_map.mp m2
  have q := h.bd i (List.mem_range.mp hi)
  obtain ⟨j, hj, e⟩ := h.all (m - 1) (by omega)
  have := m3 _ (List.mem_map.mpr ⟨j, List.mem_range.mpr hj, rfl⟩)
  omega
end Mi.k17
set_option Elab.async false
set_option linter.all false
set_option maxRecDepth 100000
set_option maxHeartbeats 4000000
namespace Mi.k17
open Mi Mi.Pl
theorem all_bls {α : Type} (g : α → Bool) (ks : List α) : bi .all (.lst (ks.map fun k => .bl (g k))) = some (.bl (ks.all g)) := by
  show (bools (ks.map fun k => D.bl (g k))).map (fun bs => D.bl (bs.all id)) = _
  rw [bools_map g]
  simp [List.all_map, Function.comp_def]
/-- a cell's first world -/
def c0 (n : Nat) (f : Nat → Nat) (k : Nat) : Nat := (cellN n f k).getD 0 0
theorem c0_mem {n m f k} (h : Rk n m f) (hk : k < m) : c0 n f k ∈ cellN n f k := by
  obtain ⟨i, hi, e⟩ := h.all k hk
  have : cellN n f k ≠ [] := List.ne_nil_of_mem (mem_cellN.mpr ⟨hi, e⟩)
  unfold c0
  cases q : cellN n f k with
  | nil => exact absurd q this
  | cons a r => simp
theorem sub_c0 {n m f k} (h : Rk n m f) (hk : k < m) : Mi.sub (.tup (natD (cellN n f k))) (.int 0) = some (.int (c0 n f k : Nat)) := by
  have z := c0_mem h hk
  unfold c0 at *
  cases q : cellN n f k with
  | nil => rw [q] at z; cases z
  | cons a r =>
    rw [sub_tup, ixN_zero (by simp [natD])]
    simp [natD]
theorem v_finer {n m m' f g} (h : Rk n m f) (dr) : f_finer [rkD n m f, rkD n m' g] dr = .ok (.bl (pairF n n (finC f g)).isNone) dr := by
  have hline := line_ge
  have hm := h.m_le
  have h12 := h.hi
  have hlen : ((List.range m).flatMap fun k => cellN n f k).length = n := by
    rw [List.length_flatMap]
    have e : ∀ k, (cellN n f k).length = (cellI n f k).length := fun k => by simp [cellI]
    simp only [e]
    exact cells_total h.bd
  have c1 := comp2_all (List.range m) (fun k => D.tup (natD (cellN n f k))) (fun k => cellN n f k) (fun k i => D.int (i : Nat)) (fun k i => D.bl (decide (g i = g (c0 n f k)))) (vs := [2, 3]) (vs1 := [3]) (g := .n 2) (g1 := .n 3) (w := wOne (hE (mAtt 3 (mV 0)))) (w1 := wOne (hE (mV 2))) (t := tYes) (t1 := tYes)
    (el := mCmp .eq (hE (mSub (hE (mAtt 4 (mV 1))) (mV 3))) (hE (mSub (hE (mAtt 4 (mV 1))) (mSub (hP 2) (mK (.int 0))))))
    (s := ⟨[.val (rkD n m f), .val (rkD n m' g), .em, .em], dr⟩) (by decide) (by simp [attR_rk, cellsD, cellI_nat]) rfl
    (by
      have e : ((List.range m).flatMap fun k => (cellN n f k).map fun i => D.bl (decide (g i = g (c0 n f k)))).length = ((List.range m).flatMap fun k => cellN n f k).length := by
        rw [List.length_flatMap, List.length_flatMap]
        simp
      rw [e, hlen]
      omega)
    (fun k hk => by
      have hk := List.mem_range.mp hk
      refine ⟨[.val (rkD n m f), .val (rkD n m' g), .val (D.tup (natD (cellN n f k))), .em], by simp [wipeS], by simp [wipeS], rfl, rfl, rfl, by simp [natD], fun j hj => ?_⟩
      refine ⟨[.val (rkD n m f), .val (rkD n m' g), .val (D.tup (natD (cellN n f k))), .val (.int (j : Nat))], by simp [wipeS], by simp [wipeS], rfl, .inr ⟨_, rfl, rfl, ?_⟩⟩
      have z1 := sub_lv (f := g) (mem_cellN.mp hj).1
      have z2 := sub_lv (f := g) (mem_cellN.mp (c0_mem h hk)).1
      have z3 := sub_c0 h hk
      have b : (((g j : Nat) : Int) == (g (c0 n f k) : Nat)) = decide (g j = g (c0 n f k)) := by rw [Bool.eq_iff_iff]; simp; omega
      simp [attR_rk, z1, z2, z3, b])
  have e2 : ((List.range m).flatMap fun k => (cellN n f k).map fun i => D.bl (decide (g i = g (c0 n f k)))) = ((List.range m).flatMap fun k => (cellN n f k).map fun i => (k, i)).map fun q => D.bl (decide (g q.2 = g (c0 n f q.1))) := by
    rw [List.map_flatMap]
    simp [List.map_map, Function.comp_def]
  rw [e2] at c1
  have e3 := all_bls (fun q : Nat × Nat => decide (g q.2 = g (c0 n f q.1))) ((List.range m).flatMap fun k => (cellN n f k).map fun i => (k, i))
  have e4 : (((List.range m).flatMap fun k => (cellN n f k).map fun i => (k, i)).all fun q => decide (g q.2 = g (c0 n f q.1))) = (pairF n n (finC f g)).isNone := by
    rw [Bool.eq_iff_iff, List.all_eq_true, Option.isNone_iff_eq_none, pairF_none]
    have key : ∀ k i, (k, i) ∈ ((List.range m).flatMap fun k => (cellN n f k).map fun i => (k, i)) ↔ k < m ∧ i < n ∧ f i = k := fun k i => by
      simp only [List.mem_flatMap, List.mem_range, List.mem_map, Prod.mk.injEq, mem_cellN]
      constructor
      · rintro ⟨a, ha, b, ⟨hb, e⟩, rfl, rfl⟩
        exact ⟨ha, hb, e⟩
      · rintro ⟨a, b, c⟩
        exact ⟨k, a, i, ⟨b, c⟩, rfl, rfl⟩
    constructor
    · intro H x hx y hy
      have a := H (f x, x) ((key _ _).mpr ⟨h.bd x hx, hx, rfl⟩)
      have b := H (f y, y) ((key _ _).mpr ⟨h.bd y hy, hy, rfl⟩)
      simp only [decide_eq_true_eq] at a b
      unfold finC
      by_cases q : f x = f y
      · rw [q] at a
        simp [a, b]
      · simp [q]
    · rintro H ⟨k, i⟩ hq
      obtain ⟨a, b, c⟩ := (key _ _).mp hq
      have d := mem_cellN.mp (c0_mem h a)
      have q := H i b _ d.1
      unfold finC at q
      rw [decide_eq_true (show f i = f (c0 n f k) from c.trans d.2.symm)] at q
      simpa using q
  rw [e4] at e3
  simp [f_finer, e_fn2, v_same, c1, e3]
theorem v_finer_no {n n' m m' f g} (dr) (h : n ≠ n') : f_finer [rkD n m f, rkD n' m' g] dr = .ex 5 [2] [.int (n' : Nat)] dr := by
  simp [f_finer, e_fn2, v_same_no dr h]
theorem tabBeg_at : tabM_beginnings.lookup 6 = some f_Rank_beginnings := by simp [tabM_beginnings]
theorem e_beg {n m f} {a : M D} {s s1 : S} (h : Rk n m f) (hn : n ≤ 6) (h1 : a s = .ok (rkD n m f) s1) : mMt tabM_beginnings a mNil s = .ok (.tup (begD n m f)) s1 := by
  have q := v_begin h hn s1.dr
  unfold rkD at *
  simp only [e_mMt, h1, e_then_ok, tabBeg_at, e_mNil]
  show callF f_Rank_beginnings _ ⟨s1.σ, s1.dr⟩ = _
  rw [e_callF, q]
  rfl
end Mi.k17
set_option Elab.async false
set_option linter.all false
set_option maxRecDepth 100000
set_option maxHeartbeats 4000000
namespace Mi.k17
open Mi Mi.Pl
def Dense (n : Nat) (u : Nat → Nat) : Prop := (Lv n u fun i j => u i < u j) ∧ ∃ m, Rk n m u
theorem lay_lvl (n f) : (D.lst (lvD n f)).lay 9 = true := by rw [lay_lst]; exact layL_map fun k _ => lay_int _ _
theorem v_lead {n m f} (h : Rk n m f) (L : List Nat) : ∃ u, Dense n u ∧ Lv n u (lex (fun i => if i ∈ L then 0 else 1) f) ∧ ∀ dr, f__law_turn [.lst (lvD n f), .str 4, .tup (natD L)] dr = .ok (.lst (lvD n u)) dr := by
  have hline := line_ge
  have h12 := h.hi
  have h1 := h.lo
  have hm := h.m_le
  let a : Nat → Nat := fun i => if i ∈ L then 0 else 1
  obtain ⟨u, u1, u2, u3⟩ := v_lproduct (f := a) (g := f) h1 h12 (fun i _ => by dsimp only [a]; split <;> omega) (fun i hi => Nat.lt_of_lt_of_le (h.bd i hi) hm)
  refine ⟨u, ⟨⟨u1.bd, u1.dn, fun i _ j _ => Iff.rfl⟩, u2⟩, u1, fun dr => ?_⟩
  have hln : bi .len (.lst (lvD n f)) = some (.int (n : Nat)) := by simp [lvD]
  have hs5 : cmp .eq (.str 4) (.str 4) = some true := eq_self (by simp)
  have c1 := comp_all (List.range n) (fun i => D.int (i : Nat)) (fun i => D.int (a i : Nat)) (vs := [5]) (g := .n 5) (w := wR1 (mV 3)) (t := tYes) (el := mIf (tV (mCmp .mem (hP 5) (hP 2))) (mK (.int 0)) (mK (.int 1)))
    (s := ⟨[.val (.lst (lvD n f)), .val (.str 4), .val (.tup (natD L)), .val (.int (n : Nat)), .em, .em, .em, .em, .em, .em, .em, .em], dr⟩) (by simp [small_of (show -1000000 ≤ (n : Int) ∧ (n : Int) ≤ 1000000 by omega), rngL0]) rfl (by rw [List.length_range]; omega)
    (fun i hi => ⟨[.val (.lst (lvD n f)), .val (.str 4), .val (.tup (natD L)), .val (.int (n : Nat)), .em, .val (.int (i : Nat)), .em, .em, .em, .em, .em, .em], by simp [wipeS], by simp [wipeS], rfl, .inr ⟨_, rfl, rfl, by
      have hm := mem_tup (i : Int) (L.map fun (i : Nat) => (i : Int))
      rw [← natD_int] at hm
      dsimp only [a]
      by_cases e : i ∈ L
      · rw [decide_eq_true (cast_mem'.mpr e)] at hm
        simp [hm, e]
      · rw [decide_eq_false fun z => e (cast_mem'.mp z)] at hm
        simp [hm, e]⟩⟩)
  have c2 : mCall f__law_product (mCons (mV 4) (mCons (mV 0) mNil)) ⟨[.val (.lst (lvD n f)), .val (.str 4), .val (.tup (natD L)), .val (.int (n : Nat)), .val (.lst (lvD n a)), .em, .em, .em, .em, .em, .em, .em], dr⟩ = .ok (.lst (lvD n u)) ⟨[.val (.lst (lvD n f)), .val (.str 4), .val (.tup (natD L)), .val (.int (n : Nat)), .val (.lst (lvD n a)), .em, .em, .em, .em, .em, .em, .em], dr⟩ := by
    simp [u3]
  have e : (List.range n).map (fun i => D.int (a i : Nat)) = lvD n a := rfl
  rw [e] at c1
  simp only [f__law_turn, e_fn3]
  rw [show List.replicate (12 - 3) SV.em = [.em, .em, .em, .em, .em, .em, .em, .em, .em] from rfl]
  rw [e_sSeq, e_sSet]
  simp only [e_mBi, e_mP, List.getElem?_cons_zero, e_force_at, hln, e_get_some, e_then_ok, e_st_ok, e_seq_nx, List.set_cons_succ, List.set_cons_zero, e_sSeq, e_sIf, e_tV, e_mCmp, e_hP, e_hE, e_mK, List.getElem?_cons_succ, e_force_dat, hs5, tru_bl, e_sSet, c1, e_sRet, c2, e_seq_rt, e_fr_rt]
end Mi.k17
set_option Elab.async false
set_option linter.all false
set_option maxRecDepth 100000
set_option maxHeartbeats 4000000
namespace Mi.k17
open Mi Mi.Pl
abbrev tS (S : List Nat) : D := .tup (natD S)
theorem nodup_le {κ : Type} [BEq κ] [LawfulBEq κ] : ∀ {T l : List κ}, T.Nodup → (∀ t ∈ T, t ∈ l) → T.length ≤ l.length
  | [], l, _, _ => Nat.zero_le _
  | t :: r, l, nd, h => by
    have nd' := List.nodup_cons.mp nd
    have ih := nodup_le (T := r) (l := l.erase t) nd'.2 fun x hx => (List.mem_erase_of_ne (fun e => nd'.1 (by rw [← e]; exact hx))).mpr (h x (List.mem_cons_of_mem _ hx))
    have hl := List.length_erase_of_mem (h t List.mem_cons_self)
    have hp := List.length_pos_of_mem (h t List.mem_cons_self)
    rw [List.length_cons]
    omega
def plt (x y : Nat × Nat) : Prop := x.1 < y.1 ∨ (x.1 = y.1 ∧ x.2 < y.2)
def cellP (n : Nat) (a b : Nat → Nat) (t : Nat × Nat) : List Nat := (List.range n).filter fun i => a i == t.1 && b i == t.2
theorem mem_cellP {n a b t i} : i ∈ cellP n a b t ↔ i < n ∧ a i = t.1 ∧ b i = t.2 := by simp [cellP]
def keysP (A B : Nat) : List (Nat × Nat) := (List.range A).flatMap fun x => (List.range B).map fun y => (x, y)
theorem keysP_pw (A B) : (keysP A B).Pairwise plt := by
  unfold keysP
  rw [List.pairwise_flatMap]
  refine ⟨fun x _ => ?_, ?_⟩
  · rw [List.pairwise_map]
    exact List.pairwise_lt_range.imp fun h => .inr ⟨rfl, h⟩
  · refine List.pairwise_lt_range.imp fun h p hp q hq => ?_
    obtain ⟨y, _, rfl⟩ := List.mem_map.mp hp
    obtain ⟨z, _, rfl⟩ := List.mem_map.mp hq
    exact .inl h
theorem mem_keysP {A B t} : t ∈ keysP A B ↔ t.1 < A ∧ t.2 < B := by
  obtain ⟨x, y⟩ := t
  simp [keysP]
/-- a rank out of the cells that are not empty, by two numbers -/
theorem rk_pairs (n A B : Nat) (a b : Nat → Nat) (ha : ∀ i, i < n → a i < A) (hb : ∀ i, i < n → b i < B) (h1 : 1 ≤ n) (h2 : n ≤ 12) :
    ∃ m u, Rk n m u ∧ Lv n u (lex a b) ∧ (((keysP A B).map (cellP n a b)).filter fun S => !S.isEmpty).map tS = cellsD n m u := by
  let T := (keysP A B).filter fun t => !(cellP n a b t).isEmpty
  have hm : ∀ k, k ∈ T ↔ ∃ i, i < n ∧ (a i, b i) = k := fun k => by
    obtain ⟨x, y⟩ := k
    rw [List.mem_filter, mem_keysP]
    constructor
    · rintro ⟨_, h⟩
      cases q : cellP n a b (x, y) with
      | nil => rw [q] at h; cases h
      | cons i r =>
        have : i ∈ cellP n a b (x, y) := by rw [q]; exact List.mem_cons_self
        obtain ⟨p1, p2, p3⟩ := mem_cellP.mp this
        exact ⟨i, p1, by rw [p2, p3]⟩
    · rintro ⟨i, hi, e⟩
      cases e
      refine ⟨⟨ha i hi, hb i hi⟩, ?_⟩
      have : i ∈ cellP n a b (a i, b i) := mem_cellP.mpr ⟨hi, rfl, rfl⟩
      cases q : cellP n a b (a i, b i) with
      | nil => rw [q] at this; cases this
      | cons _ _ => rfl
  have hT : T.Pairwise plt := (keysP_pw A B).filter _
  have as : ∀ x y, plt x y → plt y x → False := fun x y h k => by unfold plt at h k; omega
  have nd : T.Nodup := hT.imp fun {x y} h e => by subst e; exact as _ _ h h
  have hl : T.length ≤ n := by
    have := nodup_le (l := (List.range n).map fun i => (a i, b i)) nd fun t ht => by
      obtain ⟨i, hi, e⟩ := (hm t).mp ht
      exact List.mem_map.mpr ⟨i, List.mem_range.mpr hi, e⟩
    simpa using this
  obtain ⟨u, r1, r2, r3⟩ := rk_of plt as (fun x y h => by
    obtain ⟨x1, x2⟩ := x
    obtain ⟨y1, y2⟩ := y
    unfold plt
    have : ¬ (x1 = y1 ∧ x2 = y2) := fun z => h (by rw [z.1, z.2])
    simp only
    omega) T hT n (fun i => (a i, b i)) hm hl h1 h2 (fun i t => a i == t.1 && b i == t.2) (fun i _ t _ => by
      obtain ⟨x, y⟩ := t
      simp)
  refine ⟨_, u, r1, ⟨r2.bd, r2.dn, r2.od⟩, ?_⟩
  rw [← r3, List.filter_map, List.map_map]
  rfl
/-! ### lots -/
structure RowOf (n : Nat) (row : D) (L : List Nat) : Prop where
  ex : ∃ ws, RowI row ws ∧ isort ws = L.map (fun (i : Nat) => (i : Int)) ∧ ws.Nodup ∧ (∀ x ∈ ws, 0 ≤ x ∧ x < (n : Int)) ∧ ws.length < line ∧ ws ≠ []
theorem lot_len {L : List Nat} {n : Nat} (hn : ∀ x ∈ L, x < n) (ha : L.Pairwise (· < ·)) : L.length ≤ n := by
  have := nodup_le (T := L) (l := List.range n) (ha.imp fun h e => by omega) fun t ht => List.mem_range.mpr (hn t ht)
  simpa using this
theorem rowOf_t {n : Nat} {L : List Nat} (h12 : n ≤ 12) (hn : ∀ x ∈ L, x < n) (ha : L.Pairwise (· < ·)) (hne : L ≠ []) : RowOf n (tS L) L := by
  have hl := line_ge
  have hk := lot_len hn ha
  refine ⟨_, by unfold tS; rw [natD_int]; exact rowI_t _, isort_idL (cast_lt ha), lt_nodup (cast_lt ha), fun x hx => ?_, by rw [List.length_map]; omega, by simpa using hne⟩
  obtain ⟨i, hi, rfl⟩ := cast_mem.mp hx
  have := hn i hi
  omega
theorem rowOf_r {n : Nat} {L : List Nat} (h12 : n ≤ 12) (hn : ∀ x ∈ L, x < n) (ha : L.Pairwise (· < ·)) (hne : L ≠ []) : RowOf n (.lst (natD L).reverse) L := by
  have hl := line_ge
  have hk := lot_len hn ha
  have e : (natD L).reverse = (L.reverse.map fun (i : Nat) => (i : Int)).map .int := by rw [natD_int, ← List.map_reverse, ← List.map_reverse]
  have nd : (L.reverse.map fun (i : Nat) => (i : Int)).Nodup := by rw [List.map_reverse]; exact (List.reverse_perm _).nodup_iff.mpr (lt_nodup (cast_lt ha))
  refine ⟨_, by rw [e]; exact rowI_l _, isort_eq (fun x => by simp) nd (cast_lt ha), nd, fun x hx => ?_, by simp; omega, by simpa using hne⟩
  rw [List.map_reverse, List.mem_reverse] at hx
  obtain ⟨i, hi, rfl⟩ := cast_mem.mp hx
  have := hn i hi
  omega
theorem v_lotL {n row L} (h : RowOf n row L) (h1 : 1 ≤ n) (h2 : n ≤ 12) (b : Bool) (dr) : f_lot_of [row, .int (n : Nat), .bl b] dr = .ok (tS L) dr := by
  obtain ⟨ws, e1, e2, e3, e4, e5, e6⟩ := h.ex
  rw [v_lot_of row ws n b dr e1 (by omega) e4 e3 e5 e6, e2]
  unfold tS
  rw [natD_int]
theorem v_lotD {n row L} (h : RowOf n row L) (h1 : 1 ≤ n) (h2 : n ≤ 12) (dr) : dflt f_lot_of [.bl true] [row, .int (n : Nat)] dr = .ok (tS L) dr := v_lotL h h1 h2 true dr
theorem inK_at {ng ss m s k s1} (h : m s = .ok (.str k) s1) : mInK ng ss m s = .ok (.bl (if ng then !ss.contains k else ss.contains k)) s1 := by
  unfold mInK
  rw [h]
  rfl
theorem v_deed {n row L} (h : RowOf n row L) (h1 : 1 ≤ n) (h2 : n ≤ 12) (dr) : f_lot_of_deed [.str 4, row, .int (n : Nat)] dr = .ok (tS L) dr := by
  have i1 : ∀ a b c, mInK true [4, 5, 6, 7, 8, 9] (mV 0) ⟨[.val (.str 4), a, b, c], dr⟩ = .ok (.bl false) ⟨[.val (.str 4), a, b, c], dr⟩ := fun a b c => inK_at rfl
  have i2 : ∀ a b c, mInK false [7, 8] (mV 0) ⟨[.val (.str 4), a, b, c], dr⟩ = .ok (.bl false) ⟨[.val (.str 4), a, b, c], dr⟩ := fun a b c => inK_at rfl
  simp [f_lot_of_deed, e_fn3, v_check n dr (by omega), i1, i2, v_lotL h h1 h2]
theorem v_rest {n row L} (h : RowOf n row L) (h1 : 1 ≤ n) (h2 : n ≤ 12) (dr) : f_rest_of [row, .int (n : Nat)] dr = .ok (tS ((List.range n).filter fun i => !decide (i ∈ L))) dr := by
  have hline := line_ge
  have c1 := comp_map (List.range n) (fun i => D.int (i : Nat)) (fun i => !decide (i ∈ L)) (fun i => D.int (i : Nat)) (vs := [3]) (g := .n 3) (w := wR1 (mV 1)) (t := tV (mCmp .nmem (hP 3) (hP 2))) (el := mV 3)
    (s := ⟨[.val row, .val (.int (n : Nat)), .val (tS L), .em], dr⟩) (by simp [small_of (show -1000000 ≤ (n : Int) ∧ (n : Int) ≤ 1000000 by omega), rngL0]) rfl (by rw [List.length_range]; omega)
    (fun i hi => ⟨[.val row, .val (.int (n : Nat)), .val (tS L), .val (.int (i : Nat))], by simp [wipeS], by simp [wipeS], rfl, by
      have hm := nmem_tup (i : Int) (L.map fun (i : Nat) => (i : Int))
      rw [← natD_int] at hm
      by_cases e : i ∈ L
      · rw [decide_eq_true (cast_mem'.mpr e)] at hm
        exact .inl ⟨by simp [e], by simp [hm]⟩
      · rw [decide_eq_false fun z => e (cast_mem'.mp z)] at hm
        exact .inr ⟨.int (i : Nat), by simp [e], by simp [hm], by simp⟩⟩)
  simp [f_rest_of, e_fn2, v_lotD h h1 h2, c1]
  rfl
theorem v_common (A L : List Nat) (ha : A.Pairwise (· < ·)) (hl : A.length ≤ 1000) (dr) : f_common [tS A, tS L] dr = .ok (tS (A.filter fun i => decide (i ∈ L))) dr := by
  have hline := line_ge
  have hs : bi .sorted (.tup (natD A)) = some (.lst (natD A)) := by rw [natD_int, srt_t, isort_idL (cast_lt ha)]
  have c1 := comp_map A (fun i => D.int (i : Nat)) (fun i => decide (i ∈ L)) (fun i => D.int (i : Nat)) (vs := [2]) (g := .n 2) (w := wOne (hE (mBi .sorted (mP 0)))) (t := tV (mCmp .mem (hP 2) (hP 1))) (el := mV 2)
    (s := ⟨[.val (tS A), .val (tS L), .em], dr⟩) (by simp [hs]; rfl) rfl (by omega)
    (fun i hi => ⟨[.val (tS A), .val (tS L), .val (.int (i : Nat))], by simp [wipeS], by simp [wipeS], rfl, by
      have hm := mem_tup (i : Int) (L.map fun (i : Nat) => (i : Int))
      rw [← natD_int] at hm
      by_cases e : i ∈ L
      · rw [decide_eq_true (cast_mem'.mpr e)] at hm
        exact .inr ⟨.int (i : Nat), by simp [e], by simp [hm], by simp⟩
      · rw [decide_eq_false fun z => e (cast_mem'.mp z)] at hm
        exact .inl ⟨by simp [e], by simp [hm]⟩⟩)
  simp [f_common, e_fn2, c1]
  rfl
theorem v_minus (A L : List Nat) (ha : A.Pairwise (· < ·)) (hl : A.length ≤ 1000) (dr) : f_minus [tS A, tS L] dr = .ok (tS (A.filter fun i => !decide (i ∈ L))) dr := by
  have hline := line_ge
  have hs : bi .sorted (.tup (natD A)) = some (.lst (natD A)) := by rw [natD_int, srt_t, isort_idL (cast_lt ha)]
  have c1 := comp_map A (fun i => D.int (i : Nat)) (fun i => !decide (i ∈ L)) (fun i => D.int (i : Nat)) (vs := [2]) (g := .n 2) (w := wOne (hE (mBi .sorted (mP 0)))) (t := tV (mCmp .nmem (hP 2) (hP 1))) (el := mV 2)
    (s := ⟨[.val (tS A), .val (tS L), .em], dr⟩) (by simp [hs]; rfl) rfl (by omega)
    (fun i hi => ⟨[.val (tS A), .val (tS L), .val (.int (i : Nat))], by simp [wipeS], by simp [wipeS], rfl, by
      have hm := nmem_tup (i : Int) (L.map fun (i : Nat) => (i : Int))
      rw [← natD_int] at hm
      by_cases e : i ∈ L
      · rw [decide_eq_true (cast_mem'.mpr e)] at hm
        exact .inl ⟨by simp [e], by simp [hm]⟩
      · rw [decide_eq_false fun z => e (cast_mem'.mp z)] at hm
        exact .inr ⟨.int (i : Nat), by simp [e], by simp [hm], by simp⟩⟩)
  simp [f_minus, e_fn2, c1]
  rfl
end Mi.k17
set_option Elab.async false
set_option linter.all false
set_option maxRecDepth 100000
set_option maxHeartbeats 4000000
namespace Mi.k17
open Mi Mi.Pl
theorem v_lcells {n m f} (h : Rk n m f) (dr) : f__law_cells [.lst (lvD n f)] dr = .ok (.tup (cellsD n m f)) dr := by
  have hline := line_ge
  have h12 := h.hi
  have h1 := h.lo
  have hm := h.m_le
  have hm0 : 0 < m := Nat.lt_of_le_of_lt (Nat.zero_le _) (h.bd 0 h.lo)
  have hne : (List.range n).map (fun x => ((f x : Nat) : Int)) ≠ [] := by
    intro z
    have := congrArg List.length z
    simp at this
    omega
  obtain ⟨x, m1, m2, m3⟩ := max_lst hne
  rw [List.map_map] at m1
  have m1' : bi .max (.lst (lvD n f)) = some (.int x) := m1
  have hx : x + 1 = (m : Nat) := by
    obtain ⟨i, hi, rfl⟩ := List.mem_map.mp m2
    have q := h.bd i (List.mem_range.mp hi)
    obtain ⟨j, hj, e⟩ := h.all (m - 1) (by omega)
    have := m3 _ (List.mem_map.mpr ⟨j, List.mem_range.mpr hj, rfl⟩)
    omega
  have hsub : ∀ i, i < n → Mi.sub (.lst (lvD n f)) (.int (i : Nat)) = some (.int (f i : Nat)) := fun i hin => by simp [lvD, ixN_nat hin, hin]
  have hln : bi .len (.lst (lvD n f)) = some (.int (n : Nat)) := by simp [lvD]
  obtain ⟨s', q1, js, a, q3, rfl⟩ := for_inv (List.range m) (fun k => D.int (k : Nat)) (fun done s => ∃ js a, js = done.map (fun k => D.tup ((cellI n f k).map .int)) ∧ s = ⟨[.val (.lst (lvD n f)), .own (.lst js), a, .em], dr⟩)
    (g := .n 2) (w := wR1 (mBin .add (mBi .max (mP 0)) (mK (.int 1)))) (b := sApp 1 (mBi .tuple (mComp [3] (.n 3) (wR1 (mBi .len (mP 0))) (tV (mCmp .eq (hE (mSub (hP 0) (mV 3))) (hP 2))) (mV 3))))
    (s := ⟨[.val (.lst (lvD n f)), .own (.lst []), .em, .em], dr⟩) (by simp [m1', hx, small_of (show -1000000 ≤ (m : Int) ∧ (m : Int) ≤ 1000000 by omega), rngL0]) ⟨[], _, rfl, rfl⟩
    (by
      rintro done k rest s e ⟨js, a, ej, rfl⟩
      have hlen : js.length < line := by
        rw [ej, List.length_map]
        have := congrArg List.length e
        rw [List.length_append, List.length_cons, List.length_range] at this
        omega
      have c1 := comp_map (List.range n) (fun i => D.int (i : Nat)) (fun i => f i == k) (fun i => D.int (i : Nat)) (vs := [3]) (g := .n 3) (w := wR1 (mBi .len (mP 0))) (t := tV (mCmp .eq (hE (mSub (hP 0) (mV 3))) (hP 2))) (el := mV 3)
        (s := ⟨[.val (.lst (lvD n f)), .own (.lst js), .val (.int (k : Nat)), .em], dr⟩) (by simp [hln, small_of (show -1000000 ≤ (n : Int) ∧ (n : Int) ≤ 1000000 by omega), rngL0]) rfl (by rw [List.length_range]; omega)
        (fun i hi => ⟨[.val (.lst (lvD n f)), .own (.lst js), .val (.int (k : Nat)), .val (.int (i : Nat))], by simp [wipeS], by simp [wipeS], rfl, by
          have hs := hsub i (List.mem_range.mp hi)
          by_cases e : f i = k
          · subst e
            exact .inr ⟨.int (i : Nat), by simp, by simp [hs], by simp⟩
          · have e2 : (((f i : Nat) : Int) == (k : Nat)) = false := beq_eq_false_iff_ne.mpr (by omega)
            have e3 : (f i == k) = false := beq_eq_false_iff_ne.mpr e
            exact .inl ⟨by simp only [e3]; rfl, by simp [hs, e2]⟩⟩)
      have c2 : ((List.range n).filter fun i => f i == k).map (fun (i : Nat) => D.int (i : Nat)) = (cellI n f k).map .int := by
        unfold cellI cellN
        rw [List.map_map]
        rfl
      rw [c2] at c1
      refine ⟨⟨[.val (.lst (lvD n f)), .own (.lst (js ++ [D.tup ((cellI n f k).map .int)])), .val (.int (k : Nat)), .em], dr⟩, .inl ?_, _, _, by simp [ej], rfl⟩
      rw [e_turnF]
      simp [c1, hlen])
  simp only [f__law_cells, e_fn1]
  simp [q1, q3]
  rfl
theorem v_isrank {n m f g} (h : Rk n m f) (e : ∀ i, i < n → f i = g i) (dr) : f__law_is_rank [rkD n m f, .lst (lvD n g)] dr = .ok (.bl true) dr := by
  have hg : Rk n m g := ⟨h.lo, h.hi, fun i hi => e i hi ▸ h.bd i hi, fun k hk => by
    obtain ⟨i, hi, q⟩ := h.all k hk
    exact ⟨i, hi, (e i hi).symm.trans q⟩⟩
  have hln : (lvD n g).length = n := by simp [lvD]
  have hc := v_lcells hg
  rw [rk_same h hg e]
  have e1 := eq_self (lay_lv n g)
  have e2 := eq_self (lay_cells n m g)
  have e3 : ¬ (n : Int) ≠ ((lvD n g).length : Nat) := by rw [hln]; simp
  simp only [f__law_is_rank, e_fn2]
  simp [rkD, hln, hc, e1, e2]
theorem e_isrank {n m f g} {a : M (List D)} {s s' : S} (h : Rk n m f) (e : ∀ i, i < n → f i = g i) (h1 : a s = .ok [rkD n m f, .lst (lvD n g)] s') : mCall f__law_is_rank a s = .ok (.bl true) s' := by
  simp only [e_mCall, h1, e_then_ok]
  show callF f__law_is_rank _ ⟨s'.σ, s'.dr⟩ = _
  simp [v_isrank h e]
theorem v_prod2 {n m m' k f g u} (h2 : ∀ dr, f_Rank_mul [rkD n m f, rkD n m' g] dr = .ok (rkD n k u) dr) (dr : List Int) : varF f_products [rkD n m f, rkD n m' g] dr = .ok (rkD n k u) dr := by
  have hl := line_ge
  unfold varF
  rw [if_pos (by simp; omega)]
  have hw : wOne (hE (mSli (hP 0) (oYes (mK (.int 1))) oNo)) ⟨[.val (.tup [rkD n m f, rkD n m' g]), .val (rkD n m f), .em], dr⟩ = .ok ⟨[rkD n m' g], none⟩ ⟨[.val (.tup [rkD n m f, rkD n m' g]), .val (rkD n m f), .em], dr⟩ := by
    simp [sliD, slice, clip]
  have hm := e_mul (a := mV 1) (b := mV 2) (s := ⟨[.val (.tup [rkD n m f, rkD n m' g]), .val (rkD n m f), .val (rkD n m' g)], dr⟩) rfl rfl h2
  simp only [f_products, e_fn1]
  simp [ixN_zero, sFor_lit hw, forL_nil, forL_cons, hm]
/-! ### lead, two cells -/
def aw (L : List Nat) (i : Nat) : Nat := if i ∈ L then 0 else 1
theorem aw_lt (L i) : aw L i < 2 := by unfold aw; split <;> omega
theorem filt_id {L : List Nat} {n : Nat} (hn : ∀ x ∈ L, x < n) (ha : L.Pairwise (· < ·)) : (List.range n).filter (fun i => decide (i ∈ L)) = L := by
  have as : ∀ a b : Nat, a < b → b < a → a = b := fun a b h k => by omega
  have h1 : ((List.range n).filter fun i => decide (i ∈ L)).Pairwise (· < ·) := (range_lt n).filter _
  refine List.Perm.eq_of_pairwise (le := fun x y => x < y) (fun a b _ _ => as a b) h1 ha ((List.perm_ext_iff_of_nodup (h1.imp fun h e => by omega) (ha.imp fun h e => by omega)).mpr fun x => ?_)
  rw [List.mem_filter, List.mem_range, decide_eq_true_eq]
  exact ⟨fun h => h.2, fun h => ⟨hn x h, h⟩⟩
theorem cellP0 (n L f k) : cellP n (aw L) f (0, k) = (cellN n f k).filter fun i => decide (i ∈ L) := by
  unfold cellP cellN
  rw [List.filter_filter]
  refine List.filter_congr fun i _ => ?_
  unfold aw
  by_cases e : i ∈ L <;> simp [e]
theorem cellP1 (n L f k) : cellP n (aw L) f (1, k) = (cellN n f k).filter fun i => !decide (i ∈ L) := by
  unfold cellP cellN
  rw [List.filter_filter]
  refine List.filter_congr fun i _ => ?_
  unfold aw
  by_cases e : i ∈ L <;> simp [e]
theorem keys2 (n m L f) : (keysP 2 m).map (cellP n (aw L) f) = ((List.range m).map fun k => (cellN n f k).filter fun i => decide (i ∈ L)) ++ (List.range m).map fun k => (cellN n f k).filter fun i => !decide (i ∈ L) := by
  unfold keysP
  rw [show List.range 2 = [0, 1] from rfl]
  simp [List.map_map, Function.comp_def, cellP0, cellP1]
theorem cellN_asc (n f k) : (cellN n f k).Pairwise (· < ·) := (range_lt n).filter _
theorem cellN_len (n f k) : (cellN n f k).length ≤ n := by
  have := List.length_filter_le (fun i => f i == k) (List.range n)
  simpa [cellN] using this
theorem tru_tS (S) : (tS S).tru = some (!S.isEmpty) := by
  show some (!(natD S).isEmpty) = _
  unfold natD
  rw [List.isEmpty_map]
theorem v_led {n m f} (h : Rk n m f) {row L} (hr : RowOf n row L) : ∃ k u, Rk n k u ∧ Lv n u (lex (aw L) f) ∧ ∀ dr, f_led [rkD n m f, row] dr = .ok (rkD n k u) dr := by
  have hline := line_ge
  have h12 := h.hi
  have hm := h.m_le
  obtain ⟨k, u, p1, p2, p3⟩ := rk_pairs n 2 m (aw L) f (fun i _ => aw_lt L i) h.bd h.lo h.hi
  refine ⟨k, u, p1, p2, fun dr => ?_⟩
  have c1 := comp_all (List.range m) (fun k => tS (cellN n f k)) (fun k => tS ((cellN n f k).filter fun i => decide (i ∈ L))) (vs := [4]) (g := .n 4) (w := wOne (hE (mAtt 3 (mV 0)))) (t := tYes) (el := mCall f_common (mCons (mV 4) (mCons (mV 2) mNil)))
    (s := ⟨[.val (rkD n m f), .val row, .val (tS L), .em, .em, .em], dr⟩) (by simp [attR_rk, cellsD, cellI_nat]) rfl (by rw [List.length_range]; omega)
    (fun k hk => ⟨[.val (rkD n m f), .val row, .val (tS L), .em, .val (tS (cellN n f k)), .em], by simp [wipeS], by simp [wipeS], rfl, .inr ⟨_, rfl, rfl, by
      have q := v_common (cellN n f k) L (cellN_asc n f k) (by have := cellN_len n f k; omega) dr
      simp [q]⟩⟩)
  generalize hA : ((List.range m).map fun k => tS ((cellN n f k).filter fun i => decide (i ∈ L))) = A at c1
  have c2 := comp_all (List.range m) (fun k => tS (cellN n f k)) (fun k => tS ((cellN n f k).filter fun i => !decide (i ∈ L))) (vs := [4]) (g := .n 4) (w := wOne (hE (mAtt 3 (mV 0)))) (t := tYes) (el := mCall f_minus (mCons (mV 4) (mCons (mV 2) mNil)))
    (s := ⟨[.val (rkD n m f), .val row, .val (tS L), .val (.lst A), .em, .em], dr⟩) (by simp [attR_rk, cellsD, cellI_nat]) rfl (by rw [List.length_range]; omega)
    (fun k hk => ⟨[.val (rkD n m f), .val row, .val (tS L), .val (.lst A), .val (tS (cellN n f k)), .em], by simp [wipeS], by simp [wipeS], rfl, .inr ⟨_, rfl, rfl, by
      have q := v_minus (cellN n f k) L (cellN_asc n f k) (by have := cellN_len n f k; omega) dr
      simp [q]⟩⟩)
  generalize hB : ((List.range m).map fun k => tS ((cellN n f k).filter fun i => !decide (i ∈ L))) = B at c2
  have hAB : A ++ B = ((keysP 2 m).map (cellP n (aw L) f)).map tS := by
    rw [keys2, List.map_append, List.map_map, List.map_map, ← hA, ← hB]
    rfl
  have hlA : A.length = m := by rw [← hA]; simp
  have hlB : B.length = m := by rw [← hB]; simp
  have hadd : bin .add (.lst A) (.lst B) = some (.lst (((keysP 2 m).map (cellP n (aw L) f)).map tS)) := by
    show (if (Bop.add = Bop.add ∧ A.length + B.length ≤ line) then some (D.lst (A ++ B)) else none) = _
    rw [if_pos ⟨rfl, by omega⟩, hAB]
  have c3 := comp_map ((keysP 2 m).map (cellP n (aw L) f)) tS (fun S => !S.isEmpty) tS (vs := [4]) (g := .n 4) (w := wOne (hE (mBin .add (mV 3) (mV 5)))) (t := tV (mP 4)) (el := mV 4)
    (s := ⟨[.val (rkD n m f), .val row, .val (tS L), .val (.lst A), .em, .val (.lst B)], dr⟩) (by simp only [e_wOne, e_hE, e_mBin, e_mV, e_then_ok, List.getElem?_cons_succ, List.getElem?_cons_zero, e_force_at, hadd]; rfl) rfl (by
      have := congrArg List.length hAB
      rw [List.length_append, List.length_map] at this
      omega)
    (fun S hS => ⟨[.val (rkD n m f), .val row, .val (tS L), .val (.lst A), .val (tS S), .val (.lst B)], by simp [wipeS], by simp [wipeS], rfl, by
      have ht := tru_tS S
      cases q : S.isEmpty with
      | true =>
        rw [q] at ht
        have ht : (tS S).tru = some false := ht
        refine .inl ⟨by simp, ?_⟩
        simp only [e_tV, e_mP, List.getElem?_cons_succ, List.getElem?_cons_zero, e_force_at, e_then_ok, ht, e_get_some]
      | false =>
        rw [q] at ht
        have ht : (tS S).tru = some true := ht
        refine .inr ⟨tS S, by simp, ?_, by simp⟩
        simp only [e_tV, e_mP, List.getElem?_cons_succ, List.getElem?_cons_zero, e_force_at, e_then_ok, ht, e_get_some]⟩)
  rw [p3] at c3
  have q := v_init_l p1 dr
  simp only [f_led, e_fn2]
  rw [show List.replicate (6 - 2) SV.em = [.em, .em, .em, .em] from rfl]
  have d1 := v_deed hr h.lo h.hi dr
  simp [attR_rk, d1, c1, c2, c3, q]
theorem v_two {n row L} (h1 : 1 ≤ n) (h2 : n ≤ 12) (hr : RowOf n row L) (hn : ∀ x ∈ L, x < n) (ha : L.Pairwise (· < ·)) (hne : L ≠ []) : ∃ k u, Rk n k u ∧ Lv n u (fun i j => aw L i < aw L j) ∧ ∀ dr, f_Rank_two [.cls 6, row, .int (n : Nat)] dr = .ok (rkD n k u) dr := by
  have hline := line_ge
  obtain ⟨k, u, p1, p2, p3⟩ := rk_pairs n 2 1 (aw L) (fun _ => 0) (fun i _ => aw_lt L i) (fun i _ => Nat.one_pos) h1 h2
  refine ⟨k, u, p1, ⟨p2.bd, p2.dn, fun i hi j hj => (p2.od i hi j hj).trans (by simp [lex])⟩, fun dr => ?_⟩
  have hz : cellN n (fun _ => 0) 0 = List.range n := by unfold cellN; simp
  rw [keys2, show List.range 1 = [0] from rfl] at p3
  simp only [List.map_cons, List.map_nil, List.cons_append, List.nil_append, hz, filt_id hn ha] at p3
  have hL : L.isEmpty = false := by
    cases L with
    | nil => exact absurd rfl hne
    | cons _ _ => rfl
  generalize hR : ((List.range n).filter fun i => !decide (i ∈ L)) = R at p3
  have d1 := v_lotL hr h1 h2 false dr
  have d2 := v_rest (rowOf_t h2 hn ha hne) h1 h2 dr
  rw [hR] at d2
  have q := v_init_t p1 dr
  have hck := v_check n dr (by omega)
  have ht := tru_tS R
  simp only [f_Rank_two, e_fn3]
  cases qR : R.isEmpty with
  | true =>
    rw [qR] at ht
    have ht : (tS R).tru = some false := ht
    simp only [List.filter_cons, hL, qR, List.filter_nil, Bool.not_false, Bool.not_true, if_true, Bool.false_eq_true, if_false, List.map_cons, List.map_nil] at p3
    rw [← p3] at q
    simp [hck, d1, d2, ht, tabC_at, q, show 1 ≤ line by omega, show 2 ≤ line by omega]
  | false =>
    rw [qR] at ht
    have ht : (tS R).tru = some true := ht
    simp only [List.filter_cons, hL, qR, List.filter_nil, Bool.not_false, Bool.not_true, if_true, Bool.false_eq_true, if_false, List.map_cons, List.map_nil] at p3
    rw [← p3] at q
    simp [hck, d1, d2, ht, tabC_at, q, show 1 ≤ line by omega, show 2 ≤ line by omega]
end Mi.k17
set_option Elab.async false
set_option linter.all false
set_option maxRecDepth 100000
set_option maxHeartbeats 4000000
namespace Mi.k17
open Mi Mi.Pl
theorem Dense.lv {n u} {lt : Nat → Nat → Prop} (h : Lv n u lt) : Lv n u fun i j => u i < u j := ⟨h.bd, h.dn, fun _ _ _ _ => Iff.rfl⟩
/-- lots that are not empty -/
structure Lot (n : Nat) (L : List Nat) : Prop where
  lt : ∀ x ∈ L, x < n
  asc : L.Pairwise (· < ·)
  ne : L ≠ []
theorem rev_tS (S) : revD (tS S) = some (.tup (natD S).reverse) := rfl
theorem list_tupD (xs) : bi .list (.tup xs) = some (.lst xs) := rfl
theorem v_leads {n m f} (h : Rk n m f) (lf : Lv n f fun i j => f i < f j) (Ls : List (List Nat)) (hL : ∀ L ∈ Ls, Lot n L) (dr) : f__law_leads_right [rkD n m f, .lst (lvD n f), .lst (Ls.map tS)] dr = .ok (.bl true) dr := by
  have hline := line_ge
  have h1 := h.lo
  have h2 := h.hi
  have hln : bi .len (.lst (lvD n f)) = some (.int (n : Nat)) := by simp [lvD]
  obtain ⟨s', q1, mu0, u0, mw0, w0, a0, _, _, _, _, rfl⟩ := for_inv Ls tS (fun _ s => ∃ mu u mw w a, Rk n mu u ∧ (Lv n u fun i j => u i < u j) ∧ Rk n mw w ∧ Lv n u (lex w f) ∧
      s = ⟨[.val (rkD n m f), .val (.lst (lvD n f)), .val (.lst (Ls.map tS)), .val (.int (n : Nat)), .val (rkD n mu u), .val (.lst (lvD n u)), .val (rkD n mw w), a], dr⟩)
    (g := .n 7) (w := wOne (hE (mV 2))) (b := sSeq (sSet 4 (mCall f_led (mCons (mV 4) (mCons (mBi .list (mRsl (mP 7))) mNil)))) (sSeq (sSet 5 (mCall f__law_turn (mCons (mV 5) (mCons (mK (.str 4)) (mCons (mV 7) mNil))))) (sSeq (sSet 6 (mMulo tabMul (mCm 6 f_Rank_two (mCons (mV 7) (mCons (mV 3) mNil))) (mV 6))) (sIf (tOr (tNot (tV (mCall f__law_is_rank (mCons (mV 4) (mCons (mV 5) mNil))))) (tNot (tV (mCall f__law_is_rank (mCons (mMulo tabMul (mV 6) (mV 0)) (mCons (mV 5) mNil)))))) (sRet (mK (.bl false))) sNil))))
    (s := ⟨[.val (rkD n m f), .val (.lst (lvD n f)), .val (.lst (Ls.map tS)), .val (.int (n : Nat)), .val (rkD n m f), .val (.lst (lvD n f)), .val (rkD n 1 fun _ => 0), .em], dr⟩) (by simp)
    ⟨m, f, 1, _, _, h, lf, flat_rk h1 h2, ⟨lf.bd, lf.dn, fun i hi j hj => by simp [lex]⟩, rfl⟩
    (by
      rintro done L rest s e ⟨mu, u, mw, w, a, pu, lu, pw, luw, rfl⟩
      have hl := hL L (by rw [e]; simp)
      obtain ⟨k', u', pu', lu', d1⟩ := v_led pu (rowOf_r h2 hl.lt hl.asc hl.ne)
      obtain ⟨u2, _, lu2, d2⟩ := v_lead pu L
      have e2 : ∀ i, i < n → u' i = u2 i := lu'.uniq lu2 fun i _ j _ => Iff.rfl
      obtain ⟨kt, t, pt, lt, d3⟩ := v_two h1 h2 (rowOf_t h2 hl.lt hl.asc hl.ne) hl.lt hl.asc hl.ne
      obtain ⟨kw, w', pw', lw', d4⟩ := v_mul pt pw
      obtain ⟨kx, x, px, lx, d5⟩ := v_mul pw' h
      have key : ∀ i, i < n → ∀ j, j < n → (lex w' f i j ↔ lex (aw L) u i j) := fun i hi j hj => by
        have z1 := lw'.od i hi j hj
        have z2 := lw'.od j hj i hi
        have z3 := lt.od i hi j hj
        have z4 := lt.od j hj i hi
        have z5 := luw.od i hi j hj
        have z6 := luw.od j hj i hi
        unfold lex at *
        omega
      have e3 : ∀ i, i < n → x i = u' i := lx.uniq lu' key
      have e4 : ∀ i, i < n → x i = u2 i := fun i hi => (e3 i hi).trans (e2 i hi)
      have ee : lvD n u2 = lvD n u' := lvD_congr fun i hi => (e2 i hi).symm
      have m1 : ∀ σ, σ[6]? = some (.val (rkD n mw w)) → σ[7]? = some (.val (tS L)) → σ[3]? = some (.val (.int (n : Nat))) → mMulo tabMul (mCm 6 f_Rank_two (mCons (mV 7) (mCons (mV 3) mNil))) (mV 6) ⟨σ, dr⟩ = .ok (rkD n kw w') ⟨σ, dr⟩ := fun σ q6 q7 q3 =>
        e_mul (s1 := ⟨σ, dr⟩) (by simp only [e_mCm, e_mCons, e_mV_val _ _ q7, e_mV_val _ _ q3, e_mNil, e_then_ok, e_callF, d3, e_back_ok]) (e_mV_val _ _ q6) d4
      have m2 : ∀ σ, σ[6]? = some (.val (rkD n kw w')) → σ[0]? = some (.val (rkD n m f)) → mMulo tabMul (mV 6) (mV 0) ⟨σ, dr⟩ = .ok (rkD n kx x) ⟨σ, dr⟩ := fun σ q6 q0 => e_mul (e_mV_val _ _ q6) (e_mV_val _ _ q0) d5
      refine ⟨⟨[.val (rkD n m f), .val (.lst (lvD n f)), .val (.lst (Ls.map tS)), .val (.int (n : Nat)), .val (rkD n k' u'), .val (.lst (lvD n u')), .val (rkD n kw w'), .val (tS L)], dr⟩, .inl ?_, k', u', kw, w', _, pu', Dense.lv lu', pw', ⟨lu'.bd, lu'.dn, fun i hi j hj => (lu'.od i hi j hj).trans (key i hi j hj).symm⟩, rfl⟩
      have r1 := v_isrank pu' (fun i _ => rfl) dr
      have r2 := v_isrank px e3 dr
      rw [e_turnF]
      simp [rev_tS, list_tupD, d1, d2, ee, m1, m2, r1, r2])
  simp only [f__law_leads_right, e_fn3]
  rw [show List.replicate (8 - 3) SV.em = [.em, .em, .em, .em, .em] from rfl]
  have hli : bi .list (.lst (lvD n f)) = some (.lst (lvD n f)) := rfl
  simp [hln, hli, v_flat n _ h1 h2, q1]
theorem v_ltwo {n L} (h1 : 1 ≤ n) (h2 : n ≤ 12) : ∃ t, Dense n t ∧ Lv n t (fun i j => aw L i < aw L j) ∧ ∀ dr, f__law_two [tS L, .int (n : Nat)] dr = .ok (.lst (lvD n t)) dr := by
  have hline := line_ge
  obtain ⟨t, t1, t2, t3⟩ := v_dense n (fun i => (aw L i : Int)) h1 h2
  refine ⟨t, ⟨Dense.lv t1, t2⟩, ⟨t1.bd, t1.dn, fun i hi j hj => (t1.od i hi j hj).trans (by omega)⟩, fun dr => ?_⟩
  have c1 := comp_all (List.range n) (fun i => D.int (i : Nat)) (fun i => D.int (aw L i : Nat)) (vs := [2]) (g := .n 2) (w := wR1 (mV 1)) (t := tYes) (el := mIf (tV (mCmp .mem (hP 2) (hP 0))) (mK (.int 0)) (mK (.int 1)))
    (s := ⟨[.val (tS L), .val (.int (n : Nat)), .em], dr⟩) (by simp [small_of (show -1000000 ≤ (n : Int) ∧ (n : Int) ≤ 1000000 by omega), rngL0]) rfl (by rw [List.length_range]; omega)
    (fun i hi => ⟨[.val (tS L), .val (.int (n : Nat)), .val (.int (i : Nat))], by simp [wipeS], by simp [wipeS], rfl, .inr ⟨_, rfl, rfl, by
      have hm := mem_tup (i : Int) (L.map fun (i : Nat) => (i : Int))
      rw [← natD_int] at hm
      unfold aw
      by_cases e : i ∈ L
      · rw [decide_eq_true (cast_mem'.mpr e)] at hm
        simp [hm, e]
      · rw [decide_eq_false fun z => e (cast_mem'.mp z)] at hm
        simp [hm, e]⟩⟩)
  simp [f__law_two, e_fn2, c1, t3]
theorem v_ledby {n m m' f g} (hg : Rk n m' g) (dr) : f_led_by [rkD n m f, rkD n m' g] dr = .ok (if (pairF n n (finC g f)).isNone = true then rkD n m' g else .non) dr := by
  have q := v_finer (m' := m) (g := f) hg dr
  cases hp : (pairF n n (finC g f)).isNone with
  | true =>
    rw [hp] at q
    simp [f_led_by, e_fn2, v_same, q]
  | false =>
    rw [hp] at q
    simp [f_led_by, e_fn2, v_same, q]
theorem v_ledby_no {n n' m m' f g} (h : n ≠ n') (dr) : f_led_by [rkD n m f, rkD n' m' g] dr = .ex 5 [2] [.int (n' : Nat)] dr := by
  simp [f_led_by, e_fn2, v_same_no dr h]
theorem v_ref {n n' m m' f g} (k : Nat) (hk : k < 2) (h : n ≠ n') (dr) : f__law_refused [.int (k : Nat), rkD n m f, rkD n' m' g] dr = .ok (.int (n' : Nat)) dr := by
  have h1 := v_ledby_no (m := m) (m' := m') (f := f) (g := g) h dr
  have h3 := v_finer_no (m := m) (m' := m') (f := f) (g := g) dr h
  have hk3 : k = 0 ∨ k = 1 := by omega
  simp only [f__law_refused, e_fn3]
  rcases hk3 with rfl | rfl
  · simp [sTry, h1, pick, Hn.run, Xs.run, X2.val, X1.val, SV.isVal, lookA]
  · simp [sTry, h3, pick, Hn.run, Xs.run, X2.val, X1.val, SV.isVal, lookA]
theorem abs_fin {n u f g} (hu : Lv n u (lex f g)) (lf : Lv n f fun i j => f i < f j) : eqF n u f = (pairF n n (finC f g)).isNone := by
  rw [Bool.eq_iff_iff, eqF_true, Option.isNone_iff_eq_none, pairF_none]
  constructor
  · intro h x hx y hy
    have a := hu.od x hx y hy
    have b := hu.od y hy x hx
    rw [h x hx, h y hy] at a b
    unfold lex at a b
    unfold finC
    by_cases q : f x = f y
    · have : g x = g y := by omega
      simp [this]
    · simp [q]
  · intro h
    refine hu.uniq lf fun i hi j hj => ?_
    have a := h i hi j hj
    unfold finC at a
    unfold lex
    by_cases q : f i = f j
    · have : g i = g j := by simpa [q] using a
      omega
    · omega
theorem v_ledr {n m m' f g} (hf : Rk n m f) (hg : Rk n m' g) (lf : Lv n f fun i j => f i < f j) (lg : Lv n g fun i j => g i < g j) (dr) : f__law_led_right [rkD n m f, rkD n m' g, .lst (lvD n f), .lst (lvD n g)] dr = .ok (.bl true) dr := by
  obtain ⟨k, u, p1, q1, r1⟩ := v_mul hg hf
  obtain ⟨x, x1, _, x3⟩ := v_lproduct (f := g) (g := f) hf.lo hf.hi (fun i hi => by have := hg.bd i hi; have := hg.m_le; have := hg.hi; omega) lf.bd
  have e1 := abs_fin q1 lg
  have l1 := v_ledby (m := m) (f := f) hg
  have l2 := v_finer (m' := m) (g := f) hg
  have l3 := v_lfiner (f := g) (g := f) hf.hi
  have M10 : ∀ σ dr, σ[0]? = some (.val (rkD n m f)) → σ[1]? = some (.val (rkD n m' g)) → mMulo tabMul (mV 1) (mV 0) ⟨σ, dr⟩ = .ok (rkD n k u) ⟨σ, dr⟩ := fun σ dr h1 h2 => e_mul (e_mV_val _ _ h2) (e_mV_val _ _ h1) r1
  have M40 : ∀ σ dr, σ[0]? = some (.val (rkD n m f)) → σ[4]? = some (.val (rkD n m' g)) → mMulo tabMul (mV 4) (mV 0) ⟨σ, dr⟩ = .ok (rkD n k u) ⟨σ, dr⟩ := fun σ dr h1 h2 => e_mul (e_mV_val _ _ h2) (e_mV_val _ _ h1) r1
  have ME : ∀ σ dr, σ[0]? = some (.val (rkD n m f)) → σ[1]? = some (.val (rkD n m' g)) → mEqo tabEq (mMulo tabMul (mV 1) (mV 0)) (mV 1) ⟨σ, dr⟩ = .ok (.bl (pairF n n (finC g f)).isNone) ⟨σ, dr⟩ := fun σ dr h1 h2 => by
    rw [e_eq (s1 := ⟨σ, dr⟩) p1 hg (M10 σ dr h1 h2) (e_mV_val _ _ h2), e1]
  have c9 : ∀ b : Bool, cmp .ne (.bl b) (.bl b) = some false := fun b => ne_self (lay_bl 9 b)
  simp only [f__law_led_right, e_fn4]
  rw [show List.replicate (6 - 4) SV.em = [.em, .em] from rfl]
  cases hp : (pairF n n (finC g f)).isNone with
  | false =>
    simp only [hp] at l1 l2 l3 ME
    have hnn : D.non.isNon = true := rfl
    simp [l1, l2, l3, ME, c9, hnn]
  | true =>
    simp only [hp] at l1 l2 l3 ME
    rw [hp] at e1
    have eu := eqF_true.mp e1
    have ex : ∀ i, i < n → x i = g i := fun i hi => by rw [x1.uniq q1 (fun _ _ _ _ => Iff.rfl) i hi, eu i hi]
    rw [lvD_congr ex] at x3
    have ln : (lvD n f).length = n := by simp [lvD]
    have n1 : ∀ f, cmp .ne (.lst (lvD n f)) (.lst (lvD n f)) = some false := fun f => ne_self (lay_lvl n f)
    have ni : ∀ i : Int, cmp .ne (.int i) (.int i) = some false := fun i => ne_self (lay_int 9 i)
    have t1 : ∀ f, bi .list (.tup (lvD n f)) = some (.lst (lvD n f)) := fun _ => rfl
    have t2 : ∀ f, bi .list (.lst (lvD n f)) = some (.lst (lvD n f)) := fun _ => rfl
    have is : (rkD n m' g).isa [.cls 6] = some true := rfl
    have l1' : ∀ dr, f_led_by [rkD n m f, rkD n m' g] dr = .ok (rkD n m' g) dr := l1
    have r9 := v_isrank p1 eu
    simp [l1', l2, l3, ME, c9, is, attR_rk, ln, ni, t1, t2, x3, n1, M40, M10, r9]
end Mi.k17
set_option Elab.async false
set_option linter.all false
set_option maxRecDepth 100000
set_option maxHeartbeats 4000000
namespace Mi.k17
open Mi Mi.Pl
theorem popO_at {i k : Nat} {m : M D} {s s1 : S} {ys xs : List D} {d : D} (h0 : s.σ[i]? = some (.own (.lst ys))) (h1 : m s = .ok (.int (k : Nat)) s1) (h2 : s1.σ[i]? = some (.own (.lst xs))) (hl : xs.length < 1000000) (hd : xs[k]? = some d) :
    mPopO i m s = .ok d ⟨s1.σ.set i (.own (.lst (xs.eraseIdx k))), s1.dr⟩ := by
  have hk : k < xs.length := (List.getElem?_eq_some_iff.mp hd).1
  unfold mPopO
  simp only [h0, h1, e_then_ok, h2]
  rw [if_pos ⟨by omega, by omega, by omega⟩]
  simp [hd]
theorem mem_erase_or {α : Type} {a : α} : ∀ {l : List α} {k : Nat} {b : α}, l[k]? = some b → a ∈ l → a = b ∨ a ∈ l.eraseIdx k
  | [], k, b, h, _ => by simp at h
  | x :: l, 0, b, h, ha => by
    simp at h
    subst h
    simpa using ha
  | x :: l, k + 1, b, h, ha => by
    rw [List.eraseIdx_cons_succ]
    rcases List.mem_cons.mp ha with rfl | ha
    · exact .inr List.mem_cons_self
    · exact (mem_erase_or (k := k) (by simpa using h) ha).imp id (List.mem_cons_of_mem _)
theorem map_erase {α β : Type} (f : α → β) : ∀ (l : List α) (k : Nat), (l.map f).eraseIdx k = (l.eraseIdx k).map f
  | [], _ => rfl
  | _ :: _, 0 => rfl
  | x :: l, k + 1 => by simp [map_erase f l k]
theorem ltF_lot {n m f b} (h : Rk n m f) (hb : b < m) : Lot n (ltF n f b) where
  lt := fun x hx => (mem_ltF.mp hx).1
  asc := ltF_asc n f b
  ne := by
    obtain ⟨i, hi, e⟩ := h.all b hb
    exact List.ne_nil_of_mem (mem_ltF.mpr ⟨hi, Nat.le_of_eq e⟩)
/-- the two-cell ranks of the beginnings -/
structure TwoC (n m : Nat) (f : Nat → Nat) (kt : Nat → Nat) (tt : Nat → Nat → Nat) : Prop where
  rk : ∀ b, b < m - 1 → Rk n (kt b) (tt b)
  lv : ∀ b, b < m - 1 → Lv n (tt b) fun i j => aw (ltF n f b) i < aw (ltF n f b) j
theorem v_twocells {n m f} (h : Rk n m f) (hn : n ≤ 6) : ∃ kt tt, TwoC n m f kt tt ∧ ∀ dr, f_two_cells [rkD n m f] dr = .ok (.tup ((List.range (m - 1)).map fun b => rkD n (kt b) (tt b))) dr := by
  have hline := line_ge
  have h1 := h.lo
  have h2 := h.hi
  have hm := h.m_le
  have H : ∀ b, ∃ k u, b < m - 1 → Rk n k u ∧ Lv n u (fun i j => aw (ltF n f b) i < aw (ltF n f b) j) ∧ ∀ dr, f_Rank_two [.cls 6, tS (ltF n f b), .int (n : Nat)] dr = .ok (rkD n k u) dr := fun b => by
    by_cases hb : b < m - 1
    · have hl := ltF_lot h (b := b) (by omega)
      obtain ⟨k, u, q⟩ := v_two h1 h2 (rowOf_t h2 hl.lt hl.asc hl.ne) hl.lt hl.asc hl.ne
      exact ⟨k, u, fun _ => q⟩
    · exact ⟨0, fun _ => 0, fun z => absurd z hb⟩
  let kt := fun b => Classical.choose (H b)
  let tt := fun b => Classical.choose (Classical.choose_spec (H b))
  have hs : ∀ b, b < m - 1 → Rk n (kt b) (tt b) ∧ Lv n (tt b) (fun i j => aw (ltF n f b) i < aw (ltF n f b) j) ∧ ∀ dr, f_Rank_two [.cls 6, tS (ltF n f b), .int (n : Nat)] dr = .ok (rkD n (kt b) (tt b)) dr := fun b => Classical.choose_spec (Classical.choose_spec (H b))
  refine ⟨kt, tt, ⟨fun b hb => (hs b hb).1, fun b hb => (hs b hb).2.1⟩, fun dr => ?_⟩
  generalize kt = kt at hs ⊢
  generalize tt = tt at hs ⊢
  have hsl : sliD (.tup (begD n m f)) none (some (-1)) = some (.tup ((List.range (m - 1)).map fun b => tS (ltF n f b))) := by
    have e : ((-1 : Int) + (m : Nat)).toNat = m - 1 := by omega
    have e1 : (begD n m f).length = m := by simp [begD]
    show some (D.tup (slice (begD n m f) none (some (-1)))) = _
    unfold slice clip
    rw [e1]
    simp only [List.drop_zero, Nat.sub_zero, show ((-1 : Int) < 0) from by omega, if_true, e]
    unfold begD
    rw [← List.map_take, List.take_range, Nat.min_eq_left (by omega)]
  have hb := e_beg (a := mV 0) (s := ⟨[.val (rkD n m f), .em], dr⟩) h hn rfl
  have c1 := comp_all (List.range (m - 1)) (fun b => tS (ltF n f b)) (fun b => rkD n (kt b) (tt b)) (vs := [1]) (g := .n 1) (w := wOne (hE (mSli (hE (mMt tabM_beginnings (mV 0) mNil)) oNo (oYes (mNeg (mK (.int 1))))))) (t := tYes) (el := mCm 6 f_Rank_two (mCons (mV 1) (mCons (mAtt 2 (mV 0)) mNil)))
    (s := ⟨[.val (rkD n m f), .em], dr⟩) (by simp [hb, hsl]) rfl (by rw [List.length_range]; omega)
    (fun b hb => ⟨[.val (rkD n m f), .val (tS (ltF n f b))], by simp [wipeS], by simp [wipeS], rfl, .inr ⟨_, rfl, rfl, by
      have q := (hs b (List.mem_range.mp hb)).2.2 dr
      simp [attR_rk, q]⟩⟩)
  simp [f_two_cells, e_fn1, c1]
theorem v_twos {n m f} (h : Rk n m f) (lf : Lv n f fun i j => f i < f j) (hn : n ≤ 6) (dr) : ∃ dr', f__law_twos_right [.dr, rkD n m f, .lst (lvD n f)] dr = .ok (.bl true) dr' := by
  have hline := line_ge
  have h1 := h.lo
  have h2 := h.hi
  have hm := h.m_le
  have hm1 : 1 ≤ m := Nat.lt_of_le_of_lt (Nat.zero_le _) (h.bd 0 h1)
  obtain ⟨kt, tt, tw, d1⟩ := v_twocells h hn
  obtain ⟨x, mx, hx⟩ := max_lv h
  have ex : x = ((m - 1 : Nat) : Int) := by omega
  rw [ex] at mx
  generalize hTL : (List.range (m - 1)).map (fun b => rkD n (kt b) (tt b)) = TL at d1
  have hTl : TL.length = m - 1 := by rw [← hTL]; simp
  have hsub : ∀ b, b < m - 1 → Mi.sub (.tup TL) (.int (b : Nat)) = some (rkD n (kt b) (tt b)) := fun b hb => by
    rw [sub_tup, hTl, ixN_nat hb, ← hTL]
    simp [hb]
  have hln : bi .len (.lst (lvD n f)) = some (.int (n : Nat)) := by simp [lvD]
  have hlT : bi .len (.tup TL) = some (.int ((m - 1 : Nat) : Nat)) := by rw [len_tup, hTl]
  have ni : ∀ i : Int, cmp .ne (.int i) (.int i) = some false := fun i => ne_self (lay_int 9 i)
  have his : (D.tup TL).isa [.tuple] = some true := rfl
  have hwr : ∀ s : S, s.σ[2]? = some (.val (.lst (lvD n f))) → wR1 (mBi .max (mP 2)) s = .ok ⟨(List.range (m - 1)).map fun i => D.int (i : Nat), none⟩ s := fun s hs => by
    have : mP 2 s = .ok (.lst (lvD n f)) s := by obtain ⟨σ, dr⟩ := s; simp only at hs; simp [mP, hs]
    simp [this, mx, small_of (show -1000000 ≤ ((m - 1 : Nat) : Int) ∧ ((m - 1 : Nat) : Int) ≤ 1000000 by omega), rngL0]
  -- the first walk
  obtain ⟨s1, w1, a1, b1, rfl⟩ := for_inv (List.range (m - 1)) (fun i => D.int (i : Nat)) (fun done s => ∃ a b, s = ⟨[.val .dr, .val (rkD n m f), .val (.lst (lvD n f)), .val (.int (n : Nat)), .val (.tup TL), .own (.lst (done.map fun b => rkD n (kt b) (tt b))), a, b, .em, .em, .em], dr⟩)
    (g := .n 6) (w := wR1 (mBi .max (mP 2))) (b := sSeq (sSet 7 (mBi .tuple (mComp [8] (.n 8) (wR1 (mV 3)) (tV (mCmp .le (hE (mSub (hP 2) (mV 8))) (hP 6))) (mV 8)))) (sSeq (sIf (tNot (tV (mCall f__law_is_rank (mCons (mSub (hP 4) (mV 6)) (mCons (mCall f__law_two (mCons (mV 7) (mCons (mV 3) mNil))) mNil))))) (sRet (mK (.bl false))) sNil) (sApp 5 (mSub (hP 4) (mV 6)))))
    (s := ⟨[.val .dr, .val (rkD n m f), .val (.lst (lvD n f)), .val (.int (n : Nat)), .val (.tup TL), .own (.lst []), .em, .em, .em, .em, .em], dr⟩) (hwr _ rfl) ⟨_, _, rfl⟩
    (by
      rintro done b rest s e ⟨a, a2, rfl⟩
      have hb : b < m - 1 := by
        have : b ∈ List.range (m - 1) := by rw [e]; simp
        exact List.mem_range.mp this
      have hdl : done.length < 100 := by
        have := congrArg List.length e
        simp at this
        omega
      obtain ⟨t, dt, lt, dd⟩ := v_ltwo (n := n) (L := ltF n f b) h1 h2
      have et : ∀ i, i < n → tt b i = t i := (tw.lv b hb).uniq lt fun i _ j _ => Iff.rfl
      have ir := v_isrank (tw.rk b hb) et dr
      have hs := hsub b hb
      have dl : (done.map fun b => rkD n (kt b) (tt b)).length < line := by rw [List.length_map]; omega
      have cc := comp_map (List.range n) (fun i => D.int (i : Nat)) (fun i => decide (f i ≤ b)) (fun i => D.int (i : Nat)) (vs := [8]) (g := .n 8) (w := wR1 (mV 3)) (t := tV (mCmp .le (hE (mSub (hP 2) (mV 8))) (hP 6))) (el := mV 8)
        (s := ⟨[.val .dr, .val (rkD n m f), .val (.lst (lvD n f)), .val (.int (n : Nat)), .val (.tup TL), .own (.lst (done.map fun b => rkD n (kt b) (tt b))), .val (.int (b : Nat)), a2, .em, .em, .em], dr⟩) (by simp [small_of (show -1000000 ≤ (n : Int) ∧ (n : Int) ≤ 1000000 by omega), rngL0]) rfl (by rw [List.length_range]; omega)
        (fun i hi => ⟨[.val .dr, .val (rkD n m f), .val (.lst (lvD n f)), .val (.int (n : Nat)), .val (.tup TL), .own (.lst (done.map fun b => rkD n (kt b) (tt b))), .val (.int (b : Nat)), a2, .val (.int (i : Nat)), .em, .em], by simp [wipeS], by simp [wipeS], rfl, by
          have hs := sub_lvl (f := f) (List.mem_range.mp hi)
          by_cases e : f i ≤ b
          · exact .inr ⟨.int (i : Nat), by simp [e], by simp [hs, e], by simp⟩
          · exact .inl ⟨by simp [e], by simp [hs, e]⟩⟩)
      have ee : ((List.range n).filter fun i => decide (f i ≤ b)).map (fun (i : Nat) => D.int (i : Nat)) = natD (ltF n f b) := rfl
      rw [ee] at cc
      refine ⟨⟨[.val .dr, .val (rkD n m f), .val (.lst (lvD n f)), .val (.int (n : Nat)), .val (.tup TL), .own (.lst ((done ++ [b]).map fun b => rkD n (kt b) (tt b))), .val (.int (b : Nat)), .val (tS (ltF n f b)), .em, .em, .em], dr⟩, .inl ?_, _, _, rfl⟩
      rw [e_turnF, List.map_append]
      generalize (done.map fun b => rkD n (kt b) (tt b)) = DL at *
      simp [cc, dd, ir, hs, dl])
  -- the second walk
  obtain ⟨s2, w2, bs, mt, t, dr2, a2, i1, i2, i3, i4, i5, i6, rfl⟩ := for_inv (List.range (m - 1)) (fun i => D.int (i : Nat)) (fun done s => ∃ (bs : List Nat) (mt : Nat) (t : Nat → Nat) (dr' : List Int) (a : SV), bs.length + done.length = m - 1 ∧ (∀ b ∈ bs, b < m - 1) ∧ (∀ b, b < m - 1 → b ∈ bs ∨ ∀ i, i < n → ∀ j, j < n → t i = t j → (f i ≤ b ↔ f j ≤ b)) ∧ Rk n mt t ∧ (∀ i, i < n → ∀ j, j < n → t i < t j → f i < f j) ∧ (Lv n t fun i j => t i < t j) ∧
      s = ⟨[.val .dr, .val (rkD n m f), .val (.lst (lvD n f)), .val (.int (n : Nat)), .val (.tup TL), .own (.lst (bs.map fun b => rkD n (kt b) (tt b))), a1, b1, .em, .val (rkD n mt t), a], dr'⟩)
    (g := .n 10) (w := wR1 (mBi .max (mP 2))) (b := sSet 9 (mCall (varF f_products) (mCons (mV 9) (mCons (mPopO 5 (mCall f__law_take (mCons (mV 0) (mCons (mBi .len (mP 5)) mNil)))) mNil))))
    (s := ⟨[.val .dr, .val (rkD n m f), .val (.lst (lvD n f)), .val (.int (n : Nat)), .val (.tup TL), .own (.lst ((List.range (m - 1)).map fun b => rkD n (kt b) (tt b))), a1, b1, .em, .val (rkD n 1 fun _ => 0), .em], dr⟩) (hwr _ rfl)
    ⟨List.range (m - 1), 1, _, dr, _, by simp, fun b hb => List.mem_range.mp hb, fun b hb => .inl (List.mem_range.mpr hb), flat_rk h1 h2, fun i _ j _ z => by omega, Dense.lv (flat_lv h1), rfl⟩
    (by
      rintro done b0 rest s e ⟨bs, mt, t, dr', a, i1, i2, i3, i4, i5, i6, rfl⟩
      have hbl : 1 ≤ bs.length ∧ bs.length < 100 := by
        have := congrArg List.length e
        simp at this
        omega
      obtain ⟨x, dr3, q1, hx⟩ := v_take (bs.length : Nat) (by omega) dr'
      have hxl : x < bs.length := by omega
      obtain ⟨b, hb⟩ : ∃ b, bs[x]? = some b := ⟨bs[x], List.getElem?_eq_getElem hxl⟩
      have hbm := i2 b (List.mem_of_getElem? hb)
      obtain ⟨k', t', p', l', d'⟩ := v_mul i4 (tw.rk b hbm)
      have lb := tw.lv b hbm
      have hle : bi .len (.lst (bs.map fun b => rkD n (kt b) (tt b))) = some (.int (bs.length : Nat)) := by simp
      have po := popO_at (i := 5) (k := x) (m := mCall f__law_take (mCons (mV 0) (mCons (mBi .len (mP 5)) mNil))) (s := ⟨[.val .dr, .val (rkD n m f), .val (.lst (lvD n f)), .val (.int (n : Nat)), .val (.tup TL), .own (.lst (bs.map fun b => rkD n (kt b) (tt b))), a1, b1, .em, .val (rkD n mt t), .val (.int (b0 : Nat))], dr'⟩)
        (s1 := ⟨[.val .dr, .val (rkD n m f), .val (.lst (lvD n f)), .val (.int (n : Nat)), .val (.tup TL), .own (.lst (bs.map fun b => rkD n (kt b) (tt b))), a1, b1, .em, .val (rkD n mt t), .val (.int (b0 : Nat))], dr3⟩) (xs := bs.map fun b => rkD n (kt b) (tt b)) (d := rkD n (kt b) (tt b)) rfl (by
          generalize (bs.map fun b => rkD n (kt b) (tt b)) = BL at *
          simp [hle, q1]) rfl (by rw [List.length_map]; omega) (by rw [List.getElem?_map, hb]; rfl)
      have pr := v_prod2 d' dr3
      refine ⟨⟨[.val .dr, .val (rkD n m f), .val (.lst (lvD n f)), .val (.int (n : Nat)), .val (.tup TL), .own (.lst ((bs.eraseIdx x).map fun b => rkD n (kt b) (tt b))), a1, b1, .em, .val (rkD n k' t'), .val (.int (b0 : Nat))], dr3⟩, .inl ?_, bs.eraseIdx x, k', t', dr3, _, ?_, ?_, ?_, p', ?_, Dense.lv l', rfl⟩
      · rw [e_turnF]
        rw [map_erase] at po
        generalize (bs.map fun b => rkD n (kt b) (tt b)) = BL at *
        simp only [List.set_cons_succ, List.set_cons_zero] at po
        simp [po, pr]
      · rw [List.length_eraseIdx, if_pos hxl, List.length_append]
        simp only [List.length_cons, List.length_nil]
        omega
      · exact fun c hc => i2 c (List.mem_of_mem_eraseIdx hc)
      · intro c hc
        have eqs : ∀ i, i < n → ∀ j, j < n → t' i = t' j → t i = t j ∧ aw (ltF n f b) i = aw (ltF n f b) j := fun i hi j hj q => by
          have z1 := l'.od i hi j hj
          have z2 := l'.od j hj i hi
          have z3 := lb.od i hi j hj
          have z4 := lb.od j hj i hi
          unfold lex at z1 z2
          omega
        have cons : ∀ i, i < n → ∀ j, j < n → t' i = t' j → (f i ≤ b ↔ f j ≤ b) := fun i hi j hj q => by
          have z := (eqs i hi j hj q).2
          have m1 : i ∈ ltF n f b ↔ f i ≤ b := by rw [mem_ltF]; exact ⟨fun w => w.2, fun w => ⟨hi, w⟩⟩
          have m2 : j ∈ ltF n f b ↔ f j ≤ b := by rw [mem_ltF]; exact ⟨fun w => w.2, fun w => ⟨hj, w⟩⟩
          unfold aw at z
          by_cases c1 : f i ≤ b <;> by_cases c2 : f j ≤ b <;> simp [m1, m2, c1, c2] at z ⊢
        rcases i3 c hc with z | z
        · rcases mem_erase_or hb z with rfl | z
          · exact .inr cons
          · exact .inl z
        · exact .inr fun i hi j hj q => z i hi j hj (eqs i hi j hj q).1
      · intro i hi j hj q
        have z1 := (l'.od i hi j hj).mp q
        rcases z1 with z | ⟨_, z⟩
        · exact i5 i hi j hj z
        · have z2 := (lb.od i hi j hj).mp z
          unfold aw at z2
          have m1 : i ∈ ltF n f b ↔ f i ≤ b := by rw [mem_ltF]; exact ⟨fun w => w.2, fun w => ⟨hi, w⟩⟩
          have m2 : j ∈ ltF n f b ↔ f j ≤ b := by rw [mem_ltF]; exact ⟨fun w => w.2, fun w => ⟨hj, w⟩⟩
          by_cases c1 : f i ≤ b <;> by_cases c2 : f j ≤ b <;> simp [m1, m2, c1, c2] at z2
          omega)
  have hbs : bs = [] := by
    simp at i1
    exact i1
  have same : ∀ b, b < m - 1 → ∀ i, i < n → ∀ j, j < n → t i = t j → (f i ≤ b ↔ f j ≤ b) := fun b hb => by
    rcases i3 b hb with z | z
    · rw [hbs] at z
      cases z
    · exact z
  have et : ∀ i, i < n → t i = f i := i6.uniq lf fun i hi j hj => by
    refine ⟨i5 i hi j hj, fun q => ?_⟩
    rcases Nat.lt_trichotomy (t i) (t j) with z | z | z
    · exact z
    · have b1 := h.bd j hj
      have := (same (f i) (by omega) i hi j hj z).mp (Nat.le_refl _)
      omega
    · have := i5 j hj i hi z
      omega
  have ir := v_isrank i4 et dr2
  refine ⟨dr2, ?_⟩
  simp only [f__law_twos_right, e_fn3]
  rw [show List.replicate (11 - 3) SV.em = [.em, .em, .em, .em, .em, .em, .em, .em] from rfl]
  generalize ((List.range (m - 1)).map fun b => rkD n (kt b) (tt b)) = A1 at *
  generalize (bs.map fun b => rkD n (kt b) (tt b)) = A2 at *
  simp [hln, d1, his, hlT, mx, ni, w1, v_flat n _ h1 h2, w2, ir]
end Mi.k17
set_option Elab.async false
set_option linter.all false
set_option maxRecDepth 100000
set_option maxHeartbeats 4000000
namespace Mi.k17
open Mi Mi.Pl
theorem v_joined {n m f} (h : Rk n m f) (dr) : ∃ u dr', Dense n u ∧ f__law_joined [.dr, .lst (lvD n f)] dr = .ok (.lst (lvD n u)) dr' := by
  have hline := line_ge
  have h1 := h.lo
  have h2 := h.hi
  have hm1 : 1 ≤ m := Nat.lt_of_le_of_lt (Nat.zero_le _) (h.bd 0 h1)
  obtain ⟨z, mx, hz⟩ := max_lv h
  obtain ⟨b, dr1, q1, _⟩ := v_take (m : Nat) (by omega) dr
  obtain ⟨u, u1, u2, u3⟩ := v_dense n (fun i => if f i > b then (f i : Int) - 1 else (f i : Int)) h1 h2
  refine ⟨u, dr1, ⟨Dense.lv u1, u2⟩, ?_⟩
  have c1 := comp_all (List.range n) (fun i => D.int (f i : Nat)) (fun i => D.int (if f i > b then (f i : Int) - 1 else (f i : Int))) (vs := [3]) (g := .n 3) (w := wOne (hE (mV 1))) (t := tYes) (el := mIf (tV (mCmp .gt (hP 3) (hP 2))) (mBin .sub (mV 3) (mK (.int 1))) (mV 3))
    (s := ⟨[.val .dr, .val (.lst (lvD n f)), .val (.int (b : Nat)), .em], dr1⟩) (by simp [lvD]) rfl (by rw [List.length_range]; omega)
    (fun i hi => ⟨[.val .dr, .val (.lst (lvD n f)), .val (.int (b : Nat)), .val (.int (f i : Nat))], by simp [wipeS], by simp [wipeS], rfl, .inr ⟨_, rfl, rfl, by
      by_cases e : b < f i <;> simp [e]⟩⟩)
  simp [f__law_joined, e_fn2, mx, hz, q1, c1, u3]
theorem v_goal {n m f} (h : Rk n m f) (lf : Lv n f fun i j => f i < f j) (Ls : List (List Nat)) (kind : Nat) (dr) : ∃ u dr', Dense n u ∧ f__law_goal [.dr, .lst (lvD n f), .lst (Ls.map tS), .int (kind : Nat)] dr = .ok (.lst (lvD n u)) dr' := by
  have hline := line_ge
  have h1 := h.lo
  have h2 := h.hi
  have hln : bi .len (.lst (lvD n f)) = some (.int (n : Nat)) := by simp [lvD]
  have hli : bi .list (.lst (lvD n f)) = some (.lst (lvD n f)) := rfl
  simp only [f__law_goal, e_fn4]
  rw [show List.replicate (6 - 4) SV.em = [.em, .em] from rfl]
  by_cases k1 : kind = 1
  · subst k1
    obtain ⟨g, dr1, q1, lg, mg, rg⟩ := v_rank n h1 h2 dr
    obtain ⟨u, u1, u2, u3⟩ := v_lproduct (f := g) (g := f) h1 h2 (fun i hi => by have := lg.bd i hi; omega) lf.bd
    exact ⟨u, dr1, ⟨Dense.lv u1, u2⟩, by simp [hli, hln, q1, u3]⟩
  by_cases k2 : kind = 2
  · subst k2
    obtain ⟨g, dr1, q1, lg, mg, rg⟩ := v_rank n h1 h2 dr
    exact ⟨g, dr1, ⟨lg, mg, rg⟩, by simp [hli, hln, q1]⟩
  by_cases k4 : kind = 4
  · subst k4
    exact ⟨f, dr, ⟨lf, m, h⟩, by simp [hli]⟩
  have b1 : (((kind : Nat) : Int) == 1) = false := beq_eq_false_iff_ne.mpr (by omega)
  have b2 : (((kind : Nat) : Int) == 2) = false := beq_eq_false_iff_ne.mpr (by omega)
  have b4 : (((kind : Nat) : Int) == 4) = false := beq_eq_false_iff_ne.mpr (by omega)
  obtain ⟨s', w1, u, a, mu, pu, lu, rfl⟩ := for_inv Ls tS (fun done s => ∃ u a mu, Rk n mu u ∧ (Lv n u fun i j => u i < u j) ∧ s = ⟨[.val .dr, .val (.lst (lvD n f)), .val (.lst (Ls.map tS)), .val (.int (kind : Nat)), .val (.lst (lvD n u)), a], dr⟩)
    (g := .n 5) (w := wOne (hE (mV 2))) (b := sSet 4 (mCall f__law_turn (mCons (mV 4) (mCons (mK (.str 4)) (mCons (mV 5) mNil)))))
    (s := ⟨[.val .dr, .val (.lst (lvD n f)), .val (.lst (Ls.map tS)), .val (.int (kind : Nat)), .val (.lst (lvD n f)), .em], dr⟩) (by simp) ⟨f, _, m, h, lf, rfl⟩
    (by
      rintro done L rest s e ⟨u, a, mu, pu, lu, rfl⟩
      obtain ⟨u2, ⟨l2, m2, p2⟩, _, d2⟩ := v_lead pu L
      refine ⟨⟨[.val .dr, .val (.lst (lvD n f)), .val (.lst (Ls.map tS)), .val (.int (kind : Nat)), .val (.lst (lvD n u2)), .val (tS L)], dr⟩, .inl ?_, u2, _, m2, p2, l2, rfl⟩
      rw [e_turnF]
      simp [d2])
  by_cases k3 : kind = 3
  · have b3 : (((kind : Nat) : Int) == 3) = true := by rw [k3]; rfl
    obtain ⟨v, dr1, dv, q⟩ := v_joined pu dr
    exact ⟨v, dr1, dv, by simp [hli, b1, b2, b3, b4, w1, q]⟩
  · have b3 : (((kind : Nat) : Int) == 3) = false := beq_eq_false_iff_ne.mpr (by omega)
    exact ⟨u, dr, ⟨lu, mu, pu⟩, by simp [hli, b1, b2, b3, b4, w1]⟩
theorem comp_walk {vs : List Nat} {g : Tg} {w : M Wk} {t : M Bool} {el : M D} {s s1 : S} {wk : Wk} (h : w s = .ok wk s1) : mComp vs g w t el s = mComp vs g (fun s => .ok wk s) t el s1 := by
  unfold mComp
  rw [h]
theorem ltN_lot {n p} (h : ltN n p ≠ []) : Lot n (ltN n p) where
  lt := fun x hx => List.mem_range.mp (List.mem_filter.mp hx).1
  asc := (range_lt n).filter _
  ne := h
end Mi.k17
set_option Elab.async false
set_option linter.all false
set_option maxRecDepth 100000
set_option maxHeartbeats 4000000
namespace Mi.k17
open Mi Mi.Pl
theorem v_drawA (F : D) (k : Nat) (js : List Int) (z : Int) (c d : SV) (hl : js.length ≤ 100000) : ∃ (js' : List Int) (z' : Int) (c' : SV), js'.length ≤ js.length + 50 ∧
    sFor (.n 4) (wR1 (mK (.int 50))) (sIf (tV (mCmp .gt (hP 3) (hE (mK (.int 0))))) (sSeq (sApp 1 (mBin .mod (mBi .int (mP 3)) (mK (.int 30)))) (sSet 3 (mBin .fdiv (mV 3) (mK (.int 30))))) sNil)
      ⟨[.val F, .own (.lst (js.map .int)), .val (.int k), .val (.int z), c, d], []⟩ = .nx ⟨[.val F, .own (.lst (js'.map .int)), .val (.int k), .val (.int z'), c', d], []⟩ := by
  have hline := line_ge
  obtain ⟨s', q1, js', z', c', q2, rfl⟩ := for_inv (List.range 50) (fun i => D.int (i : Nat)) (fun done s => ∃ (js' : List Int) (z' : Int) (c' : SV), js'.length ≤ js.length + done.length ∧ s = ⟨[.val F, .own (.lst (js'.map .int)), .val (.int k), .val (.int z'), c', d], []⟩)
    (g := .n 4) (w := wR1 (mK (.int 50))) (b := sIf (tV (mCmp .gt (hP 3) (hE (mK (.int 0))))) (sSeq (sApp 1 (mBin .mod (mBi .int (mP 3)) (mK (.int 30)))) (sSet 3 (mBin .fdiv (mV 3) (mK (.int 30))))) sNil)
    (s := ⟨[.val F, .own (.lst (js.map .int)), .val (.int k), .val (.int z), c, d], []⟩)
    (by
      have e : rngL 0 (50 : Int).toNat = (List.range 50).map fun (i : Nat) => D.int (i : Nat) := rngL0 50
      rw [e_wR1, e_mK, e_then_ok]
      dsimp only
      rw [small_of (by omega), e]
      rfl)
    ⟨js, z, c, by simp, rfl⟩
    (by
      rintro done i rest s e ⟨js', z', c', hlen, rfl⟩
      have hd : done.length < 50 := by
        have := congrArg List.length e
        simp at this
        omega
      have hm : bin .mod (.int z') (.int 30) = some (.int (z' % 30)) := by simp [bin, binI]
      have hf : bin .fdiv (.int z') (.int 30) = some (.int (z' / 30)) := by simp [bin, binI]
      by_cases hz : 0 < z'
      · refine ⟨⟨[.val F, .own (.lst ((js' ++ [z' % 30]).map .int)), .val (.int k), .val (.int (z' / 30)), .val (.int (i : Nat)), d], []⟩, .inl ?_, js' ++ [z' % 30], _, _, by simp; omega, rfl⟩
        have hll : js'.length < line := by omega
        rw [e_turnF]
        simp [hz, hm, hf, hll]
      · refine ⟨⟨[.val F, .own (.lst (js'.map .int)), .val (.int k), .val (.int z'), .val (.int (i : Nat)), d], []⟩, .inl ?_, js', _, _, by simp; omega, rfl⟩
        rw [e_turnF]
        simp [hz])
  exact ⟨js', z', c', by simpa using q2, q1⟩
theorem v_drawB (F : D) (k : Nat) (js : List Int) (z : Int) (c : SV) (y : Int) (hl : js.length ≤ 100000) : ∃ (js' : List Int) (c' : SV) (y' : Int), js'.length ≤ js.length + 50 ∧
    sFor (.n 4) (wR1 (mK (.int 6))) (sSeq (sSet 5 (mBin .mod (mBi .int (mBin .add (mBin .add (mBin .add (mBin .mul (mV 5) (mV 5)) (mBin .mul (mV 4) (mK (.int 90001)))) (mBin .mul (mV 2) (mK (.int 43)))) (mK (.int 3)))) (mK (.int 2147483587)))) (sApp 1 (mV 5)))
      ⟨[.val F, .own (.lst (js.map .int)), .val (.int k), .val (.int z), c, .val (.int (y % 2147483629))], []⟩ = .nx ⟨[.val F, .own (.lst (js'.map .int)), .val (.int k), .val (.int z), c', .val (.int y')], []⟩ := by
  have hline := line_ge
  obtain ⟨s', q1, js', c', y', hy, q2, rfl⟩ := for_inv (List.range 6) (fun i => D.int (i : Nat)) (fun done s => ∃ (js' : List Int) (c' : SV) (y' : Int), (0 ≤ y' ∧ y' < 2147483629) ∧ js'.length ≤ js.length + done.length ∧ s = ⟨[.val F, .own (.lst (js'.map .int)), .val (.int k), .val (.int z), c', .val (.int y')], []⟩)
    (g := .n 4) (w := wR1 (mK (.int 6))) (b := sSeq (sSet 5 (mBin .mod (mBi .int (mBin .add (mBin .add (mBin .add (mBin .mul (mV 5) (mV 5)) (mBin .mul (mV 4) (mK (.int 90001)))) (mBin .mul (mV 2) (mK (.int 43)))) (mK (.int 3)))) (mK (.int 2147483587)))) (sApp 1 (mV 5)))
    (s := ⟨[.val F, .own (.lst (js.map .int)), .val (.int k), .val (.int z), c, .val (.int (y % 2147483629))], []⟩)
    (by
      have e : rngL 0 (6 : Int).toNat = (List.range 6).map fun (i : Nat) => D.int (i : Nat) := rngL0 6
      rw [e_wR1, e_mK, e_then_ok]
      dsimp only
      rw [small_of (by omega), e]
      rfl)
    ⟨js, c, _, ⟨Int.emod_nonneg _ (by omega), Int.emod_lt_of_pos _ (by omega)⟩, by simp, rfl⟩
    (by
      rintro done i rest s e ⟨js', c', y', hy, hlen, rfl⟩
      have hd : done.length < 6 := by
        have := congrArg List.length e
        simp at this
        omega
      have s1 : ∀ x : Int, bin .mul (.int x) (.int 90001) = some (.int (x * 90001)) := fun x => by
        have : small64 90001 = true := by decide
        simp [bin, binI, this]
      have s2 : ∀ x : Int, bin .mul (.int x) (.int 43) = some (.int (x * 43)) := fun x => by
        have : small64 43 = true := by decide
        simp [bin, binI, this]
      have s3 : bin .mul (.int y') (.int y') = some (.int (y' * y')) := by
        have : small64 y' = true := by
          unfold small64
          rw [decide_eq_true (by omega), decide_eq_true (by omega)]
          rfl
        simp [bin, binI, this]
      have hm : ∀ x : Int, bin .mod (.int x) (.int 2147483587) = some (.int (x % 2147483587)) := fun x => by simp [bin, binI]
      generalize hx : (y' * y' + (i : Nat) * 90001 + (k : Nat) * 43 + 3 : Int) = x
      have hll : js'.length < line := by omega
      have b1 := Int.emod_nonneg x (show (2147483587 : Int) ≠ 0 by omega)
      have b2 := Int.emod_lt_of_pos x (show (0 : Int) < 2147483587 by omega)
      refine ⟨⟨[.val F, .own (.lst ((js' ++ [x % 2147483587]).map .int)), .val (.int k), .val (.int z), .val (.int (i : Nat)), .val (.int (x % 2147483587))], []⟩, .inl ?_, js' ++ [x % 2147483587], _, _, ⟨b1, by omega⟩, by simp; omega, rfl⟩
      rw [e_turnF]
      simp [s1, s2, s3, hm, hll, hx])
  exact ⟨js', c', y', by simp at q2; omega, q1⟩
theorem v_draws (ns : List Int) (h : ns.length ≤ 63) : ∃ js : List Int, f__law_draws [.frl (ns.map .int)] [] = .ok (.lst (js.map .int)) [] := by
  have hline := line_ge
  have hlen : bi .len (.frl (ns.map .int)) = some (.int (ns.length : Nat)) := by
    show some (D.int (((ns.map D.int).length : Nat) : Int)) = _
    rw [List.length_map]
  have hmin : bi2 .min (.int (ns.length : Nat)) (.int 63) = some (.int (ns.length : Nat)) := by
    show some (D.int (if (63 : Int) < (ns.length : Nat) then 63 else (ns.length : Nat))) = _
    rw [if_neg (by omega)]
  have hsub : ∀ k, k < ns.length → ∃ z, Mi.sub (.frl (ns.map .int)) (.int (k : Nat)) = some (.int z) := fun k hk => by
    refine ⟨ns[k], ?_⟩
    show (match ixN (ns.map D.int).length (k : Int) with
      | some k => (ns.map D.int)[k]?
      | none => none) = _
    rw [ixN_nat (by rw [List.length_map]; exact hk)]
    simp [hk]
  have hpow : bin .pow (.int 10) (.int 18) = some (.int 1000000000000000000) := rfl
  have hmul1 : ∀ x : Int, bin .mul (.int x) (.int 48271) = some (.int (x * 48271)) := fun x => by
    have : small64 48271 = true := by decide
    simp [bin, binI, this]
  have hmul2 : ∀ x : Int, bin .mul (.int x) (.int 6007) = some (.int (x * 6007)) := fun x => by
    have : small64 6007 = true := by decide
    simp [bin, binI, this]
  have hmod : ∀ x : Int, bin .mod (.int x) (.int 2147483629) = some (.int (x % 2147483629)) := fun x => by simp [bin, binI]
  obtain ⟨s', q1, js, a, b, c, d, q2, rfl⟩ := for_inv (List.range ns.length) (fun i => D.int (i : Nat)) (fun done s => ∃ (js : List Int) (a b c d : SV), js.length ≤ 50 * done.length ∧ s = ⟨[.val (.frl (ns.map .int)), .own (.lst (js.map .int)), a, b, c, d], []⟩)
    (g := .n 2) (w := wR1 (mBi2 .min (mBi .len (mP 0)) (mK (.int 63)))) (b := (sSeq (sSet 3 (mBi .int (mSub (hP 0) (mV 2)))) (sSeq (sIf (tV (mCmp .lt (hP 3) (hE (mK (.int 0))))) (sSet 3 (mBin .sub (mK (.int 7)) (mV 3))) sNil) (sIf (tV (mCmp .ge (hP 3) (hE (mBin .pow (mK (.int 10)) (mK (.int 18)))))) (sFor (.n 4) (wR1 (mK (.int 50))) (sIf (tV (mCmp .gt (hP 3) (hE (mK (.int 0))))) (sSeq (sApp 1 (mBin .mod (mBi .int (mP 3)) (mK (.int 30)))) (sSet 3 (mBin .fdiv (mV 3) (mK (.int 30))))) sNil)) (sSeq (sSet 5 (mBin .mod (mBi .int (mBin .add (mBin .add (mBin .mul (mV 3) (mK (.int 48271))) (mBin .mul (mV 2) (mK (.int 6007)))) (mK (.int 17)))) (mK (.int 2147483629)))) (sFor (.n 4) (wR1 (mK (.int 6))) (sSeq (sSet 5 (mBin .mod (mBi .int (mBin .add (mBin .add (mBin .add (mBin .mul (mV 5) (mV 5)) (mBin .mul (mV 4) (mK (.int 90001)))) (mBin .mul (mV 2) (mK (.int 43)))) (mK (.int 3)))) (mK (.int 2147483587)))) (sApp 1 (mV 5)))))))))
    (s := ⟨[.val (.frl (ns.map .int)), .own (.lst []), .em, .em, .em, .em], []⟩) (by simp [hlen, hmin, small_of (show -1000000 ≤ ((ns.length : Nat) : Int) ∧ ((ns.length : Nat) : Int) ≤ 1000000 by omega), rngL0]) ⟨[], _, _, _, _, by simp, rfl⟩
    (by
      rintro done k rest s e ⟨js, a, b, c, d, hjl, rfl⟩
      have hd : done.length < 63 ∧ k < ns.length := by
        have := congrArg List.length e
        simp at this
        have hk : k ∈ List.range ns.length := by rw [e]; simp
        exact ⟨by omega, List.mem_range.mp hk⟩
      obtain ⟨z, hz⟩ := hsub k hd.2
      -- the number read, turned round where it is below nought
      obtain ⟨z', hz'⟩ : ∃ z' : Int, ∀ f : S → Rs, (sIf (tV (mCmp .lt (hP 3) (hE (mK (.int 0))))) (sSet 3 (mBin .sub (mK (.int 7)) (mV 3))) sNil ⟨[.val (.frl (ns.map .int)), .own (.lst (js.map .int)), .val (.int (k : Nat)), .val (.int z), c, d], []⟩).seq f = f ⟨[.val (.frl (ns.map .int)), .own (.lst (js.map .int)), .val (.int (k : Nat)), .val (.int z'), c, d], []⟩ := by
        by_cases h0 : z < 0
        · exact ⟨7 - z, fun f => by simp [h0]⟩
        · exact ⟨z, fun f => by simp [h0]⟩
      by_cases hbig : (1000000000000000000 : Int) ≤ z'
      · obtain ⟨js', z2, c', l1, w1⟩ := v_drawA (.frl (ns.map .int)) k js z' c d (by omega)
        refine ⟨⟨[.val (.frl (ns.map .int)), .own (.lst (js'.map .int)), .val (.int (k : Nat)), .val (.int z2), c', d], []⟩, .inl ?_, js', _, _, _, _, ?_, rfl⟩
        · rw [e_turnF, e_bind_n]
          dsimp only [List.set_cons_succ, List.set_cons_zero]
          rw [e_sSeq, e_sSet]
          simp only [e_mBi, e_mSub, e_hP, e_mV, e_then_ok, List.getElem?_cons_succ, List.getElem?_cons_zero, e_force_at, e_mP, hz, e_get_some, int_int, e_st_ok, e_seq_nx, List.set_cons_succ, List.set_cons_zero, e_sSeq]
          rw [hz']
          simp only [e_sIf, e_tV, e_mCmp, e_hP, e_hE, e_mBin, e_mK, e_then_ok, hpow, e_get_some, List.getElem?_cons_succ, List.getElem?_cons_zero, e_force_at, e_mP, e_force_dat, ge_int, hbig, decide_true, tru_bl, e_st_ok]
          exact w1
        · simp; omega
      · obtain ⟨js', c', y', l1, w1⟩ := v_drawB (.frl (ns.map .int)) k js z' c (z' * 48271 + (k : Nat) * 6007 + 17) (by omega)
        refine ⟨⟨[.val (.frl (ns.map .int)), .own (.lst (js'.map .int)), .val (.int (k : Nat)), .val (.int z'), c', .val (.int y')], []⟩, .inl ?_, js', _, _, _, _, ?_, rfl⟩
        · rw [e_turnF, e_bind_n]
          dsimp only [List.set_cons_succ, List.set_cons_zero]
          rw [e_sSeq, e_sSet]
          simp only [e_mBi, e_mSub, e_hP, e_mV, e_then_ok, List.getElem?_cons_succ, List.getElem?_cons_zero, e_force_at, e_mP, hz, e_get_some, int_int, e_st_ok, e_seq_nx, List.set_cons_succ, List.set_cons_zero, e_sSeq]
          rw [hz']
          simp only [e_sIf, e_tV, e_mCmp, e_hP, e_hE, e_mBin, e_mK, e_then_ok, hpow, e_get_some, List.getElem?_cons_succ, List.getElem?_cons_zero, e_force_at, e_mP, e_force_dat, ge_int, hbig, decide_false, tru_bl, e_st_ok, e_sSeq, e_sSet, e_mBi, e_mV, hmul1, hmul2, bin_add, int_int, hmod, List.set_cons_succ, List.set_cons_zero, e_seq_nx]
          exact w1
        · simp; omega)
  refine ⟨js.reverse, ?_⟩
  simp only [f__law_draws, e_fn1]
  simp [q1, revD]
end Mi.k17
set_option Elab.async false
set_option linter.all false
set_option maxRecDepth 100000
set_option maxHeartbeats 4000000
namespace Mi.k17
open Mi Mi.Pl
theorem of_dense {n f} (hf : Dense n f) : ∃ m, Rk n m f ∧ ∀ dr, f_Rank_of_levels [.cls 6, .lst (lvD n f)] dr = .ok (rkD n m f) dr := by
  obtain ⟨lf, m, hm⟩ := hf
  obtain ⟨m', g, g1, g2, g3⟩ := v_of_levels n (fun i => (f i : Int)) hm.lo hm.hi
  have e : ∀ i, i < n → g i = f i := g2.uniq lf fun i _ j _ => by omega
  refine ⟨m, hm, fun dr => ?_⟩
  rw [← rk_same g1 hm e]
  exact g3 dr
theorem v_law (js : List Int) : ∃ s, f_law ⟨.em :: .val .dr :: List.replicate 10 .em, js⟩ = .rt (.bl true) s := by
  have hline := line_ge
  obtain ⟨x, dr1, q1, hx⟩ := v_take 5 (by omega) js
  obtain ⟨n, hn⟩ : ∃ n, n = 1 + x := ⟨_, rfl⟩
  have hn1 : 1 ≤ n := by omega
  have hn6 : n ≤ 6 := by omega
  have en : (1 : Int) + (x : Nat) = (n : Nat) := by omega
  obtain ⟨f, dr2, q2, lf, m0, rf⟩ := v_rank n hn1 (by omega) dr1
  obtain ⟨kd, dr3, q3, hkd⟩ := v_take 5 (by omega) dr2
  obtain ⟨y, dr4, q4, hy⟩ := v_take 4 (by omega) dr3
  obtain ⟨c, hc⟩ : ∃ c, c = 1 + y := ⟨_, rfl⟩
  have ec : (1 : Int) + (y : Nat) = (c : Nat) := by omega
  have hc4 : c ≤ 4 := by omega
  clear hc
  -- the leads
  have hw1 : wR1 (mBin .add (mK (.int 1)) (mCall f__law_take (mCons (mV 1) (mCons (mK (.int 4)) mNil)))) ⟨[.em, .val .dr, .val (.int (n : Nat)), .val (.lst (lvD n f)), .val (.int (kd : Nat)), .em, .em, .em, .em, .em, .em, .em], dr3⟩ = .ok ⟨(List.range c).map fun i => D.int (i : Nat), none⟩ ⟨[.em, .val .dr, .val (.int (n : Nat)), .val (.lst (lvD n f)), .val (.int (kd : Nat)), .em, .em, .em, .em, .em, .em, .em], dr4⟩ := by
    simp [q4, ec, small_of (show -1000000 ≤ (c : Int) ∧ (c : Int) ≤ 1000000 by omega), rngL0]
  obtain ⟨ds, dr5, q5, hds, hx1, hx2⟩ := comp_dr (List.range c) (fun i => D.int (i : Nat)) (fun d => ∃ L, Lot n L ∧ d = tS L) (vs := [6]) (g := .n 6) (w := fun s => .ok ⟨(List.range c).map fun i => D.int (i : Nat), none⟩ s) (t := tYes) (el := mCall f__law_some (mCons (mV 1) (mCons (mV 2) mNil)))
    (s := ⟨[.em, .val .dr, .val (.int (n : Nat)), .val (.lst (lvD n f)), .val (.int (kd : Nat)), .em, .em, .em, .em, .em, .em, .em], dr4⟩) rfl rfl (by rw [List.length_range]; omega)
    (fun i hi dr => ⟨[.em, .val .dr, .val (.int (n : Nat)), .val (.lst (lvD n f)), .val (.int (kd : Nat)), .em, .val (.int (i : Nat)), .em, .em, .em, .em, .em], by simp [wipeS], by simp [wipeS], rfl, by
      obtain ⟨p, dr1, q, hp⟩ := v_some n hn1 (by omega) dr
      exact ⟨dr, .inr ⟨rfl, .tup (natD (ltN n p)), dr1, by simp [q], ltN n p, ltN_lot hp, rfl⟩⟩⟩)
  have hLs : ∃ Ls : List (List Nat), ds = Ls.map tS ∧ ∀ L ∈ Ls, Lot n L := by
    clear q5 hx1 hx2
    induction ds with
    | nil => exact ⟨[], rfl, fun _ h => by cases h⟩
    | cons d r ih =>
      obtain ⟨L, hL, rfl⟩ := hds d List.mem_cons_self
      obtain ⟨Ls, rfl, hh⟩ := ih fun d hd => hds d (List.mem_cons_of_mem _ hd)
      exact ⟨L :: Ls, rfl, fun M hM => by
        rcases List.mem_cons.mp hM with rfl | hM
        · exact hL
        · exact hh M hM⟩
  obtain ⟨Ls, rfl, hLs⟩ := hLs
  obtain ⟨g, dr6, dg, q6⟩ := v_goal rf lf Ls kd dr5
  obtain ⟨m, kf, of⟩ := of_dense ⟨lf, m0, rf⟩
  obtain ⟨m', kg, og⟩ := of_dense dg
  have lg := dg.1
  have p1 := v_leads kf lf Ls hLs dr6
  have p2 := v_ledr kf kg lf lg dr6
  have p3 := v_ledr kg kf lg lf dr6
  have p4 := v_ledr kf kf lf lf dr6
  obtain ⟨dr7, q7⟩ := v_twos kg lg hn6 dr6
  obtain ⟨dr8, q8⟩ := v_twos kf lf hn6 dr7
  obtain ⟨w, hw⟩ : ∃ w, w = n + 1 := ⟨_, rfl⟩
  have ew : ((n : Nat) : Int) + 1 = (w : Nat) := by omega
  have hne : n ≠ w := by omega
  have fl : ∀ dr, f_Rank_flat [.cls 6, .int (w : Nat)] dr = .ok (rkD w 1 fun _ => 0) dr := fun dr => v_flat w dr (by omega) (by omega)
  have n2 : ∀ f, cmp .eq (.tup (lvD n f)) (.tup (lvD n f)) = some true := fun f => eq_self (lay_lv n f)
  have ni : ∀ i : Int, cmp .ne (.int i) (.int i) = some false := fun i => ne_self (lay_int 9 i)
  obtain ⟨s', r1, a, rfl⟩ := for_inv (List.range 2) (fun i => D.int (i : Nat)) (fun done s => ∃ a, s = ⟨[.em, .val .dr, .val (.int (n : Nat)), .val (.lst (lvD n f)), .val (.int (kd : Nat)), .val (.lst (Ls.map tS)), .em, .val (.lst (lvD n g)), .val (rkD n m f), .val (rkD n m' g), .val (rkD w 1 fun _ => 0), a], dr8⟩)
    (g := .n 11) (w := wR1 (mK (.int 2))) (b := sIf (tOr (tV (mCmp .ne (hE (mCall f__law_refused (mCons (mV 11) (mCons (mV 8) (mCons (mV 10) mNil))))) (hE (mBin .add (mV 2) (mK (.int 1)))))) (tV (mCmp .ne (hE (mCall f__law_refused (mCons (mV 11) (mCons (mV 10) (mCons (mV 8) mNil))))) (hP 2)))) (sRet (mK (.bl false))) sNil)
    (s := ⟨[.em, .val .dr, .val (.int (n : Nat)), .val (.lst (lvD n f)), .val (.int (kd : Nat)), .val (.lst (Ls.map tS)), .em, .val (.lst (lvD n g)), .val (rkD n m f), .val (rkD n m' g), .val (rkD w 1 fun _ => 0), .em], dr8⟩)
    (by
      have e : rngL 0 (2 : Int).toNat = (List.range 2).map fun (i : Nat) => D.int (i : Nat) := rngL0 2
      rw [e_wR1, e_mK, e_then_ok]
      dsimp only
      rw [small_of (by omega), e]
      rfl)
    ⟨_, rfl⟩
    (by
      rintro done k rest s e ⟨a, rfl⟩
      have hk : k < 2 := by
        have : k ∈ List.range 2 := by rw [e]; simp
        exact List.mem_range.mp this
      have w1 := v_ref (n := n) (n' := w) (m := m) (m' := 1) (f := f) (g := fun _ => 0) k hk hne dr8
      have w2 := v_ref (n := w) (n' := n) (m := 1) (m' := m) (f := fun _ => 0) (g := f) k hk (fun e => hne e.symm) dr8
      refine ⟨⟨[.em, .val .dr, .val (.int (n : Nat)), .val (.lst (lvD n f)), .val (.int (kd : Nat)), .val (.lst (Ls.map tS)), .em, .val (.lst (lvD n g)), .val (rkD n m f), .val (rkD n m' g), .val (rkD w 1 fun _ => 0), .val (.int (k : Nat))], dr8⟩, .inl ?_, _, rfl⟩
      rw [e_turnF]
      simp [w1, w2, ew, ni])
  unfold f_law
  rw [show List.replicate 10 SV.em = [.em, .em, .em, .em, .em, .em, .em, .em, .em, .em] from rfl]
  refine ⟨⟨[.em, .val .dr, .val (.int (n : Nat)), .val (.lst (lvD n f)), .val (.int (kd : Nat)), .val (.lst (Ls.map tS)), .em, .val (.lst (lvD n g)), .val (rkD n m f), .val (rkD n m' g), .val (rkD w 1 fun _ => 0), a], dr8⟩, ?_⟩
  have q5' := (comp_walk hw1).trans q5
  have tl : ∀ f, bi .tuple (.lst (lvD n f)) = some (.tup (lvD n f)) := fun _ => rfl
  generalize Ls.map tS = LD at *
  simp [q1, en, q2, q3, q5', q6, of, og, p1, p2, p3, p4, q7, q8, ew, fl, r1, attR_rk, n2, tl]
end Mi.k17
set_option Elab.async false
set_option linter.all false
set_option maxRecDepth 100000
set_option maxHeartbeats 0
namespace Mi.k17
open PySem PySem.Spec PyProof.Rows L2 Mi
def cnL : List PySem.Str := ["NewsError", "BadNumber", "BadLot", "BadRank", "BadWord", "OtherWorlds", "Rank"]
def sixT : List ((Nat × Nat) × Nat) := [((6, 2), 2), ((6, 3), 0), ((6, 4), 1)]
def sixF (c n : Nat) : Nat := (sixT.lookup (c, n)).getD 0
theorem sixU : ∀ p ∈ hasL, ∀ q ∈ hasL, p.1 = q.1 → sixF q.1 q.2 = sixF p.1 p.2 → q.2 = p.2 := by decide
abbrev Rk0 (P : Program) (w : World) (K : PySem.W.Frag) (mg : PySem.Str → Option Value) (base : Heap) (dr : Addr) (hd : Bool) : Rc where
  P := P
  w := w
  K := K
  mg := mg
  base := base
  txts := txl
  atts := atl
  ca := fun c => He.ga K (cnL.getD c "")
  sl := fun _ => true
  six := sixF
  has := hasT
  dr := dr
  hd := hd
theorem txL_ok : txl.Nodup ∧ ∀ x ∈ txl, PyData.strOk x = true := ⟨by decide +kernel, by decide +kernel⟩
theorem hb {P : Program} {w : World} {K : PySem.W.Frag} {h : Heap} {mg : PySem.Str → Option Value} (X : K.In h) (G : h.Ns mainGlobals mg) (c : SaysM exB fns K) (base : Heap) (dr : Addr) (hd : Bool) : Hb (Rk0 P w K mg base dr hd) :=
  have E := all_at (l := exL K) c.exB
  {
  txo := ⟨txL_ok.1, txL_ok.2⟩
  bl := ⟨(fun x h => by
    rcases List.mem_cons.mp h with rfl | h
    · exact He.free_ok X G (x := "len") (E 0 _ rfl)
    rcases List.mem_cons.mp h with rfl | h
    · exact He.free_ok X G (x := "list") (E 1 _ rfl)
    rcases List.mem_cons.mp h with rfl | h
    · exact He.free_ok X G (x := "tuple") (E 2 _ rfl)
    rcases List.mem_cons.mp h with rfl | h
    · exact He.free_ok X G (x := "sorted") (E 3 _ rfl)
    rcases List.mem_cons.mp h with rfl | h
    · exact He.free_ok X G (x := "set") (E 4 _ rfl)
    rcases List.mem_cons.mp h with rfl | h
    · exact He.free_ok X G (x := "sum") (E 5 _ rfl)
    rcases List.mem_cons.mp h with rfl | h
    · exact He.free_ok X G (x := "min") (E 6 _ rfl)
    rcases List.mem_cons.mp h with rfl | h
    · exact He.free_ok X G (x := "max") (E 7 _ rfl)
    rcases List.mem_cons.mp h with rfl | h
    · exact He.free_ok X G (x := "all") (E 8 _ rfl)
    rcases List.mem_cons.mp h with rfl | h
    · exact He.free_ok X G (x := "any") (E 9 _ rfl)
    rcases List.mem_cons.mp h with rfl | h
    · exact He.free_ok X G (x := "int") (E 10 _ rfl)
    rcases List.mem_cons.mp h with rfl | h
    · exact He.free_ok X G (x := "range") (E 11 _ rfl)
    rcases List.mem_cons.mp h with rfl | h
    · exact He.free_ok X G (x := "abs") (E 12 _ rfl)
    rcases List.mem_cons.mp h with rfl | h
    · exact He.free_ok X G (x := "isinstance") (E 13 _ rfl)
    rcases List.mem_cons.mp h with rfl | h
    · exact He.free_ok X G (x := "enumerate") (E 14 _ rfl)
    rcases List.mem_cons.mp h with rfl | h
    · exact He.free_ok X G (x := "zip") (E 15 _ rfl)
    rcases List.mem_cons.mp h with rfl | h
    · exact He.free_ok X G (x := "reversed") (E 16 _ rfl)
    rcases List.mem_cons.mp h with rfl | h
    · exact He.free_ok X G (x := "bool") (E 17 _ rfl)
    rcases List.mem_cons.mp h with rfl | h
    · exact He.free_ok X G (x := "str") (E 18 _ rfl)
    rcases List.mem_cons.mp h with rfl | h
    · exact He.free_ok X G (x := "Exception") (E 19 _ rfl)
    rcases List.mem_cons.mp h with rfl | h
    · exact He.free_ok X G (x := "ValueError") (E 20 _ rfl)
    rcases List.mem_cons.mp h with rfl | h
    · exact He.free_ok X G (x := "type") (E 21 _ rfl)
    rcases List.mem_cons.mp h with rfl | h
    · exact He.free_ok X G (x := "dict") (E 22 _ rfl)
    rcases List.mem_cons.mp h with rfl | h
    · exact He.free_ok X G (x := "iter") (E 23 _ rfl)
    rcases List.mem_cons.mp h with rfl | h
    · exact He.free_ok X G (x := "NotImplemented") (E 24 _ rfl)
    cases h)⟩
  tx := fun _ _ h => h
  atx := fun _ _ h => h
  exf := ⟨(fun c hc => by
    rcases List.mem_cons.mp hc with rfl | hc
    · exact ⟨xfB_ok (E 25 _ rfl), (fun fl hf => by
        rcases List.mem_cons.mp hf with rfl | hf
        · exact (He.eqO_ok (E 26 _ rfl))
        rcases List.mem_cons.mp hf with rfl | hf
        · exact (He.eqO_ok (E 27 _ rfl))
        rcases List.mem_cons.mp hf with rfl | hf
        · exact (He.eqO_ok (E 28 _ rfl))
        rcases List.mem_cons.mp hf with rfl | hf
        · exact (He.eqO_ok (E 29 _ rfl))
        rcases List.mem_cons.mp hf with rfl | hf
        · exact (He.eqO_ok (E 30 _ rfl))
        rcases List.mem_cons.mp hf with rfl | hf
        · exact (He.eqO_ok (E 31 _ rfl))
        cases hf)⟩
    rcases List.mem_cons.mp hc with rfl | hc
    · exact ⟨xfB_ok (E 32 _ rfl), (fun fl hf => by
        rcases List.mem_cons.mp hf with rfl | hf
        · exact (He.eqO_ok (E 33 _ rfl))
        rcases List.mem_cons.mp hf with rfl | hf
        · exact (He.eqO_ok (E 34 _ rfl))
        rcases List.mem_cons.mp hf with rfl | hf
        · exact (He.eqO_ok (E 35 _ rfl))
        rcases List.mem_cons.mp hf with rfl | hf
        · exact (He.eqO_ok (E 36 _ rfl))
        rcases List.mem_cons.mp hf with rfl | hf
        · exact (He.eqO_ok (E 37 _ rfl))
        rcases List.mem_cons.mp hf with rfl | hf
        · exact (He.eqO_ok (E 38 _ rfl))
        cases hf)⟩
    rcases List.mem_cons.mp hc with rfl | hc
    · exact ⟨xfB_ok (E 39 _ rfl), (fun fl hf => by
        rcases List.mem_cons.mp hf with rfl | hf
        · exact (He.eqO_ok (E 40 _ rfl))
        rcases List.mem_cons.mp hf with rfl | hf
        · exact (He.eqO_ok (E 41 _ rfl))
        rcases List.mem_cons.mp hf with rfl | hf
        · exact (He.eqO_ok (E 42 _ rfl))
        rcases List.mem_cons.mp hf with rfl | hf
        · exact (He.eqO_ok (E 43 _ rfl))
        rcases List.mem_cons.mp hf with rfl | hf
        · exact (He.eqO_ok (E 44 _ rfl))
        rcases List.mem_cons.mp hf with rfl | hf
        · exact (He.eqO_ok (E 45 _ rfl))
        cases hf)⟩
    rcases List.mem_cons.mp hc with rfl | hc
    · exact ⟨xfB_ok (E 46 _ rfl), (fun fl hf => by
        rcases List.mem_cons.mp hf with rfl | hf
        · exact (He.eqO_ok (E 47 _ rfl))
        rcases List.mem_cons.mp hf with rfl | hf
        · exact (He.eqO_ok (E 48 _ rfl))
        rcases List.mem_cons.mp hf with rfl | hf
        · exact (He.eqO_ok (E 49 _ rfl))
        rcases List.mem_cons.mp hf with rfl | hf
        · exact (He.eqO_ok (E 50 _ rfl))
        rcases List.mem_cons.mp hf with rfl | hf
        · exact (He.eqO_ok (E 51 _ rfl))
        rcases List.mem_cons.mp hf with rfl | hf
        · exact (He.eqO_ok (E 52 _ rfl))
        cases hf)⟩
    rcases List.mem_cons.mp hc with rfl | hc
    · exact ⟨xfB_ok (E 53 _ rfl), (fun fl hf => by
        rcases List.mem_cons.mp hf with rfl | hf
        · exact (He.eqO_ok (E 54 _ rfl))
        rcases List.mem_cons.mp hf with rfl | hf
        · exact (He.eqO_ok (E 55 _ rfl))
        rcases List.mem_cons.mp hf with rfl | hf
        · exact (He.eqO_ok (E 56 _ rfl))
        rcases List.mem_cons.mp hf with rfl | hf
        · exact (He.eqO_ok (E 57 _ rfl))
        rcases List.mem_cons.mp hf with rfl | hf
        · exact (He.eqO_ok (E 58 _ rfl))
        rcases List.mem_cons.mp hf with rfl | hf
        · exact (He.eqO_ok (E 59 _ rfl))
        cases hf)⟩
    cases hc),
    (fun c hc => by
      rcases List.mem_cons.mp hc with rfl | hc
      · intro h hh
        rcases List.mem_cons.mp hh with rfl | hh
        · exact (of_decide_eq_true (E 60 _ rfl))
        rcases List.mem_cons.mp hh with rfl | hh
        · exact (of_decide_eq_true (E 61 _ rfl))
        rcases List.mem_cons.mp hh with rfl | hh
        · exact (of_decide_eq_true (E 62 _ rfl))
        rcases List.mem_cons.mp hh with rfl | hh
        · exact (of_decide_eq_true (E 63 _ rfl))
        rcases List.mem_cons.mp hh with rfl | hh
        · exact (of_decide_eq_true (E 64 _ rfl))
        cases hh
      rcases List.mem_cons.mp hc with rfl | hc
      · intro h hh
        rcases List.mem_cons.mp hh with rfl | hh
        · exact (of_decide_eq_true (E 65 _ rfl))
        rcases List.mem_cons.mp hh with rfl | hh
        · exact (of_decide_eq_true (E 66 _ rfl))
        rcases List.mem_cons.mp hh with rfl | hh
        · exact (of_decide_eq_true (E 67 _ rfl))
        rcases List.mem_cons.mp hh with rfl | hh
        · exact (of_decide_eq_true (E 68 _ rfl))
        rcases List.mem_cons.mp hh with rfl | hh
        · exact (of_decide_eq_true (E 69 _ rfl))
        cases hh
      rcases List.mem_cons.mp hc with rfl | hc
      · intro h hh
        rcases List.mem_cons.mp hh with rfl | hh
        · exact (of_decide_eq_true (E 70 _ rfl))
        rcases List.mem_cons.mp hh with rfl | hh
        · exact (of_decide_eq_true (E 71 _ rfl))
        rcases List.mem_cons.mp hh with rfl | hh
        · exact (of_decide_eq_true (E 72 _ rfl))
        rcases List.mem_cons.mp hh with rfl | hh
        · exact (of_decide_eq_true (E 73 _ rfl))
        rcases List.mem_cons.mp hh with rfl | hh
        · exact (of_decide_eq_true (E 74 _ rfl))
        cases hh
      rcases List.mem_cons.mp hc with rfl | hc
      · intro h hh
        rcases List.mem_cons.mp hh with rfl | hh
        · exact (of_decide_eq_true (E 75 _ rfl))
        rcases List.mem_cons.mp hh with rfl | hh
        · exact (of_decide_eq_true (E 76 _ rfl))
        rcases List.mem_cons.mp hh with rfl | hh
        · exact (of_decide_eq_true (E 77 _ rfl))
        rcases List.mem_cons.mp hh with rfl | hh
        · exact (of_decide_eq_true (E 78 _ rfl))
        rcases List.mem_cons.mp hh with rfl | hh
        · exact (of_decide_eq_true (E 79 _ rfl))
        cases hh
      rcases List.mem_cons.mp hc with rfl | hc
      · intro h hh
        rcases List.mem_cons.mp hh with rfl | hh
        · exact (of_decide_eq_true (E 80 _ rfl))
        rcases List.mem_cons.mp hh with rfl | hh
        · exact (of_decide_eq_true (E 81 _ rfl))
        rcases List.mem_cons.mp hh with rfl | hh
        · exact (of_decide_eq_true (E 82 _ rfl))
        rcases List.mem_cons.mp hh with rfl | hh
        · exact (of_decide_eq_true (E 83 _ rfl))
        rcases List.mem_cons.mp hh with rfl | hh
        · exact (of_decide_eq_true (E 84 _ rfl))
        cases hh
      cases hc)⟩
  g_DEED_WORDS := He.glo_ok X G (x := "DEED_WORDS") (E 85 _ rfl)
  con_DEED_WORDS := con_ok (xs := ["lead", "push", "lean", "level", "sink", "ask"]) (E 86 _ rfl) (by show List.map (fun k => txl[k]?) _ = _; decide +kernel)
  g_GIVE_WORDS := He.glo_ok X G (x := "GIVE_WORDS") (E 87 _ rfl)
  con_GIVE_WORDS := con_ok (xs := ["level", "sink"]) (E 88 _ rfl) (by show List.map (fun k => txl[k]?) _ = _; decide +kernel)
  sl := fun _ => rfl
  has := fun _ _ h => h
  six := fun c n n2 h h2 q => sixU (c, n) (List.contains_iff_mem.mp h) (c, n2) (List.contains_iff_mem.mp h2) rfl q
  ins := fun c n h => by
    replace h := List.contains_iff_mem.mp h
    rcases List.mem_cons.mp h with z | h
    · obtain ⟨rfl, rfl⟩ := Prod.mk.inj z
      exact ⟨rfl, (sclsB_ok (E 89 _ rfl)), isiB_ok (E 90 _ rfl), (kitB1_ok (E 91 _ rfl)).2⟩
    rcases List.mem_cons.mp h with z | h
    · obtain ⟨rfl, rfl⟩ := Prod.mk.inj z
      exact ⟨rfl, (sclsB_ok (E 89 _ rfl)), isiB_ok (E 90 _ rfl), (kitB1_ok (E 91 _ rfl)).2⟩
    rcases List.mem_cons.mp h with z | h
    · obtain ⟨rfl, rfl⟩ := Prod.mk.inj z
      exact ⟨rfl, (sclsB_ok (E 89 _ rfl)), isiB_ok (E 90 _ rfl), (kitB1_ok (E 91 _ rfl)).2⟩
    cases h
  at_name := fun c h => by
    replace h := List.contains_iff_mem.mp h
    rcases List.mem_cons.mp h with z | h
    · exact absurd (Prod.mk.inj z).2 (by decide)
    rcases List.mem_cons.mp h with z | h
    · exact absurd (Prod.mk.inj z).2 (by decide)
    rcases List.mem_cons.mp h with z | h
    · exact absurd (Prod.mk.inj z).2 (by decide)
    cases h
  at_place := fun c h => by
    replace h := List.contains_iff_mem.mp h
    rcases List.mem_cons.mp h with z | h
    · exact absurd (Prod.mk.inj z).2 (by decide)
    rcases List.mem_cons.mp h with z | h
    · exact absurd (Prod.mk.inj z).2 (by decide)
    rcases List.mem_cons.mp h with z | h
    · exact absurd (Prod.mk.inj z).2 (by decide)
    cases h
  at_worlds := fun c h => by
    replace h := List.contains_iff_mem.mp h
    rcases List.mem_cons.mp h with z | h
    · obtain ⟨rfl, z⟩ := Prod.mk.inj z
      exact ⟨rfl, (sclsB_ok (E 89 _ rfl)), _, slotB_ok (i := 2) (E 92 _ rfl) (by decide)⟩
    rcases List.mem_cons.mp h with z | h
    · exact absurd (Prod.mk.inj z).2 (by decide)
    rcases List.mem_cons.mp h with z | h
    · exact absurd (Prod.mk.inj z).2 (by decide)
    cases h
  at_cells := fun c h => by
    replace h := List.contains_iff_mem.mp h
    rcases List.mem_cons.mp h with z | h
    · exact absurd (Prod.mk.inj z).2 (by decide)
    rcases List.mem_cons.mp h with z | h
    · obtain ⟨rfl, z⟩ := Prod.mk.inj z
      exact ⟨rfl, (sclsB_ok (E 89 _ rfl)), _, slotB_ok (i := 0) (E 93 _ rfl) (by decide)⟩
    rcases List.mem_cons.mp h with z | h
    · exact absurd (Prod.mk.inj z).2 (by decide)
    cases h
  at_levels := fun c h => by
    replace h := List.contains_iff_mem.mp h
    rcases List.mem_cons.mp h with z | h
    · exact absurd (Prod.mk.inj z).2 (by decide)
    rcases List.mem_cons.mp h with z | h
    · exact absurd (Prod.mk.inj z).2 (by decide)
    rcases List.mem_cons.mp h with z | h
    · obtain ⟨rfl, z⟩ := Prod.mk.inj z
      exact ⟨rfl, (sclsB_ok (E 89 _ rfl)), _, slotB_ok (i := 1) (E 94 _ rfl) (by decide)⟩
    cases h
  at_word := fun c h => by
    replace h := List.contains_iff_mem.mp h
    rcases List.mem_cons.mp h with z | h
    · exact absurd (Prod.mk.inj z).2 (by decide)
    rcases List.mem_cons.mp h with z | h
    · exact absurd (Prod.mk.inj z).2 (by decide)
    rcases List.mem_cons.mp h with z | h
    · exact absurd (Prod.mk.inj z).2 (by decide)
    cases h
  g_NewsError := He.glo_ok X G (x := "NewsError") (E 95 _ rfl)
  g_BadNumber := He.glo_ok X G (x := "BadNumber") (E 96 _ rfl)
  xk_BadNumber := exkB_ok (E 97 _ rfl)
  xi_BadNumber := (He.eqO_ok (E 98 _ rfl))
  xt_BadNumber := of_decide_eq_true (E 99 _ rfl)
  xn_BadNumber := (He.eqO_ok (E 26 _ rfl))
  xa_BadNumber := rfl
  xd_BadNumber := c.def_ 54
  g_BadLot := He.glo_ok X G (x := "BadLot") (E 100 _ rfl)
  xk_BadLot := exkB_ok (E 101 _ rfl)
  xi_BadLot := (He.eqO_ok (E 102 _ rfl))
  xt_BadLot := of_decide_eq_true (E 103 _ rfl)
  xn_BadLot := (He.eqO_ok (E 34 _ rfl))
  xa_BadLot := rfl
  xd_BadLot := c.def_ 55
  g_BadRank := He.glo_ok X G (x := "BadRank") (E 104 _ rfl)
  xk_BadRank := exkB_ok (E 105 _ rfl)
  xi_BadRank := (He.eqO_ok (E 106 _ rfl))
  xt_BadRank := of_decide_eq_true (E 107 _ rfl)
  xn_BadRank := (He.eqO_ok (E 41 _ rfl))
  xa_BadRank := rfl
  xd_BadRank := c.def_ 56
  g_BadWord := He.glo_ok X G (x := "BadWord") (E 108 _ rfl)
  xk_BadWord := exkB_ok (E 109 _ rfl)
  xi_BadWord := (He.eqO_ok (E 110 _ rfl))
  xt_BadWord := of_decide_eq_true (E 111 _ rfl)
  xn_BadWord := (He.eqO_ok (E 52 _ rfl))
  xa_BadWord := rfl
  xd_BadWord := c.def_ 57
  g_OtherWorlds := He.glo_ok X G (x := "OtherWorlds") (E 112 _ rfl)
  xk_OtherWorlds := exkB_ok (E 113 _ rfl)
  xi_OtherWorlds := (He.eqO_ok (E 114 _ rfl))
  xt_OtherWorlds := of_decide_eq_true (E 115 _ rfl)
  xn_OtherWorlds := (He.eqO_ok (E 56 _ rfl))
  xa_OtherWorlds := rfl
  xd_OtherWorlds := c.def_ 58
  g_Rank := He.glo_ok X G (x := "Rank") (E 116 _ rfl)
  is_Rank := (kitB1_ok (E 91 _ rfl)).1
  sc_Rank := (sclsB_ok (E 89 _ rfl))
  d_Rank_iter := c.def_ 52
  mt_Rank_iter := (He.eqO_ok (E 117 _ rfl))
  mf_Rank_iter := (E 118 _ rfl)
  d_whole_number := c.def_ 0
  g_whole_number := He.glo_ok X G (x := "whole_number") (E 119 _ rfl)
  d_is_row := c.def_ 1
  g_is_row := He.glo_ok X G (x := "is_row") (E 120 _ rfl)
  d_check_worlds := c.def_ 2
  g_check_worlds := He.glo_ok X G (x := "check_worlds") (E 121 _ rfl)
  d_is_world := c.def_ 3
  g_is_world := He.glo_ok X G (x := "is_world") (E 122 _ rfl)
  d_first_stranger := c.def_ 4
  g_first_stranger := He.glo_ok X G (x := "first_stranger") (E 123 _ rfl)
  d_lot_of := c.def_ 5
  g_lot_of := He.glo_ok X G (x := "lot_of") (E 124 _ rfl)
  d_every := c.def_ 6
  g_every := He.glo_ok X G (x := "every") (E 125 _ rfl)
  d_rest_of := c.def_ 7
  g_rest_of := He.glo_ok X G (x := "rest_of") (E 126 _ rfl)
  d_plus := c.def_ 8
  g_plus := He.glo_ok X G (x := "plus") (E 127 _ rfl)
  d_common := c.def_ 9
  g_common := He.glo_ok X G (x := "common") (E 128 _ rfl)
  d_minus := c.def_ 10
  g_minus := He.glo_ok X G (x := "minus") (E 129 _ rfl)
  d_cells_told := c.def_ 11
  g_cells_told := He.glo_ok X G (x := "cells_told") (E 130 _ rfl)
  d_cells_by := c.def_ 12
  g_cells_by := He.glo_ok X G (x := "cells_by") (E 131 _ rfl)
  d_Rank_init := c.def_ 13
  mk_Rank := ⟨(E 132 _ rfl), (He.eqO_ok (E 133 _ rfl)), (E 134 _ rfl), (E 135 _ rfl)⟩
  d_Rank_flat := c.def_ 14
  cm_Rank_flat := ⟨.type "type", _, ⟨(E 136 _ rfl), (He.eqO_ok (E 137 _ rfl))⟩, cmB_ok (E 138 _ rfl)⟩
  d_Rank_of_levels := c.def_ 15
  cm_Rank_of_levels := ⟨.type "type", _, ⟨(E 136 _ rfl), (He.eqO_ok (E 137 _ rfl))⟩, cmB_ok (E 139 _ rfl)⟩
  d_Rank_two := c.def_ 16
  cm_Rank_two := ⟨.type "type", _, ⟨(E 136 _ rfl), (He.eqO_ok (E 137 _ rfl))⟩, cmB_ok (E 140 _ rfl)⟩
  d_Rank_beginnings := c.def_ 17
  mt_Rank_beginnings := ⟨(He.eqO_ok (E 141 _ rfl)), (E 142 _ rfl), (E 143 _ rfl)⟩
  d_Rank_mul := c.def_ 18
  mt_Rank_mul := (He.eqO_ok (E 144 _ rfl))
  mf_Rank_mul := (E 145 _ rfl)
  mu_Rank_mul := (E 146 _ rfl)
  d_Rank_eq := c.def_ 19
  mt_Rank_eq := (He.eqO_ok (E 147 _ rfl))
  mf_Rank_eq := (E 148 _ rfl)
  eq1_Rank_eq := (E 149 _ rfl)
  eq2_Rank_eq := (E 150 _ rfl)
  eq3_Rank_eq := fun c2 n2 h _ => by
    replace h := List.contains_iff_mem.mp h
    rcases List.mem_cons.mp h with z | h
    · obtain ⟨rfl, _⟩ := Prod.mk.inj z
      exact (E 151 _ rfl)
    rcases List.mem_cons.mp h with z | h
    · obtain ⟨rfl, _⟩ := Prod.mk.inj z
      exact (E 151 _ rfl)
    rcases List.mem_cons.mp h with z | h
    · obtain ⟨rfl, _⟩ := Prod.mk.inj z
      exact (E 151 _ rfl)
    cases h
  d_Rank_len := c.def_ 20
  mt_Rank_len := (He.eqO_ok (E 152 _ rfl))
  mf_Rank_len := (E 153 _ rfl)
  d_Rank_getitem := c.def_ 21
  mt_Rank_getitem := (He.eqO_ok (E 154 _ rfl))
  mf_Rank_getitem := (E 155 _ rfl)
  mn_Rank_getitem := (E 156 _ rfl)
  d_check_same_worlds := c.def_ 22
  g_check_same_worlds := He.glo_ok X G (x := "check_same_worlds") (E 157 _ rfl)
  d_products := c.def_ 23
  g_products := He.glo_ok X G (x := "products") (E 158 _ rfl)
  d_two_cells := c.def_ 24
  g_two_cells := He.glo_ok X G (x := "two_cells") (E 159 _ rfl)
  d_finer := c.def_ 25
  g_finer := He.glo_ok X G (x := "finer") (E 160 _ rfl)
  d_led_by := c.def_ 26
  g_led_by := He.glo_ok X G (x := "led_by") (E 161 _ rfl)
  d_lot_of_deed := c.def_ 27
  g_lot_of_deed := He.glo_ok X G (x := "lot_of_deed") (E 162 _ rfl)
  d_led := c.def_ 28
  g_led := He.glo_ok X G (x := "led") (E 163 _ rfl)
  d__law_draws := c.def_ 29
  g__law_draws := He.glo_ok X G (x := "_law_draws") (E 164 _ rfl)
  d__law_take := c.def_ 30
  g__law_take := He.glo_ok X G (x := "_law_take") (E 165 _ rfl)
  d__law_lot := c.def_ 31
  g__law_lot := He.glo_ok X G (x := "_law_lot") (E 166 _ rfl)
  d__law_some := c.def_ 32
  g__law_some := He.glo_ok X G (x := "_law_some") (E 167 _ rfl)
  d__law_rest := c.def_ 33
  g__law_rest := He.glo_ok X G (x := "_law_rest") (E 168 _ rfl)
  d__law_plus := c.def_ 34
  g__law_plus := He.glo_ok X G (x := "_law_plus") (E 169 _ rfl)
  d__law_inside := c.def_ 35
  g__law_inside := He.glo_ok X G (x := "_law_inside") (E 170 _ rfl)
  d__law_dense := c.def_ 36
  g__law_dense := He.glo_ok X G (x := "_law_dense") (E 171 _ rfl)
  d__law_rank := c.def_ 37
  g__law_rank := He.glo_ok X G (x := "_law_rank") (E 172 _ rfl)
  d__law_cells := c.def_ 38
  g__law_cells := He.glo_ok X G (x := "_law_cells") (E 173 _ rfl)
  d__law_best := c.def_ 39
  g__law_best := He.glo_ok X G (x := "_law_best") (E 174 _ rfl)
  d__law_held := c.def_ 40
  g__law_held := He.glo_ok X G (x := "_law_held") (E 175 _ rfl)
  d__law_product := c.def_ 41
  g__law_product := He.glo_ok X G (x := "_law_product") (E 176 _ rfl)
  d__law_turn := c.def_ 42
  g__law_turn := He.glo_ok X G (x := "_law_turn") (E 177 _ rfl)
  d__law_is_rank := c.def_ 43
  g__law_is_rank := He.glo_ok X G (x := "_law_is_rank") (E 178 _ rfl)
  d__law_finer := c.def_ 44
  g__law_finer := He.glo_ok X G (x := "_law_finer") (E 179 _ rfl)
  d__law_joined := c.def_ 45
  g__law_joined := He.glo_ok X G (x := "_law_joined") (E 180 _ rfl)
  d__law_goal := c.def_ 46
  g__law_goal := He.glo_ok X G (x := "_law_goal") (E 181 _ rfl)
  d__law_leads_right := c.def_ 47
  g__law_leads_right := He.glo_ok X G (x := "_law_leads_right") (E 182 _ rfl)
  d__law_two := c.def_ 48
  g__law_two := He.glo_ok X G (x := "_law_two") (E 183 _ rfl)
  d__law_twos_right := c.def_ 49
  g__law_twos_right := He.glo_ok X G (x := "_law_twos_right") (E 184 _ rfl)
  d__law_led_right := c.def_ 50
  g__law_led_right := He.glo_ok X G (x := "_law_led_right") (E 185 _ rfl)
  d__law_refused := c.def_ 51
  g__law_refused := He.glo_ok X G (x := "_law_refused") (E 186 _ rfl) }
theorem law_g {K : PySem.W.Frag} {h : Heap} {mg : PySem.Str → Option Value} (X : K.In h) (G : h.Ns mainGlobals mg) (c : SaysM exB fns K) : mg "law" = some (.ref (He.ga K "law")) :=
  have E := all_at (l := exL K) c.exB
  He.glo_ok X G (x := "law") (E 187 _ rfl)
theorem law_fn {P : Program} {w : World} {K : PySem.W.Frag} {h : Heap} {mg : PySem.Str → Option Value} {fa : Addr} (X : K.In h) (G : h.Ns mainGlobals mg) (hfa : mg ("law" : PySem.Str) = some (.ref fa)) (c : SaysM exB fns K) :
    ∃ fd : FuncData, (∀ (s : Shared) (v : Value), BindsTo s fd ⟨[v], []⟩ [("_law_script", v)]) ∧ ∀ base : Heap, FnOk P w K mg base (L2.CX P w) (lawK + 1) fa fd ["_law_script"] (spL K 63) := by
  have e := hfa.symm.trans (law_g X G c)
  cases e
  obtain ⟨fd, F⟩ := c.def_ 53
  have b := FunD.bindsA (ps := ["_law_script"]) F fun _ _ _ _ _ _ us hl => match us, hl with | [_], _ => rfl
  refine ⟨fd, fun s v => b s [v] rfl, fun base => ?_⟩
  have hh := fun dr hd => hb (P := P) (w := w) X G c base dr hd
  exact law_ok (R := Rk0 P w K mg base 0 false) rfl F sc_law (nn := 10) rfl (hh 0 false).txo rfl (fun C S => b_law1 (hh 0 false) C (Nat.le_refl _) S rfl) (fun a => b_law (hh a true)) v_draws v_law
end Mi.k17
open PySem PySem.W PySem.Calls PyProof.Rows
theorem PySem.Challenge.cw_newsbooks_k17_whole_built_and_led_to_holds : PySem.Challenge.rw_newsbooks_k17_whole_built_and_led_to.Holds := by
  w_on; o_law
  refine HandSHeadRun.head_any (r := OpenLaw.row PySem.Challenge.rw_newsbooks_k17_whole_built_and_led_to) (q := view (OpenLaw.row PySem.Challenge.rw_newsbooks_k17_whole_built_and_led_to).prog [59]) (H := Mi.k17.hk) (ob := Mi.k17.ob) (M := 8000) (loose := Mi.k17.names)
    (d := HandSHeadRun.topDef (OpenLaw.row PySem.Challenge.rw_newsbooks_k17_whole_built_and_led_to).prog 59) (kwd := []) Mi.k17.ob_eq (by kernel_rfl) (fun s => by kernel_rfl) Mi.k17.run
    (by kernel_rfl) (by kernel_rfl) (by kernel_rfl) (by rfl) (by first | assumption | decide +kernel) (by decide +kernel) ⟨rfl, rfl, rfl, rfl, rfl, by decide +kernel⟩ ?hw ?hc
  case hw => w_witness2
  case hc =>
    refine Mi.walk_mi (l := PySem.Challenge.rw_newsbooks_k17_whole_built_and_led_to) (most := 63) (k := Mi.k17.lawK + 1) (x := "_law_script") rfl (by decide) (by kernel_rfl) ⟨rfl, by decide, by decide⟩ ?F
    intro w mg fa h Y G hmg0
    obtain ⟨K, KX, c⟩ := Y
    have hmg : mg ("law" : PySem.Str) = some (.ref fa) := by
      have e : (HandSHeadRun.topDef (OpenLaw.row PySem.Challenge.rw_newsbooks_k17_whole_built_and_led_to).prog 59).name = ("law" : PySem.Str) := by kernel_rfl
      rw [← e]
      exact hmg0
    obtain ⟨fd, b1, b2⟩ := Mi.k17.law_fn (P := PySem.Challenge.rw_newsbooks_k17_whole_built_and_led_to.prog) (w := w) KX G hmg c
    exact ⟨K, fd, KX, b1, fun base _ _ => b2 base⟩
