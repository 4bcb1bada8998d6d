import PyProof.Rows.All
import HandS.ForMost
import HandS.Deep
import HandS.Conv
import HandS.Style
import HandS.TupAny
import HandS.TupMul
import HandS.Zip
import HandS.IsInst
import HandS.FStr
import HandS.Flow
import HandS.EndTab
import HandS.Nested
import KE.SortData
import KE.KDictKeyed
import HandS.HeadHook1
import HandS.TupLe
import KE.DataCmp
import KE.DataMinMax
import HandS.Sort
import KE.KRevSl
import KE.GoesEnum
import KE.KIndexOf
import HandS.More
import HandS.Dict
import HandS.Text
import HandS.WideBits
import HandS.HeadWalk
import HandS.Defaults
import HandS.HeadEnd
import HandS.HeadHook2
import HandS.Head0
import HandS.Head1
import HandS.Head2
import HandS.HeadHook3
import HandS.HeadHook4
import PySem.Challenge.RW_mistakesigns_k19_whole_codes_grown
set_option Elab.async false
set_option linter.all false
set_option maxRecDepth 100000
namespace G

/-- plain data -/
inductive D where
  | non
  | bl (b : Bool)
  | int (i : Int)
  | str (s : List Nat)
  | tup (l : List D)
  | lst (l : List D)
  | dic (ks vs : List D)
  | town
  | scr (l : List Int)
  | sk (l : List Int)
  deriving Inhabited

abbrev M := StateT Nat Option
def no {α : Type} : M α := fun _ => none

/-! ### comparing data -/
mutual
def eqv : D → D → Bool
  | .non, .non => true
  | .bl a, .bl b => a == b
  | .bl a, .int b => (if a then 1 else 0) == b
  | .int a, .bl b => a == (if b then 1 else 0)
  | .int a, .int b => a == b
  | .str a, .str b => a == b
  | .tup a, .tup b => eqvs a b
  | .lst a, .lst b => eqvs a b
  | _, _ => false
def eqvs : List D → List D → Bool
  | [], [] => true
  | x :: xs, y :: ys => eqv x y && eqvs xs ys
  | _, _ => false
end
mutual
/-- places of one kind -/
def like : D → D → Bool
  | .non, .non => true
  | .bl _, .bl _ => true
  | .int _, .int _ => true
  | .str _, .str _ => true
  | .tup a, .tup b => likes a b
  | .lst a, .lst b => likes a b
  | _, _ => false
def likes : List D → List D → Bool
  | x :: xs, y :: ys => like x y && likes xs ys
  | _, _ => true
end
def ltStr : List Nat → List Nat → Bool
  | [], [] => false
  | [], _ :: _ => true
  | _ :: _, [] => false
  | x :: xs, y :: ys => if x = y then ltStr xs ys else decide (x < y)
mutual
def lt : D → D → Bool
  | .bl a, .bl b => !a && b
  | .int a, .int b => decide (a < b)
  | .str a, .str b => ltStr a b
  | .tup a, .tup b => lts a b
  | .lst a, .lst b => lts a b
  | _, _ => false
def lts : List D → List D → Bool
  | [], [] => false
  | [], _ :: _ => true
  | _ :: _, [] => false
  | x :: xs, y :: ys => if eqv x y then lts xs ys else lt x y
end
mutual
/-- plain data, at most n deep -/
def okd : Nat → D → Bool
  | _, .non => true
  | _, .bl _ => true
  | _, .int _ => true
  | _, .str s => s.all fun c => decide (c < 1114112)
  | n + 1, .tup l => okds n l
  | n + 1, .lst l => okds n l
  | _, _ => false
def okds : Nat → List D → Bool
  | _, [] => true
  | n, x :: xs => okd n x && okds n xs
end
def deep : Nat := 40

/-! ### operations -/
def addD : D → D → M D
  | .int a, .int b => pure (.int (a + b))
  | .tup a, .tup b => if a.length + b.length ≤ 16777216 then pure (.tup (a ++ b)) else no
  | .lst a, .lst b => if a.length + b.length ≤ 16777216 then pure (.lst (a ++ b)) else no
  | .str a, .str b => if a.length + b.length ≤ 16777216 then pure (.str (a ++ b)) else no
  | _, _ => no
def subD : D → D → M D
  | .int a, .int b => pure (.int (a - b))
  | _, _ => no
def rep {α : Type} (l : List α) (k : Int) : List α := (List.replicate k.toNat l).flatten
/-- a test at which the kernel stops at once on symbols -/
def absLe (i : Int) (b : Nat) : Bool := Nat.ble i.natAbs b
theorem absLe_of {i : Int} {b : Nat} : absLe i b = true ↔ i.natAbs ≤ b := by
  unfold absLe
  exact ⟨Nat.le_of_ble_eq_true, Nat.ble_eq_true_of_le⟩
def mulD : D → D → M D
  | .int a, .int b => if (absLe a 18446744073709551615 || absLe b 18446744073709551615) = true then pure (.int (a * b)) else no
  | .tup l, .int k => if (absLe k 1000 && Nat.ble l.length 1000) = true then pure (.tup (rep l k)) else no
  | .lst l, .int k => if (absLe k 16777216 && Nat.ble (l.length * k.toNat) 16777216) = true then pure (.lst (rep l k)) else no
  | .str l, .int k => if (absLe k 16777216 && Nat.ble (l.length * k.toNat) 16777216) = true then pure (.str (rep l k)) else no
  | _, _ => no
def fdvD : D → D → M D
  | .int a, .int b => if 0 < b ∧ absLe b 1073741823 = true then pure (.int (a / b)) else no
  | _, _ => no
def modD : D → D → M D
  | .int a, .int b => if 0 < b then pure (.int (a % b)) else no
  | _, _ => no
def negD : D → M D
  | .int a => pure (.int (-a))
  | _ => no
inductive Cp where
  | eq | ne | lt | le | gt | ge
  deriving DecidableEq
def eqD (a b : D) : M Bool := if okd deep a && okd deep b then pure (eqv a b) else no
def neD (a b : D) : M Bool := if okd deep a && okd deep b then pure (!eqv a b) else no
def ltD : D → D → M Bool
  | .int a, .int b => pure (decide (a < b))
  | .tup a, .tup b => if okds deep a && okds deep b && likes a b then pure (lts a b) else no
  | _, _ => no
def leD' : D → D → M Bool
  | .int a, .int b => pure (decide (a ≤ b))
  | .tup a, .tup b => if okds deep a && okds deep b && likes a b && likes b a then pure (!lts b a) else no
  | _, _ => no
def gtD : D → D → M Bool
  | .int a, .int b => pure (decide (b < a))
  | .tup a, .tup b => if okds deep a && okds deep b && likes a b && likes b a then pure (lts b a) else no
  | _, _ => no
def geD : D → D → M Bool
  | .int a, .int b => pure (decide (b ≤ a))
  | _, _ => no
def cmpD : Cp → D → D → M Bool
  | .eq => eqD
  | .ne => neD
  | .lt => ltD
  | .le => leD'
  | .gt => gtD
  | .ge => geD
def tru : D → M Bool
  | .non => pure false
  | .bl b => pure b
  | .int i => pure (decide (i ≠ 0))
  | .str s => if s.length ≤ 16777216 then pure !s.isEmpty else no
  | .tup l => pure !l.isEmpty
  | .lst l => pure !l.isEmpty
  | .dic l _ => pure !l.isEmpty
  | .scr l => pure !l.isEmpty
  | _ => no
/-- a place in a row, from its end where it lies below nought -/
def atI {α : Type} (l : List α) (i : Int) : Option α :=
  if 0 ≤ i then l[i.toNat]? else if 0 ≤ i + l.length then l[(i + l.length).toNat]? else none
def ixN (n : Nat) (i : Int) : Option Nat :=
  if 0 ≤ i then (if i < n then some i.toNat else none) else if 0 ≤ i + n then some (i + n).toNat else none
def look : List D → List D → D → Option D
  | k :: ks, v :: vs, x => if eqv k x then some v else look ks vs x
  | _, _, _ => none
def has : List D → D → Bool
  | k :: ks, x => eqv k x || has ks x
  | _, _ => false
def put : List D → List D → D → D → List D
  | k :: ks, v :: vs, x, y => if eqv k x then y :: vs else v :: put ks vs x y
  | _, _, _, y => [y]
def putK (ks : List D) (x : D) : List D := if has ks x then ks else ks ++ [x]
def opt {α : Type} : Option α → M α
  | some a => pure a
  | none => no
def ixD : D → D → M D
  | .tup l, .int i => opt (atI l i)
  | .lst l, .int i => opt (atI l i)
  | .str l, .int i => if l.length ≤ 16777216 then opt ((atI l i).map fun c => .str [c]) else no
  | .scr l, .int i => opt ((atI l i).map .int)
  | .dic ks vs, x => if okd 8 x then opt (look ks vs x) else no
  | _, _ => no
def cutIx (n d : Nat) : Option Int → Nat
  | none => d
  | some i => if 0 ≤ i then min i.toNat n else (i + n).toNat
def cut {α : Type} (l : List α) (lo hi : Option Int) : List α :=
  (l.drop (cutIx l.length 0 lo)).take (cutIx l.length l.length hi - cutIx l.length 0 lo)
def intP : D → M Int
  | .int i => pure i
  | _ => no
def slD (x : D) (lo hi : Option Int) : M D := match x with
  | .tup l => pure (.tup (cut l lo hi))
  | .lst l => pure (.lst (cut l lo hi))
  | .str l => if l.length ≤ 16777216 then pure (.str (cut l lo hi)) else no
  | _ => no
def slhD (x h : D) : M D := do let j ← intP h; slD x none (some j)
def sllD (x l : D) : M D := do let i ← intP l; slD x (some i) none
def slbD (x l h : D) : M D := do let i ← intP l; let j ← intP h; slD x (some i) (some j)
def revD : D → M D
  | .tup l => pure (.tup l.reverse)
  | _ => no
def boolsL : List D → M (List Bool)
  | [] => pure []
  | .bl b :: r => do let bs ← boolsL r; pure (b :: bs)
  | _ :: _ => no
def intsL : List D → M (List Int)
  | [] => pure []
  | .int b :: r => do let bs ← intsL r; pure (b :: bs)
  | _ :: _ => no
def leD (a b : D) : Bool := !lt b a
def isTup1 : D → Bool
  | .tup (_ :: _) => true
  | _ => false
def isTup0 : D → Bool
  | .tup _ => true
  | _ => false
def isNon : D → Bool
  | .non => true
  | _ => false
/-- rows whose items can be ordered -/
def alikes (l : List D) : Bool := l.all fun x => l.all fun y => like x y
def sortable (l : List D) : Bool := okds deep l && alikes l && (l.all isTup0 || l.all fun x => !isTup0 x && !isNon x)
def minable (l : List D) : Bool := okds deep l && alikes l && l.all fun x => !isNon x
def sortL (l : List D) : List D := l.mergeSort leD
def minL : D → List D → D
  | b, [] => b
  | b, x :: xs => minL (if lt x b then x else b) xs
def maxL : D → List D → D
  | b, [] => b
  | b, x :: xs => maxL (if lt b x then x else b) xs
def sumL : List D → D → M D
  | [], a => pure a
  | x :: xs, a => do let b ← addD a x; sumL xs b
def items : D → M (List D)
  | .tup l => pure l
  | .lst l => pure l
  | .dic ks _ => pure ks
  | .str s => if s.length ≤ 16777216 then pure (s.map fun c => .str [c]) else no
  | _ => no
inductive F1 where
  | len | all | any | tuple | list | sorted | min | max | sum | int | str | dict | num | dks
  deriving DecidableEq
def lenM : M D := fun k => some (.int k, k)
def pairsD : List D → List D → List D → M D
  | [], ks, vs => pure (.dic ks vs)
  | .tup [k, v] :: r, ks, vs => if okd 8 k then pairsD r (putK ks k) (put ks vs k v) else no
  | _ :: _, _, _ => no
def digits (n : Nat) : List Nat := (Nat.toDigits 10 n).map Char.toNat
def strInt (i : Int) : List Nat := if i < 0 then 45 :: digits i.natAbs else digits i.natAbs
def num1 : List Nat → Option Int
  | [c] => if 48 ≤ c ∧ c ≤ 57 then some ((c : Int) - 48) else none
  | _ => none
/-- the keys of a list of pairs; sorted(dict(x)) of ints -/
def keysL : List D → M (List Int)
  | [] => pure []
  | .tup [.int i, _] :: r => do let ks ← keysL r; pure (i :: ks)
  | _ :: _ => no
def addK (acc : List Int) (i : Int) : List Int := if acc.contains i then acc else acc ++ [i]
def srtI (ks : List Int) : List Int := (ks.foldl addK []).mergeSort fun a b => decide (a ≤ b)
def dksD : D → M D
  | .lst l => do let ks ← keysL l; if ks.length < 64 then pure (.lst ((srtI ks).map .int)) else no
  | _ => no
def f1D : F1 → D → M D
  | .dks, .lst l => dksD (.lst l)
  | .len, .town => lenM
  | .len, .scr l => pure (.int l.length)
  | .len, .str s => if s.length ≤ 16777216 then pure (.int s.length) else no
  | .len, .tup l => pure (.int l.length)
  | .len, .lst l => pure (.int l.length)
  | .len, .dic l _ => pure (.int l.length)
  | .all, .lst l => do let bs ← boolsL l; pure (.bl (bs.all id))
  | .any, .lst l => do let bs ← boolsL l; pure (.bl (bs.any id))
  | .tuple, .lst l => pure (.tup l)
  | .tuple, .tup l => pure (.tup l)
  | .list, .lst l => pure (.lst l)
  | .list, .tup l => pure (.lst l)
  | .sorted, .lst l => if sortable l then pure (.lst (sortL l)) else no
  | .sorted, .tup l => if (sortable l || (okds deep l && decide (l.length ≤ 1))) = true then pure (.lst (sortL l)) else no
  | .min, .lst (x :: l) => if minable (x :: l) then pure (minL x l) else no
  | .max, .lst (x :: l) => if minable (x :: l) then pure (maxL x l) else no
  | .min, .tup (x :: l) => if minable (x :: l) then pure (minL x l) else no
  | .max, .tup (x :: l) => if minable (x :: l) then pure (maxL x l) else no
  | .sum, .lst l => do let ns ← intsL l; pure (.int ns.sum)
  | .int, .int i => pure (.int i)
  | .int, .bl b => pure (.int (if b then 1 else 0))
  | .num, .str s => opt ((num1 s).map .int)
  | .str, .int i => if absLe i 16777216 = true then pure (.str (strInt i)) else no
  | .dict, .lst l => pairsD l [] []
  | _, _ => no
inductive F2 where
  | min | max | sum
  deriving DecidableEq
def f2D : F2 → D → D → M D
  | .min, .int a, .int b => pure (.int (if b < a then b else a))
  | .max, .int a, .int b => pure (.int (if a < b then b else a))
  | .sum, .lst l, .lst a => sumL l (.lst a)
  | _, _, _ => no
inductive Ty where
  | int | bool | tuple | str
  deriving DecidableEq
def isTy : Ty → D → M Bool
  | _, .town => no
  | _, .scr _ => no
  | _, .sk _ => no
  | .int, .int _ => pure true
  | .int, .bl _ => pure true
  | .bool, .bl _ => pure true
  | .tuple, .tup _ => pure true
  | .str, .str _ => pure true
  | _, _ => pure false
def inD (x y : D) : M Bool := match y with
  | .tup l => if okd deep x && okds deep l then pure (has l x) else no
  | .lst l => if okd deep x && okds deep l then pure (has l x) else no
  | .dic ks _ => if okd 8 x then pure (has ks x) else no
  | .str s => (match x with
    | .str [c] => pure (s.contains c)
    | _ => no)
  | _ => no
def idxD : D → D → M D
  | .tup l, .int i => do let ns ← intsL l; if ns.contains i then pure (.int (ns.idxOf i)) else no
  | .lst l, .int i => do let ns ← intsL l; if ns.contains i then pure (.int (ns.idxOf i)) else no
  | _, _ => no
def getD : D → D → D → M D
  | .dic ks vs, k, x => if okd 8 k then pure ((look ks vs k).getD x) else no
  | _, _, _ => no
def isbD (n : Bool) (b : Bool) : D → M D
  | .bl a => pure (.bl (xor n (decide (a = b))))
  | _ => no

/-! ### bits -/
inductive Bo where
  | and | or | shl | shr
  deriving DecidableEq
def invI (x : Int) : Int := -x - 1
/-- a & b, a not below nought -/
def andI (a b : Int) : Int := if 0 ≤ b then ((a.toNat &&& b.toNat : Nat) : Int) else a - ((a.toNat &&& (invI b).toNat : Nat) : Int)
def bitD : Bo → D → D → M D
  | .and, .int a, .int b => if 0 ≤ a then pure (.int (andI a b)) else no
  | .or, .int a, .int b => if 0 ≤ a ∧ 0 ≤ b then pure (.int ((a.toNat ||| b.toNat : Nat) : Int)) else no
  | .shl, .int a, .int b => if 0 ≤ b ∧ absLe b 1000 = true ∧ absLe a 18446744073709551615 = true then pure (.int (a * 2 ^ b.toNat)) else no
  | .shr, .int a, .int b => if 0 ≤ b ∧ absLe b 1000 = true then pure (.int (a / 2 ^ b.toNat)) else no
  | _, _, _ => no
def invD : D → M D
  | .int a => pure (.int (invI a))
  | _ => no
/-! ### seekers -/
/-- .beside -/
def besD : D → M D
  | .sk l => pure (.lst (l.map .int))
  | _ => no
def isSk : D → Bool
  | .sk _ => true
  | _ => false
def adjB (l : List Int) (u v : Nat) : Bool := ((l.getD u 0).toNat).testBit v
/-- the places below n of the ones of x -/
def bitsL (n x : Nat) : List Nat := (List.range n).filter fun i => x.testBit i
/-- the most that go together -/
def alphaF (adj : Nat → Nat → Bool) : Nat → List Nat → Nat
  | 0, _ => 0
  | _ + 1, [] => 0
  | f + 1, v :: vs => max (alphaF adj f vs) (1 + alphaF adj f (vs.filter fun u => !adj v u))
def manyV (l : List Int) (x : Nat) : Nat := alphaF (adjB l) l.length (bitsL l.length x)
def onesN (l : List Int) (x : Nat) : Nat := (bitsL l.length x).length
def cutM (x m : Nat) : Nat := x - (x &&& m)
def bes (l : List Int) (s : Nat) : Nat := (l.getD s 0).toNat
def degS (l : List Int) (x s : Nat) : Nat := onesN l (bes l s &&& x)
/-- what is looked at, in order -/
def cntL (l : List Int) (x : Nat) : List D := sortL ((bitsL l.length x).map fun s => .tup [.int (degS l x s : Nat), .int (s : Nat)])
def sndP : Option D → Nat
  | some (.tup [_, .int s]) => s.toNat
  | _ => 0
def lowS (l : List Int) (x : Nat) : Nat := sndP (cntL l x).head?
def highS (l : List Int) (x : Nat) : Nat := sndP (cntL l x).getLast?
def childs (l : List Int) (x : Nat) : List Nat :=
  if x = 0 then [] else cutM x (bes l (lowS l x)) :: (if 2 < degS l x (lowS l x) then [cutM x (2 ^ highS l x), cutM x (bes l (highS l x))] else [])
def cloS (l : List Int) : Nat → Nat → List Nat
  | 0, x => [x]
  | f + 1, x => x :: (childs l x).flatMap (cloS l f)
/-- what .first asks, m places left -/
def pathS (l : List Int) : Nat → Nat → List Nat
  | 0, _ => []
  | m + 1, x =>
    let i := l.length - (m + 1)
    if x.testBit i then
      let a := cutM x (bes l i)
      a :: x :: pathS l m (if manyV l a + 1 = manyV l x then a else cutM x (2 ^ i))
    else pathS l m x
def topS (l : List Int) : Nat := 2 ^ l.length - 1
def reachS (l : List Int) : List Nat := 0 :: (topS l :: pathS l l.length (topS l)).flatMap (cloS l l.length)
def okK (l : List Int) : Bool :=
  decide (l.length ≤ 40) && l.all (fun m => decide (0 ≤ m) && decide (m < 2 ^ l.length)) && (List.range l.length).all (fun i => adjB l i i) &&
    (List.range l.length).all (fun i => (List.range l.length).all fun j => adjB l i j == adjB l j i) && decide ((reachS l).length < 16777216)
def okS (l : List Int) (x : Nat) : Bool := okK l && decide (x < 2 ^ l.length) && (reachS l).contains x
/-- Seeker.many; it asks itself how deep it may go -/
def manyG (me : Nat) (cl : Nat → List D → M D) : List D → M D
  | [.int m, .non] => if m ≤ 0 then pure .non else cl me [.int (m - 1), .non]
  | [.sk l, .int x] => do
    let _ ← cl me [.int (onesN l x.toNat : Nat), .non]
    if 0 ≤ x ∧ okS l x.toNat = true then pure (.int (manyV l x.toNat : Nat)) else no
  | _ => no
def orAll (ns : List Int) : Nat := ns.foldl (fun a j => a ||| 2 ^ j.toNat) 0
def rowG (cl : Nat → List D → M D) (near : Nat) (t : D) (i : Nat) : M Int := do
  let d ← cl near [t, .int (i : Nat)]
  match d with
  | .tup r => do
    let ns ← intsL r
    if ns.all (fun j => decide (0 ≤ j) && decide (j ≤ 1000)) then pure (orAll ns : Nat) else no
  | _ => no
def rowsG (cl : Nat → List D → M D) (near : Nat) (t : D) : List Nat → M (List Int)
  | [] => pure []
  | i :: is => do let r ← rowG cl near t i; let rs ← rowsG cl near t is; pure (r :: rs)
/-- Seeker.__init__ -/
def initG (near : Nat) (cl : Nat → List D → M D) : List D → M D
  | [.tup (.int n :: r)] => if 0 ≤ n ∧ n ≤ 40 then do
      let rs ← rowsG cl near (.tup (.int n :: r)) (List.range n.toNat)
      if okK rs then pure (.sk rs) else no
    else no
  | _ => no
/-- Seeker(..) -/
def mkG (ini : Nat) (cl : Nat → List D → M D) (ds : List D) : M D := cl ini ds

/-! ### the language -/
inductive Sk where
  | it | r1 | r2 | r3 | en | zp
  deriving DecidableEq
inductive Tg where
  | one (i : Nat)
  | two (i j : Nat)
  deriving DecidableEq
inductive E where
  | v (i : Nat)
  | bv (i : Nat)
  | c (d : D)
  | gl (x : Nat) (d : D)
  | tup (es : List E)
  | lst (es : List E)
  | add (a b : E) | sub (a b : E) | mul (a b : E) | fdv (a b : E) | mod (a b : E)
  | neg (a : E)
  | cmp (o : Cp) (a b : E)
  | chain (o o' : Cp) (a b c : E)
  | isn (n : Bool) (a : E)
  | isb (n : Bool) (a : E) (b : Bool)
  | inn (n : Bool) (a b : E)
  | not (a : E)
  | and (es : List E) | or (es : List E)
  | ite (c a b : E)
  | call (f : Nat) (es : List E)
  | callL (f : Nat) (es : List E) (li : Nat) (caps : List Nat)
  | callv (i : Nat) (es : List E)
  | b1 (f : F1) (a : E)
  | b2 (f : F2) (a b : E)
  | isi (t : Ty) (a : E)
  | ix (a b : E)
  | slh (a hi : E)
  | sll (a lo : E)
  | slb (a lo hi : E)
  | rev (a : E)
  | lc (t : Tg) (k : Sk) (a b c cond elt : E) (own : List Nat)
  | get (a k x : E)
  | idx (a x : E)
  | cv (t : Bool) (k : Sk) (a b : E)
  | bit (o : Bo) (a b : E)
  | inv (a : E)
  | bes (a : E)
  | mth (f : Nat) (a : E) (es : List E)
  | mk (f : Nat) (es : List E)
inductive S where
  | fz (is : List Nat)
  | set (i : Nat) (e : E)
  | own (i : Nat) (e : E)
  | tgt (t : Tg) (e : E)
  | par (is : List (Nat × Bool)) (es : List E)
  | exp (e : E)
  | app (i : Nat) (e : E)
  | ext (i : Nat) (e : E)
  | sti (i : Nat) (k e : E)
  | dpt (i : Nat) (k e : E)
  | popa (i j : Nat) (e : E)
  | tick (i : Nat)
  | for (t : Tg) (k : Sk) (a b c : E) (body : List S)
  | whl (c : E) (body : List S)
  | ite (c : E) (a b : List S)
  | ret (e : E)
  | retN | brk | cnt | pass
inductive Sl where
  | un
  | fr (d : D)
  | ow (d : D)
  | cl (li : Nat) (cs : List D)
  deriving Inhabited
/-- what is called: a def, a lambda that a def got, a def whose last argument is a lambda -/
structure Cs where
  cl : Nat → List D → M D
  cc : Nat → List D → List D → M D
  cx : Nat → List D → Nat → List D → M D
abbrev St := List Sl
inductive Fl where
  | nx | rt (d : D) | bk | ct

def getV (st : St) (i : Nat) : M D := match st[i]? with
  | some (.fr d) => pure d
  | _ => no
def getB (st : St) (i : Nat) : M D := match st[i]? with
  | some (.fr d) => pure d
  | some (.ow d) => pure d
  | _ => no
def getC (st : St) (i : Nat) : M (Nat × List D) := match st[i]? with
  | some (.cl li cs) => pure (li, cs)
  | _ => no
def bindTg : Tg → D → St → M St
  | .one i, x, st => pure (st.set i (.fr x))
  | .two i j, x, st => match x with
    | .tup [a, b] => pure ((st.set i (.fr a)).set j (.fr b))
    | _ => no
def wipe (st : St) : List Nat → St
  | [] => st
  | i :: is => (wipe st is).set i .un
def slOf (own : Bool) (d : D) : Sl := if own then .ow d else .fr d
def setAll : St → List (Nat × Bool) → List D → St
  | st, (i, o) :: is, d :: ds => setAll (st.set i (slOf o d)) is ds
  | st, _, _ => st
def lcM (f : D → M (Option D)) : List D → M (List D)
  | [] => pure []
  | x :: xs => do
    let r ← f x
    let rs ← lcM f xs
    pure (match r with | some d => d :: rs | none => rs)
def rangeL (a : Int) (n : Nat) (c : Int) : List D := (List.range n).map fun (i : Nat) => .int (a + i * c)
def smallI (i : Int) : Bool := absLe i 8388608
def rangeN (a b c : Int) : Nat := if 0 < c then ((b - a + c - 1) / c).toNat else ((a - b + (-c) - 1) / (-c)).toNat
def srcD : Sk → D → D → D → M (List D)
  | .it, x, _, _ => items x
  | .r1, .int b, _, _ => if smallI b then pure (rangeL 0 b.toNat 1) else no
  | .r2, .int a, .int b, _ => if smallI a && smallI b then pure (rangeL a (b - a).toNat 1) else no
  | .r3, .int a, .int b, .int c => if smallI a && smallI b && smallI c && decide (c ≠ 0) then pure (rangeL a (rangeN a b c) c) else no
  | .en, .tup l, _, _ => pure (l.zipIdx.map fun p => .tup [.int p.2, p.1])
  | .en, .lst l, _, _ => pure (l.zipIdx.map fun p => .tup [.int p.2, p.1])
  | .zp, .tup l, .tup m, _ => pure (List.zipWith (fun a b => .tup [a, b]) l m)
  | .zp, .lst l, .lst m, _ => pure (List.zipWith (fun a b => .tup [a, b]) l m)
  | _, _, _, _ => no
/-- tuple(..), list(..) of a source -/
def cvD (t : Bool) (k : Sk) (x y : D) : M D := do let l ← srcD k x y .non; pure (if t then .tup l else .lst l)
def caps (st : St) : List Nat → M (List D)
  | [] => pure []
  | i :: is => do let d ← getV st i; let ds ← caps st is; pure (d :: ds)
def inM (n : Bool) (x y : D) : M D := do let r ← inD x y; pure (.bl (xor n r))
def isnD (n : Bool) : D → D
  | .non => .bl (!n)
  | _ => .bl n
def cmpM (o : Cp) (a b : D) : M D := do let r ← cmpD o a b; pure (.bl r)

section
variable (C : Cs)
mutual
def ev : E → St → M D
  | .v i, st => getV st i
  | .bv i, st => getB st i
  | .c d, _ => pure d
  | .gl _ d, _ => pure d
  | .tup es, st => do let ds ← evs es st; pure (.tup ds)
  | .lst es, st => do let ds ← evs es st; pure (.lst ds)
  | .add a b, st => do let x ← ev a st; let y ← ev b st; addD x y
  | .sub a b, st => do let x ← ev a st; let y ← ev b st; subD x y
  | .mul a b, st => do let x ← ev a st; let y ← ev b st; mulD x y
  | .fdv a b, st => do let x ← ev a st; let y ← ev b st; fdvD x y
  | .mod a b, st => do let x ← ev a st; let y ← ev b st; modD x y
  | .neg a, st => do let x ← ev a st; negD x
  | .cmp o a b, st => do let x ← ev a st; let y ← ev b st; cmpM o x y
  | .chain o o' a b c, st => do
    let x ← ev a st
    let y ← ev b st
    let r ← cmpD o x y
    if r then do let z ← ev c st; cmpM o' y z else pure (.bl false)
  | .isn n a, st => do let x ← ev a st; pure (isnD n x)
  | .isb n a b, st => do let x ← ev a st; isbD n b x
  | .inn n a b, st => do let x ← ev a st; let y ← ev b st; inM n x y
  | .not a, st => do let x ← ev a st; let r ← tru x; pure (.bl !r)
  | .and es, st => evAnd es st
  | .or es, st => evOr es st
  | .ite c a b, st => do let x ← ev c st; let r ← tru x; if r then ev a st else ev b st
  | .call f es, st => do let ds ← evs es st; C.cl f ds
  | .callL f es li is, st => do let ds ← evs es st; let cs ← caps st is; C.cx f ds li cs
  | .callv i es, st => do
    let (li, cs) ← getC st i
    let ds ← evs es st
    C.cc li cs ds
  | .b1 f a, st => do let x ← ev a st; f1D f x
  | .b2 f a b, st => do let x ← ev a st; let y ← ev b st; f2D f x y
  | .isi t a, st => do let x ← ev a st; let r ← isTy t x; pure (.bl r)
  | .ix a b, st => do let x ← ev a st; let y ← ev b st; ixD x y
  | .slh a hi, st => do let x ← ev a st; let h ← ev hi st; slhD x h
  | .sll a lo, st => do let x ← ev a st; let l ← ev lo st; sllD x l
  | .slb a lo hi, st => do let x ← ev a st; let l ← ev lo st; let h ← ev hi st; slbD x l h
  | .rev a, st => do let x ← ev a st; revD x
  | .lc t k a b c cond elt own, st => do
    let x ← ev a st
    let y ← ev b st
    let z ← ev c st
    let l ← srcD k x y z
    let r ← lcM (fun d => do
      let st' ← bindTg t d (wipe st own)
      let q ← ev cond st'
      let g ← tru q
      if g then do let e ← ev elt st'; pure (some e) else pure none) l
    pure (.lst r)
  | .get a k x, st => do let d ← ev a st; let y ← ev k st; let z ← ev x st; getD d y z
  | .idx a x, st => do let d ← ev a st; let y ← ev x st; idxD d y
  | .cv t k a b, st => do let x ← ev a st; let y ← ev b st; cvD t k x y
  | .bit o a b, st => do let x ← ev a st; let y ← ev b st; bitD o x y
  | .inv a, st => do let x ← ev a st; invD x
  | .bes a, st => do let x ← ev a st; besD x
  | .mth f a es, st => do let x ← ev a st; let ds ← evs es st; if isSk x then C.cl f (x :: ds) else no
  | .mk f es, st => do let ds ← evs es st; C.cl f ds
def evs : List E → St → M (List D)
  | [], _ => pure []
  | e :: es, st => do let d ← ev e st; let ds ← evs es st; pure (d :: ds)
def evAnd : List E → St → M D
  | [], _ => no
  | [e], st => ev e st
  | e :: es, st => do let d ← ev e st; let r ← tru d; if r then evAnd es st else pure d
def evOr : List E → St → M D
  | [], _ => no
  | [e], st => ev e st
  | e :: es, st => do let d ← ev e st; let r ← tru d; if r then pure d else evOr es st
end
def forM' (body : D → St → M (St × Fl)) : List D → St → M (St × Fl)
  | [], st => pure (st, .nx)
  | x :: xs, st => do
    let (st1, fl) ← body x st
    match fl with
    | .nx => forM' body xs st1
    | .ct => forM' body xs st1
    | .bk => pure (st1, .nx)
    | .rt d => pure (st1, .rt d)
def whM (c : St → M Bool) (body : St → M (St × Fl)) : Nat → St → M (St × Fl)
  | 0, _ => no
  | n + 1, st => do
    let b ← c st
    if b then do
      let (st1, fl) ← body st
      match fl with
      | .nx => whM c body n st1
      | .ct => whM c body n st1
      | .bk => pure (st1, .nx)
      | .rt d => pure (st1, .rt d)
    else pure (st, .nx)
def frz1 : Sl → Sl
  | .ow d => .fr d
  | s => s
def fz (st : St) : List Nat → St
  | [] => st
  | i :: is => match st[i]? with
    | some s => fz (st.set i (frz1 s)) is
    | none => fz st is
def getO (st : St) (i : Nat) : M D := match st[i]? with
  | some (.ow d) => pure d
  | _ => no
def tickM (d : D) : M Unit := fun k => match d with
  | .town => if k < 16777216 then some ((), k + 1) else none
  | _ => none
def appD (x : D) (y : D) : M D := match x with
  | .lst l => if l.length < 16777216 then pure (.lst (l ++ [y])) else no
  | _ => no
def extD (x : D) (y : D) : M D := match x, y with
  | .lst l, .lst r => if l.length + r.length ≤ 16777216 then pure (.lst (l ++ r)) else no
  | _, _ => no
def stiD (x k y : D) : M D := match x, k with
  | .lst l, .int i => (match ixN l.length i with
    | some j => pure (.lst (l.set j y))
    | none => no)
  | _, _ => no
def dptD (x k y : D) : M D := match x with
  | .dic ks vs => if okd 8 k && decide (ks.length < 16777216) then pure (.dic (putK ks k) (put ks vs k y)) else no
  | _ => no
def popD (x k : D) : M (D × D) := match x, k with
  | .lst l, .int i => if ¬ smallI i = true then no else (match ixN l.length i with
    | some j => (match l[j]? with
      | some d => pure (d, .lst (l.eraseIdx j))
      | none => no)
    | none => no)
  | _, _ => no
def fuel : Nat := 1048576
mutual
def ex : S → St → M (St × Fl)
  | .fz is, st => pure (fz st is, .nx)
  | .set i e, st => do let d ← ev C e st; pure (st.set i (.fr d), .nx)
  | .own i e, st => do let d ← ev C e st; pure (st.set i (.ow d), .nx)
  | .tgt t e, st => do let d ← ev C e st; let st' ← bindTg t d st; pure (st', .nx)
  | .par is es, st => do let ds ← evs C es st; pure (setAll st is ds, .nx)
  | .exp e, st => do let _ ← ev C e st; pure (st, .nx)
  | .app i e, st => do
    let d ← ev C e st
    let x ← getO st i
    let y ← appD x d
    pure (st.set i (.ow y), .nx)
  | .ext i e, st => do
    let d ← ev C e st
    let x ← getO st i
    let y ← extD x d
    pure (st.set i (.ow y), .nx)
  | .sti i k e, st => do
    let d ← ev C e st
    let x ← getO st i
    let j ← ev C k st
    let y ← stiD x j d
    pure (st.set i (.ow y), .nx)
  | .dpt i k e, st => do
    let d ← ev C e st
    let x ← getO st i
    let j ← ev C k st
    let y ← dptD x j d
    pure (st.set i (.ow y), .nx)
  | .popa i j e, st => do
    let k ← ev C e st
    let x ← getO st j
    let (d, x') ← popD x k
    let f ← getO st i
    let y ← appD f d
    pure ((st.set j (.ow x')).set i (.ow y), .nx)
  | .tick i, st => do let d ← getV st i; tickM d; pure (st, .nx)
  | .for t k a b c body, st => do
    let x ← ev C a st
    let y ← ev C b st
    let z ← ev C c st
    let l ← srcD k x y z
    forM' (fun d st => do let st' ← bindTg t d st; exs body st') l st
  | .whl c body, st => whM (fun st => do let d ← ev C c st; tru d) (fun st => exs body st) fuel st
  | .ite c a b, st => do
    let d ← ev C c st
    let r ← tru d
    if r then exs a st else exs b st
  | .ret e, st => do let d ← ev C e st; pure (st, .rt d)
  | .retN, st => pure (st, .rt .non)
  | .brk, st => pure (st, .bk)
  | .cnt, st => pure (st, .ct)
  | .pass, st => pure (st, .nx)
def exs : List S → St → M (St × Fl)
  | [], st => pure (st, .nx)
  | s :: ss, st => do
    let (st1, fl) ← ex s st
    match fl with
    | .nx => exs ss st1
    | fl => pure (st1, fl)
end
end

/-! ### programs -/
inductive Fd where
  | py (np ns : Nat) (body : List S)
  | prim (np : Nat) (g : (Nat → List D → M D) → List D → M D)
structure Ld where
  np : Nat
  nc : Nat
  ns : Nat
  body : E
structure Pr where
  fns : List Fd
  lams : List Ld
def runB (C : Cs) (ns : Nat) (body : List S) (args : List Sl) : M D := do
  let (_, fl) ← exs C body (args ++ List.replicate (ns - args.length) .un)
  match fl with
  | .rt d => pure d
  | .nx => pure .non
  | _ => no
def runF (C : Cs) : Fd → List D → M D
  | .py np ns body, args => if args.length = np then runB C ns body (args.map .fr) else no
  | .prim np g, args => if args.length = np then g C.cl args else no
def runX (C : Cs) : Fd → List D → Nat → List D → M D
  | .py np ns body, args, li, cs => if args.length + 1 = np then runB C ns body (args.map .fr ++ [.cl li cs]) else no
  | .prim _ _, _, _, _ => no
def runL (C : Cs) (l : Ld) (cs args : List D) : M D :=
  if args.length = l.np ∧ cs.length = l.nc then ev C l.body (args.map .fr ++ (cs.map .fr ++ List.replicate (l.ns - l.np - l.nc) .un)) else no
/-- the calls, n deep -/
def calls (P : Pr) : Nat → Cs
  | 0 => ⟨fun _ _ => no, fun _ _ _ => no, fun _ _ _ _ => no⟩
  | n + 1 =>
    ⟨fun f args => match P.fns[f]? with
      | some fd => runF (calls P n) fd args
      | none => no,
     fun l cs args => match P.lams[l]? with
      | some ld => runL (calls P n) ld cs args
      | none => no,
     fun f args li cs => match P.fns[f]? with
      | some fd => runX (calls P n) fd args li cs
      | none => no⟩
/-! ### the law -/
def lawSt (n it : Nat) (ns : List Int) : G.St := (([D.scr ns]).map Sl.fr ++ List.replicate (n - 1) Sl.un).set it (.fr .town)
/-- what the law computes, behind its first statement -/
def lawRun (C : Cs) (n it : Nat) (body : List S) (ns : List Int) : M D := do
  let (_, fl) ← exs C body (lawSt n it ns)
  match fl with
  | .rt d => pure d
  | .nx => pure .non
  | _ => no
end G

namespace G
open PySem PySem.Spec PyProof.Rows L2

def strOf (s : List Nat) : Str := ⟨s.toArray⟩

/-- the script: known to the object, or one of the module's own -/
def ScrL (K : PySem.W.Frag) (H : Hp) (a : Addr) (xs : List V) : Prop :=
  (∃ o, H a = some (.frz o (.lst xs))) ∨
    ∃ (o : Obj) (its : Array Value) (n : Nat), K.lookup a = some o ∧ o.cls = .type "list" ∧ o.dict = none ∧ o.data = .seq its n ∧ its.size ≤ sizeLine ∧ Vals xs its.toList
theorem ScrL.sq {K : PySem.W.Frag} {H : Hp} {a : Addr} {xs : List V} (h : ScrL K H a xs) : SqL K H a xs := by
  rcases h with ⟨o, h⟩ | h
  · exact .inl (.inr ⟨o, h⟩)
  · exact .inr h

/-- what a seeker knows is right -/
structure GoodM (l : List Int) (kvs : List (Key × V)) : Prop where
  all : ∀ p ∈ kvs, ∃ x : Nat, p = (Sum.inl (x : Int), V.int (manyV l x : Nat)) ∧ x ∈ reachS l
  nd : (kvs.map (·.1)).Nodup
  z : (Sum.inl (0 : Int) : Key) ∈ kvs.map (·.1)
/-- a dict of what is known -/
def memP (a : Addr) (l : List Int) (h : Heap) : Prop := ∃ (P : Program) (w : World) (kvs : List (Key × V)), ObjOk P w (fun _ => none) h a (.dK kvs) ∧ GoodM l kvs
def MemO (a : Addr) (l : List Int) : HO := .ext (memP a l)
mutual
/-- the value v stands for the data d; T: the town -/
inductive Den (T : Addr) (K : PySem.W.Frag) (H : Hp) : V → D → Prop
  | non : Den T K H .non .non
  | bl (b : Bool) : Den T K H (.bl b) (.bl b)
  | int (i : Int) : Den T K H (.int i) (.int i)
  | str (s : List Nat) : Den T K H (.str (strOf s)) (.str s)
  | tup {a : Addr} {xs : List V} {ds : List D} : H a = some (.tup xs) → Dens T K H xs ds → Den T K H (.ref a) (.tup ds)
  | lst {a : Addr} {o : Obj} {xs : List V} {ds : List D} : H a = some (.frz o (.lst xs)) → Dens T K H xs ds → Den T K H (.ref a) (.lst ds)
  | town : Den T K H (.ref T) .town
  | scr {a : Addr} {ns : List Int} : ScrL K H a (ns.map V.int) → Den T K H (.ref a) (.scr ns)
  | sk {a b kn dx : Addr} {o : Obj} {l : List Int} : H a = some (.ins (He.ga K "Seeker") dx [("beside", .ref b), ("known", .ref kn)]) → H b = some (.frz o (.lst (l.map V.int))) → H kn = some (MemO kn l) → okK l = true → Den T K H (.ref a) (.sk l)
inductive Dens (T : Addr) (K : PySem.W.Frag) (H : Hp) : List V → List D → Prop
  | nil : Dens T K H [] []
  | cons {v : V} {vs : List V} {d : D} {ds : List D} : Den T K H v d → Dens T K H vs ds → Dens T K H (v :: vs) (d :: ds)
end

/-- what stood stands, but for the town and the tables of code objects -/
structure Grow (T : Addr) (H H' : Hp) : Prop where
  keep : ∀ a o, H a = some o → a ≠ T → (∀ ps, o ≠ .tbl ps) → H' a = some o
  none : ∀ a, H' a = Option.none → H a = Option.none
theorem Grow.refl (T : Addr) (H : Hp) : Grow T H H := ⟨fun _ _ h _ _ => h, fun _ h => h⟩
theorem Grow.trans {T : Addr} {H H1 H2 : Hp} (a : Grow T H H1) (b : Grow T H1 H2) : Grow T H H2 := ⟨fun x o h n m => b.keep x o (a.keep x o h n m) n m, fun x h => a.none x (b.none x h)⟩
theorem Grow.at {T : Addr} {H H' : Hp} {p : Addr} {o : HO} (e : Grow T H H') (h : H p = Option.none) : Grow T H (upd H' p o) := ⟨fun a u ha n m => by
  rw [upd_ne (ne_of_none ha h)]
  exact e.keep a u ha n m, fun a ha => e.none a (NdefX.upd_none ha)⟩
theorem Grow.new {T : Addr} {H : Hp} {p : Addr} {o : HO} (h : H p = Option.none) : Grow T H (upd H p o) := (Grow.refl T H).at h

/-- what data lean on: tuples and locked lists -/
structure Keeps (H H' : Hp) : Prop where
  tu : ∀ a xs, H a = some (.tup xs) → H' a = some (.tup xs)
  fr : ∀ a o xs, H a = some (.frz o (.lst xs)) → H' a = some (.frz o (.lst xs))
  ex : ∀ a φ, H a = some (.ext φ) → H' a = some (.ext φ)
  is : ∀ a C dx fs, H a = some (.ins C dx fs) → H' a = some (.ins C dx fs)
theorem ScrL.keep {K : PySem.W.Frag} {H H' : Hp} {a : Addr} {xs : List V} (k : Keeps H H') (h : ScrL K H a xs) : ScrL K H' a xs := by
  rcases h with ⟨o, h⟩ | h
  · exact .inl ⟨o, k.2 a o xs h⟩
  · exact .inr h
section
variable {T : Addr} {K : PySem.W.Frag} {H H' : Hp}
mutual
theorem Den.keep (k : Keeps H H') : ∀ (d : D) (v : V), Den T K H v d → Den T K H' v d
  | .non, _, h => by cases h; exact .non
  | .bl b, _, h => by cases h; exact .bl b
  | .int i, _, h => by cases h; exact .int i
  | .str s, _, h => by cases h; exact .str s
  | .tup ds, _, h => by
    cases h with
    | tup h1 h2 => exact .tup (k.1 _ _ h1) (Dens.keep k ds _ h2)
  | .lst ds, _, h => by
    cases h with
    | lst h1 h2 => exact .lst (k.2 _ _ _ h1) (Dens.keep k ds _ h2)
  | .dic _ _, _, h => by cases h
  | .town, _, h => by cases h; exact .town
  | .scr _, _, h => by
    cases h with
    | scr h1 => exact .scr (h1.keep k)
  | .sk _, _, h => by
    cases h with
    | sk h1 h2 h3 h4 => exact .sk (k.4 _ _ _ _ h1) (k.2 _ _ _ h2) (k.3 _ _ h3) h4
theorem Dens.keep (k : Keeps H H') : ∀ (ds : List D) (vs : List V), Dens T K H vs ds → Dens T K H' vs ds
  | [], _, h => by cases h; exact .nil
  | d :: ds, _, h => by
    cases h with
    | cons h1 h2 => exact .cons (Den.keep k d _ h1) (Dens.keep k ds _ h2)
end
end
/-- the town: so many noughts -/
def Town (T : Addr) (H : Hp) (k : Nat) : Prop := H T = some (.lst (List.replicate k (.int 0))) ∧ k ≤ 16777216
theorem Grow.keeps {T : Addr} {H H' : Hp} {k : Nat} (g : Grow T H H') (t : Town T H k) : Keeps H H' :=
  ⟨fun a xs e => g.keep a _ e (fun z => by rw [z, t.1] at e; cases e) (fun _ z => nomatch z), fun a o xs e => g.keep a _ e (fun z => by rw [z, t.1] at e; cases e) (fun _ z => nomatch z), fun a φ e => g.keep a _ e (fun z => by rw [z, t.1] at e; cases e) (fun _ z => nomatch z), fun a C dx fs e => g.keep a _ e (fun z => by rw [z, t.1] at e; cases e) (fun _ z => nomatch z)⟩
theorem keeps_upd {H : Hp} {p : Addr} {o u : HO} (h : H p = some u) (h1 : ∀ xs, u ≠ .tup xs) (h2 : ∀ o' xs, u ≠ .frz o' (.lst xs)) (h3 : ∀ φ, u ≠ .ext φ := by intro _ z; cases z) (h4 : ∀ C dx fs, u ≠ .ins C dx fs := by intro _ _ _ z; cases z) : Keeps H (upd H p o) :=
  ⟨fun a xs e => by rw [upd_ne (fun z => by rw [z, h] at e; exact h1 xs (Option.some.inj e))]; exact e,
   fun a o' xs e => by rw [upd_ne (fun z => by rw [z, h] at e; exact h2 o' xs (Option.some.inj e))]; exact e,
   fun a φ e => by rw [upd_ne (fun z => by rw [z, h] at e; exact h3 φ (Option.some.inj e))]; exact e,
   fun a C dx fs e => by rw [upd_ne (fun z => by rw [z, h] at e; exact h4 C dx fs (Option.some.inj e))]; exact e⟩
theorem keeps_new {H : Hp} {p : Addr} {o : HO} (h : H p = none) : Keeps H (upd H p o) :=
  ⟨fun a xs e => by rw [upd_ne (ne_of_none e h)]; exact e, fun a o' xs e => by rw [upd_ne (ne_of_none e h)]; exact e, fun a φ e => by rw [upd_ne (ne_of_none e h)]; exact e, fun a C dx fs e => by rw [upd_ne (ne_of_none e h)]; exact e⟩
theorem Keeps.trans {H H1 H2 : Hp} (a : Keeps H H1) (b : Keeps H1 H2) : Keeps H H2 := ⟨fun x xs e => b.1 x xs (a.1 x xs e), fun x o xs e => b.2 x o xs (a.2 x o xs e), fun x φ e => b.3 x φ (a.3 x φ e), fun x C dx fs e => b.4 x C dx fs (a.4 x C dx fs e)⟩
theorem Keeps.refl (H : Hp) : Keeps H H := ⟨fun _ _ e => e, fun _ _ _ e => e, fun _ _ e => e, fun _ _ _ _ e => e⟩

/-- the town and the tables of code objects -/
structure WS (T : Addr) (Tb : List (Addr × Str)) (H : Hp) (k : Nat) : Prop where
  town : Town T H k
  tabs : LamX.Tabs Tb H

/-- the lambda li, made in a def, its captured values cs: what stands at f -/
abbrev CloT := Hp → Addr → Nat → List D → Addr → Prop
/-- a slot -/
def SlOk (T : Addr) (K : PySem.W.Frag) (CL : CloT) (H : Hp) : Sl → Option (Option V) → Prop
  | .un, _ => True
  | .fr d, some (some v) => Den T K H v d
  | .ow (.lst ds), some (some v) => ∃ a xs, v = .ref a ∧ a ≠ T ∧ H a = some (.lst xs) ∧ Dens T K H xs ds
  | .cl li cs, some (some v) => ∃ f, v = .ref f ∧ CL H f li cs T
  | _, _ => False
structure SR (T : Addr) (K : PySem.W.Frag) (CL : CloT) (st : G.St) (σ : L2.St) (H : Hp) : Prop where
  len : st.length = σ.length
  at' : ∀ (i : Nat) (s : Sl), st[i]? = some s → SlOk T K CL H s σ[i]?
  own : ∀ (i j : Nat) (d e : D) (a : Addr), st[i]? = some (.ow d) → st[j]? = some (.ow e) → σ[i]? = some (some (.ref a)) → σ[j]? = some (some (.ref a)) → i = j
/-- lambdas stay -/
def CloStays (CL : CloT) : Prop := ∀ H H' f li cs T, Keeps H H' → CL H f li cs T → CL H' f li cs T
theorem SlOk.grow {T : Addr} {K : PySem.W.Frag} {CL : CloT} {H H' : Hp} {k : Nat} (hc : CloStays CL) (g : Grow T H H') (t : Town T H k) : ∀ {s : Sl} {o : Option (Option V)}, SlOk T K CL H s o → SlOk T K CL H' s o := by
  intro s o h
  have kp := g.keeps t
  cases s with
  | un => exact True.intro
  | fr d =>
    cases o with
    | none => exact h
    | some o =>
      cases o with
      | none => exact h
      | some v => exact Den.keep kp d v h
  | ow d =>
    cases d with
    | lst ds =>
      cases o with
      | none => exact h
      | some o =>
        cases o with
        | none => exact h
        | some v =>
          obtain ⟨a, xs, e, n, ha, hd⟩ := h
          exact ⟨a, xs, e, n, g.keep a _ ha n (fun _ z => nomatch z), Dens.keep kp ds xs hd⟩
    | _ => cases o with
      | none => exact h
      | some o => cases o <;> exact h
  | cl li cs =>
    cases o with
    | none => exact h
    | some o =>
      cases o with
      | none => exact h
      | some v =>
        obtain ⟨f, e, hf⟩ := h
        exact ⟨f, e, hc H H' f li cs T kp hf⟩
theorem SR.grow {T : Addr} {K : PySem.W.Frag} {CL : CloT} {H H' : Hp} {k : Nat} {st : G.St} {σ : L2.St} (hc : CloStays CL) (r : SR T K CL st σ H) (g : Grow T H H') (t : Town T H k) : SR T K CL st σ H' :=
  ⟨r.len, fun i s e => (r.at' i s e).grow hc g t, r.own⟩
end G

namespace G
open PySem PySem.Spec PyProof.Rows L2

/-! ### the monad -/
theorem bind_some {α β : Type} {x : M α} {f : α → M β} {k : Nat} {r : β × Nat} : (x >>= f) k = some r ↔ ∃ a k1, x k = some (a, k1) ∧ f a k1 = some r := by
  show Option.bind (x k) (fun p => f p.1 p.2) = some r ↔ _
  cases h : x k with
  | none => simp
  | some p => exact ⟨fun e => ⟨p.1, p.2, rfl, e⟩, fun ⟨a, k1, e, q⟩ => by cases e; exact q⟩
theorem pure_some {α : Type} {a : α} {k : Nat} {r : α × Nat} : (pure a : M α) k = some r ↔ r = (a, k) := by
  show some (a, k) = some r ↔ _
  exact ⟨fun e => (Option.some.inj e).symm, fun e => by rw [e]⟩
theorem no_some {α : Type} {k : Nat} {r : α × Nat} : ¬ (no : M α) k = some r := fun e => nomatch e

/-! ### what is fixed -/
structure Cf where
  K : PySem.W.Frag
  Tb : List (Addr × Str)
  CL : CloT
  stays : CloStays CL
section
variable (g : Cf)
def tM (m : G.St → M D) : TE := fun σ H Q => ∃ T k st d k', WS T g.Tb H k ∧ SR T g.K g.CL st σ H ∧ m st k = some (d, k') ∧ ∀ v H', Grow T H H' → WS T g.Tb H' k' → Den T g.K H' v d → Q v H'
/-- a new list -/
def tN (m : G.St → M D) : TE := fun σ H Q => ∃ T k st d k', WS T g.Tb H k ∧ SR T g.K g.CL st σ H ∧ m st k = some (d, k') ∧ ∀ p xs ds H', d = .lst ds → H p = none → p ≠ T → Grow T H H' → WS T g.Tb H' k' → H' p = some (.lst xs) → Dens T g.K H' xs ds → Q (.ref p) H'
def tMB (m : G.St → M Bool) : TT := fun σ H Q => ∃ T k st b k', WS T g.Tb H k ∧ SR T g.K g.CL st σ H ∧ m st k = some (b, k') ∧ ∀ H', Grow T H H' → WS T g.Tb H' k' → Q b H'
def tMA (m : G.St → M (List D)) : TA := fun σ H Q => ∃ T k st ds k', WS T g.Tb H k ∧ SR T g.K g.CL st σ H ∧ m st k = some (ds, k') ∧ ∀ vs H', Grow T H H' → WS T g.Tb H' k' → Dens T g.K H' vs ds → Q vs H'
/-- an operation on values -/
def rM (h : D → D → M D) : R2 := fun x y H Q => ∃ T k d e r k', WS T g.Tb H k ∧ Den T g.K H x d ∧ Den T g.K H y e ∧ h d e k = some (r, k') ∧ ∀ v H', Grow T H H' → WS T g.Tb H' k' → Den T g.K H' v r → Q v H'
def rU1 (h : D → M D) : V → Hp → VK → Prop := fun x H Q => ∃ T k d r k', WS T g.Tb H k ∧ Den T g.K H x d ∧ h d k = some (r, k') ∧ ∀ v H', Grow T H H' → WS T g.Tb H' k' → Den T g.K H' v r → Q v H'
def rV1 (h : D → M D) : List V → Hp → VK → Prop := fun xs H Q => ∃ x, xs = [x] ∧ rU1 g h x H Q
def rV2 (h : D → D → M D) : List V → Hp → VK → Prop := fun xs H Q => ∃ x y, xs = [x, y] ∧ rM g h x y H Q
end
theorem PEi {X : Cx} {e : Expr} {t t' : TE} (h : PE X e t) (i : ∀ σ H Q, t' σ H Q → t σ H Q) : PE X e t' := ⟨fun pins s σ H Q I q => h.run pins s σ H Q I (i σ H Q q)⟩
theorem PTi {X : Cx} {e : Expr} {t t' : TT} (h : PT X e t) (i : ∀ σ H Q, t' σ H Q → t σ H Q) : PT X e t' := ⟨fun pins s σ H Q I q => h.run pins s σ H Q I (i σ H Q q)⟩
theorem PWi {X : Cx} {e : Expr} {t t' : TT} (h : PW X e t) (i : ∀ σ H Q, t' σ H Q → t σ H Q) : PW X e t' := ⟨fun wh pins s σ H Q I q => h.run wh pins s σ H Q I (i σ H Q q)⟩
theorem PAi {X : Cx} {e : List Expr} {t t' : TA} (h : PA X e t) (i : ∀ σ H Q, t' σ H Q → t σ H Q) : PA X e t' := ⟨fun pos pins s σ H Q I q => h.run pos pins s σ H Q I (i σ H Q q)⟩
theorem PSi {X : Cx} {e : Stmt} {t t' : TS} (h : PS X e t) (i : ∀ D σ H, t' D σ H → t D σ H) : PS X e t' := ⟨fun pins s σ H D I q => h.run pins s σ H D I (i D σ H q)⟩
theorem PSsi {X : Cx} {e : List Stmt} {t t' : TS} (h : PSs X e t) (i : ∀ D σ H, t' D σ H → t D σ H) : PSs X e t' := ⟨fun pins s σ H D I q => h.run pins s σ H D I (i D σ H q)⟩
theorem OpRi {X : Cx} {f : Value → Value → Sem Value} {r r' : R2} (h : OpR X f r) (i : ∀ x y H Q, r' x y H Q → r x y H Q) : OpR X f r' := fun pins s σ H x y v u Q I rx ry q => h pins s σ H x y v u Q I rx ry (i x y H Q q)
theorem CallRi {X : Cx} {f : Value} {r r' : List V → Hp → VK → Prop} (h : CallR X f r) (i : ∀ xs H Q, r' xs H Q → r xs H Q) : CallR X f r' := fun pins s σ H xs us Q I rx q => h pins s σ H xs us Q I rx (i xs H Q q)

section
variable {g : Cf} {X : Cx}
theorem WS.grow0 {T : Addr} {Tb : List (Addr × Str)} {H : Hp} {k : Nat} (w : WS T Tb H k) {p : Addr} {o : HO} (hp : H p = none) : WS T Tb (upd H p o) k :=
  ⟨⟨by rw [upd_ne (ne_of_none w.town.1 hp)]; exact w.town.1, w.town.2⟩, w.tabs.ext fun b u e => by rw [upd_ne (ne_of_none e hp)]; exact e⟩
theorem WS.neT {T : Addr} {Tb : List (Addr × Str)} {H : Hp} {k : Nat} (w : WS T Tb H k) {p : Addr} (hp : H p = none) : p ≠ T := fun z => by rw [z, w.town.1] at hp; cases hp
/-- something that stood is changed: not the town, no table, nothing that tables lean on -/
theorem WS.updL {T : Addr} {Tb : List (Addr × Str)} {H : Hp} {k : Nat} (w : WS T Tb H k) {p : Addr} {o : HO} {xs : List V} (hp : H p = some (.lst xs)) (n : p ≠ T) : WS T Tb (upd H p o) k := by
  refine ⟨⟨by rw [upd_ne (Ne.symm n)]; exact w.town.1, w.town.2⟩, fun q hq => ?_⟩
  obtain ⟨ps, h1, h2, h3⟩ := w.tabs q hq
  refine ⟨ps, by rw [upd_ne (fun z => by rw [z, hp] at h1; cases h1)]; exact h1, h2, fun pos cv hc => ?_⟩
  obtain ⟨c, e1, e2⟩ := h3 pos cv hc
  exact ⟨c, e1, by rw [upd_ne (fun z => by rw [z, hp] at e2; unfold LamX.CodeO at e2; cases e2)]; exact e2⟩

/-! ### a new list is locked -/
theorem PE.lockN {e : Expr} {m : G.St → M D} (hl : ∀ st k d k', m st k = some (d, k') → ∃ ds, d = .lst ds) (h : PE X e (tN g m)) : PE X e (tM g m) := by
  refine ⟨fun pins s σ H Q I hq => ?_⟩
  obtain ⟨T, k, st, d, k', w, r, em, q⟩ := hq
  refine thn (h.run pins s σ H (fun v H' => ∃ p xs ds, d = .lst ds ∧ v = .ref p ∧ H p = none ∧ p ≠ T ∧ Grow T H H' ∧ WS T g.Tb H' k' ∧ H' p = some (.lst xs) ∧ Dens T g.K H' xs ds) I
    ⟨T, k, st, d, k', w, r, em, fun p xs ds H' e1 e2 e3 e4 e5 e6 e7 => ⟨p, xs, ds, e1, rfl, e2, e3, e4, e5, e6, e7⟩⟩) fun u s' hu => ?_
  obtain ⟨v, H', I', rv, p, xs, ds, e1, e2, e3, e4, e5, e6, e7, e8⟩ := hu
  obtain ⟨o, I2⟩ := I'.lock e7 trivial
  have kp : Keeps H' (upd H' p (.frz o (.lst xs))) := keeps_upd e7 (fun _ z => nomatch z) (fun _ _ z => nomatch z)
  refine ⟨v, _, I2, rv, ?_⟩
  rw [e1] at q
  rw [e2]
  exact q _ _ (e5.at e3) (e6.updL e7 e4) (.lst upd_same (Dens.keep kp ds xs e8))
end
end G

namespace G
open PySem PySem.Spec PyProof.Rows L2

theorem line_eq : (16777216 : Nat) = sizeLine := sizeLine_eq.symm
section
variable {g : Cf} {X : Cx} {pins : List (Addr × Obj)} {σ : L2.St} {H : Hp} {s : Shared}
theorem frzL {a : Addr} {o : Obj} {xs : List V} (I : Inv X pins σ H s) (h : H a = some (.frz o (.lst xs))) :
    xs.length ≤ sizeLine ∧ ∃ (its : List Value) (n : Nat), Vals xs its ∧ xs.length = its.length ∧ s.heap.get? a = some { cls := .type "list", data := .seq its.toArray n } := by
  obtain ⟨_, z, its, n, r, e⟩ := I.hok a _ h
  exact ⟨z, its, n, r, r.length, e⟩
theorem Dens.length {T : Addr} {K : PySem.W.Frag} {H : Hp} : ∀ {ds : List D} {vs : List V}, Dens T K H vs ds → vs.length = ds.length
  | [], _, h => by cases h; rfl
  | _ :: _, _, h => by
    cases h with
    | cons _ h2 => simp [Dens.length h2]
theorem Dens.append {T : Addr} {K : PySem.W.Frag} {H : Hp} : ∀ {ds es : List D} {vs ws : List V}, Dens T K H vs ds → Dens T K H ws es → Dens T K H (vs ++ ws) (ds ++ es)
  | [], _, _, _, h, h' => by cases h; exact h'
  | _ :: _, _, _, _, h, h' => by
    cases h with
    | cons h1 h2 => exact .cons h1 (Dens.append h2 h')
theorem Dens.get {T : Addr} {K : PySem.W.Frag} {H : Hp} : ∀ {ds : List D} {vs : List V} {i : Nat} {d : D}, Dens T K H vs ds → ds[i]? = some d → ∃ v, vs[i]? = some v ∧ Den T K H v d
  | [], _, _, _, h, e => by simp at e
  | x :: ds, _, 0, d, h, e => by
    cases h with
    | cons h1 h2 =>
      simp at e
      subst e
      exact ⟨_, rfl, h1⟩
  | x :: ds, _, i + 1, d, h, e => by
    cases h with
    | cons h1 h2 =>
      obtain ⟨v, e1, e2⟩ := Dens.get (i := i) h2 (by simpa using e)
      exact ⟨v, by simpa using e1, e2⟩
theorem Dens.take {T : Addr} {K : PySem.W.Frag} {H : Hp} : ∀ {ds : List D} {vs : List V} (n : Nat), Dens T K H vs ds → Dens T K H (vs.take n) (ds.take n)
  | _, _, 0, _ => .nil
  | [], _, _ + 1, h => by cases h; exact .nil
  | _ :: _, _, n + 1, h => by
    cases h with
    | cons h1 h2 => exact .cons h1 (Dens.take n h2)
theorem Dens.drop {T : Addr} {K : PySem.W.Frag} {H : Hp} : ∀ {ds : List D} {vs : List V} (n : Nat), Dens T K H vs ds → Dens T K H (vs.drop n) (ds.drop n)
  | _, _, 0, h => h
  | [], _, _ + 1, h => by cases h; exact .nil
  | _ :: _, _, n + 1, h => by
    cases h with
    | cons h1 h2 => exact Dens.drop n h2
theorem Dens.set {T : Addr} {K : PySem.W.Frag} {H : Hp} {v : V} {d : D} (hd : Den T K H v d) : ∀ {ds : List D} {vs : List V} (n : Nat), Dens T K H vs ds → Dens T K H (vs.set n v) (ds.set n d)
  | [], _, _, h => by cases h; exact .nil
  | _ :: _, _, 0, h => by
    cases h with
    | cons h1 h2 => exact .cons hd h2
  | _ :: _, _, n + 1, h => by
    cases h with
    | cons h1 h2 => exact .cons h1 (Dens.set hd n h2)
theorem Dens.erase {T : Addr} {K : PySem.W.Frag} {H : Hp} : ∀ {ds : List D} {vs : List V} (n : Nat), Dens T K H vs ds → Dens T K H (vs.eraseIdx n) (ds.eraseIdx n)
  | [], _, _, h => by cases h; exact .nil
  | _ :: _, _, 0, h => by
    cases h with
    | cons h1 h2 => exact h2
  | _ :: _, _, n + 1, h => by
    cases h with
    | cons h1 h2 => exact .cons h1 (Dens.erase n h2)
theorem Dens.rev {T : Addr} {K : PySem.W.Frag} {H : Hp} : ∀ {ds : List D} {vs : List V}, Dens T K H vs ds → Dens T K H vs.reverse ds.reverse
  | [], _, h => by cases h; exact .nil
  | d :: ds, _, h => by
    cases h with
    | cons h1 h2 =>
      rw [List.reverse_cons, List.reverse_cons]
      exact (Dens.rev h2).append (.cons h1 .nil)
theorem Dens.rep {T : Addr} {K : PySem.W.Frag} {H : Hp} {ds : List D} {vs : List V} (h : Dens T K H vs ds) : ∀ k : Nat, Dens T K H (List.replicate k vs).flatten (List.replicate k ds).flatten
  | 0 => .nil
  | k + 1 => by
    rw [List.replicate_succ, List.replicate_succ, List.flatten_cons, List.flatten_cons]
    exact h.append (Dens.rep h k)
theorem Dens.ne {T : Addr} {K : PySem.W.Frag} {H : Hp} {ds : List D} {vs : List V} (h : Dens T K H vs ds) : (vs = [] ↔ ds = []) := by
  cases ds with
  | nil => cases h; simp
  | cons d ds => cases h; simp
/-- behind a rule whose new list is locked -/
def LK (Q : VK) : VK := fun v H' => ∃ p xs, v = .ref p ∧ H' p = some (.lst xs) ∧ ∀ o, Q v (upd H' p (.frz o (.lst xs)))
theorem EP.lock {Q : VK} {u : Value} {s' : Shared} (h : EP X pins σ (LK Q) u s') : EP X pins σ Q u s' := by
  obtain ⟨v, H', I, r, p, xs, e, hp, q⟩ := h
  obtain ⟨o, I2⟩ := I.lock hp trivial
  exact ⟨v, _, I2, r, q o⟩
theorem OpR.lock {f : Value → Value → Sem Value} {r : R2} (h : OpR X f r) : OpR X f (fun x y H Q => r x y H (LK Q)) := fun pins s σ H x y v u Q I rx ry q =>
  thn (h pins s σ H x y v u (LK Q) I rx ry q) fun _ _ z => EP.lock z
theorem CallR.lock {f : Value} {r : List V → Hp → VK → Prop} (h : CallR X f r) : CallR X f (fun xs H Q => r xs H (LK Q)) := fun pins s σ H xs us Q I rx q =>
  thn (h pins s σ H xs us (LK Q) I rx q) fun _ _ z => EP.lock z
/-- the new list, locked, is data -/
theorem LK.new {T : Addr} {k : Nat} {p : Addr} {xs : List V} {ds : List D} {Q : VK} (w : WS T g.Tb H k) (hp : H p = none) (hd : Dens T g.K H xs ds)
    (q : ∀ v H', Grow T H H' → WS T g.Tb H' k → Den T g.K H' v (.lst ds) → Q v H') : LK Q (.ref p) (upd H p (.lst xs)) := by
  refine ⟨p, xs, rfl, upd_same, fun o => ?_⟩
  rw [upd_upd]
  exact q _ _ (Grow.new hp) (w.grow0 hp) (.lst upd_same (Dens.keep (keeps_new hp) ds xs hd))
theorem newT {T : Addr} {k : Nat} {p : Addr} {xs : List V} {ds : List D} {Q : VK} (w : WS T g.Tb H k) (hp : H p = none) (hd : Dens T g.K H xs ds)
    (q : ∀ v H', Grow T H H' → WS T g.Tb H' k → Den T g.K H' v (.tup ds) → Q v H') : Q (.ref p) (upd H p (.tup xs)) :=
  q _ _ (Grow.new hp) (w.grow0 hp) (.tup upd_same (Dens.keep (keeps_new hp) ds xs hd))

/-! ### + - * // % -/
theorem strOf_append (a b : List Nat) : strOf a ++ strOf b = strOf (a ++ b) := by
  show (⟨(strOf a).cps ++ (strOf b).cps⟩ : Str) = _
  simp [strOf]
theorem strOf_length (a : List Nat) : (strOf a).length = a.length := by
  show (strOf a).cps.size = _
  simp [strOf]
theorem catF {o1 o2 : Obj} {l b : Addr} {xs zs : List V} {Q : VK} (I : Inv X pins σ H s) (h1 : H l = some (.frz o1 (.lst xs))) (h2 : H b = some (.frz o2 (.lst zs))) (hz : xs.length + zs.length ≤ sizeLine)
    (q : ∀ p, H p = none → Q (.ref p) (upd H p (.lst (xs ++ zs)))) : wpAny (model X.prog X.w) X.A (binaryOp .Add (.ref l) (.ref b)) (EP X pins σ Q) X.xe s := by
  obtain ⟨z, its, n, r, hl, e⟩ := frzL I h1
  obtain ⟨z2, its2, n2, r2, hl2, e2⟩ := frzL I h2
  refine PySem.P.add_list e e2 ?_ (by rw [List.size_toArray, List.size_toArray]; omega)
  have ea : its.toArray ++ its2.toArray = (its ++ its2).toArray := by simp
  rw [ea]
  exact ⟨.ref _, _, I.lnew (t' := s.toks) (r.append r2) (by rw [List.length_append]; omega), rfl, q _ I.fresh⟩
theorem op_addD (hK : X.K = g.K) : OpR X (binaryOp .Add) (rM g addD) := by
  intro pins s σ H x y v u Q I rx ry h
  obtain ⟨T, k, d, e, r, k', w, hd, he, em, q⟩ := h
  unfold addD at em
  split at em
  · cases hd; cases he
    cases pure_some.mp em
    exact op_add pins s σ H _ _ v u Q I rx ry ⟨_, _, rfl, rfl, q _ H (Grow.refl T H) w (.int _)⟩
  · cases hd with
    | tup h1 h2 =>
      cases he with
      | tup h3 h4 =>
        split at em
        · rename_i hz
          cases pure_some.mp em
          refine op_catA pins s σ H _ _ v u Q I rx ry ⟨_, _, _, _, rfl, rfl, .of h1, .of h3, by rw [h2.length, h4.length, sizeLine_eq]; exact hz, fun e => ?_, fun _ e => ?_, fun _ _ p hp => ?_⟩
          · subst e
            cases h2
            exact q _ H (Grow.refl T H) w (.tup h3 h4)
          · subst e
            cases h4
            rw [List.append_nil] at q
            exact q _ H (Grow.refl T H) w (.tup h1 h2)
          · exact newT w hp (h2.append h4) q
        · exact absurd em no_some
  · cases hd with
    | lst h1 h2 =>
      cases he with
      | lst h3 h4 =>
        split at em
        · rename_i hz
          cases pure_some.mp em
          cases rx; cases ry
          refine thn (catF (Q := LK Q) I h1 h3 (by rw [h2.length, h4.length, sizeLine_eq]; exact hz) fun p hp => ?_) fun _ _ z => EP.lock z
          exact LK.new w hp (h2.append h4) q
        · exact absurd em no_some
  · cases hd; cases he
    split at em
    · rename_i hz
      cases pure_some.mp em
      refine op_add_str pins s σ H _ _ v u Q I rx ry ⟨_, _, rfl, rfl, by rw [strOf_length, strOf_length, sizeLine_eq]; exact hz, ?_⟩
      rw [strOf_append]
      exact q _ H (Grow.refl T H) w (.str _)
    · exact absurd em no_some
  · exact absurd em no_some
theorem op_subD : OpR X (binaryOp .Sub) (rM g subD) := by
  intro pins s σ H x y v u Q I rx ry h
  obtain ⟨T, k, d, e, r, k', w, hd, he, em, q⟩ := h
  unfold subD at em
  split at em
  · cases hd; cases he
    cases pure_some.mp em
    exact op_sub pins s σ H _ _ v u Q I rx ry ⟨_, _, rfl, rfl, q _ H (Grow.refl T H) w (.int _)⟩
  · exact absurd em no_some
theorem op_fdvD : OpR X (binaryOp .FloorDiv) (rM g fdvD) := by
  intro pins s σ H x y v u Q I rx ry h
  obtain ⟨T, k, d, e, r, k', w, hd, he, em, q⟩ := h
  unfold fdvD at em
  split at em
  · cases hd; cases he
    split at em
    · rename_i hz
      cases pure_some.mp em
      exact op_fdiv pins s σ H _ _ v u Q I rx ry ⟨_, _, rfl, rfl, ⟨hz.1, by have := absLe_of.mp hz.2; omega⟩, q _ H (Grow.refl T H) w (.int _)⟩
    · exact absurd em no_some
  · exact absurd em no_some
theorem op_modD : OpR X (binaryOp .Mod) (rM g modD) := by
  intro pins s σ H x y v u Q I rx ry h
  obtain ⟨T, k, d, e, r, k', w, hd, he, em, q⟩ := h
  unfold modD at em
  split at em
  · cases hd; cases he
    split at em
    · rename_i hz
      cases pure_some.mp em
      exact op_mod pins s σ H _ _ v u Q I rx ry ⟨_, _, rfl, rfl, hz, q _ H (Grow.refl T H) w (.int _)⟩
    · exact absurd em no_some
  · exact absurd em no_some
end
end G

set_option maxHeartbeats 4000000
namespace G
open PySem PySem.Spec PyProof.Rows L2

theorem tuple_mul_same (l : Addr) (items : Array Value) (n : Nat) (x : Int) (u : Tok) (c0 : (decide (x < -(2 ^ 63)) || decide (x ≥ 2 ^ 63)) = false) (c1 : (items.isEmpty || x == 1) = true) (dd : Option Addr) (sl : Array (Option Value)) :
    Meets (Builtin.«tuple.__mul__» ⟨[.ref l, .int x u], []⟩) (fun _ R s => s.heap.get? l = some { cls := .type "tuple", dict := dd, data := .seq items n, slots := sl } ∧ R (.ok (.ret (Value.ref l))) s) :=
  .of_wp fun prog w A R s h => by
    obtain ⟨hp, g, d, tk, os⟩ := s
    obtain ⟨hl, h⟩ := h
    have f1 := AutoSeq1.idx_int
    wp_walk using wpAny_loadPart' hl
    repeat (first
      | (refine wpAny_ite_false (decide_eq_false (by rw [c0]; exact Bool.false_ne_true)) ?_; wp_walk using wpAny_loadPart' hl)
      | (refine wpAny_ite_true (decide_eq_true (by rw [c1])) ?_; wp_walk using wpAny_loadPart' hl))
    exact ⟨_, rfl, h⟩
theorem tuple_mul_zero (l : Addr) (items : Array Value) (n : Nat) (dd : Option Addr) (sl : Array (Option Value)) (x : Int) (u : Tok) (c0 : (decide (x < -(2 ^ 63)) || decide (x ≥ 2 ^ 63)) = false) (c1 : (items.isEmpty || x == 1) = false) (c2 : (decide (x ≤ 0) || items.isEmpty) = true) :
    Meets (Builtin.«tuple.__mul__» ⟨[.ref l, .int x u], []⟩) (fun _ R s => s.heap.get? l = some { cls := .type "tuple", dict := dd, data := .seq items n, slots := sl } ∧
      R (.ok (.ret (Value.ref s.heap.objs.size))) { s with heap := s.heap.push { cls := Value.type "tuple", data := Data.seq #[] }, toks := s.toks }) :=
  .of_wp fun prog w A R s h => by
    obtain ⟨hp, g, d, tk, os⟩ := s
    obtain ⟨hl, h⟩ := h
    have f1 := AutoSeq1.idx_int
    wp_walk using wpAny_loadPart' hl
    repeat (first
      | (refine wpAny_ite_false (decide_eq_false (by rw [c0]; exact Bool.false_ne_true)) ?_; wp_walk using wpAny_loadPart' hl)
      | (refine wpAny_ite_false (decide_eq_false (by rw [c1]; exact Bool.false_ne_true)) ?_; wp_walk using wpAny_loadPart' hl)
      | (refine wpAny_ite_true (decide_eq_true (by rw [c2])) ?_; wp_walk using wpAny_loadPart' hl))
    exact ⟨_, rfl, h⟩

section
variable {g : Cf} {X : Cx} {pins : List (Addr × Obj)} {σ : L2.St} {H : Hp} {s : Shared}
theorem rep_one {α : Type} (l : List α) : rep l 1 = l := by simp [rep]
theorem rep_nil {α : Type} (k : Int) : rep ([] : List α) k = [] := by
  unfold rep
  induction k.toNat with
  | zero => rfl
  | succ n ih => rw [List.replicate_succ, List.flatten_cons, ih]; rfl
theorem rep_neg {α : Type} (l : List α) (k : Int) (h : k ≤ 0) : rep l k = [] := by
  have e : k.toNat = 0 := by omega
  simp [rep, e]
theorem repTup {l : Addr} {xs : List V} {k : Int} {t : Tok} {Q : VK} (I : Inv X pins σ H s) (hT : H l = some (.tup xs)) (h1 : -1000 ≤ k) (h2 : k ≤ 1000) (hz : xs.length ≤ 1000)
    (q0 : rep xs k = xs → Q (.ref l) H) (q : ∀ p, H p = none → Q (.ref p) (upd H p (.tup (rep xs k)))) : wpAny (model X.prog X.w) X.A (binaryOp .Mult (.ref l) (.int k t)) (EP X pins σ Q) X.xe s := by
  by_cases hb : xs ≠ [] ∧ 2 ≤ k
  · exact op_repT pins s σ H (.ref l) (.int k) _ _ Q I rfl ⟨t, rfl⟩ ⟨l, k, xs, rfl, rfl, .of hT, hb.1, hb.2, h2, hz, fun p hp => q p hp⟩
  · obtain ⟨its, r, ⟨⟨cls, dd, data, sl⟩, ho, hc, n, hd⟩, hs⟩ := I.tuple (.of hT)
    simp only at hc hd
    subst hc hd
    have hlen := r.length
    have c0 : (decide (k < -(2 ^ 63)) || decide (k ≥ 2 ^ 63)) = false := by
      rw [decide_eq_false (by omega), decide_eq_false (by omega)] <;> rfl
    by_cases hs1 : xs = [] ∨ k = 1
    · have c1 : (its.toArray.isEmpty || k == 1) = true := by
        rcases hs1 with e | e
        · subst e
          cases r
          rfl
        · subst e
          simp
      refine wpAny_binaryOp_repeat_ref (T := "tuple") (U := "int") (by decide) ⟨_, ho, rfl⟩ (fun s' => typeIs_int s' k t) noFill_tuple_mul F.fills_int_mul F.slot_int_rmul repeat_tuple F.slot_int_index.lookup
        (call_meets F.slot_int_rmul (typeIs_int s k t) F.entry_int_rmul (F.args_int_rmul_2 _ _) (int_rmul_tuple k t l its.toArray n dd sl)
          ⟨ho, rfl, ⟨_, ho, rfl⟩, call_meets F.slot_tuple_mul ⟨_, ho, rfl⟩ F.entry_tuple_mul (F.args_tuple_mul_2 _ _) (tuple_mul_same l its.toArray n k t c0 c1 dd sl) ⟨ho, ?_⟩⟩)
      refine ⟨.ref l, H, I, rfl, q0 ?_⟩
      rcases hs1 with e | e
      · rw [e, rep_nil]
      · rw [e, rep_one]
    · have hx : xs ≠ [] := fun e => hs1 (.inl e)
      have hk : k ≤ 0 := by
        have : k ≠ 1 := fun e => hs1 (.inr e)
        have : ¬ 2 ≤ k := fun e => hb ⟨hx, e⟩
        omega
      have hi : its.toArray.isEmpty = false := by
        cases its with
        | nil => cases r; exact absurd rfl hx
        | cons a b => rfl
      have c1 : (its.toArray.isEmpty || k == 1) = false := by
        rw [hi, Bool.false_or]
        exact beq_eq_false_iff_ne.mpr (by omega)
      have c2 : (decide (k ≤ 0) || its.toArray.isEmpty) = true := by rw [decide_eq_true hk] <;> rfl
      refine wpAny_binaryOp_repeat_ref (T := "tuple") (U := "int") (by decide) ⟨_, ho, rfl⟩ (fun s' => typeIs_int s' k t) noFill_tuple_mul F.fills_int_mul F.slot_int_rmul repeat_tuple F.slot_int_index.lookup
        (call_meets F.slot_int_rmul (typeIs_int s k t) F.entry_int_rmul (F.args_int_rmul_2 _ _) (int_rmul_tuple k t l its.toArray n dd sl)
          ⟨ho, rfl, ⟨_, ho, rfl⟩, call_meets F.slot_tuple_mul ⟨_, ho, rfl⟩ F.entry_tuple_mul (F.args_tuple_mul_2 _ _) (tuple_mul_zero l its.toArray n dd sl k t c0 c1 c2) ⟨ho, ?_⟩⟩)
      have q' := q s.heap.objs.size I.fresh
      rw [rep_neg xs k hk] at q'
      refine ⟨.ref s.heap.objs.size, _, I.laid (t' := s.toks) (o := .tup []) (fun b ob q => Heap.get?_push_of_some _ q) (Nat.le_refl _) ?_, rfl, q'⟩
      exact ⟨Nat.zero_le _, [], .nil, IsTup.new _ _⟩
theorem repLst {l : Addr} {o : Obj} {xs : List V} {k : Int} {t : Tok} {Q : VK} (I : Inv X pins σ H s) (hL : H l = some (.frz o (.lst xs))) (h1 : -16777216 ≤ k) (h2 : k ≤ 16777216) (hz : xs.length * k.toNat ≤ sizeLine)
    (q : ∀ p, H p = none → Q (.ref p) (upd H p (.lst (rep xs k)))) : wpAny (model X.prog X.w) X.A (binaryOp .Mult (.ref l) (.int k t)) (EP X pins σ Q) X.xe s := by
  obtain ⟨z, its, n, r, hl, e⟩ := frzL I hL
  have hlen : its.toArray.size * k.toNat ≤ sizeLine := by rw [List.size_toArray, ← hl]; exact hz
  have hcap : ¬ its.toArray.size * k.toNat > (2 ^ 63 - 1) / 8 := by
    have : (sizeLine : Nat) ≤ (2 ^ 63 - 1) / 8 := by decide
    omega
  have hfit : ¬ (!Builtin.List.listFitsIndex k) = true := by
    rw [fitsIndex_both (by omega) (by omega)]
    exact Bool.false_ne_true
  have hlong : ¬ Builtin.List.listTooLong (its.toArray.size * k.toNat) = true := by
    rw [notLongL hlen]
    exact Bool.false_ne_true
  have hnew : List.foldl (fun x1 x2 => x1 ++ x2) #[] (List.replicate (if its.toArray.isEmpty = true then 0 else k.toNat) its.toArray) = (List.replicate k.toNat its).flatten.toArray := by
    have f0 : ∀ m : Nat, List.foldl (fun x1 x2 => x1 ++ x2) #[] (List.replicate m its.toArray) = (List.replicate m its).flatten.toArray := fun m => by
      have := foldl_rep its m []
      rw [List.nil_append] at this
      exact this
    rw [f0]
    cases its with
    | nil => simp
    | cons a r' => rw [if_neg (by simp)]
  refine wpAny_binaryOp_repeat_ref (T := "list") (U := "int") (by decide) ⟨_, e, rfl⟩ (fun s' => typeIs_int s' k t) noFill_list_mul F.fills_int_mul F.slot_int_rmul repeat_list F.slot_int_index.lookup
    (call_meets F.slot_int_rmul (typeIs_int s k t) F.entry_int_rmul (F.args_int_rmul_2 _ _) (int___rmul___int_list k t l its.toArray n)
      ⟨e, rfl, ⟨_, e, rfl⟩, call_meets F.slot_list_mul ⟨_, e, rfl⟩ F.entry_list_mul (F.args_list_mul_2 _ _) (AutoListH.list___mul___list_int_3 l its.toArray n k t hfit hcap hlong) ⟨e, ?_⟩⟩)
  rw [hnew]
  exact ⟨.ref _, _, I.lnew (t' := s.toks) (r.rep k.toNat) (by rw [PyProof.Rows.lm_len_rep_flat, Nat.mul_comm]; exact hz), rfl, q _ I.fresh⟩
theorem foldl_repN (z : List Nat) : ∀ (m : Nat) (acc : List Nat), (List.replicate m z.toArray).foldl (· ++ ·) acc.toArray = (acc ++ (List.replicate m z).flatten).toArray
  | 0, acc => by simp
  | m + 1, acc => by
    rw [List.replicate_succ, List.foldl_cons, List.replicate_succ, List.flatten_cons, ← List.append_assoc, ← foldl_repN z m (acc ++ z)]
    simp
theorem lenRepN {α : Type} (z : List α) (m : Nat) : (List.replicate m z).flatten.length = m * z.length := by simp
theorem Dens.repI {T : Addr} {K : PySem.W.Frag} {H : Hp} {ds : List D} {vs : List V} (h : Dens T K H vs ds) (k : Int) : Dens T K H (G.rep vs k) (G.rep ds k) := h.rep k.toNat
theorem repStr {z : List Nat} {k : Int} {t u : Tok} {Q : VK} (I : Inv X pins σ H s) (h1 : -16777216 ≤ k) (h2 : k ≤ 16777216) (hz : z.length * k.toNat ≤ sizeLine)
    (q : Q (.str (strOf (rep z k))) H) : wpAny (model X.prog X.w) X.A (binaryOp .Mult (.str (strOf z) t) (.int k u)) (EP X pins σ Q) X.xe s := by
  have hl : (strOf z).length = z.length := strOf_length z
  refine PySem.P.mul_str (by rw [decide_eq_false (by omega), decide_eq_false (by omega)] <;> rfl) (fun h3 _ => ?_) (fun _ _ => ?_) ?_
  · rw [hl]
    have a : (z.length : Int) * k ≤ 16777216 := by
      have b : ((z.length * k.toNat : Nat) : Int) ≤ (16777216 : Nat) := by
        have := hz
        rw [sizeLine_eq] at this
        exact Int.ofNat_le.mpr this
      rw [Int.natCast_mul] at b
      have c : ((k.toNat : Nat) : Int) = k := by omega
      rw [c] at b
      exact b
    have b : (z.length : Int) ≤ (2 ^ 63 - 1) / k := by
      refine (Int.le_ediv_iff_mul_le (by omega)).mpr ?_
      omega
    omega
  · rw [hl]
    exact decide_eq_false (Nat.not_lt.mpr hz)
  · by_cases hk : k < 1
    · rw [if_pos hk]
      rw [rep_neg z k (by omega)] at q
      exact ⟨by decide, .str (strOf []), H, I.tok _, ⟨_, rfl⟩, q⟩
    · rw [if_neg hk]
      by_cases h3 : (k == 1 || (strOf z).length == 0) = true
      · rw [if_pos h3]
        have e : rep z k = z := by
          simp only [Bool.or_eq_true, beq_iff_eq] at h3
          rcases h3 with e | e
          · rw [e, rep_one]
          · rw [hl] at e
            rw [List.eq_nil_of_length_eq_zero e, rep_nil]
        rw [e] at q
        exact ⟨.str (strOf z), H, I, ⟨_, rfl⟩, q⟩
      · rw [if_neg h3]
        have e0 : ∀ m : Nat, (⟨(List.replicate m (strOf z).cps).foldl (· ++ ·) #[]⟩ : Str) = strOf (List.replicate m z).flatten := fun m => by
          have := foldl_repN z m []
          rw [List.nil_append] at this
          exact congrArg Str.mk this
        rw [e0]
        exact ⟨by rw [strOf_length, lenRepN, Nat.mul_comm]; exact hz, .str _, H, I.tok _, ⟨_, rfl⟩, q⟩
theorem abs3 {k : Int} {b : Nat} {P : Prop} (h : k.natAbs ≤ b) (p : P) : -(b : Int) ≤ k ∧ k ≤ (b : Int) ∧ P := ⟨by omega, by omega, p⟩
theorem op_mulD : OpR X (binaryOp .Mult) (rM g mulD) := by
  intro pins s σ H x y v u Q I rx ry h
  obtain ⟨T, k, d, e, r, k', w, hd, he, em, q⟩ := h
  unfold mulD at em
  split at em
  · cases hd; cases he
    split at em
    · rename_i hz
      cases pure_some.mp em
      exact op_mul pins s σ H _ _ v u Q I rx ry ⟨_, _, rfl, rfl, (Bool.or_eq_true_iff.mp hz).imp (fun z => by have := absLe_of.mp z; exact ⟨by omega, by omega⟩) (fun z => by have := absLe_of.mp z; exact ⟨by omega, by omega⟩), q _ H (Grow.refl T H) w (.int _)⟩
    · exact absurd em no_some
  · cases hd with
    | tup h1 h2 =>
      cases he
      split at em
      · rename_i hz0
        cases pure_some.mp em
        have hz1 := absLe_of.mp ((Bool.and_eq_true _ _).mp hz0).1
        have hz := (abs3 hz1 (Nat.le_of_ble_eq_true ((Bool.and_eq_true _ _).mp hz0).2))
        cases rx
        obtain ⟨t, rfl⟩ := ry
        refine repTup I h1 hz.1 hz.2.1 (by rw [h2.length]; exact hz.2.2) (fun e => ?_) fun p hp => newT w hp (h2.repI _) q
        have h4 := h2.repI ‹Int›
        rw [e] at h4
        exact q _ H (Grow.refl T H) w (.tup h1 h4)
      · exact absurd em no_some
  · cases hd with
    | lst h1 h2 =>
      cases he
      split at em
      · rename_i hz0
        cases pure_some.mp em
        have hz1 := absLe_of.mp ((Bool.and_eq_true _ _).mp hz0).1
        have hz := (abs3 hz1 (Nat.le_of_ble_eq_true ((Bool.and_eq_true _ _).mp hz0).2))
        cases rx
        obtain ⟨t, rfl⟩ := ry
        refine thn (repLst (Q := LK Q) I h1 hz.1 hz.2.1 (by rw [h2.length, sizeLine_eq]; exact hz.2.2) fun p hp => ?_) fun _ _ z => EP.lock z
        exact LK.new w hp (h2.repI _) q
      · exact absurd em no_some
  · cases hd; cases he
    split at em
    · rename_i hz0
      cases pure_some.mp em
      have hz := abs3 (absLe_of.mp ((Bool.and_eq_true _ _).mp hz0).1) (Nat.le_of_ble_eq_true ((Bool.and_eq_true _ _).mp hz0).2)
      obtain ⟨t, rfl⟩ := rx
      obtain ⟨t', rfl⟩ := ry
      exact repStr I hz.1 hz.2.1 (by rw [sizeLine_eq]; exact hz.2.2) (q _ H (Grow.refl T H) w (.str _))
    · exact absurd em no_some
  · exact absurd em no_some
end
end G

namespace G
open PySem PySem.Spec PyProof.Rows L2

mutual
def toPy : D → PyData
  | .non => .none
  | .bl b => .bool b
  | .int i => .int i
  | .str s => .str (strOf s)
  | .tup l => .tuple (toPys l)
  | .lst l => .list (toPys l)
  | .dic _ _ => .dict []
  | .town => .dict []
  | .scr _ => .dict []
  | .sk _ => .dict []
def toPys : List D → List PyData
  | [] => []
  | x :: xs => toPy x :: toPys xs
end
theorem toPys_map : ∀ l : List D, toPys l = l.map toPy
  | [] => rfl
  | x :: xs => by rw [toPys, toPys_map xs]; rfl
mutual
theorem okd_lay : ∀ (d : D) (n : Nat), okd n d = true → (toPy d).canLay0 = true ∧ (toPy d).depth ≤ n
  | .non, n, _ => by simp [toPy, PyData.canLay0, PyData.depth]
  | .bl _, n, _ => by simp [toPy, PyData.canLay0, PyData.depth]
  | .int _, n, _ => by simp [toPy, PyData.canLay0, PyData.depth]
  | .str s, n, h => by
    simp only [okd] at h
    refine ⟨?_, by simp [toPy, PyData.depth]⟩
    simp only [toPy, PyData.canLay0, PyData.strOk, strOf]
    simpa using h
  | .tup l, 0, h => by simp [okd] at h
  | .tup l, n + 1, h => by
    simp only [okd] at h
    obtain ⟨a, b⟩ := okds_lay l n h
    simp only [toPy, PyData.canLay0, PyData.depth]
    exact ⟨a, by omega⟩
  | .lst l, 0, h => by simp [okd] at h
  | .lst l, n + 1, h => by
    simp only [okd] at h
    obtain ⟨a, b⟩ := okds_lay l n h
    simp only [toPy, PyData.canLay0, PyData.depth]
    exact ⟨a, by omega⟩
  | .dic _ _, n, h => by simp [okd] at h
  | .town, n, h => by simp [okd] at h
  | .scr _, n, h => by simp [okd] at h
  | .sk _, n, h => by simp [okd] at h
theorem okds_lay : ∀ (l : List D) (n : Nat), okds n l = true → PyData.canLayAll0 (toPys l) = true ∧ PyData.depthAll (toPys l) ≤ n
  | [], n, _ => by simp [toPys, PyData.canLayAll0, PyData.depthAll]
  | x :: xs, n, h => by
    simp only [okds, Bool.and_eq_true] at h
    obtain ⟨a, b⟩ := okd_lay x n h.1
    obtain ⟨c, d⟩ := okds_lay xs n h.2
    simp only [toPys, PyData.canLayAll0, PyData.depthAll, a, c]
    exact ⟨rfl, by omega⟩
end
theorem okd_shaped {d : D} (h : okd deep d = true) : SeqAt.shaped (toPy d) = true := by
  obtain ⟨a, b⟩ := okd_lay d deep h
  unfold SeqAt.shaped
  rw [a, Bool.true_and, decide_eq_true_eq]
  unfold deep at b
  omega
theorem strOf_inj {a b : List Nat} (h : strOf a = strOf b) : a = b := by
  have := congrArg (fun s : Str => s.cps.toList) h
  simpa [strOf] using this
mutual
theorem eqv_py : ∀ (a b : D) (n m : Nat), okd n a = true → okd m b = true → PyData.eqv (toPy a) (toPy b) = eqv a b
  | .non, b, n, m, _, hb => by cases b <;> simp [toPy, PyData.eqv, eqv, okd] at hb ⊢
  | .bl _, b, n, m, _, hb => by cases b <;> simp [toPy, PyData.eqv, eqv, okd] at hb ⊢
  | .int _, b, n, m, _, hb => by cases b <;> simp [toPy, PyData.eqv, eqv, okd] at hb ⊢
  | .str s, b, n, m, _, hb => by
    cases b with
    | str t =>
      simp only [toPy, PyData.eqv, eqv]
      by_cases e : s = t
      · subst e; simp
      · rw [beq_eq_false_iff_ne.mpr (fun z => e (strOf_inj z)), beq_eq_false_iff_ne.mpr e]
    | _ => simp [toPy, PyData.eqv, eqv, okd] at hb ⊢
  | .tup l, b, 0, m, h, _ => by simp [okd] at h
  | .tup l, b, n + 1, m, h, hb => by
    cases b with
    | tup r =>
      cases m with
      | zero => simp [okd] at hb
      | succ m =>
        simp only [okd] at h hb
        simp only [toPy, PyData.eqv, eqv]
        exact eqvs_py l r n m h hb
    | _ => simp [toPy, PyData.eqv, eqv, okd] at hb ⊢
  | .lst l, b, 0, m, h, _ => by simp [okd] at h
  | .lst l, b, n + 1, m, h, hb => by
    cases b with
    | lst r =>
      cases m with
      | zero => simp [okd] at hb
      | succ m =>
        simp only [okd] at h hb
        simp only [toPy, PyData.eqv, eqv]
        exact eqvs_py l r n m h hb
    | _ => simp [toPy, PyData.eqv, eqv, okd] at hb ⊢
  | .dic _ _, _, n, _, h, _ => by simp [okd] at h
  | .town, _, n, _, h, _ => by simp [okd] at h
  | .scr _, _, n, _, h, _ => by simp [okd] at h
  | .sk _, _, n, _, h, _ => by simp [okd] at h
theorem eqvs_py : ∀ (a b : List D) (n m : Nat), okds n a = true → okds m b = true → PyData.eqvAll (toPys a) (toPys b) = eqvs a b
  | [], [], n, m, _, _ => by simp [toPys, PyData.eqvAll, eqvs]
  | [], _ :: _, n, m, _, _ => by simp [toPys, PyData.eqvAll, eqvs]
  | _ :: _, [], n, m, _, _ => by simp [toPys, PyData.eqvAll, eqvs]
  | x :: xs, y :: ys, n, m, h, hb => by
    simp only [okds, Bool.and_eq_true] at h hb
    simp only [toPys, PyData.eqvAll, eqvs]
    rw [eqv_py x y n m h.1 hb.1, eqvs_py xs ys n m h.2 hb.2]
end
mutual
theorem like_py : ∀ (a b : D), like a b = true → PySem.W.alike (toPy a) (toPy b) = true
  | .non, b, h => by cases b <;> simp [toPy, like, PySem.W.alike] at h ⊢
  | .bl _, b, h => by cases b <;> simp [toPy, like, PySem.W.alike] at h ⊢
  | .int _, b, h => by cases b <;> simp [toPy, like, PySem.W.alike] at h ⊢
  | .str _, b, h => by cases b <;> simp [toPy, like, PySem.W.alike] at h ⊢
  | .tup l, b, h => by
    cases b with
    | tup r =>
      simp only [like] at h
      simp only [toPy, PySem.W.alike]
      exact likes_py l r h
    | _ => simp [like] at h
  | .lst l, b, h => by
    cases b with
    | lst r =>
      simp only [like] at h
      simp only [toPy, PySem.W.alike]
      exact likes_py l r h
    | _ => simp [like] at h
  | .dic _ _, b, h => by cases b <;> simp [like] at h
  | .town, b, h => by cases b <;> simp [like] at h
  | .scr _, b, h => by cases b <;> simp [like] at h
  | .sk _, b, h => by cases b <;> simp [like] at h
theorem likes_py : ∀ (a b : List D), likes a b = true → PySem.W.alikeAll (toPys a) (toPys b) = true
  | [], b, _ => by simp [toPys, PySem.W.alikeAll]
  | _ :: _, [], _ => by simp [toPys, PySem.W.alikeAll]
  | x :: xs, y :: ys, h => by
    simp only [likes, Bool.and_eq_true] at h
    simp only [toPys, PySem.W.alikeAll, like_py x y h.1, likes_py xs ys h.2, Bool.and_self]
end
theorem ltStr_py : ∀ a b : List Nat, ltStr a b = decide (a < b)
  | [], [] => by simp [ltStr]
  | [], _ :: _ => by simp [ltStr]
  | _ :: _, [] => by simp [ltStr]
  | x :: xs, y :: ys => by
    rw [ltStr]
    split
    · rename_i e
      subst e
      rw [ltStr_py xs ys]
      simp [List.cons_lt_cons_iff]
    · rename_i e
      simp [List.cons_lt_cons_iff, e]
mutual
theorem lt_py : ∀ (a b : D) (n m : Nat), okd n a = true → okd m b = true → like a b = true → PySem.W.dataLt (toPy a) (toPy b) = lt a b
  | .non, b, n, m, _, _, h => by
    cases b <;> simp [like] at h
    simp only [toPy, lt]
    unfold PySem.W.dataLt
    simp only [PySem.W.keyToks]
    exact PyProof.Rows.lex_irrefl _
  | .bl x, b, n, m, _, _, h => by
    cases b with
    | bl y =>
      simp only [toPy, lt]
      rw [PySem.W.dataLt_bool]
      cases x <;> cases y <;> rfl
    | _ => simp [like] at h
  | .int x, b, n, m, _, _, h => by
    cases b <;> simp [like] at h
    simp only [toPy, lt]
    rw [PySem.W.dataLt_int]
  | .str x, b, n, m, _, _, h => by
    cases b <;> simp [like] at h
    simp only [toPy, lt]
    rw [PySem.W.dataLt_str, ltStr_py]
    simp only [strOf, List.toList_toArray]
    exact decide_eq_decide.mpr Iff.rfl
  | .tup l, b, 0, m, ha, hb, h => by simp [okd] at ha
  | .tup l, b, n + 1, m, ha, hb, h => by
    cases b with
    | tup r =>
      cases m with
      | zero => simp [okd] at hb
      | succ m =>
        simp only [okd] at ha hb
        simp only [like] at h
        simp only [toPy, lt]
        rw [PySem.W.dataLt_tuple]
        exact lts_py l r n m ha hb h
    | _ => simp [like] at h
  | .lst l, b, 0, m, ha, hb, h => by simp [okd] at ha
  | .lst l, b, n + 1, m, ha, hb, h => by
    cases b with
    | lst r =>
      cases m with
      | zero => simp [okd] at hb
      | succ m =>
        simp only [okd] at ha hb
        simp only [like] at h
        simp only [toPy, lt]
        rw [PySem.W.dataLt_list]
        exact lts_py l r n m ha hb h
    | _ => simp [like] at h
  | .dic _ _, b, _, _, _, _, h => by cases b <;> simp [like] at h
  | .town, b, _, _, _, _, h => by cases b <;> simp [like] at h
  | .scr _, b, _, _, _, _, h => by cases b <;> simp [like] at h
  | .sk _, b, _, _, _, _, h => by cases b <;> simp [like] at h
theorem lts_py : ∀ (a b : List D) (n m : Nat), okds n a = true → okds m b = true → likes a b = true → PyProof.Rows.lexLt PyProof.Rows.itemOrd (PySem.W.keyToksAll (toPys a)) (PySem.W.keyToksAll (toPys b)) = lts a b
  | [], [], _, _, _, _, _ => by
    simp only [toPys, lts]
    exact PyProof.Rows.lex_irrefl _
  | [], y :: ys, _, _, _, _, _ => by
    simp only [toPys, lts]
    rw [PySem.W.toks_all_cons]
    simp only [PySem.W.keyToksAll]
    rw [PyProof.Rows.lex_diff (O := PyProof.Rows.itemOrd) (by simp)]
    simp [PyProof.Rows.itemLt]
  | x :: xs, [], _, _, _, _, _ => by
    simp only [toPys, lts]
    rw [PySem.W.toks_all_cons]
    simp only [PySem.W.keyToksAll]
    rw [PyProof.Rows.lex_diff (O := PyProof.Rows.itemOrd) (by simp)]
    simp [PyProof.Rows.itemLt]
  | x :: xs, y :: ys, n, m, ha, hb, h => by
    simp only [okds, Bool.and_eq_true] at ha hb
    simp only [likes, Bool.and_eq_true] at h
    simp only [toPys, lts]
    rw [PySem.W.dataLt_cons (like_py x y h.1), eqv_py x y n m ha.1 hb.1, lts_py xs ys n m ha.2 hb.2 h.2, lt_py x y n m ha.1 hb.1 h.1]
end
section
variable {T : Addr} {K : PySem.W.Frag} {H : Hp}
mutual
theorem Den.dp : ∀ (d : D) (v : V) (n : Nat), okd n d = true → Den T K H v d → Dp K H v (toPy d)
  | .non, _, _, _, h => by cases h; exact .non
  | .bl _, _, _, _, h => by cases h; exact .bl _
  | .int _, _, _, _, h => by cases h; exact .int _
  | .str _, _, _, _, h => by cases h; exact .str _
  | .tup l, _, 0, ho, h => by simp [okd] at ho
  | .tup l, _, n + 1, ho, h => by
    simp only [okd] at ho
    cases h with
    | tup h1 h2 => exact .tup (.of h1) (Dens.dp l _ n ho h2)
  | .lst l, _, 0, ho, h => by simp [okd] at ho
  | .lst l, _, n + 1, ho, h => by
    simp only [okd] at ho
    cases h with
    | lst h1 h2 => exact .lst (.inl (.inr ⟨_, h1⟩)) (Dens.dp l _ n ho h2)
  | .dic _ _, _, n, ho, _ => by simp [okd] at ho
  | .town, _, n, ho, _ => by simp [okd] at ho
  | .scr _, _, n, ho, _ => by simp [okd] at ho
  | .sk _, _, n, ho, _ => by simp [okd] at ho
theorem Dens.dp : ∀ (l : List D) (vs : List V) (n : Nat), okds n l = true → Dens T K H vs l → DpAll K H vs (toPys l)
  | [], _, _, _, h => by cases h; exact .nil
  | d :: ds, _, n, ho, h => by
    simp only [okds, Bool.and_eq_true] at ho
    cases h with
    | cons h1 h2 => exact .cons (Den.dp d _ n ho.1 h1) (Dens.dp ds _ n ho.2 h2)
end
end
/-- data, or a list that its slot owns -/
def DenB (T : Addr) (K : PySem.W.Frag) (H : Hp) (v : V) (d : D) : Prop :=
  Den T K H v d ∨ ∃ a xs ds, d = .lst ds ∧ v = .ref a ∧ H a = some (.lst xs) ∧ Dens T K H xs ds
section
variable (g : Cf)
/-- the left one may be owned -/
def rB1 (h : D → D → M D) : R2 := fun x y H Q => ∃ T k d e r k', WS T g.Tb H k ∧ DenB T g.K H x d ∧ Den T g.K H y e ∧ h d e k = some (r, k') ∧ ∀ v H', Grow T H H' → WS T g.Tb H' k' → Den T g.K H' v r → Q v H'
/-- the right one may be owned -/
def rB2 (h : D → D → M D) : R2 := fun x y H Q => ∃ T k d e r k', WS T g.Tb H k ∧ Den T g.K H x d ∧ DenB T g.K H y e ∧ h d e k = some (r, k') ∧ ∀ v H', Grow T H H' → WS T g.Tb H' k' → Den T g.K H' v r → Q v H'
end
theorem DenB.dp {T : Addr} {K : PySem.W.Frag} {H : Hp} {d : D} {v : V} {n : Nat} (o : okd n d = true) (h : DenB T K H v d) : Dp K H v (toPy d) := by
  rcases h with h | ⟨a, xs, ds, e1, e2, e3, e4⟩
  · exact Den.dp d v n o h
  · subst e1 e2
    cases n with
    | zero => simp [okd] at o
    | succ n =>
      simp only [okd] at o
      exact .lst (.of e3) (Dens.dp ds xs n o e4)
end G

namespace G
open PySem PySem.Spec PyProof.Rows L2

section
variable {g : Cf} {X : Cx}
theorem if_some {α : Type} {c : Prop} [Decidable c] {m : M α} {k : Nat} {r : α × Nat} (h : (if c then m else no) k = some r) : c ∧ m k = some r := by
  by_cases hc : c
  · rw [if_pos hc] at h; exact ⟨hc, h⟩
  · rw [if_neg hc] at h; exact absurd h no_some
theorem bfin {T : Addr} {k k' : Nat} {b : Bool} {r : D} {Q : VK} {H : Hp} (w : WS T g.Tb H k) (e : (pure (.bl b) : M D) k = some (r, k'))
    (q : ∀ v H', Grow T H H' → WS T g.Tb H' k' → Den T g.K H' v r → Q v H') : Q (.bl b) H := by
  cases pure_some.mp e
  exact q _ H (Grow.refl T H) w (.bl b)
theorem op_eqM (hK : X.K = g.K) (hu : X.A.units + 64 < cLine) : OpR X (compareOp .Eq) (rM g (cmpM .eq)) := by
  intro pins s σ H x y v u Q I rx ry h
  obtain ⟨T, k, d, e, r, k', w, hd, he, em, q⟩ := h
  obtain ⟨b, k1, e1, e2⟩ := bind_some.mp em
  obtain ⟨hc, e3⟩ := if_some e1
  cases pure_some.mp e3
  rw [Bool.and_eq_true] at hc
  refine op_eqD hu pins s σ H x y v u Q I rx ry ⟨toPy d, toPy e, ?_, ?_, okd_shaped hc.1, okd_shaped hc.2, ?_⟩
  · rw [hK]; exact Den.dp d x deep hc.1 hd
  · rw [hK]; exact Den.dp e y deep hc.2 he
  · rw [eqv_py d e _ _ hc.1 hc.2]
    exact bfin w e2 q
theorem op_neM (hK : X.K = g.K) (hu : X.A.units + 64 < cLine) : OpR X (compareOp .NotEq) (rM g (cmpM .ne)) := by
  intro pins s σ H x y v u Q I rx ry h
  obtain ⟨T, k, d, e, r, k', w, hd, he, em, q⟩ := h
  obtain ⟨b, k1, e1, e2⟩ := bind_some.mp em
  obtain ⟨hc, e3⟩ := if_some e1
  cases pure_some.mp e3
  rw [Bool.and_eq_true] at hc
  refine op_neD hu pins s σ H x y v u Q I rx ry ⟨toPy d, toPy e, ?_, ?_, okd_shaped hc.1, okd_shaped hc.2, ?_⟩
  · rw [hK]; exact Den.dp d x deep hc.1 hd
  · rw [hK]; exact Den.dp e y deep hc.2 he
  · rw [eqv_py d e _ _ hc.1 hc.2]
    exact bfin w e2 q
theorem reads_of {pins : List (Addr × Obj)} {σ : L2.St} {H : Hp} {s : Shared} (hK : X.K = g.K) (I : Inv X pins σ H s) {T : Addr} {d : D} {x : V} {u : Value} {n : Nat} (ho : okd n d = true) (h : Den T g.K H x d) (r : RelV x u) : ∃ as, Reads s.heap u (toPy d) as :=
  Dp.reads I _ x u (by rw [hK]; exact Den.dp d x n ho h) r
theorem reads_ofB {pins : List (Addr × Obj)} {σ : L2.St} {H : Hp} {s : Shared} (hK : X.K = g.K) (I : Inv X pins σ H s) {T : Addr} {d : D} {x : V} {u : Value} {n : Nat} (ho : okd n d = true) (h : DenB T g.K H x d) (r : RelV x u) : ∃ as, Reads s.heap u (toPy d) as :=
  Dp.reads I _ x u (by rw [hK]; exact h.dp ho) r
theorem op_ltM (hK : X.K = g.K) (hu : X.A.units + 64 < cLine) : OpR X (compareOp .Lt) (rM g (cmpM .lt)) := by
  intro pins s σ H x y v u Q I rx ry h
  obtain ⟨T, k, d, e, r, k', w, hd, he, em, q⟩ := h
  obtain ⟨b, k1, e1, e2⟩ := bind_some.mp em
  have e1 : ltD d e k = some (b, k1) := e1
  unfold ltD at e1
  split at e1
  · cases hd; cases he
    cases pure_some.mp e1
    exact op_lt pins s σ H _ _ v u Q I rx ry ⟨_, _, rfl, rfl, bfin w e2 q⟩
  · rename_i l1 l2 _
    obtain ⟨hc, e3⟩ := if_some e1
    cases pure_some.mp e3
    rw [Bool.and_eq_true, Bool.and_eq_true] at hc
    have o1 : okd (deep + 1) (.tup l1) = true := by simp only [okd]; exact hc.1.1
    have o2 : okd (deep + 1) (.tup l2) = true := by simp only [okd]; exact hc.1.2
    have lk : like (.tup l1) (.tup l2) = true := by simp only [like]; exact hc.2
    obtain ⟨as, r1⟩ := reads_of hK I o1 hd rx
    obtain ⟨bs, r2⟩ := reads_of hK I o2 he ry
    have hdp := (okd_lay _ _ o1).2
    have z := PySem.W.rcLt_alike _ _ X.A s v u _ _ r1 r2 (like_py _ _ lk) (fun z => by simp [toPy] at z) (by
      have h2 : min (toPy (.tup l1)).depth (toPy (.tup l2)).depth ≤ (toPy (.tup l1)).depth := Nat.min_le_left _ _
      unfold deep at hdp
      omega)
    rw [lt_py _ _ _ _ o1 o2 lk] at z
    exact z X.prog X.w X.xe (EP X pins σ Q) ⟨.bl _, H, I, rfl, bfin w (by simpa only [lt] using e2) q⟩
  · exact absurd e1 no_some
theorem op_leM (hK : X.K = g.K) (hu : X.A.units + 64 < cLine) : OpR X (compareOp .LtE) (rM g (cmpM .le)) := by
  intro pins s σ H x y v u Q I rx ry h
  obtain ⟨T, k, d, e, r, k', w, hd, he, em, q⟩ := h
  obtain ⟨b, k1, e1, e2⟩ := bind_some.mp em
  have e1 : leD' d e k = some (b, k1) := e1
  unfold leD' at e1
  split at e1
  · cases hd; cases he
    cases pure_some.mp e1
    exact op_le pins s σ H _ _ v u Q I rx ry ⟨_, _, rfl, rfl, bfin w e2 q⟩
  · rename_i l1 l2 _
    obtain ⟨hc, e3⟩ := if_some e1
    cases pure_some.mp e3
    rw [Bool.and_eq_true, Bool.and_eq_true, Bool.and_eq_true] at hc
    have o1 : okd (deep + 1) (.tup l1) = true := by simp only [okd]; exact hc.1.1.1
    have o2 : okd (deep + 1) (.tup l2) = true := by simp only [okd]; exact hc.1.1.2
    have lk : like (.tup l1) (.tup l2) = true := by simp only [like]; exact hc.1.2
    have lk' : like (.tup l2) (.tup l1) = true := by simp only [like]; exact hc.2
    obtain ⟨as, r1⟩ := reads_of hK I o1 hd rx
    obtain ⟨bs, r2⟩ := reads_of hK I o2 he ry
    have hdp := (okd_lay _ _ o1).2
    refine PySem.W.le_data r1 r2 (like_py _ _ lk) (fun z => by simp [toPy] at z) (by
      have h2 : min (toPy (.tup l1)).depth (toPy (.tup l2)).depth ≤ (toPy (.tup l1)).depth := Nat.min_le_left _ _
      unfold deep at hdp
      omega) ?_
    rw [lt_py _ _ _ _ o2 o1 lk']
    exact ⟨.bl _, H, I, rfl, bfin w (by simpa only [lt] using e2) q⟩
  · exact absurd e1 no_some
theorem op_gtM (hK : X.K = g.K) (hu : X.A.units + 64 < cLine) : OpR X (compareOp .Gt) (rM g (cmpM .gt)) := by
  intro pins s σ H x y v u Q I rx ry h
  obtain ⟨T, k, d, e, r, k', w, hd, he, em, q⟩ := h
  obtain ⟨b, k1, e1, e2⟩ := bind_some.mp em
  have e1 : gtD d e k = some (b, k1) := e1
  unfold gtD at e1
  split at e1
  · cases hd; cases he
    cases pure_some.mp e1
    exact op_gt pins s σ H _ _ v u Q I rx ry ⟨_, _, rfl, rfl, bfin w e2 q⟩
  · rename_i l1 l2 _
    obtain ⟨hc, e3⟩ := if_some e1
    cases pure_some.mp e3
    rw [Bool.and_eq_true, Bool.and_eq_true, Bool.and_eq_true] at hc
    have o1 : okd (deep + 1) (.tup l1) = true := by simp only [okd]; exact hc.1.1.1
    have o2 : okd (deep + 1) (.tup l2) = true := by simp only [okd]; exact hc.1.1.2
    have lk : like (.tup l1) (.tup l2) = true := by simp only [like]; exact hc.1.2
    have lk' : like (.tup l2) (.tup l1) = true := by simp only [like]; exact hc.2
    obtain ⟨as, r1⟩ := reads_of hK I o1 hd rx
    obtain ⟨bs, r2⟩ := reads_of hK I o2 he ry
    have hdp := (okd_lay _ _ o1).2
    refine PySem.W.gt_data r1 r2 (like_py _ _ lk) (fun z => by simp [toPy] at z) (by
      have h2 : min (toPy (.tup l1)).depth (toPy (.tup l2)).depth ≤ (toPy (.tup l1)).depth := Nat.min_le_left _ _
      unfold deep at hdp
      omega) ?_
    rw [lt_py _ _ _ _ o2 o1 lk']
    exact ⟨.bl _, H, I, rfl, bfin w (by simpa only [lt] using e2) q⟩
  · exact absurd e1 no_some
theorem op_geM : OpR X (compareOp .GtE) (rM g (cmpM .ge)) := by
  intro pins s σ H x y v u Q I rx ry h
  obtain ⟨T, k, d, e, r, k', w, hd, he, em, q⟩ := h
  obtain ⟨b, k1, e1, e2⟩ := bind_some.mp em
  have e1 : geD d e k = some (b, k1) := e1
  unfold geD at e1
  split at e1
  · cases hd; cases he
    cases pure_some.mp e1
    exact op_ge pins s σ H _ _ v u Q I rx ry ⟨_, _, rfl, rfl, bfin w e2 q⟩
  · exact absurd e1 no_some
def cpOp : Cp → CmpOp
  | .eq => .Eq
  | .ne => .NotEq
  | .lt => .Lt
  | .le => .LtE
  | .gt => .Gt
  | .ge => .GtE
theorem op_cmp (hK : X.K = g.K) (hu : X.A.units + 64 < cLine) : ∀ o : Cp, OpR X (compareOp (cpOp o)) (rM g (cmpM o))
  | .eq => op_eqM hK hu
  | .ne => op_neM hK hu
  | .lt => op_ltM hK hu
  | .le => op_leM hK hu
  | .gt => op_gtM hK hu
  | .ge => op_geM

/-! ### in -/
theorem any_has : ∀ (l : List D) (x : D) (n m : Nat), okds n l = true → okd m x = true → ((toPys l).any fun y => PyData.eqv y (toPy x)) = has l x
  | [], _, _, _, _, _ => by simp [toPys, has]
  | y :: ys, x, n, m, h, hx => by
    simp only [okds, Bool.and_eq_true] at h
    simp only [toPys, List.any_cons, has]
    rw [eqv_py y x n m h.1 hx, any_has ys x n m h.2 hx]
def inOp (n : Bool) : CmpOp := if n then .NotIn else .In
theorem op_inM (hK : X.K = g.K) (hu : X.A.units + 65 < cLine) (n : Bool) : OpR X (compareOp (inOp n)) (rB2 g (inM n)) := by
  intro pins s σ H x y v u Q I rx ry h
  obtain ⟨T, k, d, e, r, k', w, hd, he, em, q⟩ := h
  obtain ⟨b, k1, e1, e2⟩ := bind_some.mp em
  unfold inD at e1
  split at e1
  · rename_i l
    obtain ⟨hc, e3⟩ := if_some e1
    cases pure_some.mp e3
    rw [Bool.and_eq_true] at hc
    have o2 : okd (deep + 1) (.tup l) = true := by simp only [okd]; exact hc.2
    obtain ⟨as, r1⟩ := reads_of hK I hc.1 hd rx
    obtain ⟨bs, r2⟩ := reads_ofB hK I o2 he ry
    simp only [toPy] at r2
    have hz := room_in_shaped (A := X.A) (xs := toPys l) (okd_shaped hc.1) hu
    cases n with
    | false =>
      refine SeqAt.in_tuple_reads r2 r1 (okds_lay l _ hc.2).1 (okd_lay d _ hc.1).1 hz ?_
      rw [any_has l d _ _ hc.2 hc.1]
      exact ⟨.bl _, H, I, rfl, bfin w (by simpa using e2) q⟩
    | true =>
      refine SeqAt.notIn_tuple_reads r2 r1 (okds_lay l _ hc.2).1 (okd_lay d _ hc.1).1 hz ?_
      rw [any_has l d _ _ hc.2 hc.1]
      exact ⟨.bl _, H, I, rfl, bfin w (by simpa using e2) q⟩
  · rename_i l
    obtain ⟨hc, e3⟩ := if_some e1
    cases pure_some.mp e3
    rw [Bool.and_eq_true] at hc
    have o2 : okd (deep + 1) (.lst l) = true := by simp only [okd]; exact hc.2
    obtain ⟨as, r1⟩ := reads_of hK I hc.1 hd rx
    obtain ⟨bs, r2⟩ := reads_ofB hK I o2 he ry
    simp only [toPy] at r2
    have hz := room_in_shaped (A := X.A) (xs := toPys l) (okd_shaped hc.1) hu
    cases n with
    | false =>
      refine SeqAt.in_list_reads r2 r1 (okds_lay l _ hc.2).1 (okd_lay d _ hc.1).1 hz ?_
      rw [any_has l d _ _ hc.2 hc.1]
      exact ⟨.bl _, H, I, rfl, bfin w (by simpa using e2) q⟩
    | true =>
      refine SeqAt.notIn_list_reads r2 r1 (okds_lay l _ hc.2).1 (okd_lay d _ hc.1).1 hz ?_
      rw [any_has l d _ _ hc.2 hc.1]
      exact ⟨.bl _, H, I, rfl, bfin w (by simpa using e2) q⟩
  · rcases he with he | ⟨_, _, _, z, _⟩
    · cases he
    · cases z
  · split at e1
    · rename_i z _ c
      cases hd
      rcases he with he | ⟨_, _, _, z, _⟩
      case inr => cases z
      cases he
      cases pure_some.mp e1
      have ec : strOf [c] = ⟨#[c]⟩ := rfl
      have key : decide (c ∈ (strOf z).cps.toList) = z.contains c := by
        simp only [strOf, List.toList_toArray, List.contains_eq_mem]
        exact decide_eq_decide.mpr Iff.rfl
      cases n with
      | false => exact op_in_sign pins s σ H _ _ v u Q I rx ry ⟨c, strOf z, rfl, rfl, bfin w (by rw [key]; simpa using e2) q⟩
      | true => exact op_notIn_sign pins s σ H _ _ v u Q I rx ry ⟨c, strOf z, rfl, rfl, bfin w (by rw [key]; simpa using e2) q⟩
    · exact absurd e1 no_some
  · exact absurd e1 no_some

/-! ### is -/
def isOp (n : Bool) : CmpOp := if n then .IsNot else .Is
theorem den_non {T : Addr} {H : Hp} {x : V} {d : D} (h : Den T g.K H x d) (n : Bool) : isnD n d = .bl (xor n (decide (x = .non))) := by
  cases h <;> simp [isnD]
theorem pm_isn {a : Expr} {n : Bool} {m : G.St → M D} {j : Nat} {p pos : Pos} (ha : PE X a (tM g m)) : PE X (.Compare a [isOp n] [.Constant .none j p] pos) (tM g fun st => do let x ← m st; pure (isnD n x)) := by
  have key : ∀ (σ : L2.St) (H : Hp) (Q : VK), tM g (fun st => do let x ← m st; pure (isnD n x)) σ H Q → tM g m σ H fun x H1 => Q (.bl (xor n (decide (x = .non)))) H1 := by
    intro σ H Q h
    obtain ⟨T, k, st, d, k', w, r, em, q⟩ := h
    obtain ⟨x, k1, e1, e2⟩ := bind_some.mp em
    refine ⟨T, k, st, x, k1, w, r, e1, fun v H' gr w' hd => ?_⟩
    cases pure_some.mp e2
    refine q _ H' gr w' ?_
    rw [den_non hd]
    exact .bl _
  cases n with
  | false =>
    refine PEi (pe_cmp (pc_isN ha) rfl) fun σ H Q h => ?_
    have := key σ H Q h
    simpa [tIsN] using this
  | true =>
    refine PEi (pe_cmp (pc_notN ha) rfl) fun σ H Q h => ?_
    have := key σ H Q h
    simpa [tNotN] using this
theorem op_isbM (n b : Bool) : OpR X (compareOp (isOp n)) (fun x y H Q => y = .bl b ∧ rU1 g (isbD n b) x H Q) := by
  intro pins s σ H x y v u Q I rx ry h
  obtain ⟨ey, T, k, d, r, k', w, hd, em, q⟩ := h
  subst ey
  unfold isbD at em
  split at em
  · cases hd
    cases n with
    | false => exact op_is_bl pins s σ H _ _ v u Q I rx ry ⟨_, _, rfl, rfl, bfin w (by simpa using em) q⟩
    | true => exact op_isnot_bl pins s σ H _ _ v u Q I rx ry ⟨_, _, rfl, rfl, bfin w (by simpa using em) q⟩
  · exact absurd em no_some
end
end G

namespace G
open PySem PySem.Spec PyProof.Rows L2

section
variable (g : Cf)
def tO (m : G.St → M D) : TE := fun σ H Q => ∃ T k st d k', WS T g.Tb H k ∧ SR T g.K g.CL st σ H ∧ m st k = some (d, k') ∧ ∀ v H', Grow T H H' → WS T g.Tb H' k' → DenB T g.K H' v d → Q v H'
def rUB (h : D → M D) : V → Hp → VK → Prop := fun x H Q => ∃ T k d r k', WS T g.Tb H k ∧ DenB T g.K H x d ∧ h d k = some (r, k') ∧ ∀ v H', Grow T H H' → WS T g.Tb H' k' → Den T g.K H' v r → Q v H'
end
section
variable {g : Cf} {X : Cx} {a b c e : Expr} {f f1 f2 f3 : G.St → M D} {pos p1 p2 : Pos}
theorem DenB.grow {T : Addr} {K : PySem.W.Frag} {H H' : Hp} {v : V} {d : D} {k : Nat} (h : DenB T K H v d) (gr : Grow T H H') (t : Town T H k) (nT : v ≠ .ref T ∨ d = .town) : DenB T K H' v d := by
  rcases h with h | ⟨a, xs, ds, e1, e2, e3, e4⟩
  · exact .inl (Den.keep (gr.keeps t) _ _ h)
  · refine .inr ⟨a, xs, ds, e1, e2, gr.keep a _ e3 (fun z => ?_) (fun _ z => nomatch z), Dens.keep (gr.keeps t) _ _ e4⟩
    rcases nT with n | n
    · exact n (by rw [e2, z])
    · rw [e1] at n; cases n

theorem getV_sr {T : Addr} {st : G.St} {σ : L2.St} {H : Hp} {i k k' : Nat} {d : D} (r : SR T g.K g.CL st σ H) (h : getV st i k = some (d, k')) : k' = k ∧ st[i]? = some (.fr d) ∧ ∃ v, σ[i]? = some (some v) ∧ Den T g.K H v d := by
  unfold getV at h
  cases e : st[i]? with
  | none => rw [e] at h; exact absurd h (no_some (k := k))
  | some sl =>
    rw [e] at h
    cases sl with
    | fr d' =>
      cases pure_some.mp h
      refine ⟨rfl, rfl, ?_⟩
      have q := r.at' i _ e
      cases o : σ[i]? with
      | none => rw [o] at q; exact q.elim
      | some o' =>
        cases o' with
        | none => rw [o] at q; exact q.elim
        | some v => rw [o] at q; exact ⟨v, rfl, q⟩
    | _ => exact absurd h (no_some (k := k))
theorem getB_sr {T : Addr} {st : G.St} {σ : L2.St} {H : Hp} {i k k' : Nat} {d : D} (r : SR T g.K g.CL st σ H) (h : getB st i k = some (d, k')) : k' = k ∧ ∃ v, σ[i]? = some (some v) ∧ DenB T g.K H v d := by
  unfold getB at h
  cases e : st[i]? with
  | none => rw [e] at h; exact absurd h (no_some (k := k))
  | some sl =>
    rw [e] at h
    cases sl with
    | fr d' =>
      have h' : getV st i k = some (d, k') := by unfold getV; rw [e]; exact h
      obtain ⟨e1, _, v, e2, e3⟩ := getV_sr r h'
      exact ⟨e1, v, e2, .inl e3⟩
    | ow d' =>
      cases pure_some.mp h
      refine ⟨rfl, ?_⟩
      have q := r.at' i _ e
      cases d with
      | lst ds =>
        cases o : σ[i]? with
        | none => rw [o] at q; exact q.elim
        | some o' =>
          cases o' with
          | none => rw [o] at q; exact q.elim
          | some v =>
            rw [o] at q
            obtain ⟨a, xs, e1, e2, e3, e4⟩ := q
            exact ⟨v, rfl, .inr ⟨a, xs, ds, rfl, e1, e3, e4⟩⟩
      | _ =>
        cases o : σ[i]? with
        | none => rw [o] at q; exact q.elim
        | some o' => cases o' <;> (rw [o] at q; exact q.elim)
    | _ => exact absurd h (no_some (k := k))
theorem pm_v {i : Nat} {x : Str} (hN : X.N[i]? = some x) (hv : Vis X.env.scope x) (hd : (x == ("__debug__" : Str)) = false) (hc : (x == ("__classdict__" : Str)) = false) : PE X (.Name x pos) (tM g fun st => getV st i) :=
  PEi (pe_var hN hv hd hc) fun σ H Q h => by
    obtain ⟨T, k, st, d, k', w, r, em, q⟩ := h
    obtain ⟨e1, _, v, e2, e3⟩ := getV_sr r em
    subst e1
    exact ⟨v, e2, q v H (Grow.refl T H) w e3⟩
theorem pm_bv {i : Nat} {x : Str} (hN : X.N[i]? = some x) (hv : Vis X.env.scope x) (hd : (x == ("__debug__" : Str)) = false) (hc : (x == ("__classdict__" : Str)) = false) : PE X (.Name x pos) (tO g fun st => getB st i) :=
  PEi (pe_var hN hv hd hc) fun σ H Q h => by
    obtain ⟨T, k, st, d, k', w, r, em, q⟩ := h
    obtain ⟨e1, v, e2, e3⟩ := getB_sr r em
    subst e1
    exact ⟨v, e2, q v H (Grow.refl T H) w e3⟩
theorem pm_b (h : PE X a (tM g f)) : PE X a (tO g f) := PEi h fun σ H Q h => by
  obtain ⟨T, k, st, d, k', w, r, em, q⟩ := h
  exact ⟨T, k, st, d, k', w, r, em, fun v H' g1 w1 d1 => q v H' g1 w1 (.inl d1)⟩
/-- a constant -/
theorem pm_c {v : V} {d : D} (hd : ∀ T H, Den T g.K H v d) (h : PE X a (tC v)) : PE X a (tM g fun _ => pure d) := PEi h fun σ H Q h => by
  obtain ⟨T, k, st, d', k', w, r, em, q⟩ := h
  cases pure_some.mp em
  exact q v H (Grow.refl T H) w (hd T H)

/-! ### two operands -/
theorem tM_bin {h : D → D → M D} {σ : L2.St} {H : Hp} {Q : VK} (q : tM g (fun st => do let x ← f1 st; let y ← f2 st; h x y) σ H Q) : tM g f1 σ H fun x H1 => tM g f2 σ H1 fun y H2 => rM g h x y H2 Q := by
  obtain ⟨T, k, st, d, k', w, r, em, q⟩ := q
  obtain ⟨x, k1, e1, e2⟩ := bind_some.mp em
  obtain ⟨y, k2, e3, e4⟩ := bind_some.mp e2
  refine ⟨T, k, st, x, k1, w, r, e1, fun v1 H1 g1 w1 d1 => ⟨T, k1, st, y, k2, w1, r.grow g.stays g1 w.town, e3, fun v2 H2 g2 w2 d2 => ⟨T, k2, x, y, d, k', w2, Den.keep (g2.keeps w1.town) _ _ d1, d2, e4, fun v3 H3 g3 w3 d3 => q v3 H3 ((g1.trans g2).trans g3) w3 d3⟩⟩⟩
theorem pm_op {op : Operator} {h : D → D → M D} (ho : OpR X (binaryOp op) (rM g h)) (ha : PE X a (tM g f1)) (hb : PE X b (tM g f2)) : PE X (.BinOp a op b pos) (tM g fun st => do let x ← f1 st; let y ← f2 st; h x y) :=
  PEi (pe_op ho ha hb) fun σ H Q q => tM_bin q
theorem pm_cmp {op : CmpOp} {h : D → D → M D} (ho : OpR X (compareOp op) (rM g h)) (ha : PE X a (tM g f1)) (hb : PE X b (tM g f2)) (hm : behindInMarks op b = false) : PE X (.Compare a [op] [b] pos) (tM g fun st => do let x ← f1 st; let y ← f2 st; h x y) :=
  PEi (pe_cmpR ho ha hb hm) fun σ H Q q => tM_bin q
theorem pm_un {op : UnaryOp} {h : D → M D} (ho : UnR X (unaryOp op) (rU1 g h)) (ha : PE X a (tM g f)) : PE X (.UnaryOp op a pos) (tM g fun st => do let x ← f st; h x) :=
  PEi (pe_un ho ha) fun σ H Q q => by
    obtain ⟨T, k, st, d, k', w, r, em, q⟩ := q
    obtain ⟨x, k1, e1, e2⟩ := bind_some.mp em
    exact ⟨T, k, st, x, k1, w, r, e1, fun v1 H1 g1 w1 d1 => ⟨T, k1, x, d, k', w1, d1, e2, fun v3 H3 g3 w3 d3 => q v3 H3 (g1.trans g3) w3 d3⟩⟩
theorem un_negD : UnR X (unaryOp .USub) (rU1 g negD) := by
  intro pins s σ H x v Q I rx h
  obtain ⟨T, k, d, r, k', w, hd, em, q⟩ := h
  unfold negD at em
  split at em
  · cases hd
    cases pure_some.mp em
    exact un_neg pins s σ H _ v Q I rx ⟨_, rfl, q _ H (Grow.refl T H) w (.int _)⟩
  · exact absurd em no_some
/-- a value that is True or False, as a test -/
theorem bool_den {T : Addr} {H : Hp} {v : V} {b : Bool} (h : Den T g.K H v (.bl b)) : v = .bl b := by cases h; rfl
def isBl (d : D) : Prop := ∃ b, d = .bl b
theorem pt_bool {m : G.St → M D} (hb : ∀ st k d k', m st k = some (d, k') → isBl d) (h : PT X e (tTest (tM g m))) : PT X e (tMB g fun st => do let d ← m st; tru d) := PTi h fun σ H Q q => by
  obtain ⟨T, k, st, b, k', w, r, em, q⟩ := q
  obtain ⟨x, k1, e1, e2⟩ := bind_some.mp em
  obtain ⟨b', e⟩ := hb st k x k1 e1
  subst e
  have e3 := pure_some.mp (show (pure b' : M Bool) k1 = some (b, k') from e2)
  injection e3 with e4 e5
  subst e4 e5
  exact ⟨T, k, st, _, _, w, r, e1, fun v1 H1 g1 w1 d1 => ⟨_, bool_den d1, q H1 g1 w1⟩⟩
theorem pmt_cmp {op : CmpOp} {h : D → D → M D} (hb : ∀ x y k d k', h x y k = some (d, k') → isBl d) (ho : OpR X (compareOp op) (rM g h)) (ha : PE X a (tM g f1)) (hb' : PE X b (tM g f2)) (hm : behindInMarks op b = false) :
    PT X (.Compare a [op] [b] pos) (tMB g fun st => do let d ← (do let x ← f1 st; let y ← f2 st; h x y); tru d) := by
  refine pt_bool (fun st k d k' e => ?_) (PTi (pt_cmpR ho ha hb' hm) fun σ H Q q => ?_)
  · obtain ⟨x, k1, e1, e2⟩ := bind_some.mp e
    obtain ⟨y, k2, e3, e4⟩ := bind_some.mp e2
    exact hb x y k2 d k' e4
  · exact tM_bin q
/-! ### truth -/
theorem tru_v {T : Addr} {k k' : Nat} {H : Hp} {x : V} {d : D} {b : Bool} (hd : DenB T g.K H x d) (h : tru d k = some (b, k')) (hK : X.K = g.K) : k' = k ∧ TruV X.K x H b := by
  rcases hd with hd | ⟨a, xs, ds, e1, e2, e3, e4⟩
  · cases hd with
    | non => cases pure_some.mp h; exact ⟨rfl, rfl⟩
    | bl b => cases pure_some.mp h; exact ⟨rfl, rfl⟩
    | int i =>
      cases pure_some.mp h
      refine ⟨rfl, ?_⟩
      show decide (i ≠ 0) = (i != 0)
      by_cases z : i = 0 <;> simp [z]
    | str s =>
      obtain ⟨hz, h2⟩ := if_some (show (if s.length ≤ 16777216 then (pure !s.isEmpty : M Bool) else no) k = some (b, k') from h)
      cases pure_some.mp h2
      refine ⟨rfl, by rw [strOf_length, sizeLine_eq]; exact hz, ?_⟩
      rw [strOf_length]
      cases s <;> simp
      omega
    | tup h1 h2 =>
      cases pure_some.mp h
      refine ⟨rfl, .inr (.inl ⟨_, .of h1, ?_⟩)⟩
      cases h2 <;> rfl
    | lst h1 h2 =>
      cases pure_some.mp h
      refine ⟨rfl, .inl ⟨_, .inl (.inr ⟨_, h1⟩), ?_⟩⟩
      cases h2 <;> rfl
    | town => exact absurd h (no_some (k := k))
    | sk h1 h2 h3 h4 => exact absurd h (no_some (k := k))
    | scr h1 =>
      rename_i a ns
      cases pure_some.mp h
      refine ⟨rfl, .inl ⟨_, by rw [hK]; exact h1.sq, ?_⟩⟩
      cases ns <;> rfl
  · subst e1 e2
    cases pure_some.mp h
    refine ⟨rfl, .inl ⟨_, .of e3, ?_⟩⟩
    cases e4 <;> rfl
theorem pmt_truth (hK : X.K = g.K) (ha : PE X a (tO g f)) (he : ∀ whole, isTrue a X.env whole = (do let v ← whole; standAt a.pos; holding [v] (truthy v))) : PT X a (tMB g fun st => do let d ← f st; tru d) :=
  PTi (pt_truth ha he) fun σ H Q q => by
    obtain ⟨T, k, st, b, k', w, r, em, q⟩ := q
    obtain ⟨x, k1, e1, e2⟩ := bind_some.mp em
    refine ⟨T, k, st, x, k1, w, r, e1, fun v1 H1 g1 w1 d1 => ?_⟩
    obtain ⟨e3, e4⟩ := tru_v (X := X) d1 e2 hK
    subst e3
    exact ⟨b, e4, q H1 g1 w1⟩
/-- not -/
theorem pmt_not {m : G.St → M Bool} (ha : PT X a (tMB g m)) : PT X (.UnaryOp .Not a pos) (tMB g fun st => do let b ← m st; pure !b) := PTi (pt_not ha) fun σ H Q q => by
  obtain ⟨T, k, st, b, k', w, r, em, q⟩ := q
  obtain ⟨x, k1, e1, e2⟩ := bind_some.mp em
  cases pure_some.mp e2
  exact ⟨T, k, st, x, _, w, r, e1, fun H1 g1 w1 => q H1 g1 w1⟩
theorem pm_not (hK : X.K = g.K) (ha : PE X a (tO g f)) : PE X (.UnaryOp .Not a pos) (tM g fun st => do let d ← f st; let b ← tru d; pure (.bl !b)) := PEi (pe_notT ha) fun σ H Q q => by
  obtain ⟨T, k, st, d, k', w, r, em, q⟩ := q
  obtain ⟨x, k1, e1, e2⟩ := bind_some.mp em
  obtain ⟨b, k2, e3, e4⟩ := bind_some.mp e2
  cases pure_some.mp e4
  refine ⟨T, k, st, x, k1, w, r, e1, fun v1 H1 g1 w1 d1 => ?_⟩
  obtain ⟨e5, e6⟩ := tru_v (X := X) d1 e3 hK
  subst e5
  exact ⟨b, e6, q _ H1 g1 w1 (.bl _)⟩
end
end G

namespace G
open PySem PySem.Spec PyProof.Rows L2

theorem bind_none {α β : Type} {x : M α} {f : α → M β} {k : Nat} (h : x k = none) : (x >>= f) k = none := by
  show Option.bind (x k) (fun p => f p.1 p.2) = none
  rw [h]; rfl
theorem tru_state {d : D} {k k' : Nat} {b : Bool} (h : tru d k = some (b, k')) : k' = k ∧ ∀ j, tru d j = some (b, j) := by
  cases d with
  | str s =>
    obtain ⟨hz, h2⟩ := if_some (show (if s.length ≤ 16777216 then (pure !s.isEmpty : M Bool) else no) k = some (b, k') from h)
    cases pure_some.mp h2
    exact ⟨rfl, fun j => by show (if s.length ≤ 16777216 then (pure !s.isEmpty : M Bool) else no) j = _; rw [if_pos hz]; rfl⟩
  | town => exact absurd h (no_some (k := k))
  | sk l => exact absurd h (no_some (k := k))
  | _ => cases pure_some.mp h; exact ⟨rfl, fun j => rfl⟩
section
variable {g : Cf} {X : Cx} {a b c e : Expr} {f f1 f2 f3 : G.St → M D} {pos p1 p2 : Pos} {rest : List Expr}
def andM (f1 f2 : G.St → M D) : G.St → M D := fun st => do let d ← f1 st; let r ← tru d; if r then f2 st else pure d
def orM (f1 f2 : G.St → M D) : G.St → M D := fun st => do let d ← f1 st; let r ← tru d; if r then pure d else f2 st
def iteM (f1 f2 f3 : G.St → M D) : G.St → M D := fun st => do let d ← f1 st; let r ← tru d; if r then f2 st else f3 st
def truM (f : G.St → M D) : G.St → M Bool := fun st => do let d ← f st; tru d
theorem pm_and (hK : X.K = g.K) (ha : PE X a (tO g f1)) (hb : PE X (.BoolOp .And (b :: rest) pos) (tM g f2)) (ha' : PE X a (tM g f1)) : PE X (.BoolOp .And (a :: b :: rest) pos) (tM g (andM f1 f2)) :=
  PEi (pe_andT ha' hb) fun σ H Q q => by
    obtain ⟨T, k, st, d, k', w, r, em, q⟩ := q
    obtain ⟨x, k1, e1, e2⟩ := bind_some.mp em
    obtain ⟨b', k2, e3, e4⟩ := bind_some.mp e2
    refine ⟨T, k, st, x, k1, w, r, e1, fun v1 H1 g1 w1 d1 => ?_⟩
    obtain ⟨e5, e6⟩ := tru_v (X := X) (.inl d1) e3 hK
    subst e5
    refine ⟨b', e6, ?_⟩
    cases b' with
    | true => exact ⟨T, k2, st, d, k', w1, r.grow g.stays g1 w.town, e4, fun v H' g2 w2 d2 => q v H' (g1.trans g2) w2 d2⟩
    | false =>
      cases pure_some.mp e4
      exact q _ H1 g1 w1 d1
theorem pm_or (hK : X.K = g.K) (ha' : PE X a (tM g f1)) (hb : PE X (.BoolOp .Or (b :: rest) pos) (tM g f2)) : PE X (.BoolOp .Or (a :: b :: rest) pos) (tM g (orM f1 f2)) :=
  PEi (pe_orT ha' hb) fun σ H Q q => by
    obtain ⟨T, k, st, d, k', w, r, em, q⟩ := q
    obtain ⟨x, k1, e1, e2⟩ := bind_some.mp em
    obtain ⟨b', k2, e3, e4⟩ := bind_some.mp e2
    refine ⟨T, k, st, x, k1, w, r, e1, fun v1 H1 g1 w1 d1 => ?_⟩
    obtain ⟨e5, e6⟩ := tru_v (X := X) (.inl d1) e3 hK
    subst e5
    refine ⟨b', e6, ?_⟩
    cases b' with
    | false => exact ⟨T, k2, st, d, k', w1, r.grow g.stays g1 w.town, e4, fun v H' g2 w2 d2 => q v H' (g1.trans g2) w2 d2⟩
    | true =>
      cases pure_some.mp e4
      exact q _ H1 g1 w1 d1
theorem pmw_and (ha : PT X a (tMB g (truM f1))) (hb : PW X (.BoolOp .And (b :: rest) pos) (tMB g (truM f2))) : PW X (.BoolOp .And (a :: b :: rest) pos) (tMB g (truM (andM f1 f2))) :=
  PWi (pw_and ha hb) fun σ H Q q => by
    obtain ⟨T, k, st, d, k', w, r, em, q⟩ := q
    obtain ⟨x, k1, e1, e2⟩ := bind_some.mp em
    obtain ⟨y, k2, e3, e4⟩ := bind_some.mp e1
    obtain ⟨b', k3, e5, e6⟩ := bind_some.mp e4
    refine ⟨T, k, st, b', k3, w, r, bind_some.mpr ⟨y, k2, e3, e5⟩, fun H1 g1 w1 => ?_⟩
    cases b' with
    | true => exact ⟨T, k3, st, d, k', w1, r.grow g.stays g1 w.town, bind_some.mpr ⟨x, k1, e6, e2⟩, fun H' g2 w2 => q H' (g1.trans g2) w2⟩
    | false =>
      cases pure_some.mp e6
      obtain ⟨_, z⟩ := tru_state e5
      rw [z] at e2
      cases e2
      exact q H1 g1 w1
theorem pmw_or (ha : PT X a (tMB g (truM f1))) (hb : PW X (.BoolOp .Or (b :: rest) pos) (tMB g (truM f2))) : PW X (.BoolOp .Or (a :: b :: rest) pos) (tMB g (truM (orM f1 f2))) :=
  PWi (pw_or ha hb) fun σ H Q q => by
    obtain ⟨T, k, st, d, k', w, r, em, q⟩ := q
    obtain ⟨x, k1, e1, e2⟩ := bind_some.mp em
    obtain ⟨y, k2, e3, e4⟩ := bind_some.mp e1
    obtain ⟨b', k3, e5, e6⟩ := bind_some.mp e4
    refine ⟨T, k, st, b', k3, w, r, bind_some.mpr ⟨y, k2, e3, e5⟩, fun H1 g1 w1 => ?_⟩
    cases b' with
    | false => exact ⟨T, k3, st, d, k', w1, r.grow g.stays g1 w.town, bind_some.mpr ⟨x, k1, e6, e2⟩, fun H' g2 w2 => q H' (g1.trans g2) w2⟩
    | true =>
      cases pure_some.mp e6
      obtain ⟨_, z⟩ := tru_state e5
      rw [z] at e2
      cases e2
      exact q H1 g1 w1
theorem pm_ite (hc : PT X c (tMB g (truM f1))) (ha : PE X a (tM g f2)) (hb : PE X b (tM g f3)) : PE X (.IfExp c a b pos) (tM g (iteM f1 f2 f3)) :=
  PEi (pe_ifExp hc ha hb) fun σ H Q q => by
    obtain ⟨T, k, st, d, k', w, r, em, q⟩ := q
    obtain ⟨x, k1, e1, e2⟩ := bind_some.mp em
    obtain ⟨b', k2, e3, e4⟩ := bind_some.mp e2
    refine ⟨T, k, st, b', k2, w, r, bind_some.mpr ⟨x, k1, e1, e3⟩, fun H1 g1 w1 => ?_⟩
    cases b' with
    | true => exact ⟨T, k2, st, d, k', w1, r.grow g.stays g1 w.town, e4, fun v H' g2 w2 d2 => q v H' (g1.trans g2) w2 d2⟩
    | false => exact ⟨T, k2, st, d, k', w1, r.grow g.stays g1 w.town, e4, fun v H' g2 w2 d2 => q v H' (g1.trans g2) w2 d2⟩
/-- chains -/
theorem pm_chain {o o' : Cp} (hK : X.K = g.K) (hu : X.A.units + 64 < cLine) (ha : PE X a (tM g f1)) (hb : PE X b (tM g f2)) (hc : PE X c (tM g f3)) (hm : lastMarks [cpOp o, cpOp o'] [b, c] = false) :
    PE X (.Compare a [cpOp o, cpOp o'] [b, c] pos) (tM g fun st => do let x ← f1 st; let y ← f2 st; let r ← cmpD o x y; if r then do let z ← f3 st; cmpM o' y z else pure (.bl false)) ∧
    PT X (.Compare a [cpOp o, cpOp o'] [b, c] pos) (tTest (tM g fun st => do let x ← f1 st; let y ← f2 st; let r ← cmpD o x y; if r then do let z ← f3 st; cmpM o' y z else pure (.bl false))) := by
  have key : ∀ (σ : L2.St) (H : Hp) (Q : VK), tM g (fun st => do let x ← f1 st; let y ← f2 st; let r ← cmpD o x y; if r then do let z ← f3 st; cmpM o' y z else pure (.bl false)) σ H Q →
      tChain (rM g (cmpM o)) (rM g (cmpM o')) (tM g f1) (tM g f2) (tM g f3) σ H Q := by
    intro σ H Q h
    obtain ⟨T, k, st, d, k', w, r, em, q⟩ := h
    obtain ⟨x, k1, e1, e2⟩ := bind_some.mp em
    obtain ⟨y, k2, e3, e4⟩ := bind_some.mp e2
    obtain ⟨b', k3, e5, e6⟩ := bind_some.mp e4
    refine ⟨T, k, st, x, k1, w, r, e1, fun v1 H1 g1 w1 d1 => ⟨T, k1, st, y, k2, w1, r.grow g.stays g1 w.town, e3, fun v2 H2 g2 w2 d2 => ⟨T, k2, x, y, .bl b', k3, w2, Den.keep (g2.keeps w1.town) _ _ d1, d2, bind_some.mpr ⟨b', k3, e5, rfl⟩, fun v3 H3 g3 w3 d3 => ⟨b', bool_den d3, ?_⟩⟩⟩⟩
    cases b' with
    | true =>
      obtain ⟨z, k4, e7, e8⟩ := bind_some.mp (show (do let z ← f3 st; cmpM o' y z : M D) k3 = some (d, k') from e6)
      rw [if_pos rfl]
      have g12 := g1.trans g2
      exact ⟨T, k3, st, z, k4, w3, r.grow g.stays (g12.trans g3) w.town, e7, fun v4 H4 g4 w4 d4 => ⟨T, k4, y, z, d, k', w4, Den.keep (g4.keeps w3.town) _ _ (Den.keep (g3.keeps w2.town) _ _ d2), d4, e8, fun v5 H5 g5 w5 d5 => q v5 H5 (((g12.trans g3).trans g4).trans g5) w5 d5⟩⟩
    | false =>
      rw [if_neg Bool.false_ne_true]
      cases pure_some.mp (show (pure (.bl false) : M D) k3 = some (d, k') from e6)
      exact q _ H3 ((g1.trans g2).trans g3) w3 (.bl false)
  exact ⟨PEi (pe_chain (op_cmp hK hu o) (op_cmp hK hu o') ha hb hc hm) key, PTi (pt_chain (op_cmp hK hu o) (op_cmp hK hu o') ha hb hc hm) fun σ H Q h => key σ H _ h⟩

/-! ### rows of items -/
theorem pam_nil : PA X [] (tMA g fun _ => pure []) := PAi pa_nil fun σ H Q h => by
  obtain ⟨T, k, st, d, k', w, r, em, q⟩ := h
  cases pure_some.mp em
  exact q [] H (Grow.refl T H) w .nil
theorem starEach_ok {e : Expr} {es : List Expr} {env : Env} (h : ∀ v p, e ≠ .Starred v p) : starEach (e :: es) env = (false, eval e env) :: starEach es env := by
  cases e <;> first | rfl | exact absurd rfl (h _ _)
theorem pam_cons {es : List Expr} {fs : G.St → M (List D)} (hs : ∀ v p, e ≠ .Starred v p) (he : PE X e (tM g f)) (ha : PA X es (tMA g fs)) : PA X (e :: es) (tMA g fun st => do let d ← f st; let ds ← fs st; pure (d :: ds)) :=
  PAi (pa_cons he ha (starEach_ok hs)) fun σ H Q h => by
    obtain ⟨T, k, st, d, k', w, r, em, q⟩ := h
    obtain ⟨x, k1, e1, e2⟩ := bind_some.mp em
    obtain ⟨y, k2, e3, e4⟩ := bind_some.mp e2
    cases pure_some.mp e4
    exact ⟨T, k, st, x, k1, w, r, e1, fun v1 H1 g1 w1 d1 => ⟨T, k1, st, y, _, w1, r.grow g.stays g1 w.town, e3, fun vs H2 g2 w2 d2 => q _ H2 (g1.trans g2) w2 (.cons (Den.keep (g2.keeps w1.town) _ _ d1) d2)⟩⟩
theorem noStars {es : List Expr} {pos : Pos} {env : Env} (h : ∀ e ∈ es, ∀ v p, e ≠ .Starred v p) : (backTo pos (starEach es env)).any (·.1) = false := by
  induction es with
  | nil => rfl
  | cons e es ih =>
    rw [starEach_ok (h e List.mem_cons_self)]
    have ih := ih fun e' he => h e' (List.mem_cons_of_mem _ he)
    simpa [backTo] using ih
theorem pm_tup {es : List Expr} {fs : G.St → M (List D)} {n : Nat} (hl : es.length ≤ 1000) (hlen : ∀ st k ds k', fs st k = some (ds, k') → ds.length = es.length) (ha : PA X es (tMA g fs)) : PE X (.Tuple es n pos) (tM g fun st => do let ds ← fs st; pure (.tup ds)) :=
  PEi (pe_tup ha) fun σ H Q h => by
    obtain ⟨T, k, st, d, k', w, r, em, q⟩ := h
    obtain ⟨x, k1, e1, e2⟩ := bind_some.mp em
    cases pure_some.mp e2
    refine ⟨T, k, st, x, _, w, r, e1, fun vs H1 g1 w1 d1 => ⟨?_, fun p hp => ?_⟩⟩
    · rw [d1.length, hlen _ _ _ _ e1]
      exact Nat.le_trans hl (by rw [sizeLine_eq]; decide)
    · exact newT w1 hp d1 fun v H' g2 w2 d2 => q v H' (g1.trans g2) w2 d2
/-- a new list that is not locked yet -/
theorem pn_lst {es : List Expr} {fs : G.St → M (List D)} (hl : es.length ≤ 1000) (hlen : ∀ st k ds k', fs st k = some (ds, k') → ds.length = es.length) (ha : PA X es (tMA g fs)) : PE X (.List es pos) (tN g fun st => do let ds ← fs st; pure (.lst ds)) :=
  PEi (pe_lst ha) fun σ H Q h => by
    obtain ⟨T, k, st, d, k', w, r, em, q⟩ := h
    obtain ⟨x, k1, e1, e2⟩ := bind_some.mp em
    cases pure_some.mp e2
    refine ⟨T, k, st, x, _, w, r, e1, fun vs H1 g1 w1 d1 => ⟨?_, fun p hp => ?_⟩⟩
    · rw [d1.length, hlen _ _ _ _ e1]
      exact Nat.le_trans hl (by rw [sizeLine_eq]; decide)
    · exact q p vs x _ rfl (g1.none p hp) (w1.neT hp) (g1.trans (Grow.new hp)) (w1.grow0 hp) upd_same (Dens.keep (keeps_new hp) _ _ d1)
end
end G

namespace G
open PySem PySem.Spec PyProof.Rows L2

section
variable (g : Cf)
def rVB (h : D → M D) : List V → Hp → VK → Prop := fun xs H Q => ∃ x, xs = [x] ∧ rUB g h x H Q
/-- a new list -/
def rVN (h : D → M D) : List V → Hp → VK → Prop := fun xs H Q => ∃ x T k d r k', xs = [x] ∧ WS T g.Tb H k ∧ DenB T g.K H x d ∧ h d k = some (r, k') ∧
  ∀ p ys ds H', r = .lst ds → H p = none → p ≠ T → Grow T H H' → WS T g.Tb H' k' → H' p = some (.lst ys) → Dens T g.K H' ys ds → Q (.ref p) H'
end
section
variable {g : Cf} {X : Cx}
theorem vfin {T : Addr} {k k' : Nat} {v : V} {d r : D} {Q : VK} {H : Hp} (w : WS T g.Tb H k) (e : (pure d : M D) k = some (r, k')) (hd : Den T g.K H v d)
    (q : ∀ v H', Grow T H H' → WS T g.Tb H' k' → Den T g.K H' v r → Q v H') : Q v H := by
  cases pure_some.mp e
  exact q _ H (Grow.refl T H) w hd
theorem DenB.sql {T : Addr} {H : Hp} {v : V} {l : List D} (h : DenB T g.K H v (.lst l)) (hK : X.K = g.K) : ∃ a xs, v = .ref a ∧ SqL X.K H a xs ∧ Dens T g.K H xs l := by
  rcases h with h | ⟨a, xs, ds, e1, e2, e3, e4⟩
  · cases h with
    | lst h1 h2 => exact ⟨_, _, rfl, .inl (.inr ⟨_, h1⟩), h2⟩
  · cases e1
    exact ⟨a, xs, e2, .of e3, e4⟩
theorem bools_v {T : Addr} {H : Hp} : ∀ {l : List D} {xs : List V} {bs : List Bool} {k k' : Nat}, Dens T g.K H xs l → boolsL l k = some (bs, k') → k' = k ∧ xs = bs.map V.bl
  | [], _, _, _, _, h, e => by
    cases h
    cases pure_some.mp e
    exact ⟨rfl, rfl⟩
  | d :: l, _, bs, k, k', h, e => by
    cases h with
    | cons h1 h2 =>
      cases d with
      | bl b =>
        cases h1
        obtain ⟨bs', k1, e1, e2⟩ := bind_some.mp (show (do let bs ← boolsL l; pure (b :: bs) : M (List Bool)) k = some (bs, k') from e)
        cases pure_some.mp e2
        obtain ⟨e3, e4⟩ := bools_v h2 e1
        exact ⟨e3, by rw [e4]; rfl⟩
      | _ => exact absurd e (no_some (k := k))
theorem ints_v {T : Addr} {H : Hp} : ∀ {l : List D} {xs : List V} {bs : List Int} {k k' : Nat}, Dens T g.K H xs l → intsL l k = some (bs, k') → k' = k ∧ xs = bs.map V.int
  | [], _, _, _, _, h, e => by
    cases h
    cases pure_some.mp e
    exact ⟨rfl, rfl⟩
  | d :: l, _, bs, k, k', h, e => by
    cases h with
    | cons h1 h2 =>
      cases d with
      | int b =>
        cases h1
        obtain ⟨bs', k1, e1, e2⟩ := bind_some.mp (show (do let bs ← intsL l; pure (b :: bs) : M (List Int)) k = some (bs, k') from e)
        cases pure_some.mp e2
        obtain ⟨e3, e4⟩ := ints_v h2 e1
        exact ⟨e3, by rw [e4]; rfl⟩
      | _ => exact absurd e (no_some (k := k))
theorem notO {T : Addr} {H : Hp} {v : V} {d : D} (h : DenB T g.K H v d) (n : ∀ l, d ≠ .lst l) : Den T g.K H v d := by
  rcases h with h | ⟨a, xs, ds, e1, _⟩
  · exact h
  · exact absurd e1 (n ds)
theorem call_lenD (hK : X.K = g.K) : CallR X (.builtin "len") (rVB g (f1D .len)) := CallRi call_len fun xs H Q h => by
  obtain ⟨x, rfl, T, k, d, r, k', w, hd, em, q⟩ := h
  cases d with
  | lst l =>
    obtain ⟨a, xs, rfl, hs, hd'⟩ := hd.sql hK
    refine ⟨_, l.length, rfl, .inl ⟨xs, hs, hd'.length.symm⟩, ?_⟩
    exact vfin (g := g) w em (.int _) q
  | town =>
    cases notO hd (fun _ z => nomatch z)
    have e := (Prod.mk.inj (Option.some.inj (show some ((D.int k, k) : D × Nat) = some (r, k') from em)))
    obtain ⟨e1, e2⟩ := e
    subst e1 e2
    exact ⟨_, k, rfl, .inl ⟨_, .of w.town.1, (List.length_replicate ..).symm⟩, q _ H (Grow.refl T H) w (.int _)⟩
  | str s =>
    cases notO hd (fun _ z => nomatch z)
    obtain ⟨hz, e2⟩ := if_some (show (if s.length ≤ 16777216 then (pure (.int s.length) : M D) else no) k = some (r, k') from em)
    exact ⟨_, s.length, rfl, ⟨by rw [strOf_length, sizeLine_eq]; exact hz, (strOf_length s).symm⟩, vfin (g := g) w e2 (.int _) q⟩
  | tup l =>
    cases notO hd (fun _ z => nomatch z) with
    | tup h1 h2 => exact ⟨_, l.length, rfl, .inr ⟨_, .of h1, h2.length.symm⟩, vfin (g := g) w em (.int _) q⟩
  | scr l =>
    cases notO hd (fun _ z => nomatch z) with
    | scr h1 => exact ⟨_, l.length, rfl, .inl ⟨_, by rw [hK]; exact h1.sq, (List.length_map ..).symm⟩, vfin (g := g) w em (.int _) q⟩
  | dic a b => cases notO hd (fun _ z => nomatch z)
  | _ => exact absurd em (no_some (k := k))
theorem call_allD (hK : X.K = g.K) (hc : X.calm = true) : CallR X (.builtin "all") (rVB g (f1D .all)) := CallRi (cr_all hc) fun xs H Q h => by
  obtain ⟨x, rfl, T, k, d, r, k', w, hd, em, q⟩ := h
  cases d with
  | lst l =>
    obtain ⟨a, xs, rfl, hs, hd'⟩ := hd.sql hK
    obtain ⟨bs, k1, e1, e2⟩ := bind_some.mp (show (do let bs ← boolsL l; pure (.bl (bs.all id)) : M D) k = some (r, k') from em)
    obtain ⟨e3, e4⟩ := bools_v hd' e1
    subst e3 e4
    exact ⟨a, bs, rfl, hs, bfin w e2 q⟩
  | _ => exact absurd em (no_some (k := k))
theorem call_anyD (hK : X.K = g.K) (hc : X.calm = true) : CallR X (.builtin "any") (rVB g (f1D .any)) := CallRi (cr_any hc) fun xs H Q h => by
  obtain ⟨x, rfl, T, k, d, r, k', w, hd, em, q⟩ := h
  cases d with
  | lst l =>
    obtain ⟨a, xs, rfl, hs, hd'⟩ := hd.sql hK
    obtain ⟨bs, k1, e1, e2⟩ := bind_some.mp (show (do let bs ← boolsL l; pure (.bl (bs.any id)) : M D) k = some (r, k') from em)
    obtain ⟨e3, e4⟩ := bools_v hd' e1
    subst e3 e4
    exact ⟨a, bs, rfl, hs, bfin w e2 q⟩
  | _ => exact absurd em (no_some (k := k))
theorem call_sumD (hK : X.K = g.K) (hc : X.calm = true) : CallR X (.builtin "sum") (rVB g (f1D .sum)) := CallRi (cr_sum hc) fun xs H Q h => by
  obtain ⟨x, rfl, T, k, d, r, k', w, hd, em, q⟩ := h
  cases d with
  | lst l =>
    obtain ⟨a, xs, rfl, hs, hd'⟩ := hd.sql hK
    obtain ⟨bs, k1, e1, e2⟩ := bind_some.mp (show (do let ns ← intsL l; pure (.int ns.sum) : M D) k = some (r, k') from em)
    obtain ⟨e3, e4⟩ := ints_v hd' e1
    subst e3 e4
    exact ⟨a, bs, rfl, hs, vfin (g := g) w e2 (.int _) q⟩
  | _ => exact absurd em (no_some (k := k))
theorem call_tupleD (hK : X.K = g.K) : CallR X (.type "tuple") (rVB g (f1D .tuple)) := CallRi call_tuple_of fun xs H Q h => by
  obtain ⟨x, rfl, T, k, d, r, k', w, hd, em, q⟩ := h
  cases d with
  | lst l =>
    obtain ⟨a, xs, rfl, hs, hd'⟩ := hd.sql hK
    cases pure_some.mp em
    exact ⟨a, xs, rfl, .inl ⟨hs, fun p hp => newT w hp hd' q⟩⟩
  | tup l =>
    cases notO hd (fun _ z => nomatch z) with
    | tup h1 h2 => exact ⟨_, _, rfl, .inr ⟨.of h1, vfin (g := g) w em (.tup h1 h2) q⟩⟩
  | _ => exact absurd em (no_some (k := k))
theorem call_listN (hK : X.K = g.K) : CallR X (.type "list") (rVN g (f1D .list)) := CallRi call_list_of fun xs H Q h => by
  obtain ⟨x, T, k, d, r, k', rfl, w, hd, em, q⟩ := h
  cases d with
  | lst l =>
    obtain ⟨a, xs, rfl, hs, hd'⟩ := hd.sql hK
    cases pure_some.mp em
    exact ⟨a, xs, rfl, .inl hs, fun p hp => q p xs l _ rfl hp (w.neT hp) (Grow.new hp) (w.grow0 hp) upd_same (Dens.keep (keeps_new hp) _ _ hd')⟩
  | tup l =>
    cases notO hd (fun _ z => nomatch z) with
    | tup h1 h2 =>
      cases pure_some.mp em
      exact ⟨_, _, rfl, .inr (.of h1), fun p hp => q p _ l _ rfl hp (w.neT hp) (Grow.new hp) (w.grow0 hp) upd_same (Dens.keep (keeps_new hp) _ _ h2)⟩
  | _ => exact absurd em (no_some (k := k))
theorem call_intD : CallR X (.type "int") (rVB g fun d => match d with | .int i => f1D .int (.int i) | .bl b => f1D .int (.bl b) | _ => no) := CallRi call_int1 fun xs H Q h => by
  obtain ⟨x, rfl, T, k, d, r, k', w, hd, em, q⟩ := h
  cases d with
  | int i =>
    cases notO hd (fun _ z => nomatch z)
    exact .inl ⟨i, rfl, vfin (g := g) w em (.int _) q⟩
  | bl b =>
    cases notO hd (fun _ z => nomatch z)
    exact .inr ⟨b, rfl, vfin (g := g) w em (.int _) q⟩
  | _ => exact absurd em (no_some (k := k))

/-! ### min, max, sorted -/
theorem allL {l : List D} (h : alikes l = true) : ∀ x ∈ l, ∀ y ∈ l, like x y = true := by
  intro x hx y hy
  unfold alikes at h
  rw [List.all_eq_true] at h
  have := h x hx
  rw [List.all_eq_true] at this
  exact this y hy
theorem okds_mem {n : Nat} : ∀ {l : List D}, okds n l = true → ∀ x ∈ l, okd n x = true
  | [], _, x, hx => by cases hx
  | y :: ys, h, x, hx => by
    simp only [okds, Bool.and_eq_true] at h
    rcases List.mem_cons.mp hx with e | hx
    · rw [e]; exact h.1
    · exact okds_mem h.2 x hx
theorem py_non {d : D} (h : isNon d = false) : toPy d ≠ .none := by
  cases d <;> simp [toPy, isNon] at h ⊢
theorem alikeAll_py {l : List D} (h : alikes l = true) (hn : (l.all fun x => !isNon x) = true) : PySem.W.AlikeAll (toPys l) := by
  rw [toPys_map]
  refine ⟨fun x hx y hy => ?_, fun x hx => ?_⟩
  · obtain ⟨a, ha, rfl⟩ := List.mem_map.mp hx
    obtain ⟨b, hb, rfl⟩ := List.mem_map.mp hy
    exact like_py a b (allL h a ha b hb)
  · obtain ⟨a, ha, rfl⟩ := List.mem_map.mp hx
    rw [List.all_eq_true] at hn
    exact py_non (by simpa using hn a ha)
theorem minD_py {n : Nat} : ∀ (l : List D) (x : D), okd n x = true → okds n l = true → (∀ y ∈ l, like y x = true) → (∀ y ∈ l, ∀ z ∈ l, like y z = true) → PySem.W.minD (toPy x) (toPys l) = toPy (minL x l) ∧ okd n (minL x l) = true
  | [], x, hx, _, _, _ => ⟨rfl, hx⟩
  | y :: ys, x, hx, hl, h1, h2 => by
    simp only [okds, Bool.and_eq_true] at hl
    have e : PySem.W.minD (toPy x) (toPys (y :: ys)) = PySem.W.minD (if PySem.W.dataLt (toPy y) (toPy x) = true then toPy y else toPy x) (toPys ys) := rfl
    rw [e, lt_py y x n n hl.1 hx (h1 y List.mem_cons_self), minL]
    have h2' := fun a ha b hb => h2 a (List.mem_cons_of_mem _ ha) b (List.mem_cons_of_mem _ hb)
    cases hb : lt y x with
    | true =>
      rw [if_pos rfl, if_pos rfl]
      exact minD_py ys y hl.1 hl.2 (fun a ha => h2 a (List.mem_cons_of_mem _ ha) y List.mem_cons_self) h2'
    | false =>
      rw [if_neg Bool.false_ne_true, if_neg Bool.false_ne_true]
      exact minD_py ys x hx hl.2 (fun a ha => h1 a (List.mem_cons_of_mem _ ha)) h2'
theorem maxD_py {n : Nat} : ∀ (l : List D) (x : D), okd n x = true → okds n l = true → (∀ y ∈ l, like x y = true) → (∀ y ∈ l, ∀ z ∈ l, like y z = true) → PySem.W.maxD (toPy x) (toPys l) = toPy (maxL x l) ∧ okd n (maxL x l) = true
  | [], x, hx, _, _, _ => ⟨rfl, hx⟩
  | y :: ys, x, hx, hl, h1, h2 => by
    simp only [okds, Bool.and_eq_true] at hl
    have e : PySem.W.maxD (toPy x) (toPys (y :: ys)) = PySem.W.maxD (if PySem.W.dataLt (toPy x) (toPy y) = true then toPy y else toPy x) (toPys ys) := rfl
    rw [e, lt_py x y n n hx hl.1 (h1 y List.mem_cons_self), maxL]
    have h2' := fun a ha b hb => h2 a (List.mem_cons_of_mem _ ha) b (List.mem_cons_of_mem _ hb)
    cases hb : lt x y with
    | true =>
      rw [if_pos rfl, if_pos rfl]
      exact maxD_py ys y hl.1 hl.2 (fun a ha => h2 y List.mem_cons_self a (List.mem_cons_of_mem _ ha)) h2'
    | false =>
      rw [if_neg Bool.false_ne_true, if_neg Bool.false_ne_true]
      exact maxD_py ys x hx hl.2 (fun a ha => h1 a (List.mem_cons_of_mem _ ha)) h2'
theorem minL_mem : ∀ (l : List D) (x : D), minL x l ∈ x :: l
  | [], x => by simp [minL]
  | y :: ys, x => by
    rw [minL]
    have := minL_mem ys (if lt y x then y else x)
    split at this <;> rename_i h
    · rw [if_pos h]
      rcases List.mem_cons.mp this with e | e
      · rw [e]; simp
      · simp [e]
    · rw [if_neg h]
      rcases List.mem_cons.mp this with e | e
      · rw [e]; simp
      · simp [e]
theorem maxL_mem : ∀ (l : List D) (x : D), maxL x l ∈ x :: l
  | [], x => by simp [maxL]
  | y :: ys, x => by
    rw [maxL]
    have := maxL_mem ys (if lt x y then y else x)
    split at this <;> rename_i h
    · rw [if_pos h]
      rcases List.mem_cons.mp this with e | e
      · rw [e]; simp
      · simp [e]
    · rw [if_neg h]
      rcases List.mem_cons.mp this with e | e
      · rw [e]; simp
      · simp [e]
mutual
theorem toPy_inj : ∀ (a b : D) (n m : Nat), okd n a = true → okd m b = true → toPy a = toPy b → a = b
  | .non, b, _, _, _, hb, e => by cases b <;> simp [toPy, okd] at hb e ⊢
  | .bl _, b, _, _, _, hb, e => by cases b <;> simp [toPy, okd] at hb e ⊢ <;> exact e
  | .int _, b, _, _, _, hb, e => by cases b <;> simp [toPy, okd] at hb e ⊢ <;> exact e
  | .str _, b, _, _, _, hb, e => by
    cases b <;> simp [toPy, okd] at hb e ⊢
    exact strOf_inj e
  | .tup l, b, 0, _, h, _, _ => by simp [okd] at h
  | .tup l, b, n + 1, m, h, hb, e => by
    cases b with
    | tup r =>
      cases m with
      | zero => simp [okd] at hb
      | succ m =>
        simp only [okd] at h hb
        simp only [toPy] at e
        injection e with e
        rw [toPys_inj l r n m h hb e]
    | _ => simp [toPy] at e
  | .lst l, b, 0, _, h, _, _ => by simp [okd] at h
  | .lst l, b, n + 1, m, h, hb, e => by
    cases b with
    | lst r =>
      cases m with
      | zero => simp [okd] at hb
      | succ m =>
        simp only [okd] at h hb
        simp only [toPy] at e
        injection e with e
        rw [toPys_inj l r n m h hb e]
    | _ => simp [toPy] at e
  | .dic _ _, _, n, _, h, _, _ => by simp [okd] at h
  | .town, _, n, _, h, _, _ => by simp [okd] at h
  | .scr _, _, n, _, h, _, _ => by simp [okd] at h
  | .sk _, _, n, _, h, _, _ => by simp [okd] at h
theorem toPys_inj : ∀ (a b : List D) (n m : Nat), okds n a = true → okds m b = true → toPys a = toPys b → a = b
  | [], [], _, _, _, _, _ => rfl
  | [], _ :: _, _, _, _, _, e => by simp [toPys] at e
  | _ :: _, [], _, _, _, _, e => by simp [toPys] at e
  | x :: xs, y :: ys, n, m, h, hb, e => by
    simp only [okds, Bool.and_eq_true] at h hb
    simp only [toPys, List.cons.injEq] at e
    rw [toPy_inj x y n m h.1 hb.1 e.1, toPys_inj xs ys n m h.2 hb.2 e.2]
end
theorem readsAll_of {pins : List (Addr × Obj)} {σ : L2.St} {H : Hp} {s : Shared} (hK : X.K = g.K) (I : Inv X pins σ H s) {T : Addr} {l : List D} {xs : List V} {us : List Value} {n : Nat} (ho : okds n l = true) (h : Dens T g.K H xs l) (r : Vals xs us) : ∃ as, ReadsAll s.heap us (toPys l) as :=
  Dp.readsAll I _ xs us (by rw [hK]; exact Dens.dp l xs n ho h) r
theorem minable_of {x : D} {l : List D} (h : minable (x :: l) = true) : okds deep (x :: l) = true ∧ alikes (x :: l) = true ∧ ((x :: l).all fun x => !isNon x) = true := by
  unfold minable at h
  rw [Bool.and_eq_true, Bool.and_eq_true] at h
  exact ⟨h.1.1, h.1.2, h.2⟩
/-- the picked item -/
theorem picked {pins : List (Addr × Obj)} {σ : L2.St} {H : Hp} {s : Shared} (hK : X.K = g.K) (I : Inv X pins σ H s) {T : Addr} {k k' : Nat} {l : List D} {xs : List V} {its : List Value} {r m : D} {Q : VK} (w : WS T g.Tb H k) (hd : Dens T g.K H xs l) (rv : Vals xs its) (ho : okds deep l = true)
    (hm : okd deep m = true) (em : (pure m : M D) k = some (r, k')) (q : ∀ v H', Grow T H H' → WS T g.Tb H' k' → Den T g.K H' v r → Q v H')
    {i : Nat} {v : Value} {h' : Heap} {tk : Nat} {bs : List Addr} (hv : its[i]? = some v) (hr : Reads h' v (toPy m) bs) (hk : ∀ b o, s.heap.get? b = some o → h'.get? b = some o) (hl : ∀ x ∈ l, like x m = true) : EP X pins σ Q v { s with heap := h', toks := tk } := by
  cases pure_some.mp em
  have hi : i < its.length := by
    rcases Nat.lt_or_ge i its.length with z | z
    · exact z
    · rw [List.getElem?_eq_none z] at hv; cases hv
  have hx : i < xs.length := by rw [rv.length]; exact hi
  obtain ⟨u, hu, ru⟩ := rv.get (i := i) (x := xs[i]) (List.getElem?_eq_getElem hx)
  rw [hv] at hu
  cases hu
  have hil : i < l.length := by rw [← hd.length]; exact hx
  obtain ⟨v', hv', dv'⟩ := hd.get (i := i) (d := l[i]) (List.getElem?_eq_getElem hil)
  rw [List.getElem?_eq_getElem hx] at hv'
  cases hv'
  have I' : Inv X pins σ H { s with heap := h', toks := tk } := I.kept hk
  have hmem : l[i] ∈ l := List.getElem_mem hil
  obtain ⟨as, r1⟩ := reads_of hK I' (okds_mem ho _ hmem) dv' ru
  have e : toPy l[i] = toPy r := PySem.W.alike_unique _ _ _ _ _ (like_py _ _ (hl _ hmem)) r1 hr
  rw [← toPy_inj _ _ _ _ (okds_mem ho _ hmem) hm e] at q
  exact ⟨xs[i], H, I', ru, q _ H (Grow.refl T H) w dv'⟩
end
end G

namespace G
open PySem PySem.Spec PyProof.Rows L2

section
variable {g : Cf} {X : Cx}
theorem handled0 {pins : List (Addr × Obj)} {σ : L2.St} {H : Hp} {s : Shared} (I : Inv X pins σ H s) (hc : X.calm = true) : X.A.handled = none := I.ok.hd hc
theorem depthOk {l : List D} (h : okds deep l = true) (hu : X.A.units + 64 < cLine) : X.A.units + 1 + PyData.depthAll (toPys l) < cLine := by
  have := (okds_lay l deep h).2
  unfold deep at this
  omega
theorem call_minD (hK : X.K = g.K) (hc : X.calm = true) (hu : X.A.units + 64 < cLine) : CallR X (.builtin "min") (rVB g (f1D .min)) := by
  intro pins s σ H xs us Q I r h
  obtain ⟨x, rfl, T, k, d, r', k', w, hd, em, q⟩ := h
  obtain ⟨u, rfl, rx⟩ := vals1 r
  have hh := handled0 I hc
  have key : ∀ (y : D) (l : List D) (ys : List V) (its : List Value), minable (y :: l) = true → (pure (minL y l) : M D) k = some (r', k') → Dens T g.K H ys (y :: l) → Vals ys its →
      (∀ (i : Nat) v h' tk bs, its[i]? = some v → Reads h' v (PySem.W.minD (toPy y) (toPys l)) bs → (∀ b o, s.heap.get? b = some o → h'.get? b = some o) → EP X pins σ Q v { s with heap := h', toks := tk }) ∧
      (∃ as, ReadsAll s.heap its (toPy y :: toPys l) as) ∧ PySem.W.AlikeAll (toPy y :: toPys l) := by
    intro y l ys its hm e2 hds rv
    obtain ⟨h1, h2, h3⟩ := minable_of hm
    have lk := allL h2
    simp only [okds, Bool.and_eq_true] at h1
    obtain ⟨m1, m2⟩ := minD_py l y h1.1 h1.2 (fun a ha => lk a (List.mem_cons_of_mem _ ha) y List.mem_cons_self) (fun a ha b hb => lk a (List.mem_cons_of_mem _ ha) b (List.mem_cons_of_mem _ hb))
    have ho : okds deep (y :: l) = true := by simp only [okds, Bool.and_eq_true]; exact h1
    have hmem : minL y l ∈ y :: l := minL_mem l y
    refine ⟨fun i v h' tk bs hv hr hk => ?_, ?_, ?_⟩
    · rw [m1] at hr
      exact picked hK I w hds rv ho m2 e2 q hv hr hk (fun a ha => lk a ha _ hmem)
    · exact readsAll_of hK I ho hds rv
    · exact alikeAll_py h2 h3
  cases d with
  | lst l =>
    cases l with
    | nil => exact absurd em (no_some (k := k))
    | cons y l =>
      obtain ⟨hm, e2⟩ := if_some (show (if minable (y :: l) then (pure (minL y l) : M D) else no) k = some (r', k') from em)
      obtain ⟨a, ys, rfl, hs, hds⟩ := hd.sql hK
      cases rx
      obtain ⟨its, rv, pl, _⟩ := I.list hs
      obtain ⟨k1, ⟨as, k2⟩, k3⟩ := key y l ys its hm e2 hds rv
      exact PySem.W.min_list_data hh pl.isList (by simpa using k2) k3 (depthOk (minable_of hm).1 hu) fun i v h' tk bs hv hr hk => k1 i v h' tk bs (by simpa using hv) hr hk
  | tup l =>
    cases l with
    | nil => exact absurd em (no_some (k := k))
    | cons y l =>
      obtain ⟨hm, e2⟩ := if_some (show (if minable (y :: l) then (pure (minL y l) : M D) else no) k = some (r', k') from em)
      cases notO hd (fun _ z => nomatch z) with
      | tup h1 h2 =>
        cases rx
        obtain ⟨its, rv, pl, _⟩ := I.tuple (.of h1)
        obtain ⟨k1, ⟨as, k2⟩, k3⟩ := key y l _ its hm e2 h2 rv
        exact PySem.W.min_tuple_data hh (show s.heap.IsTuple _ _ from pl) (by simpa using k2) k3 (depthOk (minable_of hm).1 hu) fun i v h' tk bs hv hr hk => k1 i v h' tk bs (by simpa using hv) hr hk
  | _ => exact absurd em (no_some (k := k))
theorem call_maxD (hK : X.K = g.K) (hc : X.calm = true) (hu : X.A.units + 64 < cLine) : CallR X (.builtin "max") (rVB g (f1D .max)) := by
  intro pins s σ H xs us Q I r h
  obtain ⟨x, rfl, T, k, d, r', k', w, hd, em, q⟩ := h
  obtain ⟨u, rfl, rx⟩ := vals1 r
  have hh := handled0 I hc
  have key : ∀ (y : D) (l : List D) (ys : List V) (its : List Value), minable (y :: l) = true → (pure (maxL y l) : M D) k = some (r', k') → Dens T g.K H ys (y :: l) → Vals ys its →
      (∀ (i : Nat) v h' tk bs, its[i]? = some v → Reads h' v (PySem.W.maxD (toPy y) (toPys l)) bs → (∀ b o, s.heap.get? b = some o → h'.get? b = some o) → EP X pins σ Q v { s with heap := h', toks := tk }) ∧
      (∃ as, ReadsAll s.heap its (toPy y :: toPys l) as) ∧ PySem.W.AlikeAll (toPy y :: toPys l) := by
    intro y l ys its hm e2 hds rv
    obtain ⟨h1, h2, h3⟩ := minable_of hm
    have lk := allL h2
    simp only [okds, Bool.and_eq_true] at h1
    obtain ⟨m1, m2⟩ := maxD_py l y h1.1 h1.2 (fun a ha => lk y List.mem_cons_self a (List.mem_cons_of_mem _ ha)) (fun a ha b hb => lk a (List.mem_cons_of_mem _ ha) b (List.mem_cons_of_mem _ hb))
    have ho : okds deep (y :: l) = true := by simp only [okds, Bool.and_eq_true]; exact h1
    have hmem : maxL y l ∈ y :: l := maxL_mem l y
    refine ⟨fun i v h' tk bs hv hr hk => ?_, ?_, ?_⟩
    · rw [m1] at hr
      exact picked hK I w hds rv ho m2 e2 q hv hr hk (fun a ha => lk a ha _ hmem)
    · exact readsAll_of hK I ho hds rv
    · exact alikeAll_py h2 h3
  cases d with
  | lst l =>
    cases l with
    | nil => exact absurd em (no_some (k := k))
    | cons y l =>
      obtain ⟨hm, e2⟩ := if_some (show (if minable (y :: l) then (pure (maxL y l) : M D) else no) k = some (r', k') from em)
      obtain ⟨a, ys, rfl, hs, hds⟩ := hd.sql hK
      cases rx
      obtain ⟨its, rv, pl, _⟩ := I.list hs
      obtain ⟨k1, ⟨as, k2⟩, k3⟩ := key y l ys its hm e2 hds rv
      exact PySem.W.max_list_data hh pl.isList (by simpa using k2) k3 (depthOk (minable_of hm).1 hu) fun i v h' tk bs hv hr hk => k1 i v h' tk bs (by simpa using hv) hr hk
  | tup l =>
    cases l with
    | nil => exact absurd em (no_some (k := k))
    | cons y l =>
      obtain ⟨hm, e2⟩ := if_some (show (if minable (y :: l) then (pure (maxL y l) : M D) else no) k = some (r', k') from em)
      cases notO hd (fun _ z => nomatch z) with
      | tup h1 h2 =>
        cases rx
        obtain ⟨its, rv, pl, _⟩ := I.tuple (.of h1)
        obtain ⟨k1, ⟨as, k2⟩, k3⟩ := key y l _ its hm e2 h2 rv
        exact PySem.W.max_tuple_data hh (show s.heap.IsTuple _ _ from pl) (by simpa using k2) k3 (depthOk (minable_of hm).1 hu) fun i v h' tk bs hv hr hk => k1 i v h' tk bs (by simpa using hv) hr hk
  | _ => exact absurd em (no_some (k := k))
/-! ### sorted -/
theorem each_zip {T : Addr} {H : Hp} : ∀ {l : List D} {xs : List V} {its : List Value}, Dens T g.K H xs l → Vals xs its → PySem.W.EachIs (fun v (b : D × V) => RelV b.2 v ∧ Den T g.K H b.2 b.1) its (l.zip xs)
  | [], _, _, h, r => by cases h; cases r; exact .nil
  | d :: l, _, _, h, r => by
    cases h with
    | cons h1 h2 =>
      cases r with
      | cons r1 r2 => exact .cons ⟨r1, h1⟩ (each_zip h2 r2)
theorem each_back {T : Addr} {H : Hp} : ∀ {its : List Value} {bs : List (D × V)}, PySem.W.EachIs (fun v (b : D × V) => RelV b.2 v ∧ Den T g.K H b.2 b.1) its bs → Vals (bs.map (·.2)) its ∧ Dens T g.K H (bs.map (·.2)) (bs.map (·.1))
  | _, _, .nil => ⟨.nil, .nil⟩
  | _, _, .cons ⟨h1, h2⟩ t => by
    obtain ⟨a, b⟩ := each_back t
    exact ⟨.cons h1 a, .cons h2 b⟩
end
end G

namespace G
open PySem PySem.Spec PyProof.Rows PySem.W PySem.SeqAt

/-! ### sorting rows of tuples, empty ones among them -/
/-- all are tuples, or none is one (and none is None) -/
def SortOk (ds : List PyData) : Prop := (∀ d ∈ ds, ∃ xs, d = .tuple xs) ∨ ∀ d, d ∈ ds → d ≠ .none ∧ ∀ xs, d ≠ .tuple xs
section
variable {prog : Program} {w : World} {A : Around} {E : Value → Shared → Prop} {s : Shared}
theorem tup_lt_call {Q : Value → Shared → Prop} {l b : Addr} {items items2 : Array Value} {e r : Nat → Bool} (hl : s.heap.IsTuple l items) (hb : s.heap.IsTuple b items2)
    (he : ∀ j (h1 : j < items.size) (h2 : j < items2.size), EqAt A.in1 s items[j] items2[j] (e j)) (hr : ∀ j (h1 : j < items.size) (h2 : j < items2.size), e j = false → RcLt A.in1 s items[j] items2[j] (r j))
    (q : Q (.bool (firstLt e r (decide (items.size < items2.size)) (List.range (min items.size items2.size)))) s) : wpAny (model prog w) A (call (.builtin "tuple.__lt__") [.ref l, .ref b]) Q E s := by
  obtain ⟨⟨c1, d1, t1, s1⟩, ho, hc, n, hd⟩ := id hl
  obtain ⟨⟨c2, d2, t2, s2⟩, ho2, hc2, n2, hd2⟩ := id hb
  dsimp only at hc hd hc2 hd2
  subst hc; subst hd; subst hc2; subst hd2
  have tt : s.TypeIs (.ref l) "tuple" := ⟨_, ho, rfl⟩
  exact call_meets F.slot_tuple_lt tt F.entry_tuple_lt (F.args_tuple_lt_2 _ _) (tuple_ltAt l b items items2 n n2 d1 d2 s1 s2 e r) ⟨ho, ho2, he, hr, q⟩
theorem one_tup {xs ys : List PyData} {a b : Value} {as bs : List Addr} {Q : Bool → Shared → Prop} (ra : Reads s.heap a (.tuple xs) as) (rb : Reads s.heap b (.tuple ys) bs) (h : alike (.tuple xs) (.tuple ys) = true)
    (hu : A.units + min (PyData.tuple xs).depth (PyData.tuple ys).depth < cLine) (hq : Q (dataLt (.tuple xs) (.tuple ys)) s) : wpAny (model prog w) A (oneLt' true a b) Q E s := by
  have hal : alikeAll xs ys = true := by simpa [alike] using h
  cases ra with
  | @tuple l o vs n _ as₁ h1 h2 h3 h4 =>
    cases rb with
    | @tuple l' o' vs' n' _ bs₁ k1 k2 k3 k4 =>
      have m1 : vs.size = xs.length := by have := ReadsAll.length _ _ _ h4; simpa using this
      have m2 : vs'.size = ys.length := by have := ReadsAll.length _ _ _ k4; simpa using this
      rw [dataLt_tuple, ← firstLt_toks xs ys hal, ← m1, ← m2] at hq
      rw [oneLt'_eq, if_pos rfl]
      refine wpAny_bind (wpAny_cRoomFor (room_here hu) ?_)
      have tt : s.TypeIs (.ref l) "tuple" := ⟨_, h1, h2⟩
      refine wpAny_bind (wpAny_callSpecialIfBound?_slot tt F.slot_tuple_lt (tup_lt_call (e := pairEq xs ys) (r := fun j => dataLt (xs.getD j .none) (ys.getD j .none)) ⟨_, h1, h2, _, h3⟩ ⟨_, k1, k2, _, k3⟩ (fun j j1 j2 => ?_) (fun j j1 j2 hj => ?_) ?_))
      · have z := eqAt_alikeAll xs ys A.in1 s vs.toList vs'.toList _ _ h4 k4 hal (room_in hu) j (by simpa using j1) (by simpa using j2)
        simpa using z
      · have z := rcLt_alikeAll xs ys A.in1 s vs.toList vs'.toList _ _ h4 k4 hal (room_in hu) j (by simpa using j1) (by simpa using j2) hj
        simpa using z
      · exact wpAny_truthy_bool hq
/-- the first items of rows -/
theorem firsts_tup : ∀ (vs : List Value) (ds : List PyData) {Q : List (Option Value) → Shared → Prop}, EachIs (fun v d => ∃ as, Reads s.heap v d as) vs ds → (∀ d ∈ ds, ∃ xs, d = .tuple xs) →
    (∀ fs : List (Option Value), fs.length = ds.length → (∀ (i : Nat) (d : PyData) (f : Option Value), ds[i]? = some d → fs[i]? = some f → (f.isSome = true ↔ d ≠ .tuple [])) → Q fs s) → wpAny (model prog w) A (vs.mapM firstOfTuple') Q E s
  | _, _, Q, .nil, _, h => by
    rw [List.mapM_nil]
    exact wpAny_pure (h [] rfl fun i d f z => by simp at z)
  | v :: vs, d :: ds, Q, .cons ⟨as, r⟩ t, hd, h => by
    obtain ⟨xs, rfl⟩ := hd _ List.mem_cons_self
    rw [List.mapM_cons]
    refine wpAny_bind ?_
    rw [kas_first_eq]
    have lk := looks_reads (M := model prog w) r
    refine wpAny_bind (lk.here ?_)
    rw [if_neg (show ¬ (dataType (.tuple xs) != Value.type "tuple") = true by show ¬ (Value.type "tuple" != Value.type "tuple") = true; simp)]
    cases r with
    | @tuple l o us n _ as₁ h1 h2 h3 h4 =>
      refine wpAny_bind (listItems_at h1 h3 (wpAny_pure ?_))
      refine wpAny_bind (firsts_tup vs ds t (fun e he => hd e (List.mem_cons_of_mem _ he)) fun fs f1 f2 => wpAny_pure ?_)
      refine h _ (by rw [List.length_cons, List.length_cons, f1]) fun i e f z1 z2 => ?_
      cases i with
      | zero =>
        have z1 : PyData.tuple xs = e := by simpa using z1
        have z2 : us[0]? = f := by simpa using z2
        subst z1 z2
        have m1 : us.size = xs.length := by have := ReadsAll.length _ _ _ h4; simpa using this
        cases xs with
        | nil =>
          rw [Array.getElem?_eq_none (by rw [m1]; simp)]
          simp
        | cons x xs =>
          rw [Array.getElem?_eq_getElem (by rw [m1]; simp)]
          simp
      | succ i => exact f2 i e f (by simpa using z1) (by simpa using z2)
theorem one_type {vs : List Value} {Q : SortKind → Shared → Prop} (hn : vs ≠ []) (hT : ∀ v ∈ vs, Looks (model prog w) s.heap (typeOf v) (.type "tuple")) (h : Q oneType' s) : wpAny (model prog w) A (do return if (← oneTypeOnly' vs.toArray).isSome then oneType' else general') Q E s := by
  obtain ⟨v, r, rfl⟩ := List.exists_cons_of_ne_nil hn
  refine wpAny_bind ?_
  rw [oneTypeOnly'_eq, List.mapM_toArray, map_eq_pure_bind]
  refine wpAny_bind (wpAny_bind (kas_mapM (r := Value.type "tuple") _ (fun u hu Q' hq => (hT u hu).here hq) (wpAny_pure ?_)))
  have a1 : (((v :: r).map fun _ => Value.type "tuple").toArray.all fun x => x == Value.type "tuple") = true := by
    rw [List.all_toArray, List.all_eq_true]
    intro x hx
    obtain ⟨_, _, rfl⟩ := List.mem_map.mp hx
    exact beq_self_eq_true _
  have a0 : ((v :: r).map fun _ => Value.type "tuple").toArray[0]? = some (Value.type "tuple") := by simp
  rw [a0]
  simp only [a1, if_true]
  exact wpAny_pure (wpAny_pure h)
theorem SortsOk {vs : List Value} {ds : List PyData} (e : EachIs (fun v d => ∃ as, Reads s.heap v d as) vs ds) (hal : AllAlike ds) (hk : SortOk ds) (hu : ∀ d, d ∈ ds → A.units + d.depth < cLine) : SortsAt prog w A s (dataKind s.heap ds) vs := by
  rcases hk with ht | hn
  · by_cases he : ∀ d ∈ ds, d ≠ .tuple []
    · refine SortsAt.data e hal (.inl fun d hd => ?_) hu
      obtain ⟨xs, rfl⟩ := ht d hd
      cases xs with
      | nil => exact absurd rfl (he _ hd)
      | cons x r => exact ⟨x, r, rfl⟩
    · have ex : ∃ d ∈ ds, d = .tuple [] := Classical.byContradiction fun z => he fun d hd q => z ⟨d, hd, q⟩
      obtain ⟨dz, hz, rfl⟩ := ex
      have looksT : ∀ v ∈ vs, Looks (model prog w) s.heap (typeOf v) (.type "tuple") := fun v hv => by
        obtain ⟨d, hd, as, r⟩ := e.left v hv
        obtain ⟨xs, rfl⟩ := ht d hd
        exact looks_reads r
      have room : ∀ {d d' : PyData}, d ∈ ds → A.units + min d.depth d'.depth < cLine := fun {d d'} hd => Nat.lt_of_le_of_lt (Nat.add_le_add_left (Nat.min_le_left _ _) _) (hu d hd)
      have key : ∀ (kd : SortKind) (f : Bool), (∀ x y, keyLt' kd x y = oneLt' f x y) → H.LtAt prog w A s (dataKind s.heap ds) kd := fun kd f hf E x y a b Q ha hb hq => by
        obtain ⟨d, as, hd, ra, rfl⟩ := dataKind_inv ha
        obtain ⟨d', as', hd', rb, rfl⟩ := dataKind_inv hb
        rw [hf]
        cases f with
        | true =>
          obtain ⟨xs, rfl⟩ := ht d hd
          obtain ⟨ys, rfl⟩ := ht d' hd'
          exact one_tup ra rb (hal _ hd _ hd') (room hd) hq
        | false => exact oneLt_alike (fun z => by cases z) ra rb (hal d hd d' hd') (by obtain ⟨xs, rfl⟩ := ht d hd; intro z; cases z) (room hd) hq
      refine ⟨fun v hv => ?_, ?_⟩
      · obtain ⟨d, hd, as, r⟩ := e.left v hv
        exact ⟨_, dataKind_some hal hd r⟩
      · cases ds with
        | nil => cases hz
        | cons d0 ds0 =>
          cases e with
          | @cons v0 _ vs0 _ e0 er =>
          have ee : EachIs (fun v d => ∃ as, Reads s.heap v d as) (v0 :: vs0) (d0 :: ds0) := .cons e0 er
          obtain ⟨iz, hiz⟩ := List.mem_iff_getElem?.mp hz
          have notall : ∀ fs : List (Option Value), fs.length = (d0 :: ds0).length → (∀ (i : Nat) (d : PyData) (f : Option Value), (d0 :: ds0)[i]? = some d → fs[i]? = some f → (f.isSome = true ↔ d ≠ .tuple [])) → ¬ (fs.toArray.all fun x => x.isSome) = true := fun fs f1 f2 z => by
            have hlt : iz < (d0 :: ds0).length := (List.getElem?_eq_some_iff.mp hiz).1
            have h3 := f2 iz _ fs[iz] hiz (List.getElem?_eq_getElem (by omega))
            rw [List.all_toArray, List.all_eq_true] at z
            exact (h3.mp (z _ (List.getElem_mem (by omega)))) rfl
          by_cases h0 : d0 = .tuple []
          · refine ⟨oneType', key _ true fun x y => keyLt'_oneType x y, fun h2 E Q hq => ?_⟩
            rw [keyKind'_eq, List.mapM_toArray, map_eq_pure_bind]
            refine wpAny_bind (wpAny_bind (firsts_tup _ _ ee ht fun fs f1 f2 => wpAny_pure ?_))
            rw [if_neg (notall fs f1 f2)]
            have hh : ¬ (fs.toArray[0]?.bind id).isSome = true := fun z => by
              have g1 : 0 < fs.length := by rw [f1]; simp
              have h3 := f2 0 d0 fs[0] rfl (List.getElem?_eq_getElem g1)
              rw [List.getElem?_toArray, List.getElem?_eq_getElem g1] at z
              exact h3.mp z h0
            rw [if_neg hh]
            exact one_type (by simp) looksT hq
          · refine ⟨general', key _ false fun x y => rfl, fun h2 E Q hq => ?_⟩
            rw [keyKind'_eq, List.mapM_toArray, map_eq_pure_bind]
            refine wpAny_bind (wpAny_bind (firsts_tup _ _ ee ht fun fs f1 f2 => wpAny_pure ?_))
            rw [if_neg (notall fs f1 f2)]
            have hh : (fs.toArray[0]?.bind id).isSome = true := by
              have g1 : 0 < fs.length := by rw [f1]; simp
              have h3 := f2 0 d0 fs[0] rfl (List.getElem?_eq_getElem g1)
              rw [List.getElem?_toArray, List.getElem?_eq_getElem g1]
              exact h3.mpr h0
            rw [if_pos hh]
            exact wpAny_pure hq
  · exact SortsAt.data e hal (.inr hn) hu
/-- sorted(a list) -/
theorem sorted_ok {β : Type} {vs : List Value} {bs : List β} {enc : β → PyData} {R : Value → β → Prop} {l : Addr} {Q : Value → Shared → Prop} (hl : s.heap.IsList l vs.toArray) (e : EachIs R vs bs) (er : EachIs (fun v b => ∃ as, Reads s.heap v (enc b) as) vs bs) (hal : AllAlike (bs.map enc)) (hk : SortOk (bs.map enc)) (hL : bs.length ≤ sizeLine)
    (hu : ∀ b ∈ bs, A.units + 2 + (enc b).depth < cLine) (h : ∀ out, out.length = bs.length → EachIs R out (bs.mergeSort (dataLe false enc)) → Q (.ref (s.heap.objs.size + 1)) { s with heap := sortedAll s.heap vs (List.toArray out) }) :
    wpAny (model prog w) A (call (.builtin "sorted") [.ref l]) Q E s := by
  have e2 : EachIs (fun v b => ∃ as, Reads (sortingHeap (copyHeap s.heap vs) (s.heap.objs.size + 1) vs) v (enc b) as) vs bs := er.mono fun v b z => by
    obtain ⟨as, r⟩ := z
    exact ⟨as, PyProof.Rows.Reads.keeps (fun x o q => sorting_copy_old q) r⟩
  have S := SortsOk (prog := prog) (w := w) (A := A.in1.in1) (s := { s with heap := sortingHeap (copyHeap s.heap vs) (s.heap.objs.size + 1) vs }) (each_map (R := fun v d => ∃ as, Reads (sortingHeap (copyHeap s.heap vs) (s.heap.objs.size + 1) vs) v d as) enc e2) hal hk (bound_map hu)
  have hv : vs.length = bs.length := e.length
  refine sorted_vals hl S (by rw [hv]; exact hL) (h _ ?_ (sortVals_data false e e2 hal))
  rw [sortVals_length false rfl]
  exact hv
/-- list.sort(), no item reads off the list -/
theorem lsort_ok {β : Type} {vs : List Value} {bs : List β} {enc : β → PyData} {R : Value → β → Prop} {a : Addr} {n : Nat} {Q : Value → Shared → Prop} (ho : s.heap.get? a = some (seqObj "list" vs.toArray n)) (e : EachIs R vs bs) (er : EachIs (fun v b => ∃ as, Reads s.heap v (enc b) as ∧ a ∉ as) vs bs) (hal : AllAlike (bs.map enc)) (hk : SortOk (bs.map enc)) (hL : bs.length ≤ sizeLine)
    (hu : ∀ b ∈ bs, A.units + 1 + (enc b).depth < cLine) (h : ∀ out, out.length = bs.length → EachIs R out (bs.mergeSort (dataLe false enc)) → Q .none { s with heap := sortedHeap s.heap a vs (List.toArray out) }) :
    wpAny (model prog w) A (call (.builtin "list.sort") [.ref a]) Q E s := by
  have e2 : EachIs (fun v b => ∃ as, Reads (sortingHeap s.heap a vs) v (enc b) as) vs bs := each_keepBut (h' := sortingHeap s.heap a vs) (fun x o hb q => sortingHeap_old hb q) (fun o q => by rw [ho] at q; cases q; rfl) hal er
  have S := SortsOk (prog := prog) (w := w) (A := A.in1) (s := { s with heap := sortingHeap s.heap a vs }) (each_map (R := fun v d => ∃ as, Reads (sortingHeap s.heap a vs) v d as) enc e2) hal hk (bound_map hu)
  have hv : vs.length = bs.length := e.length
  refine wpAny_call_entry slot_list_sort ⟨_, ho, rfl⟩ entry_list_sort (list_sort_vals ho S (by rw [hv]; exact hL) ⟨.none, rfl, h _ ?_ (sortVals_data false e e2 hal)⟩) (args_list_sort _)
  rw [sortVals_length false rfl]
  exact hv
end
end G

namespace G
open PySem PySem.Spec PyProof.Rows L2

section
variable {g : Cf} {X : Cx}
theorem zip_fst {α β : Type} : ∀ {l : List α} {xs : List β}, xs.length = l.length → (l.zip xs).map (·.1) = l
  | [], _, _ => rfl
  | a :: l, [], h => by simp at h
  | a :: l, x :: xs, h => by
    show a :: (l.zip xs).map (·.1) = a :: l
    rw [zip_fst (by simpa using h)]
theorem py_tup0 {d : D} (h : isTup0 d = true) : ∃ xs, toPy d = .tuple xs := by
  cases d with
  | tup l => exact ⟨_, rfl⟩
  | _ => simp [isTup0] at h
theorem py_notup {d : D} (h : isTup0 d = false) : ∀ xs, toPy d ≠ .tuple xs := by
  intro xs
  cases d <;> simp [isTup0, toPy] at h ⊢
theorem each_readsZ {pins : List (Addr × Obj)} {σ : L2.St} {H : Hp} {s : Shared} (hK : X.K = g.K) (I : Inv X pins σ H s) {T : Addr} {n : Nat} : ∀ {l : List D} {xs : List V} {its : List Value}, okds n l = true → Dens T g.K H xs l → Vals xs its →
    PySem.W.EachIs (fun v (b : D × V) => ∃ as, Reads s.heap v (toPy b.1) as) its (l.zip xs)
  | [], _, _, _, h, r => by cases h; cases r; exact .nil
  | d :: l, _, _, ho, h, r => by
    simp only [okds, Bool.and_eq_true] at ho
    cases h with
    | cons h1 h2 =>
      cases r with
      | cons r1 r2 => exact .cons (reads_of hK I ho.1 h1 r1) (each_readsZ hK I ho.2 h2 r2)
mutual
theorem reads_lt {h : Heap} : ∀ (d : D) (v : Value) (as : List Addr), Reads h v (toPy d) as → ∀ a ∈ as, a < h.objs.size
  | .non, _, _, r => by cases r; intro a ha; cases ha
  | .bl _, _, _, r => by cases r; intro a ha; cases ha
  | .int _, _, _, r => by cases r; intro a ha; cases ha
  | .str _, _, _, r => by cases r; intro a ha; cases ha
  | .tup l, _, _, r => by
    cases r with
    | tuple _ _ _ r2 => exact readsAll_lt l _ _ r2
  | .lst l, _, _, r => by
    cases r with
    | list e _ _ r2 =>
      intro a ha
      rcases List.mem_cons.mp ha with q | q
      · rw [q]; exact Heap.lt_size e
      · exact readsAll_lt l _ _ r2 a q
  | .dic _ _, _, _, r => by
    cases r with
    | dict e _ _ r1 r2 => exact dict_lt e r1 r2
  | .town, _, _, r => by
    cases r with
    | dict e _ _ r1 r2 => exact dict_lt e r1 r2
  | .scr _, _, _, r => by
    cases r with
    | dict e _ _ r1 r2 => exact dict_lt e r1 r2
  | .sk _, _, _, r => by
    cases r with
    | dict e _ _ r1 r2 => exact dict_lt e r1 r2
theorem readsAll_lt {h : Heap} : ∀ (l : List D) (vs : List Value) (as : List Addr), ReadsAll h vs (toPys l) as → ∀ a ∈ as, a < h.objs.size
  | [], _, _, r => by cases r; intro a ha; cases ha
  | d :: l, _, _, r => by
    cases r with
    | cons r1 r2 =>
      intro a ha
      rcases List.mem_append.mp ha with q | q
      · exact reads_lt d _ _ r1 a q
      · exact readsAll_lt l _ _ r2 a q
theorem dict_lt {h : Heap} {a : Addr} {o : Obj} {vs ws : List Value} {as bs : List Addr} (e : h.get? a = some o) (r1 : ReadsAll h vs (List.map (fun p : PyData × PyData => p.1) []) as) (r2 : ReadsAll h ws (List.map (fun p : PyData × PyData => p.2) []) bs) : ∀ b ∈ a :: as ++ bs, b < h.objs.size := by
  cases r1
  cases r2
  intro b hb
  have hb : b = a := by simpa using hb
  rw [hb]
  exact Heap.lt_size e
end
/-- what sorting wants of a row, and what it leaves -/
theorem sort_facts {pins : List (Addr × Obj)} {σ : L2.St} {H : Hp} {s : Shared} (hK : X.K = g.K) (hu : X.A.units + 64 < cLine) (I : Inv X pins σ H s) {T : Addr} {l : List D} {ys : List V} {its : List Value} (hm : sortable l = true) (hds : Dens T g.K H ys l) (rv : Vals ys its) :
    PySem.W.AllAlike ((l.zip ys).map fun b => toPy b.1) ∧ SortOk ((l.zip ys).map fun b => toPy b.1) ∧ (l.zip ys).length = l.length ∧ (∀ b ∈ l.zip ys, X.A.units + 2 + (toPy b.1).depth < cLine) ∧ ((l.zip ys).mergeSort (PySem.W.dataLe false fun b : D × V => toPy b.1)).map (·.1) = sortL l := by
  unfold sortable at hm
  rw [Bool.and_eq_true, Bool.and_eq_true] at hm
  obtain ⟨⟨ho, ha⟩, ht⟩ := hm
  have hlen : ys.length = l.length := hds.length
  have em : (l.zip ys).map (fun b => toPy b.1) = toPys l := by
    rw [toPys_map, show (fun b : D × V => toPy b.1) = toPy ∘ (·.1) from rfl, ← List.map_map, zip_fst hlen]
  have lk := allL ha
  refine ⟨?_, ?_, by rw [List.length_zip, hlen, Nat.min_self], ?_, ?_⟩
  · rw [em, toPys_map]
    intro x hx y hy
    obtain ⟨a, ha, rfl⟩ := List.mem_map.mp hx
    obtain ⟨b, hb, rfl⟩ := List.mem_map.mp hy
    exact like_py a b (lk a ha b hb)
  · rw [em, toPys_map]
    rcases Bool.or_eq_true_iff.mp ht with t | t
    · refine .inl fun d hd => ?_
      obtain ⟨a, ha, rfl⟩ := List.mem_map.mp hd
      exact py_tup0 (List.all_eq_true.mp t a ha)
    · refine .inr fun d hd => ?_
      obtain ⟨a, ha, rfl⟩ := List.mem_map.mp hd
      have := List.all_eq_true.mp t a ha
      rw [Bool.and_eq_true] at this
      exact ⟨py_non (by simpa using this.2), py_notup (by simpa using this.1)⟩
  · intro b hb
    have hb1 : b.1 ∈ l := (List.of_mem_zip hb).1
    have hdp := (okd_lay b.1 deep (okds_mem ho _ hb1)).2
    unfold deep at hdp
    omega
  · unfold sortL
    rw [List.map_mergeSort (s := leD), zip_fst hlen]
    intro a ha b hb
    have h1 : a.1 ∈ l := (List.of_mem_zip ha).1
    have h2 : b.1 ∈ l := (List.of_mem_zip hb).1
    rw [PySem.W.dataLe_eq]
    show (!PySem.W.dataLt (toPy b.1) (toPy a.1)) = !lt b.1 a.1
    rw [lt_py _ _ _ _ (okds_mem ho _ h2) (okds_mem ho _ h1) (lk _ h2 _ h1)]
theorem each_lt {h : Heap} {D0 : Addr} (hD : h.objs.size ≤ D0) {its : List Value} {bs : List (D × V)} (e : PySem.W.EachIs (fun v (b : D × V) => ∃ as, Reads h v (toPy b.1) as) its bs) {h2 : Heap} (k : ∀ b o, h.get? b = some o → h2.get? b = some o) : PySem.W.EachIs (fun v (b : D × V) => ∃ as, Reads h2 v (toPy b.1) as ∧ D0 ∉ as) its bs :=
  e.mono fun v b ⟨as, r⟩ => ⟨as, PyProof.Rows.Reads.keeps k r, fun z => Nat.lt_irrefl _ (Nat.lt_of_lt_of_le (reads_lt b.1 v as r D0 z) hD)⟩
/-- sorted(a tuple) -/
theorem sorted_tupleA {pins : List (Addr × Obj)} {σ : L2.St} {H : Hp} {s : Shared} {Q : VK} (hK : X.K = g.K) (hu : X.A.units + 64 < cLine) (I : Inv X pins σ H s) {T p : Addr} {k : Nat} {l : List D} {ys : List V} (w : WS T g.Tb H k) (hm : sortable l = true) (h1 : H p = some (.tup ys)) (hds : Dens T g.K H ys l)
    (q : ∀ p' xs ds H', D.lst (sortL l) = .lst ds → H p' = none → p' ≠ T → Grow T H H' → WS T g.Tb H' k → H' p' = some (.lst xs) → Dens T g.K H' xs ds → Q (.ref p') H') : wpAny (model X.prog X.w) X.A (call (.builtin "sorted") [.ref p]) (EP X pins σ Q) X.xe s := by
  obtain ⟨its, rv, pl, hz⟩ := I.tuple (.of h1)
  obtain ⟨o, ho, hc, n, hdt⟩ := (show s.heap.IsTuple p its.toArray from pl)
  obtain ⟨f1, f2, f3, f4, f5⟩ := sort_facts hK hu I hm hds rv
  have ho2 : okds deep l = true := by
    unfold sortable at hm
    rw [Bool.and_eq_true, Bool.and_eq_true] at hm
    exact hm.1.1
  have hil : its.length = l.length := by rw [← rv.length]; exact hds.length
  refine PySem.Calls.call_function_entry kind_sorted plain_sorted entry_sorted (args_sorted1 _) ?_
  unfold Builtin.«sorted»
  refine wpAny_bind (m := checkCount "sorted" 1 1 _) (wpAny_pure ?_)
  refine wpAny_bind (wpAny_collect_seq (A := X.A.in1) p (.inr rfl) ho hc hdt (fun h' hk => ?_) (by rw [List.size_toArray, ← rv.length]; exact hz))
  refine wpAny_bind (wpAny_newList ?_ (by rw [← rv.length]; exact hz))
  have hD : (h'.push { cls := .type "list", data := .seq (its.toArray.toList).toArray }).get? h'.objs.size = some (seqObj "list" its.toArray 0) := Heap.get?_push_size _ rfl
  have I1 : Inv X pins σ H { s with heap := h' } := I.kept (t' := s.toks) hk
  have k2 : ∀ b ob, h'.get? b = some ob → (h'.push { cls := .type "list", data := .seq (its.toArray.toList).toArray }).get? b = some ob := fun b ob e => Heap.get?_push_of_some _ e
  have er := each_lt (Nat.le_refl _) (each_readsZ hK I1 ho2 hds rv) k2
  refine wpAny_bind (wpAny_holding (wpAny_mono (lsort_ok (A := X.A.in1) (s := { s with heap := h'.push { cls := .type "list", data := .seq (its.toArray.toList).toArray } }) (R := fun v (b : D × V) => RelV b.2 v ∧ Den T g.K H b.2 b.1) (enc := fun b : D × V => toPy b.1) (vs := its) (bs := l.zip ys) (n := 0) hD (each_zip hds rv) er f1 f2 (by rw [f3, ← hil, ← rv.length]; exact hz) (fun b hb => ?_)
    (Q := fun _ s' => EP X pins σ Q (.ref h'.objs.size) s') (fun out hout eo => ?_)) (fun v s' hq => wpAny_pure ⟨_, rfl, hq⟩) fun _ _ e => e))
  · have := f4 b hb
    show X.A.units + 1 + 1 + _ < _
    omega
  · obtain ⟨b1, b2⟩ := each_back eo
    rw [f5] at b2
    obtain ⟨c, hcc⟩ := PyProof.Rows.sortedHeap_at (vs := its) (out := out.toArray) hD
    have hp' : H h'.objs.size = none := I1.hok.fresh (Nat.le_refl _)
    refine ⟨.ref h'.objs.size, _, I1.laid (t' := s.toks) (o := .lst _) (fun b ob e => ?_) (Nat.le_refl _) ?_, rfl, q _ _ _ _ rfl hp' (w.neT hp') (Grow.new hp') (w.grow0 hp') upd_same (Dens.keep (keeps_new hp') _ _ b2)⟩
    · have hlt : b < h'.objs.size := Heap.lt_size e
      exact (PyProof.Rows.sortedHeap_old (Nat.ne_of_lt hlt) (Heap.lt_size (k2 b ob e))).trans (k2 b ob e)
    · have hl2 : ((List.mergeSort (l.zip ys) (PySem.W.dataLe false fun b : D × V => toPy b.1)).map (·.2)).length ≤ sizeLine := by
        rw [List.length_map, List.length_mergeSort, f3, ← hds.length]; exact hz
      exact ⟨hl2, _, c, b1, hcc⟩
/-- a list of one item at most -/
theorem list_sort_one {prog : Program} {w : World} {A : Around} {E : Value → Shared → Prop} {s : Shared} {a : Addr} {vs : List Value} {n : Nat} {Q : Value → Shared → Prop} (ho : s.heap.get? a = some (seqObj "list" vs.toArray n)) (h1 : vs.length ≤ 1) (hL : vs.length ≤ sizeLine)
    (h : Q .none { s with heap := sortedHeap s.heap a vs vs.toArray }) : wpAny (model prog w) A (call (.builtin "list.sort") [.ref a]) Q E s := by
  refine wpAny_call_entry PyProof.Rows.slot_list_sort ⟨_, ho, rfl⟩ PyProof.Rows.entry_list_sort (Srt.list_sort_any ho hL (fun z => absurd z (by omega)) fun out hp => ⟨.none, rfl, ?_⟩) (PyProof.Rows.args_list_sort _)
  have e : out = vs := by
    match vs, h1, hp with
    | [], _, hp => exact List.perm_nil.mp hp
    | [x], _, hp => exact List.perm_singleton.mp hp
  rw [e]
  exact h
/-- sorted(a tuple of one item at most) -/
theorem sorted_tuple1 {pins : List (Addr × Obj)} {σ : L2.St} {H : Hp} {s : Shared} {Q : VK} (hK : X.K = g.K) (hu : X.A.units + 64 < cLine) (I : Inv X pins σ H s) {T p : Addr} {k : Nat} {l : List D} {ys : List V} (w : WS T g.Tb H k) (hm : l.length ≤ 1) (h1 : H p = some (.tup ys)) (hds : Dens T g.K H ys l)
    (q : ∀ p' xs ds H', D.lst (sortL l) = .lst ds → H p' = none → p' ≠ T → Grow T H H' → WS T g.Tb H' k → H' p' = some (.lst xs) → Dens T g.K H' xs ds → Q (.ref p') H') : wpAny (model X.prog X.w) X.A (call (.builtin "sorted") [.ref p]) (EP X pins σ Q) X.xe s := by
  obtain ⟨its, rv, pl, hz⟩ := I.tuple (.of h1)
  obtain ⟨o, ho, hc, n, hdt⟩ := (show s.heap.IsTuple p its.toArray from pl)
  have hil : its.length = l.length := by rw [← rv.length]; exact hds.length
  refine PySem.Calls.call_function_entry kind_sorted plain_sorted entry_sorted (args_sorted1 _) ?_
  unfold Builtin.«sorted»
  refine wpAny_bind (m := checkCount "sorted" 1 1 _) (wpAny_pure ?_)
  refine wpAny_bind (wpAny_collect_seq (A := X.A.in1) p (.inr rfl) ho hc hdt (fun h' hk => ?_) (by rw [List.size_toArray, ← rv.length]; exact hz))
  refine wpAny_bind (wpAny_newList ?_ (by rw [← rv.length]; exact hz))
  have hD : (h'.push { cls := .type "list", data := .seq (its.toArray.toList).toArray }).get? h'.objs.size = some (seqObj "list" its.toArray 0) := Heap.get?_push_size _ rfl
  have I1 : Inv X pins σ H { s with heap := h' } := I.kept (t' := s.toks) hk
  have k2 : ∀ b ob, h'.get? b = some ob → (h'.push { cls := .type "list", data := .seq (its.toArray.toList).toArray }).get? b = some ob := fun b ob e => Heap.get?_push_of_some _ e
  have es : sortL l = l := by
    match l, hm with
    | [], _ => unfold sortL; simp
    | [x], _ => unfold sortL; simp
  refine wpAny_bind (wpAny_holding (wpAny_mono (list_sort_one (A := X.A.in1) (s := { s with heap := h'.push { cls := .type "list", data := .seq (its.toArray.toList).toArray } }) (vs := its) (n := 0) hD (by omega) (by rw [← rv.length]; exact hz)
    (Q := fun _ s' => EP X pins σ Q (.ref h'.objs.size) s') ?_) (fun v s' hq => wpAny_pure ⟨_, rfl, hq⟩) fun _ _ e => e))
  · obtain ⟨c, hcc⟩ := PyProof.Rows.sortedHeap_at (vs := its) (out := its.toArray) hD
    have hp' : H h'.objs.size = none := I1.hok.fresh (Nat.le_refl _)
    refine ⟨.ref h'.objs.size, _, I1.laid (t' := s.toks) (o := .lst _) (fun b ob e => ?_) (Nat.le_refl _) ?_, rfl, q _ _ _ _ rfl hp' (w.neT hp') (Grow.new hp') (w.grow0 hp') upd_same (Dens.keep (keeps_new hp') _ _ (by rw [es]; exact hds))⟩
    · have hlt : b < h'.objs.size := Heap.lt_size e
      exact (PyProof.Rows.sortedHeap_old (Nat.ne_of_lt hlt) (Heap.lt_size (k2 b ob e))).trans (k2 b ob e)
    · exact ⟨by exact hz, _, c, rv, hcc⟩
theorem call_sortedN (hK : X.K = g.K) (hu : X.A.units + 64 < cLine) : CallR X (.builtin "sorted") (rVN g (f1D .sorted)) := by
  intro pins s σ H xs us Q I r h
  obtain ⟨x, T, k, d, r', k', rfl, w, hd, em, q⟩ := h
  obtain ⟨u, rfl, rx⟩ := vals1 r
  cases d with
  | lst l =>
    obtain ⟨hm, e2⟩ := if_some (show (if sortable l then (pure (.lst (sortL l)) : M D) else no) k = some (r', k') from em)
    cases pure_some.mp e2
    obtain ⟨a, ys, rfl, hs, hds⟩ := hd.sql hK
    cases rx
    obtain ⟨its, rv, pl, hz⟩ := I.list hs
    unfold sortable at hm
    rw [Bool.and_eq_true, Bool.and_eq_true] at hm
    obtain ⟨⟨ho, ha⟩, ht⟩ := hm
    have hlen : ys.length = l.length := hds.length
    have em : (l.zip ys).map (fun b => toPy b.1) = toPys l := by
      rw [toPys_map, show (fun b : D × V => toPy b.1) = toPy ∘ (·.1) from rfl, ← List.map_map, zip_fst hlen]
    have lk := allL ha
    have hLn : (l.zip ys).length = l.length := by rw [List.length_zip, hlen, Nat.min_self]
    refine sorted_ok (R := fun v (b : D × V) => RelV b.2 v ∧ Den T g.K H b.2 b.1) (enc := fun b : D × V => toPy b.1) pl.isList (each_zip hds rv) (each_readsZ hK I ho hds rv) ?_ ?_ ?_ ?_ fun out hout eo => ?_
    · rw [em, toPys_map]
      intro x hx y hy
      obtain ⟨a, ha, rfl⟩ := List.mem_map.mp hx
      obtain ⟨b, hb, rfl⟩ := List.mem_map.mp hy
      exact like_py a b (lk a ha b hb)
    · rw [em, toPys_map]
      rcases Bool.or_eq_true_iff.mp ht with t | t
      · refine .inl fun d hd => ?_
        obtain ⟨a, ha, rfl⟩ := List.mem_map.mp hd
        exact py_tup0 (List.all_eq_true.mp t a ha)
      · refine .inr fun d hd => ?_
        obtain ⟨a, ha, rfl⟩ := List.mem_map.mp hd
        have := List.all_eq_true.mp t a ha
        rw [Bool.and_eq_true] at this
        exact ⟨py_non (by simpa using this.2), py_notup (by simpa using this.1)⟩
    · rw [hLn, ← hlen]; exact hz
    · intro b hb
      have hb1 : b.1 ∈ l := (List.of_mem_zip hb).1
      have hdp := (okd_lay b.1 deep (okds_mem ho _ hb1)).2
      unfold deep at hdp
      omega
    · have es : ((l.zip ys).mergeSort (PySem.W.dataLe false fun b : D × V => toPy b.1)).map (·.1) = sortL l := by
        unfold sortL
        rw [List.map_mergeSort (s := leD), zip_fst hlen]
        intro a ha b hb
        have h1 : a.1 ∈ l := (List.of_mem_zip ha).1
        have h2 : b.1 ∈ l := (List.of_mem_zip hb).1
        rw [PySem.W.dataLe_eq]
        show (!PySem.W.dataLt (toPy b.1) (toPy a.1)) = !lt b.1 a.1
        rw [lt_py _ _ _ _ (okds_mem ho _ h2) (okds_mem ho _ h1) (lk _ h2 _ h1)]
      obtain ⟨b1, b2⟩ := each_back eo
      rw [es] at b2
      obtain ⟨c, hc⟩ := PyProof.Rows.sortedAll_at s.heap its out.toArray
      have hp : H (s.heap.objs.size + 1) = none := I.hok.fresh (Nat.le_succ _)
      refine ⟨.ref (s.heap.objs.size + 1), _, I.laid (t' := s.toks) (o := .lst _) (fun _ _ => PyProof.Rows.sortedAll_old) (Nat.le_succ _) ?_, rfl, q _ _ _ _ rfl hp (w.neT hp) (Grow.new hp) (w.grow0 hp) upd_same (Dens.keep (keeps_new hp) _ _ b2)⟩
      have hl2 : ((List.mergeSort (l.zip ys) (PySem.W.dataLe false fun b : D × V => toPy b.1)).map (·.2)).length ≤ sizeLine := by
        rw [List.length_map, List.length_mergeSort, hLn, ← hlen]; exact hz
      exact ⟨hl2, _, c, b1, hc⟩
  | tup l =>
    obtain ⟨hm, e2⟩ := if_some (show (if (sortable l || (okds deep l && decide (l.length ≤ 1))) = true then (pure (.lst (sortL l)) : M D) else no) k = some (r', k') from em)
    cases pure_some.mp e2
    cases notO hd (fun _ z => nomatch z) with
    | tup h1 h2 =>
      cases rx
      rcases Bool.or_eq_true_iff.mp hm with hm | hm
      · exact sorted_tupleA hK hu I w hm h1 h2 q
      · rw [Bool.and_eq_true] at hm
        exact sorted_tuple1 hK hu I w (of_decide_eq_true hm.2) h1 h2 q
  | _ => exact absurd em (no_some (k := k))
end
end G

namespace G
open PySem PySem.Spec PyProof.Rows L2

section
variable {g : Cf} {X : Cx} {a b c e : Expr} {f f1 f2 f3 m : G.St → M D} {pos p p1 p2 : Pos} {x : Str} {id : String}
/-! ### built-ins of one value -/
theorem tcb1 {h : D → M D} {σ : L2.St} {H : Hp} {Q : VK} (q : tM g (fun st => do let d ← m st; h d) σ H Q) : tCB (rVB g h) (tCons (tO g m) tNil) σ H Q := by
  obtain ⟨T, k, st, d, k', w, r, em, q⟩ := q
  obtain ⟨y, k1, e1, e2⟩ := bind_some.mp em
  exact ⟨T, k, st, y, k1, w, r, e1, fun v1 H1 g1 w1 d1 => ⟨v1, rfl, T, k1, y, d, k', w1, d1, e2, fun v2 H2 g2 w2 d2 => q v2 H2 (g1.trans g2) w2 d2⟩⟩
theorem tcn1 {h : D → M D} {σ : L2.St} {H : Hp} {Q : VK} (q : tN g (fun st => do let d ← m st; h d) σ H Q) : tCB (rVN g h) (tCons (tO g m) tNil) σ H Q := by
  obtain ⟨T, k, st, d, k', w, r, em, q⟩ := q
  obtain ⟨y, k1, e1, e2⟩ := bind_some.mp em
  exact ⟨T, k, st, y, k1, w, r, e1, fun v1 H1 g1 w1 d1 => ⟨v1, T, k1, y, d, k', rfl, w1, d1, e2, fun p ys ds H' e3 e4 e5 e6 e7 e8 e9 => q p ys ds H' e3 (g1.none p e4) e5 (g1.trans e6) e7 e8 e9⟩⟩
theorem pa_one (hs : ∀ v p, a ≠ .Starred v p) (ha : PE X a (tO g m)) : PA X [a] (tCons (tO g m) tNil) := pa_cons ha pa_nil (starEach_ok hs)
theorem pm_b1 {h : D → M D} (hc : CallR X (.builtin id) (rVB g h)) (hg : Gl X x) (hm : X.mg x = none) (hv : bootBuiltins x = some (.builtin id)) (hn : x ≠ "__name__") (hdb : (x == ("__debug__" : Str)) = false)
    (hs : ∀ v p, a ≠ .Starred v p) (ha : PE X a (tO g m)) : PE X (.Call (.Name x p) [a] [] pos) (tM g fun st => do let d ← m st; h d) :=
  PEi (pe_callB hc hg hm hv (pa_one hs ha) hn hdb (starEach_ok hs) rfl) fun σ H Q q => tcb1 q
theorem pm_t1 {h : D → M D} (hc : CallR X (.type id) (rVB g h)) (hg : Gl X x) (hm : X.mg x = none) (hv : bootBuiltins x = some (.type id)) (hn : x ≠ "__name__") (hdb : (x == ("__debug__" : Str)) = false)
    (hs : ∀ v p, a ≠ .Starred v p) (ha : PE X a (tO g m)) : PE X (.Call (.Name x p) [a] [] pos) (tM g fun st => do let d ← m st; h d) :=
  PEi (pe_callTy hc hg hm hv (pa_one hs ha) hn hdb (starEach_ok hs) rfl) fun σ H Q q => tcb1 q
theorem pn_b1 {h : D → M D} (hc : CallR X (.builtin id) (rVN g h)) (hg : Gl X x) (hm : X.mg x = none) (hv : bootBuiltins x = some (.builtin id)) (hn : x ≠ "__name__") (hdb : (x == ("__debug__" : Str)) = false)
    (hs : ∀ v p, a ≠ .Starred v p) (ha : PE X a (tO g m)) : PE X (.Call (.Name x p) [a] [] pos) (tN g fun st => do let d ← m st; h d) :=
  PEi (pe_callB hc hg hm hv (pa_one hs ha) hn hdb (starEach_ok hs) rfl) fun σ H Q q => tcn1 q
theorem pn_t1 {h : D → M D} (hc : CallR X (.type id) (rVN g h)) (hg : Gl X x) (hm : X.mg x = none) (hv : bootBuiltins x = some (.type id)) (hn : x ≠ "__name__") (hdb : (x == ("__debug__" : Str)) = false)
    (hs : ∀ v p, a ≠ .Starred v p) (ha : PE X a (tO g m)) : PE X (.Call (.Name x p) [a] [] pos) (tN g fun st => do let d ← m st; h d) :=
  PEi (pe_callTy hc hg hm hv (pa_one hs ha) hn hdb (starEach_ok hs) rfl) fun σ H Q q => tcn1 q
/-! ### built-ins of two values -/
theorem call_min2D (hc : X.calm = true) : CallR X (.builtin "min") (rV2 g (f2D .min)) := CallRi (call_min2 hc) fun xs H Q h => by
  obtain ⟨x, y, rfl, T, k, d, e, r, k', w, hd, he, em, q⟩ := h
  cases hd with
  | int i =>
    cases he with
    | int j => exact ⟨i, j, rfl, vfin (g := g) w em (.int _) q⟩
    | _ => exact absurd em (no_some (k := k))
  | _ => first | exact absurd em (no_some (k := k)) | (cases he <;> exact absurd em (no_some (k := k)))
theorem call_max2D (hc : X.calm = true) : CallR X (.builtin "max") (rV2 g (f2D .max)) := CallRi (call_max2 hc) fun xs H Q h => by
  obtain ⟨x, y, rfl, T, k, d, e, r, k', w, hd, he, em, q⟩ := h
  cases hd with
  | int i =>
    cases he with
    | int j => exact ⟨i, j, rfl, vfin (g := g) w em (.int _) q⟩
    | _ => exact absurd em (no_some (k := k))
  | _ => first | exact absurd em (no_some (k := k)) | (cases he <;> exact absurd em (no_some (k := k)))
theorem pm_b2 {h : D → D → M D} (hc : CallR X (.builtin id) (rV2 g h)) (hg : Gl X x) (hm : X.mg x = none) (hv : bootBuiltins x = some (.builtin id)) (hn : x ≠ "__name__") (hdb : (x == ("__debug__" : Str)) = false)
    (hs : ∀ v p, a ≠ .Starred v p) (hs' : ∀ v p, b ≠ .Starred v p) (ha : PE X a (tM g f1)) (hb : PE X b (tM g f2)) : PE X (.Call (.Name x p) [a, b] [] pos) (tM g fun st => do let x ← f1 st; let y ← f2 st; h x y) :=
  PEi (pe_callB hc hg hm hv (pa_cons ha (pa_cons hb pa_nil (starEach_ok hs')) (starEach_ok hs)) hn hdb (starEach_ok hs) (noStars (es := [b]) fun e he => by rw [List.mem_singleton.mp he]; exact hs')) fun σ H Q q => by
    obtain ⟨T, k, st, d, k', w, r, em, q⟩ := q
    obtain ⟨y, k1, e1, e2⟩ := bind_some.mp em
    obtain ⟨z, k2, e3, e4⟩ := bind_some.mp e2
    exact ⟨T, k, st, y, k1, w, r, e1, fun v1 H1 g1 w1 d1 => ⟨T, k1, st, z, k2, w1, r.grow g.stays g1 w.town, e3, fun v2 H2 g2 w2 d2 => ⟨v1, v2, rfl, T, k2, y, z, d, k', w2, Den.keep (g2.keeps w1.town) _ _ d1, d2, e4, fun v3 H3 g3 w3 d3 => q v3 H3 ((g1.trans g2).trans g3) w3 d3⟩⟩⟩

/-! ### subscripts -/
theorem ixN_eq (n : Nat) (i : Int) : ∀ {α : Type} (l : List α), l.length = n → (L2.ixN n i).bind (fun j => l[j]?) = G.atI l i := by
  intro α l hl
  unfold L2.ixN G.atI
  subst hl
  by_cases h0 : 0 ≤ i
  · rw [if_pos h0, if_pos h0]
    by_cases h1 : i < l.length
    · rw [if_pos (by omega)]; rfl
    · rw [if_neg (by omega), List.getElem?_eq_none (by omega)]; rfl
  · rw [if_neg h0, if_neg h0]
    by_cases h1 : 0 ≤ i + l.length
    · rw [if_pos (by omega), if_pos h1]
      show l[_]? = _
      congr 1
    · rw [if_neg (by omega), if_neg h1]; rfl
theorem atI_eq {α : Type} (l : List α) (i : Int) : L2.atI l i = G.atI l i := ixN_eq l.length i l rfl
theorem atI_some {α : Type} {l : List α} {i : Int} {d : α} (h : G.atI l i = some d) : ∃ j : Nat, l[j]? = some d ∧ ∀ {β : Type} (l' : List β), l'.length = l.length → G.atI l' i = l'[j]? := by
  unfold G.atI at h ⊢
  by_cases h0 : 0 ≤ i
  · rw [if_pos h0] at h
    exact ⟨_, h, fun l' e => by rw [if_pos h0]⟩
  · rw [if_neg h0] at h
    by_cases h1 : 0 ≤ i + l.length
    · rw [if_pos h1] at h
      exact ⟨_, h, fun l' e => by rw [if_neg h0, e, if_pos h1]⟩
    · rw [if_neg h1] at h; cases h
theorem opt_some {α : Type} {o : Option α} {k : Nat} {r : α × Nat} (h : opt o k = some r) : ∃ a, o = some a ∧ r = (a, k) := by
  cases o with
  | none => exact absurd h (no_some (k := k))
  | some a => exact ⟨a, rfl, pure_some.mp h⟩
theorem Dens.atI {T : Addr} {H : Hp} {xs : List V} {ds : List D} {i : Int} {d : D} (h : Dens T g.K H xs ds) (e : G.atI ds i = some d) : ∃ v, L2.atI xs i = some v ∧ Den T g.K H v d := by
  obtain ⟨j, e1, e2⟩ := atI_some e
  obtain ⟨v, e3, e4⟩ := h.get e1
  exact ⟨v, by rw [atI_eq, e2 xs h.length, e3], e4⟩
theorem ix_D (hK : X.K = g.K) : IxR X (rB1 g ixD) := by
  intro value slice pins s σ H x y v u Q I rx ry h hs
  obtain ⟨T, k, d, e, r, k', w, hd, he, em, q⟩ := h
  have fin : ∀ {d' : D} {v' : V}, r = d' → k' = k → Den T g.K H v' d' → Q v' H := fun e1 e2 d1 => by
    subst e1 e2
    exact q _ H (Grow.refl T H) w d1
  cases e with
  | int i =>
    cases he
    cases d with
    | lst l =>
      obtain ⟨z, e1, e2⟩ := opt_some em
      cases e2
      obtain ⟨a, xs, rfl, hq, hds⟩ := hd.sql hK
      obtain ⟨v', e3, e4⟩ := hds.atI e1
      exact ix_list value slice pins s σ H _ _ v u Q I rx ry ⟨a, xs, i, v', rfl, rfl, hq, e3, fin rfl rfl e4⟩ hs
    | tup l =>
      obtain ⟨z, e1, e2⟩ := opt_some em
      cases e2
      cases notO hd (fun _ z => nomatch z) with
      | tup h1 h2 =>
        obtain ⟨v', e3, e4⟩ := h2.atI e1
        exact ix_tup value slice pins s σ H _ _ v u Q I rx ry ⟨_, _, i, v', rfl, rfl, .of h1, e3, fin rfl rfl e4⟩ hs
    | str l =>
      obtain ⟨hz, em2⟩ := if_some (show (if l.length ≤ 16777216 then opt ((G.atI l i).map fun c => .str [c]) else no : M D) k = some (r, k') from em)
      obtain ⟨z, e1, e2⟩ := opt_some em2
      cases e2
      cases notO hd (fun _ z => nomatch z)
      cases e3 : G.atI l i with
      | none => rw [e3] at e1; cases e1
      | some c =>
        rw [e3] at e1
        cases e1
        refine ix_str value slice pins s σ H _ _ v u Q I rx ry ⟨_, i, c, rfl, rfl, by rw [strOf_length, sizeLine_eq]; exact hz, ?_, fin rfl rfl (.str [c])⟩ hs
        rw [atI_eq]
        show G.atI (l.toArray.toList) i = some c
        exact e3
    | scr l =>
      obtain ⟨z, e1, e2⟩ := opt_some em
      cases e2
      cases notO hd (fun _ z => nomatch z) with
      | scr h1 =>
        cases e3 : G.atI l i with
        | none => rw [e3] at e1; cases e1
        | some c =>
          rw [e3] at e1
          cases e1
          obtain ⟨j, e4, e5⟩ := atI_some e3
          refine ix_list value slice pins s σ H _ _ v u Q I rx ry ⟨_, _, i, .int c, rfl, rfl, by rw [hK]; exact h1.sq, ?_, fin rfl rfl (.int c)⟩ hs
          rw [atI_eq, e5 _ (by rw [List.length_map]), List.getElem?_map, e4]
          rfl
    | dic ks vs => cases notO hd (fun _ z => nomatch z)
    | _ => exact absurd em (no_some (k := k))
  | _ =>
    cases d with
    | dic ks vs => cases notO hd (fun _ z => nomatch z)
    | _ => exact absurd em (no_some (k := k))
def plainE : Expr → Bool
  | .Slice .. => false
  | _ => true
theorem plainIx {b : Expr} (h : plainE b = true) : PlainIx b := fun o i => by
  cases b <;> first | rfl | simp [plainE] at h
theorem rB1_of {h : D → D → M D} {x y : V} {H : Hp} {Q : VK} (q : rM g h x y H Q) : rB1 g h x y H Q := by
  obtain ⟨T, k, d, e, r, k', w, hd, he, em, q⟩ := q
  exact ⟨T, k, d, e, r, k', w, .inl hd, he, em, q⟩
theorem pm_ix (hK : X.K = g.K) (ha : PE X a (tM g f1)) (hb : PE X b (tM g f2)) (hp : plainE b = true) : PE X (.Subscript a b pos) (tM g fun st => do let x ← f1 st; let y ← f2 st; ixD x y) :=
  PEi (pe_ix (ix_D hK) ha hb (plainIx hp)) fun σ H Q q => by
    obtain ⟨T, k, st, d, k', w, r, em, q⟩ := tM_bin q
    exact ⟨T, k, st, d, k', w, r, em, fun v1 H1 g1 w1 d1 => by
      obtain ⟨T', k1, st1, d', k'', w', r', em', q'⟩ := q v1 H1 g1 w1 d1
      exact ⟨T', k1, st1, d', k'', w', r', em', fun v2 H2 g2 w2 d2 => rB1_of (q' v2 H2 g2 w2 d2)⟩⟩
theorem pm_ixB {i : Nat} (hK : X.K = g.K) (hN : X.N[i]? = some x) (hv : Vis X.env.scope x) (hd : (x == ("__debug__" : Str)) = false) (hc : (x == ("__classdict__" : Str)) = false) (hb : PE X b (tM g f2)) (hp : plainE b = true) :
    PE X (.Subscript (.Name x p) b pos) (tM g fun st => do let x ← getB st i; let y ← f2 st; ixD x y) :=
  PEi (pe_ix (ix_D hK) (pe_var hN hv hd hc) hb (plainIx hp)) fun σ H Q q => by
    obtain ⟨T, k, st, d, k', w, r, em, q⟩ := q
    obtain ⟨y, k1, e1, e2⟩ := bind_some.mp em
    obtain ⟨z, k2, e3, e4⟩ := bind_some.mp e2
    obtain ⟨e5, v, e6, _⟩ := getB_sr r e1
    subst e5
    refine ⟨v, e6, T, k1, st, z, k2, w, r, e3, fun v2 H2 g2 w2 d2 => ?_⟩
    have em' : getB st i k2 = some (y, k2) := by
      unfold getB at e1 ⊢
      cases e7 : st[i]? with
      | none => rw [e7] at e1; exact absurd e1 (no_some (k := k1))
      | some sl =>
        rw [e7] at e1
        cases sl with
        | un => exact absurd e1 (no_some (k := k1))
        | cl _ _ => exact absurd e1 (no_some (k := k1))
        | fr _ => cases pure_some.mp e1; rfl
        | ow _ => cases pure_some.mp e1; rfl
    obtain ⟨_, v', e8, dB⟩ := getB_sr (r.grow g.stays g2 w.town) em'
    rw [e6] at e8
    cases e8
    exact ⟨T, k2, y, z, d, k', w2, dB, d2, e4, fun v3 H3 g3 w3 d3 => q v3 H3 (g2.trans g3) w3 d3⟩

/-! ### slices -/
theorem cutIx_eq (n d : Nat) (o : Option Int) : HT.sIx n d o = cutIx n d o := by
  cases o with
  | none => rfl
  | some i =>
    show (if i < 0 then (i + (n : Int)).toNat else min i.toNat n) = if 0 ≤ i then min i.toNat n else (i + n).toNat
    by_cases h : i < 0
    · rw [if_pos h, if_neg (by omega)]
    · rw [if_neg h, if_pos (by omega)]
theorem cutV_eq (xs : List V) (lo hi : Option Int) : cutV xs lo hi = cut xs lo hi := by
  unfold cutV cut
  rw [cutIx_eq, cutIx_eq]
theorem Dens.cut {T : Addr} {H : Hp} {xs : List V} {ds : List D} (h : Dens T g.K H xs ds) (lo hi : Option Int) : Dens T g.K H (G.cut xs lo hi) (G.cut ds lo hi) := by
  unfold G.cut
  rw [h.length]
  exact (h.drop _).take _
/-- something that stands, or a new list -/
def DenF (T : Addr) (K : PySem.W.Frag) (H0 H : Hp) (v : V) (d : D) : Prop := Den T K H v d ∨ ∃ p xs ds, d = .lst ds ∧ v = .ref p ∧ H0 p = none ∧ p ≠ T ∧ H p = some (.lst xs) ∧ Dens T K H xs ds
def tX (g : Cf) (m : G.St → M D) : TE := fun σ H Q => ∃ T k st d k', WS T g.Tb H k ∧ SR T g.K g.CL st σ H ∧ m st k = some (d, k') ∧ ∀ v H', Grow T H H' → WS T g.Tb H' k' → DenF T g.K H H' v d → Q v H'
theorem PE.lockX {e : Expr} {m : G.St → M D} (h : PE X e (tX g m)) : PE X e (tM g m) := by
  refine ⟨fun pins s σ H Q I hq => ?_⟩
  obtain ⟨T, k, st, d, k', w, r, em, q⟩ := hq
  refine thn (h.run pins s σ H (fun v H' => Grow T H H' ∧ WS T g.Tb H' k' ∧ DenF T g.K H H' v d) I
    ⟨T, k, st, d, k', w, r, em, fun v H' e1 e2 e3 => ⟨e1, e2, e3⟩⟩) fun u s' hu => ?_
  obtain ⟨v, H', I', rv, e1, e2, e3⟩ := hu
  rcases e3 with e3 | ⟨p, xs, ds, rfl, rfl, e4, e5, e6, e7⟩
  · exact ⟨v, H', I', rv, q v H' e1 e2 e3⟩
  · obtain ⟨o, I2⟩ := I'.lock e6 trivial
    have kp : Keeps H' (upd H' p (.frz o (.lst xs))) := keeps_upd e6 (fun _ z => nomatch z) (fun _ _ z => nomatch z)
    exact ⟨_, _, I2, rv, q _ _ (e1.at e4) (e2.updL e6 e5) (.lst upd_same (Dens.keep kp ds xs e7))⟩
def rSl (g : Cf) : V → Option Int → Option Int → Hp → VK → Prop := fun x lo hi H Q => ∃ T k d r k', WS T g.Tb H k ∧ Den T g.K H x d ∧ slD d lo hi k = some (r, k') ∧ ∀ v H', Grow T H H' → WS T g.Tb H' k' → DenF T g.K H H' v r → Q v H'
theorem sl_D (hK : X.K = g.K) : SlR X (rSl g) := by
  intro pins s σ H x v vl vu lo hi sl Q I rx hs pl pu h
  obtain ⟨T, k, d, r, k', w, hd, em, q⟩ := h
  cases d with
  | tup l =>
    cases pure_some.mp em
    cases hd with
    | tup h1 h2 =>
      refine sl_tupA pins s σ H _ v vl vu lo hi sl Q I rx hs pl pu ⟨_, _, rfl, .of h1, fun hw => ?_, fun _ p hp => ?_⟩
      · refine q _ H (Grow.refl T H) w (.inl ?_)
        rw [cutIx_eq, cutIx_eq, h2.length] at hw
        have : cut l lo hi = l := by
          unfold cut
          rw [hw.1, hw.2]
          simp
        rw [this]
        exact .tup h1 h2
      · rw [cutV_eq]
        exact newT w hp (h2.cut lo hi) fun v H' g1 w1 d1 => q v H' g1 w1 (.inl d1)
  | lst l =>
    cases pure_some.mp em
    cases hd with
    | lst h1 h2 =>
      refine sl_list pins s σ H _ v vl vu lo hi sl Q I rx hs pl pu ⟨_, _, rfl, .inl (.inr ⟨_, h1⟩), fun p hp => ?_⟩
      rw [cutV_eq]
      exact q _ _ (Grow.new hp) (w.grow0 hp) (.inr ⟨p, _, _, rfl, rfl, hp, w.neT hp, upd_same, Dens.keep (keeps_new hp) _ _ (h2.cut lo hi)⟩)
  | str l =>
    obtain ⟨hz, em2⟩ := if_some (show (if l.length ≤ 16777216 then (pure (.str (cut l lo hi)) : M D) else no) k = some (r, k') from em)
    cases pure_some.mp em2
    cases hd
    refine sl_str pins s σ H _ v vl vu lo hi sl Q I rx hs pl pu ⟨_, rfl, by rw [strOf_length, sizeLine_eq]; exact hz, ?_⟩
    have : cutS (strOf l) lo hi = strOf (cut l lo hi) := by
      unfold cutS cut strOf Str.length
      rw [cutIx_eq, cutIx_eq]
      simp
    rw [this]
    exact q _ H (Grow.refl T H) w (.inl (.str _))
  | _ => exact absurd em (no_some (k := k))
theorem int_den {T : Addr} {H : Hp} {v : V} {i : Int} (h : Den T g.K H v (.int i)) : v = .int i := by cases h; rfl
theorem intP_some {d : D} {k : Nat} {r : Int × Nat} (h : intP d k = some r) : d = .int r.1 ∧ r.2 = k := by
  cases d with
  | int i => cases pure_some.mp h; exact ⟨rfl, rfl⟩
  | _ => exact absurd h (no_some (k := k))
theorem pm_slh {q2 : Pos} (hK : X.K = g.K) (ha : PE X a (tM g f1)) (hb : PE X b (tM g f2)) : PE X (.Subscript a (.Slice none (some b) none q2) pos) (tM g fun st => do let x ← f1 st; let y ← f2 st; slhD x y) :=
  PE.lockX (PEi (pe_slice (sl_D hK) ha po_none (po_some hb)) fun σ H Q q => by
    obtain ⟨T, k, st, d, k', w, r, em, q⟩ := q
    obtain ⟨y, k1, e1, e2⟩ := bind_some.mp em
    obtain ⟨z, k2, e3, e4⟩ := bind_some.mp e2
    obtain ⟨i, k3, e5, e6⟩ := bind_some.mp e4
    obtain ⟨rfl, rfl⟩ := intP_some e5
    exact ⟨T, k, st, y, k1, w, r, e1, fun v1 H1 g1 w1 d1 => ⟨T, k1, st, _, _, w1, r.grow g.stays g1 w.town, e3, fun v2 H2 g2 w2 d2 => ⟨i, int_den d2, T, _, y, d, k', w2, Den.keep (g2.keeps w1.town) _ _ d1, e6, fun v3 H3 g3 w3 d3 => q v3 H3 ((g1.trans g2).trans g3) w3 (d3.imp id fun ⟨p, xs, ds, u1, u2, u3, u4⟩ => ⟨p, xs, ds, u1, u2, g1.none _ (g2.none _ u3), u4⟩)⟩⟩⟩)
theorem pm_sll {q2 : Pos} (hK : X.K = g.K) (ha : PE X a (tM g f1)) (hb : PE X b (tM g f2)) : PE X (.Subscript a (.Slice (some b) none none q2) pos) (tM g fun st => do let x ← f1 st; let y ← f2 st; sllD x y) :=
  PE.lockX (PEi (pe_slice (sl_D hK) ha (po_some hb) po_none) fun σ H Q q => by
    obtain ⟨T, k, st, d, k', w, r, em, q⟩ := q
    obtain ⟨y, k1, e1, e2⟩ := bind_some.mp em
    obtain ⟨z, k2, e3, e4⟩ := bind_some.mp e2
    obtain ⟨i, k3, e5, e6⟩ := bind_some.mp e4
    obtain ⟨rfl, rfl⟩ := intP_some e5
    exact ⟨T, k, st, y, k1, w, r, e1, fun v1 H1 g1 w1 d1 => ⟨T, k1, st, _, _, w1, r.grow g.stays g1 w.town, e3, fun v2 H2 g2 w2 d2 => ⟨i, int_den d2, T, _, y, d, k', w2, Den.keep (g2.keeps w1.town) _ _ d1, e6, fun v3 H3 g3 w3 d3 => q v3 H3 ((g1.trans g2).trans g3) w3 (d3.imp id fun ⟨p, xs, ds, u1, u2, u3, u4⟩ => ⟨p, xs, ds, u1, u2, g1.none _ (g2.none _ u3), u4⟩)⟩⟩⟩)
theorem pm_slb {q2 : Pos} (hK : X.K = g.K) (ha : PE X a (tM g f1)) (hb : PE X b (tM g f2)) (hc : PE X c (tM g f3)) : PE X (.Subscript a (.Slice (some b) (some c) none q2) pos) (tM g fun st => do let x ← f1 st; let y ← f2 st; let z ← f3 st; slbD x y z) :=
  PE.lockX (PEi (pe_slice (sl_D hK) ha (po_some hb) (po_some hc)) fun σ H Q q => by
    obtain ⟨T, k, st, d, k', w, r, em, q⟩ := q
    obtain ⟨y, k1, e1, e2⟩ := bind_some.mp em
    obtain ⟨z, k2, e3, e4⟩ := bind_some.mp e2
    obtain ⟨z', k3, e7, e8⟩ := bind_some.mp e4
    obtain ⟨i, k4, e5, e6⟩ := bind_some.mp e8
    obtain ⟨j, k5, e9, e10⟩ := bind_some.mp e6
    obtain ⟨rfl, rfl⟩ := intP_some e5
    obtain ⟨rfl, rfl⟩ := intP_some e9
    exact ⟨T, k, st, y, k1, w, r, e1, fun v1 H1 g1 w1 d1 => ⟨T, k1, st, _, _, w1, r.grow g.stays g1 w.town, e3, fun v2 H2 g2 w2 d2 => ⟨i, int_den d2, ⟨T, _, st, _, _, w2, r.grow g.stays (g1.trans g2) w.town, e7, fun v3 H3 g3 w3 d3 => ⟨j, int_den d3,
      T, _, y, d, k', w3, Den.keep ((g2.trans g3).keeps w1.town) _ _ d1, e10, fun v4 H4 g4 w4 d4 => q v4 H4 (((g1.trans g2).trans g3).trans g4) w4 (d4.imp id fun ⟨p, xs, ds, u1, u2, u3, u4⟩ => ⟨p, xs, ds, u1, u2, g1.none _ (g2.none _ (g3.none _ u3)), u4⟩)⟩⟩⟩⟩⟩)
/-! ### t[::-1] -/
theorem sliceApplied_rev {prog : Program} {w : World} {A : Around} {E : Value → Shared → Prop} {s : Shared} {sl : Addr} {vl vu vs : Value} {n : Nat} {Q : Int × Int × Nat → Shared → Prop} (hs : s.heap.IsSliceOf sl vl vu vs) (pl : IsPart vl none) (pu : IsPart vu none) (ps : IsPart vs (some (-1)))
    (h : Q ((n : Int) - 1, -1, n) s) : wpAny (model prog w) A (Builtin.Slice.sliceApplied (.ref sl) (pure (n : Int))) Q E s := by
  obtain ⟨os, hos, hcs, hds⟩ := id hs
  unfold Builtin.Slice.sliceApplied Builtin.Slice.sliceFields
  refine wpAny_bind (wpAny_bind (wpAny_field hos hds (x := vl) rfl (wpAny_bind (wpAny_field hos hds (x := vu) rfl (wpAny_bind (wpAny_field hos hds (x := vs) rfl (wpAny_pure ?_)))))))
  refine wpAny_bind (HT.slicePart_ ps ?_)
  show wpAny _ _ (if ((-1 : Int) == 0) = true then _ else _) _ _ s
  rw [if_neg (by decide)]
  refine wpAny_bind (HT.slicePart_ pl (wpAny_bind (HT.slicePart_ pu (wpAny_bind (wpAny_pure ?_)))))
  show wpAny _ _ (match Builtin.Slice.sliceAdjust none none (-1) (n : Int) with | (lo, hi) => pure (lo, (-1 : Int), Builtin.Slice.slicePlaces lo hi (-1))) _ _ s
  show wpAny _ _ (pure ((n : Int) - 1, (-1 : Int), Builtin.Slice.slicePlaces ((n : Int) - 1) (-1) (-1))) _ _ s
  have e : Builtin.Slice.slicePlaces ((n : Int) - 1) (-1) (-1) = n := by
    unfold Builtin.Slice.slicePlaces
    rw [if_neg (show ¬ ((-1 : Int) > 0) by decide), show (- (-1 : Int)) = 1 by decide, Int.ediv_one]
    split <;> omega
  rw [e]
  exact wpAny_pure h
theorem pick_rev (xs : Array Value) : ((List.range xs.size).filterMap fun (m : Nat) => xs[((xs.size : Int) - 1 + (m : Int) * -1).toNat]?).toArray = xs.toList.reverse.toArray := by
  have e : (List.range xs.size).filterMap (fun (m : Nat) => xs[((xs.size : Int) - 1 + (m : Int) * -1).toNat]?) = ((List.range xs.size).map fun k => xs.size - 1 - k).filterMap (xs[·]?) := by
    rw [List.filterMap_map]
    congr 1
    funext m
    show _ = xs[xs.size - 1 - m]?
    have : ((xs.size : Int) - 1 + (m : Int) * -1).toNat = xs.size - 1 - m := by omega
    rw [this]
  rw [e, PySem.W.krv_range, List.filterMap_reverse, PySem.W.krv_all]
theorem getItem_tuple_rev {prog : Program} {w : World} {A : Around} {E : Value → Shared → Prop} {s : Shared} {t sl : Addr} {items : Array Value} {vl vu vs : Value} {Q : Value → Shared → Prop} (ht : IsTup s.heap t items) (hs : s.heap.IsSliceOf sl vl vu vs) (pl : IsPart vl none) (pu : IsPart vu none) (ps : IsPart vs (some (-1)))
    (h : Q (.ref s.heap.objs.size) { s with heap := s.heap.push { cls := .type "tuple", data := .seq items.toList.reverse.toArray } }) (hsz : items.size ≤ sizeLine) : wpAny (model prog w) A (getItem (.ref t) (.ref sl)) Q E s := by
  have htake : sizeOk (.seq items.toList.reverse.toArray) := by
    show items.toList.reverse.toArray.size ≤ sizeLine
    rw [List.size_toArray, List.length_reverse, Array.length_toList]
    exact hsz
  obtain ⟨os, hos, hcs, hds⟩ := id hs
  have hTs : s.TypeIs (.ref sl) "slice" := ⟨os, hos, hcs⟩
  unfold getItem
  try with_reducible refine wpAny_holding ?_
  first | refine wpAny_bind (wpAny_pure ?_) | skip
  refine wpAny_bind (wpAny_sequenceKey ht.typeIs (by decide) ?_)
  refine wpAny_bind (wpAny_callSpecial?_slot (name := Str.ofString "__getitem__") ht.typeIs PyProof.Rows.slot_tuple_getitem
    (wpAny_call_entry PyProof.Rows.slot_tuple_getitem ht.typeIs entry_tuple_getitem ?_ (args_tuple_getitem _ _)))
  show wpAny _ _ (Builtin.Tuple.tupleItemsOf (.ref t) >>= _) _ _ s
  refine wpAny_bind (tupleItemsOf_ ht ?_)
  refine wpAny_bind (wpAny_typeOf hTs ?_)
  rw [if_pos (by decide)]
  refine wpAny_bind (sliceApplied_rev hs pl pu ps ?_)
  have hno : ¬ (((((items.size : Int) - 1) == 0) && ((-1 : Int) == 1) && (items.size == items.size)) = true) := by
    intro q
    rw [Bool.and_eq_true, Bool.and_eq_true] at q
    exact absurd q.1.2 (by decide)
  show wpAny _ _ (if ((((items.size : Int) - 1) == 0) && ((-1 : Int) == 1) && (items.size == items.size)) = true then _ else _) _ _ s
  rw [if_neg hno, pick_rev]
  first
    | exact wpAny_bind (m := Builtin.Tuple.tupleExact _) (wpAny_newObj_type (wpAny_pure ⟨_, rfl, wpAny_pure h⟩) htake)
    | exact wpAny_bind (m := Builtin.Tuple.tupleExact _) (wpAny_newObj_type (wpAny_bind (wpAny_pure (wpAny_pure ⟨_, rfl, wpAny_pure h⟩))) htake)
    | exact wpAny_bind (wpAny_bind (m := Builtin.Tuple.tupleExact _) (wpAny_newObj_type (wpAny_pure (wpAny_pure ⟨_, rfl, wpAny_pure h⟩)) htake))
    | exact wpAny_bind (wpAny_bind (m := Builtin.Tuple.tupleExact _) (wpAny_newObj_type (wpAny_pure ⟨_, rfl, wpAny_pure h⟩) htake))
def tRevT (K : PySem.W.Frag) (te : TE) : TE := fun σ H Q => te σ H fun x H1 => ∃ a xs, x = .ref a ∧ SqT K H1 a xs ∧ ∀ p, H1 p = none → Q (.ref p) (upd H1 p (.tup xs.reverse))
theorem pe_revT {e : Expr} {te : TE} {kk : Nat} {p1 p2 p3 pos : Pos} (he : PE X e te) : PE X (.Subscript e (.Slice none none (some (.UnaryOp .USub (.Constant (.int 1) kk p1) p2)) p3) pos) (tRevT X.K te) := by
  refine ⟨fun pins s σ H Q I h => ?_⟩
  refine Subscript_ (thn (he.run pins s σ H _ I h) fun v s1 ⟨x, H1, I1, r1, q1⟩ => ?_)
  obtain ⟨a, xs, ex, hx, q⟩ := q1
  subst ex
  cases r1
  have hst : PO X (some (.UnaryOp .USub (.Constant (.int 1) kk p1) p2)) (tPart (tUn (rU fun i => .int (-i)) (tC (.int 1)))) := po_some (pe_un un_neg pe_int)
  refine wpAny_Slice (thn (po_none.run pins s1 σ H1 (fun o H2 => o = none ∧ H2 = H1) I1 ⟨rfl, rfl⟩) fun vl s2 ⟨l, H2, I2, pl, el, e2⟩ => ?_)
  subst el e2
  refine thn (po_none.run pins s2 σ H2 (fun o H3 => o = none ∧ H3 = H2) I2 ⟨rfl, rfl⟩) fun vu s3 ⟨u, H3, I3, pu, eu, e3⟩ => ?_
  subst eu e3
  refine thn (hst.run pins s3 σ H3 (fun o H4 => o = some (-1) ∧ H4 = H3) I3 ⟨1, rfl, -1, rfl, rfl, rfl⟩) fun vs s4 ⟨o, H4, I4, ps, eo, e4⟩ => ?_
  subst eo e4
  have I5 : Inv X pins σ H4 { s4 with heap := s4.heap.push { cls := .type "slice", data := .fields #[vl, vu, vs] } } := I4.kept (t' := s4.toks) fun b ob q => Heap.get?_push_of_some _ q
  obtain ⟨its, r, ht, hz⟩ := I5.tuple hx
  have hlen := r.length
  show wpAny (model X.prog X.w) X.A (subscriptTail e (.Slice none none (some (.UnaryOp .USub (.Constant (.int 1) kk p1) p2)) p3) (.ref a) (.ref s4.heap.objs.size)) (EP X pins σ Q) X.xe { s4 with heap := s4.heap.push { cls := .type "slice", data := .fields #[vl, vu, vs] } }
  refine tail_any (ops := [.ref a, .ref s4.heap.objs.size]) ht.typeIs (PyProof.Rows.slot_tuple_getitem.lookup) ?_ (by with_unfolding_all rfl)
  refine getItem_tuple_rev ht (Heap.IsSliceOf.new _ vl vu vs) pl pu ps ?_ (by rw [List.size_toArray]; omega)
  refine ⟨.ref _, _, I5.laid (t' := s4.toks) (o := .tup xs.reverse) (fun b ob q => Heap.get?_push_of_some _ q) (Nat.le_refl _) ?_, rfl, q _ (I5.hok.fresh (Nat.le_refl _))⟩
  exact ⟨by rw [List.length_reverse]; exact hz, _, r.reverse, IsTup.new _ _⟩
theorem pm_rev {kk : Nat} {p1 p2 p3 pos : Pos} (hK : X.K = g.K) (ha : PE X a (tM g f1)) : PE X (.Subscript a (.Slice none none (some (.UnaryOp .USub (.Constant (.int 1) kk p1) p2)) p3) pos) (tM g fun st => do let x ← f1 st; revD x) :=
  PEi (pe_revT ha) fun σ H Q q => by
    obtain ⟨T, k, st, d, k', w, r, em, q⟩ := q
    obtain ⟨y, k1, e1, e2⟩ := bind_some.mp em
    refine ⟨T, k, st, y, k1, w, r, e1, fun v1 H1 g1 w1 d1 => ?_⟩
    cases y with
    | tup l =>
      cases pure_some.mp e2
      cases d1 with
      | tup h1 h2 => exact ⟨_, _, rfl, .of h1, fun p hp => newT w1 hp h2.rev fun v H' g2 w2 d2 => q v H' (g1.trans g2) w2 d2⟩
    | _ => exact absurd e2 (no_some (k := k1))
end
end G

namespace G
open PySem PySem.Spec PyProof.Rows L2

/-! ### enumerate(tuple) -/
set_option maxHeartbeats 1000000 in
theorem meets_enum1 {v : Value} {o : Obj} {H : Heap → Prop} (B : PySem.Begins v o H) :
    Meets (Builtin.«enumerate.__new__» ⟨[.type "enumerate", v], []⟩) (fun _ R s => H s.heap ∧
      R (.ok (.ret (.ref (s.heap.push o).objs.size))) { s with heap := (s.heap.push o).push { cls := .type "enumerate", data := .fields #[.none, .bool false, .ref s.heap.objs.size, rawInt 0, .none, .none] } }) :=
  .of_wp fun prog w A R s h => by
    obtain ⟨hp, g, d, tk, os⟩ := s; obtain ⟨h1, h⟩ := h
    have q1 : ∀ {A' : Around} {E : Value → Shared → Prop} {Q : Value → Shared → Prop}, Q (.ref hp.objs.size) ⟨hp.push o, g, d, tk, os⟩ → wpAny (model prog w) A' (pyIter v) Q E ⟨hp, g, d, tk, os⟩ :=
      fun q => B.iter prog w _ _ ⟨hp, g, d, tk, os⟩ _ h1 q
    have hsub := sub_enumerate
    wp_walk using q1
    refine wpAny_stack_any fun st => wpAny_pure ?_
    split
    · rename_i c _ _ _ _ _
      cases (c == Value.type "enumerate")
      · wp_walk using q1
        exact ⟨_, rfl, h⟩
      · wp_walk using q1
        exact ⟨_, rfl, h⟩
    · wp_walk using q1
      exact ⟨_, rfl, h⟩
theorem call_enumT {prog : Program} {w : World} {A : Around} {E : Value → Shared → Prop} {s : Shared} {t : Addr} {items : Array Value} {Q : Value → Shared → Prop} (ht : s.heap.IsTuple t items)
    (h : ∀ h', IsEnum h' (s.heap.objs.size + 1) s.heap.objs.size 0 .none → h'.IsTupleIter s.heap.objs.size t 0 → h'.objs.size = s.heap.objs.size + 2 →
      (∀ b o, s.heap.get? b = some o → h'.get? b = some o) → Q (.ref (s.heap.objs.size + 1)) { s with heap := h' }) :
    wpAny (model prog w) A (call (.type "enumerate") [.ref t]) Q E s := by
  refine callType_new F.called_enumerate (by decide) (F.typeCall_enumerate_1 _) (F.newCall_enumerate_1 _) (fun obj => F.args_object_init_2 obj _) F.entry_enumerate_new
    (meets_enum1 (PySem.begins_tuple t items)) ⟨ht, ?_⟩
  have hz : (s.heap.push { cls := .type "tuple_iterator", data := .fields #[.ref t, .int 0 0] }).objs.size = s.heap.objs.size + 1 := Heap.size_push ..
  show _ ∧ _
  rw [hz]
  have he : IsEnum ((s.heap.push { cls := .type "tuple_iterator", data := .fields #[.ref t, .int 0 0] }).push
      { cls := .type "enumerate", data := .fields #[.none, .bool false, .ref s.heap.objs.size, rawInt 0, .none, .none] }) (s.heap.objs.size + 1) s.heap.objs.size 0 .none := by
    have := Heap.get?_push_size (s.heap.push { cls := .type "tuple_iterator", data := .fields #[.ref t, .int 0 0] })
      (o := { cls := .type "enumerate", data := .fields #[.none, .bool false, .ref s.heap.objs.size, rawInt 0, .none, .none] }) rfl
    rw [hz] at this; exact this
  refine ⟨⟨_, he, rfl⟩, h _ he ⟨_, Heap.get?_push_of_some _ (Heap.get?_push_size _ rfl), rfl, rfl⟩ (by rw [Heap.size_push, hz]) fun b o x => Heap.get?_push_of_some _ (Heap.get?_push_of_some _ x)⟩
def IteT (K : PySem.W.Frag) (a : Addr) : It :=
  ⟨fun i H => ∃ (xs : List V) (x : V), SqT K H a xs ∧ xs[i]? = some x, fun i H v H' => ∃ T x, v = .ref T ∧ H T = none ∧ H' = upd H T (.tup [.int (i : Nat), x]) ∧ ∀ xs, SqT K H a xs → xs[i]? = some x, fun i H => ∃ xs : List V, SqT K H a xs ∧ xs.length ≤ i⟩
theorem turn_enumT {P : Program} {w : World} {K : PySem.W.Frag} {elts : List Expr} {kk : Nat} {tpos : Pos} (a e it : Addr) :
    Turn P w K (.Tuple elts kk tpos) (IteT K a) [e, it] e (fun i h => (∃ old, IsEnum h e it ((i : Nat) : Int) old) ∧ h.IsTupleIter it a i ∧ e ≠ it) where
  mem := by simp
  obj := fun i h st b hb => by
    obtain ⟨⟨old, he⟩, ⟨o, ho, hc, hd⟩, _⟩ := st
    have e' : b = e ∨ b = it := by simpa using hb
    rcases e' with z | z
    · rw [z]; exact ⟨_, he, fun v q => nomatch q⟩
    · rw [z]; exact ⟨o, ho, fun v q => by rw [hd] at q; cases q⟩
  keep := fun i h h' st k => let ⟨⟨old, he⟩, hi, hne⟩ := st; ⟨⟨old, k e (by simp) _ he⟩, hi.at fun o q => k it (by simp) o q, hne⟩
  item := by
    intro X hP hw hK hc i pins s σ H E I hf st hg
    subst hP hw hK
    obtain ⟨⟨old, he⟩, hit, hne⟩ := st
    obtain ⟨xs, x, hq, hx⟩ := hg
    obtain ⟨its, rv, p, hz⟩ := I.tuple hq
    obtain ⟨u, hu, ru⟩ := rv.get hx
    have hel : e < s.heap.objs.size := Heap.lt_size he
    have hil : it < s.heap.objs.size := by obtain ⟨_, q, _⟩ := hit; exact Heap.lt_size q
    have hai : a ≠ it := fun z => by
      obtain ⟨o1, h1, c1, d1⟩ := hit
      obtain ⟨o2, h2, c2, _⟩ := p
      rw [z, h1] at h2
      cases h2
      rw [c1] at c2
      exact absurd c2 (by decide)
    have hea : e ≠ a := fun z => by
      obtain ⟨o2, h2, c2, _⟩ := p
      rw [← z, show s.heap.get? e = some _ from he] at h2
      cases h2
      exact absurd (show Value.type "enumerate" = Value.type "tuple" from c2) (by decide)
    have ht : s.heap.IsTuple a its.toArray := p
    have hlt : i < its.toArray.size := by
      rcases Nat.lt_or_ge i its.length with z | z
      · simpa using z
      · rw [List.getElem?_eq_none z] at hu; cases hu
    refine wpAny_pyNext_enum_itemD (PySem.Draws.tuple (show X.A.in1.handled = none from I.ok.hd hc) it a hai its.toArray) he ⟨hit, ht⟩ hlt hne (by simp [hne, hea]) fun u' h' tk hP ho hst' hT hsz hk => ?_
    have hu' : u' = u := by
      have : its[i]? = some u' := by simpa using hP
      rw [hu] at this; exact (Option.some.inj this).symm
    subst hu'
    refine ⟨_, rfl, wpAny_letOwnedTupleGo_enum (s := { s with heap := h', toks := tk + 1 }) ho fun h'' he' sb => ?_⟩
    have hT2 : h''.get? s.heap.objs.size = some { cls := .type "tuple", data := .seq #[.int i tk, u'] } := (sb.2 _ (Nat.ne_of_gt hel)).trans hT
    have new : ObjOk X.prog X.w (upd H s.heap.objs.size (.tup [.int (i : Nat), x])) h'' s.heap.objs.size (.tup [.int (i : Nat), x]) :=
      ⟨by show 2 ≤ sizeLine; decide, [.int i tk, u'], .cons ⟨_, rfl⟩ (.cons ru .nil), ⟨_, hT2, rfl, _, rfl⟩⟩
    have I1 : Inv X pins σ (upd H s.heap.objs.size (.tup [.int (i : Nat), x])) { s with heap := h'', toks := tk + 1 } :=
      I.turnedNew (ch := [e, it]) (fun b ob hb q => (sb.2 b (fun z => hb (by simp [z]))).trans (hk b ob (fun z => hb (by simp [z])) (fun z => hb (by simp [z])) q)) hf (Nat.le_refl _) new
    refine ⟨.ref s.heap.objs.size, _, I1, rfl, ⟨_, x, rfl, I.hok.fresh (Nat.le_refl _), rfl, fun ys hy => by rw [I.tuple_inj hy hq]; exact hx⟩, ⟨⟨u', ?_⟩, hst'.1.at fun o q => (sb.2 it (Ne.symm hne)).trans q, hne⟩, fun b hb => ?_⟩
    · have e1 : ((i + 1 : Nat) : Int) = (i : Int) + 1 := by omega
      rw [e1]; exact he'
    · have hb' : b < s.heap.objs.size := by
        have e' : b = e ∨ b = it := by simpa using hb
        rcases e' with z | z
        · rw [z]; exact hel
        · rw [z]; exact hil
      rw [upd_ne (Nat.ne_of_lt hb')]
      exact (hf b hb).1
  done := by
    intro X hP hw hK hc i pins s σ H E I hf st hg
    subst hP hw hK
    obtain ⟨⟨old, he⟩, hit, hne⟩ := st
    obtain ⟨xs, hq, hx⟩ := hg
    obtain ⟨its, rv, p, hz⟩ := I.tuple hq
    obtain ⟨f0, f1, f2, f3, f4, f5⟩ := hf it (by simp)
    have hl := rv.length
    have ht : s.heap.IsTuple a its.toArray := p
    have hT : s.TypeIs (.ref e) "enumerate" := ⟨_, he, rfl⟩
    have hA : X.A.in1.handled = none := I.ok.hd hc
    unfold pyNext
    refine wpAny_bind (wpAny_attempt (wpAny_callSpecial?_slot (name := Str.ofString "__next__") hT F.slot_enumerate_next
      (wpAny_call_entry F.slot_enumerate_next hT F.entry_enumerate_next ?_ (F.args_enumerate_next_1 _))))
    show wpAny _ _ (field (.ref e) 2 >>= _) _ _ _
    refine wpAny_bind (wpAny_field he rfl (x := .ref it) rfl ?_)
    refine wpAny_bind (PySem.wpAny_nextOf_tuple_end (by first | exact hA | exact I.ok.hd hc) hit ht (by simp; omega) fun h' x he' hx' => ?_)
    obtain ⟨o, ho, hc⟩ := hx'
    refine wpAny_bind (wpAny_isInstance (T := "StopIteration") (b := true) ⟨o, ho, hc⟩ isSubtype_stop ?_)
    exact wpAny_pure ⟨rfl, I.turned (t' := s.toks) (fun b o hb q => he' b o hb q) f0 f1 f3 f4 f5⟩
  self := fun A i s Q E st h => let ⟨⟨_, he⟩, _⟩ := st; wpAny_pyIter_enum he h
def iEnumT (K : PySem.W.Frag) (ta : TA) : TI := fun σ H R => ta σ H fun vs H1 => ∃ a xs, vs = [.ref a] ∧ SqT K H1 a xs ∧ R (IteT K a) H1
theorem pi_enumT {X : Cx} {e : Expr} {ta : TA} {p pos tpos : Pos} {elts : List Expr} {kk : Nat} (hg : Gl X "enumerate") (hm : X.mg "enumerate" = none) (ha : PA X [e] ta) (hs : starEach [e] X.env = [(false, eval e X.env)]) :
    PI X (.Tuple elts kk tpos) (.Call (.Name "enumerate" p) [e] [] pos) (iEnumT X.K ta) := by
  refine ⟨fun pins s σ H R I h => ?_⟩
  refine Call_ (ld_blt I hg hm boot_enumerate (PyProof.Rows.callWith_type1 (thn (ha.run pos pins s σ H _ I h) fun us s1 ⟨vs, H1, I1, r1, q1⟩ => ?_) hs rfl))
  obtain ⟨a, xs, ex, hq, q⟩ := q1
  subst ex
  cases r1 with
  | cons r rr =>
    cases rr
    cases r
    obtain ⟨its, rv, p', hz⟩ := I1.tuple hq
    refine call_enumT (show s1.heap.IsTuple a its.toArray from p') fun h' he hit hsz hk => wpAny_pyIter_enum he ?_
    have I2 : Inv X pins σ H1 { s1 with heap := h' } := I1.kept (t' := s1.toks) hk
    refine ⟨s1.heap.objs.size + 1, [s1.heap.objs.size + 1, s1.heap.objs.size], _, _, H1, rfl, I2, turn_enumT a (s1.heap.objs.size + 1) s1.heap.objs.size, ⟨⟨.none, he⟩, hit, Nat.succ_ne_self _⟩, fun b hb => ?_, q⟩
    have e' : b = s1.heap.objs.size + 1 ∨ b = s1.heap.objs.size := by simpa using hb
    have hle : s1.heap.objs.size ≤ b := by
      rcases e' with z | z
      · rw [z]; exact Nat.le_add_right _ _
      · rw [z]; exact Nat.le_refl _
    exact I1.fpOk hle (I1.hok.fresh hle)
end G

namespace G
open PySem PySem.Spec PyProof.Rows L2

section
variable {g : Cf} {X : Cx}
/-! ### slots set -/
theorem SR.setFr {T : Addr} {st : G.St} {σ : L2.St} {H : Hp} {i : Nat} {d : D} {v : V} (r : SR T g.K g.CL st σ H) (hd : Den T g.K H v d) : SR T g.K g.CL (st.set i (.fr d)) (σ.set i (some v)) H := by
  refine ⟨by rw [List.length_set, List.length_set, r.len], fun j s e => ?_, fun j k d1 d2 a e1 e2 e3 e4 => ?_⟩
  · rw [List.getElem?_set] at e
    by_cases h : i = j
    · rw [if_pos h] at e
      split at e
      · rename_i hl
        cases e
        rw [← h, List.getElem?_set_self (by rw [← r.len]; exact hl)]
        exact hd
      · cases e
    · rw [if_neg h] at e
      rw [List.getElem?_set_ne h]
      exact r.at' j s e
  · rw [List.getElem?_set] at e1 e2
    by_cases h : i = j
    · rw [if_pos h] at e1; split at e1 <;> cases e1
    · by_cases h2 : i = k
      · rw [if_pos h2] at e2; split at e2 <;> cases e2
      · rw [if_neg h] at e1
        rw [if_neg h2] at e2
        rw [List.getElem?_set_ne h] at e3
        rw [List.getElem?_set_ne h2] at e4
        exact r.own j k d1 d2 a e1 e2 e3 e4
theorem SR.setUn {T : Addr} {st : G.St} {σ : L2.St} {H : Hp} {i : Nat} (r : SR T g.K g.CL st σ H) : SR T g.K g.CL (st.set i .un) (σ.set i none) H := by
  refine ⟨by rw [List.length_set, List.length_set, r.len], fun j s e => ?_, fun j k d1 d2 a e1 e2 e3 e4 => ?_⟩
  · rw [List.getElem?_set] at e
    by_cases h : i = j
    · rw [if_pos h] at e
      split at e
      · cases e; exact True.intro
      · cases e
    · rw [if_neg h] at e
      rw [List.getElem?_set_ne h]
      exact r.at' j s e
  · rw [List.getElem?_set] at e1 e2
    by_cases h : i = j
    · rw [if_pos h] at e1; split at e1 <;> cases e1
    · by_cases h2 : i = k
      · rw [if_pos h2] at e2; split at e2 <;> cases e2
      · rw [if_neg h] at e1
        rw [if_neg h2] at e2
        rw [List.getElem?_set_ne h] at e3
        rw [List.getElem?_set_ne h2] at e4
        exact r.own j k d1 d2 a e1 e2 e3 e4
theorem SR.wipe {T : Addr} {st : G.St} {σ : L2.St} {H : Hp} (r : SR T g.K g.CL st σ H) : ∀ vs : List Nat, SR T g.K g.CL (G.wipe st vs) (L2.wipe σ vs) H
  | [] => r
  | v :: vs => (SR.wipe r vs).setUn
/-! ### targets -/
theorem wipe_set {σ : L2.St} {i : Nat} {x : Option V} : ∀ {vs : List Nat}, i ∈ vs → L2.wipe (σ.set i x) vs = L2.wipe σ vs
  | v :: vs, h => by
    unfold L2.wipe
    by_cases hm : i ∈ vs
    · rw [wipe_set hm]
    · have e : i = v := by
        rcases List.mem_cons.mp h with e | e
        · exact e
        · exact absurd e hm
      subst e
      apply List.ext_getElem?
      intro j
      by_cases hj : i = j
      · subst hj
        rw [List.getElem?_set, List.getElem?_set, L2.wipe_length, L2.wipe_length, List.length_set, if_pos rfl, if_pos rfl]
      · rw [List.getElem?_set_ne hj, List.getElem?_set_ne hj]
        by_cases h2 : j ∈ vs
        · have := wiped_eq (σ := σ) (σ' := σ.set i x) (j := j) (by rw [List.length_set]) vs h2
          exact this
        · rw [wipe_out h2, wipe_out h2, List.getElem?_set_ne hj]
where wiped_eq {σ σ' : L2.St} {j : Nat} (hl : σ'.length = σ.length) : ∀ (vs : List Nat), j ∈ vs → (L2.wipe σ' vs)[j]? = (L2.wipe σ vs)[j]?
  | v :: vs, h => by
    unfold L2.wipe
    rw [List.getElem?_set, List.getElem?_set, L2.wipe_length, L2.wipe_length, hl]
    by_cases e : v = j
    · rw [if_pos e, if_pos e]
    · rw [if_neg e, if_neg e]
      exact wiped_eq hl vs (by
        rcases List.mem_cons.mp h with q | q
        · exact absurd q.symm e
        · exact q)
theorem wipe_wipe {σ : L2.St} : ∀ (vs ws : List Nat), (∀ v ∈ vs, v ∈ ws) → L2.wipe (L2.wipe σ vs) ws = L2.wipe σ ws
  | [], _, _ => rfl
  | v :: vs, ws, h => by
    show L2.wipe ((L2.wipe σ vs).set v none) ws = _
    rw [wipe_set (h v List.mem_cons_self)]
    exact wipe_wipe vs ws fun u hu => h u (List.mem_cons_of_mem _ hu)
/-- a target's slots -/
def tgIs : Tg → List Nat
  | .one i => [i]
  | .two i j => [i, j]
/-- a target stores what comes -/
def GTg (g : Cf) (t : Tg) (tg : TG) : Prop := ∀ (T : Addr) (k k' : Nat) (st st' : G.St) (σ : L2.St) (H : Hp) (x : V) (d : D) (Q : L2.St → Hp → Prop), WS T g.Tb H k → SR T g.K g.CL st σ H → Den T g.K H x d → bindTg t d st k = some (st', k') →
  (∀ σ', SR T g.K g.CL st' σ' H → (∀ ws : List Nat, (∀ i ∈ tgIs t, i ∈ ws) → L2.wipe σ' ws = L2.wipe σ ws) → (∀ i, i ∉ tgIs t → σ'[i]? = σ[i]?) → k' = k → Q σ' H) → tg x σ H Q
theorem gtg_one {i : Nat} : GTg g (.one i) (gName i) := by
  intro T k k' st st' σ H x d Q w r hd e q
  cases pure_some.mp e
  exact q _ (r.setFr hd) (fun ws h => wipe_set (h i (by simp [tgIs]))) (fun j hj => List.getElem?_set_ne (by simpa [tgIs] using Ne.symm (by simpa [tgIs] using hj))) rfl
theorem gtg_two {i j : Nat} : GTg g (.two i j) (gTup g.K 2 (gCons (gName i) (gCons (gName j) gNil))) := by
  intro T k k' st st' σ H x d Q w r hd e q
  cases d with
  | tup l =>
    cases l with
    | nil => exact absurd e (no_some (k := k))
    | cons a l =>
      cases l with
      | nil => exact absurd e (no_some (k := k))
      | cons b l =>
        cases l with
        | cons _ _ => exact absurd e (no_some (k := k))
        | nil =>
          cases pure_some.mp e
          cases hd with
          | tup h1 h2 =>
            cases h2 with
            | cons d1 d2 =>
              cases d2 with
              | cons d2 d3 =>
                cases d3
                refine ⟨_, _, rfl, .of h1, rfl, _, _, rfl, _, _, rfl, rfl, ?_⟩
                refine q _ ((r.setFr d1).setFr d2) (fun ws h => ?_) (fun l hl => ?_) rfl
                · rw [wipe_set (h j (by simp [tgIs])), wipe_set (h i (by simp [tgIs]))]
                · simp [tgIs] at hl
                  rw [List.getElem?_set_ne (Ne.symm hl.2), List.getElem?_set_ne (Ne.symm hl.1)]
  | _ => exact absurd e (no_some (k := k))

/-! ### sources -/
def GIt (g : Cf) (T : Addr) (J : It) (l : List D) (H0 : Hp) : Prop := ∀ H k, Keeps H0 H → WS T g.Tb H k → (∀ i, l.length ≤ i → J.stop i H) ∧
  ∀ (i : Nat) (d : D), l[i]? = some d → J.go i H ∧ ∀ x H', J.yld i H x H' → Grow T H H' ∧ WS T g.Tb H' k ∧ Den T g.K H' x d
def tI (g : Cf) (m : G.St → M (List D)) : TI := fun σ H R => ∃ T k st l k', WS T g.Tb H k ∧ SR T g.K g.CL st σ H ∧ m st k = some (l, k') ∧ ∀ J H', Grow T H H' → WS T g.Tb H' k' → GIt g T J l H' → l.length ≤ 16777216 → R J H'
theorem PIi {X : Cx} {tg e : Expr} {t t' : TI} (h : PI X tg e t) (i : ∀ σ H R, t' σ H R → t σ H R) : PI X tg e t' := ⟨fun pins s σ H R I q => h.run pins s σ H R I (i σ H R q)⟩
theorem git_list {T a : Addr} {l : List D} {H0 : Hp} {o : Obj} {xs : List V} (h : H0 a = some (.frz o (.lst xs))) (hd : Dens T g.K H0 xs l) : GIt g T (Itl g.K a) l H0 := by
  intro H k kp w
  have sq : SqL g.K H a xs := .inl (.inr ⟨o, kp.2 _ _ _ h⟩)
  refine ⟨fun i hi => ⟨xs, sq, by rw [hd.length]; exact hi⟩, fun i d hi => ?_⟩
  obtain ⟨v, h1, h2⟩ := hd.get hi
  refine ⟨⟨xs, v, sq, h1⟩, fun x H' hy => ?_⟩
  obtain ⟨e, hx⟩ := hy
  have := hx xs sq
  rw [h1] at this
  cases this
  rw [e]
  exact ⟨Grow.refl T H, w, Den.keep kp _ _ h2⟩
theorem git_tup {T a : Addr} {l : List D} {H0 : Hp} {xs : List V} (h : H0 a = some (.tup xs)) (hd : Dens T g.K H0 xs l) : GIt g T (Itt g.K a) l H0 := by
  intro H k kp w
  have sq : SqT g.K H a xs := .of (kp.1 _ _ h)
  refine ⟨fun i hi => ⟨xs, sq, by rw [hd.length]; exact hi⟩, fun i d hi => ?_⟩
  obtain ⟨v, h1, h2⟩ := hd.get hi
  refine ⟨⟨xs, v, sq, h1⟩, fun x H' hy => ?_⟩
  obtain ⟨e, hx⟩ := hy
  have := hx xs sq
  rw [h1] at this
  cases this
  rw [e]
  exact ⟨Grow.refl T H, w, Den.keep kp _ _ h2⟩
theorem git_str {T : Addr} {s : List Nat} {H0 : Hp} : GIt g T (Its (strOf s)) (s.map fun c => .str [c]) H0 := by
  intro H k kp w
  refine ⟨fun i hi => ?_, fun i d hi => ?_⟩
  · show s.toArray.size ≤ i
    simpa using hi
  · rw [List.getElem?_map] at hi
    cases e : s[i]? with
    | none => rw [e] at hi; cases hi
    | some c =>
      rw [e] at hi
      cases hi
      refine ⟨?_, fun x H' hy => ?_⟩
      · show i < s.toArray.size
        rcases Nat.lt_or_ge i s.length with z | z
        · simpa using z
        · rw [List.getElem?_eq_none z] at e; cases e
      · obtain ⟨e1, c', e2, e3⟩ := hy
        have : s.toArray[i]? = some c' := e2
        rw [List.getElem?_toArray, e] at this
        cases this
        rw [e1, e3]
        exact ⟨Grow.refl T H, w, .str [c]⟩
theorem git_range {T : Addr} {a : Int} {n : Nat} {H0 : Hp} : GIt g T (Itr a n) (rangeL a n 1) H0 := by
  intro H k kp w
  have hl : (rangeL a n 1).length = n := by simp [rangeL]
  refine ⟨fun i hi => by rw [hl] at hi; exact hi, fun i d hi => ?_⟩
  unfold rangeL at hi
  rw [List.getElem?_map] at hi
  rcases Nat.lt_or_ge i n with z | z
  · rw [List.getElem?_range z] at hi
    cases hi
    refine ⟨z, fun x H' hy => ?_⟩
    obtain ⟨e1, e2⟩ := hy
    rw [e1, e2]
    refine ⟨Grow.refl T H, w, ?_⟩
    show Den T g.K H (.int (a + i)) (.int (a + i * 1))
    rw [Int.mul_one]
    exact .int _
  · rw [List.getElem?_eq_none (by simpa using z)] at hi
    cases hi
theorem zipIdx_get {l : List D} {i : Nat} {d : D} (h : (l.zipIdx.map fun p => D.tup [.int p.2, p.1])[i]? = some d) : ∃ x, l[i]? = some x ∧ d = .tup [.int i, x] := by
  rw [List.getElem?_map, List.getElem?_zipIdx] at h
  cases e : l[i]? with
  | none => rw [e] at h; cases h
  | some x =>
    rw [e] at h
    cases h
    exact ⟨x, rfl, by simp⟩
theorem git_enumL {T a : Addr} {l : List D} {H0 : Hp} {o : Obj} {xs : List V} (h : H0 a = some (.frz o (.lst xs))) (hd : Dens T g.K H0 xs l) : GIt g T (Ite g.K a) (l.zipIdx.map fun p => .tup [.int p.2, p.1]) H0 := by
  intro H k kp w
  have sq : SqL g.K H a xs := .inl (.inr ⟨o, kp.2 _ _ _ h⟩)
  refine ⟨fun i hi => ⟨xs, sq, by rw [hd.length]; simpa using hi⟩, fun i d hi => ?_⟩
  obtain ⟨y, hy1, hy2⟩ := zipIdx_get hi
  obtain ⟨v, h1, h2⟩ := hd.get hy1
  refine ⟨⟨xs, v, sq, h1⟩, fun x H' hy => ?_⟩
  obtain ⟨p, v', e1, e2, e3, hx⟩ := hy
  have := hx xs sq
  rw [h1] at this
  cases this
  rw [e1, e3, hy2]
  exact ⟨Grow.new e2, w.grow0 e2, .tup upd_same (.cons (.int _) (.cons (Den.keep (kp.trans (keeps_new e2)) _ _ h2) .nil))⟩
theorem git_enumT {T a : Addr} {l : List D} {H0 : Hp} {xs : List V} (h : H0 a = some (.tup xs)) (hd : Dens T g.K H0 xs l) : GIt g T (IteT g.K a) (l.zipIdx.map fun p => .tup [.int p.2, p.1]) H0 := by
  intro H k kp w
  have sq : SqT g.K H a xs := .of (kp.1 _ _ h)
  refine ⟨fun i hi => ⟨xs, sq, by rw [hd.length]; simpa using hi⟩, fun i d hi => ?_⟩
  obtain ⟨y, hy1, hy2⟩ := zipIdx_get hi
  obtain ⟨v, h1, h2⟩ := hd.get hy1
  refine ⟨⟨xs, v, sq, h1⟩, fun x H' hy => ?_⟩
  obtain ⟨p, v', e1, e2, e3, hx⟩ := hy
  have := hx xs sq
  rw [h1] at this
  cases this
  rw [e1, e3, hy2]
  exact ⟨Grow.new e2, w.grow0 e2, .tup upd_same (.cons (.int _) (.cons (Den.keep (kp.trans (keeps_new e2)) _ _ h2) .nil))⟩
theorem zipW_get {l m : List D} {i : Nat} {d : D} (h : (List.zipWith (fun a b => D.tup [a, b]) l m)[i]? = some d) : ∃ x y, l[i]? = some x ∧ m[i]? = some y ∧ d = .tup [x, y] := by
  rw [List.getElem?_zipWith] at h
  cases e : l[i]? with
  | none => rw [e] at h; cases h
  | some x =>
    cases e2 : m[i]? with
    | none => rw [e, e2] at h; cases h
    | some y =>
      rw [e, e2] at h
      cases h
      exact ⟨x, y, rfl, rfl, rfl⟩
theorem zipW_end {l m : List D} {xs ys : List V} {i : Nat} (h1 : xs.length = l.length) (h2 : ys.length = m.length) (h : (List.zipWith (fun a b => D.tup [a, b]) l m).length ≤ i) : xs.length ≤ i ∨ ys.length ≤ i := by
  rw [List.length_zipWith] at h
  omega
theorem git_zipT {T a b : Addr} {l m : List D} {H0 : Hp} {xs ys : List V} (h : H0 a = some (.tup xs)) (hd : Dens T g.K H0 xs l) (h' : H0 b = some (.tup ys)) (hd' : Dens T g.K H0 ys m) :
    GIt g T (RZ.ItzT g.K a b) (List.zipWith (fun a b => .tup [a, b]) l m) H0 := by
  intro H k kp w
  have sq : SqT g.K H a xs := .of (kp.1 _ _ h)
  have sq' : SqT g.K H b ys := .of (kp.1 _ _ h')
  refine ⟨fun i hi => ⟨xs, ys, sq, sq', zipW_end hd.length hd'.length hi⟩, fun i d hi => ?_⟩
  obtain ⟨x, y, e1, e2, e3⟩ := zipW_get hi
  obtain ⟨v, h1, h2⟩ := hd.get e1
  obtain ⟨v', h3, h4⟩ := hd'.get e2
  refine ⟨⟨xs, ys, v, v', sq, sq', h1, h3⟩, fun x H' hy => ?_⟩
  obtain ⟨p, w1, w2, f1, f2, f3, f4, f5⟩ := hy
  have q1 := f4 xs sq
  have q2 := f5 ys sq'
  rw [h1] at q1
  rw [h3] at q2
  cases q1
  cases q2
  rw [f1, f3, e3]
  have kk := kp.trans (keeps_new (o := .tup [v, v']) f2)
  exact ⟨Grow.new f2, w.grow0 f2, .tup upd_same (.cons (Den.keep kk _ _ h2) (.cons (Den.keep kk _ _ h4) .nil))⟩
theorem git_zipL {T a b : Addr} {l m : List D} {H0 : Hp} {o o' : Obj} {xs ys : List V} (h : H0 a = some (.frz o (.lst xs))) (hd : Dens T g.K H0 xs l) (h' : H0 b = some (.frz o' (.lst ys))) (hd' : Dens T g.K H0 ys m) :
    GIt g T (Itz g.K a b) (List.zipWith (fun a b => .tup [a, b]) l m) H0 := by
  intro H k kp w
  have sq : SqL g.K H a xs := .inl (.inr ⟨o, kp.2 _ _ _ h⟩)
  have sq' : SqL g.K H b ys := .inl (.inr ⟨o', kp.2 _ _ _ h'⟩)
  refine ⟨fun i hi => ⟨xs, ys, sq, sq', zipW_end hd.length hd'.length hi⟩, fun i d hi => ?_⟩
  obtain ⟨x, y, e1, e2, e3⟩ := zipW_get hi
  obtain ⟨v, h1, h2⟩ := hd.get e1
  obtain ⟨v', h3, h4⟩ := hd'.get e2
  refine ⟨⟨xs, ys, v, v', sq, sq', h1, h3⟩, fun x H' hy => ?_⟩
  obtain ⟨p, w1, w2, f1, f2, f3, f4, f5⟩ := hy
  have q1 := f4 xs sq
  have q2 := f5 ys sq'
  rw [h1] at q1
  rw [h3] at q2
  cases q1
  cases q2
  rw [f1, f3, e3]
  have kk := kp.trans (keeps_new (o := .tup [v, v']) f2)
  exact ⟨Grow.new f2, w.grow0 f2, .tup upd_same (.cons (Den.keep kk _ _ h2) (.cons (Den.keep kk _ _ h4) .nil))⟩

/-! ### what an iterable is -/
/-- rows are no longer than the size line -/
def Szd (K : PySem.W.Frag) (H : Hp) (v : V) : Prop := ∀ a xs, v = .ref a → SqL K H a xs ∨ SqT K H a xs → xs.length ≤ 16777216
def tZ (g : Cf) (m : G.St → M D) : TE := fun σ H Q => ∃ T k st d k', WS T g.Tb H k ∧ SR T g.K g.CL st σ H ∧ m st k = some (d, k') ∧ ∀ v H', Grow T H H' → WS T g.Tb H' k' → Den T g.K H' v d → Szd g.K H' v → Q v H'
theorem PE.sized {e : Expr} {m : G.St → M D} (hK : X.K = g.K) (h : PE X e (tM g m)) : PE X e (tZ g m) := by
  refine ⟨fun pins s σ H Q I hq => ?_⟩
  obtain ⟨T, k, st, d, k', w, r, em, q⟩ := hq
  refine thn (h.run pins s σ H (fun v H' => Grow T H H' ∧ WS T g.Tb H' k' ∧ Den T g.K H' v d) I
    ⟨T, k, st, d, k', w, r, em, fun v H' e1 e2 e3 => ⟨e1, e2, e3⟩⟩) fun u s' hu => ?_
  obtain ⟨v, H', I', rv, e1, e2, e3⟩ := hu
  refine ⟨v, H', I', rv, q v H' e1 e2 e3 fun a xs _ hs => ?_⟩
  rw [← sizeLine_eq, ← hK] at *
  rcases hs with hs | hs
  · obtain ⟨_, _, _, z⟩ := I'.list hs
    exact z
  · obtain ⟨_, _, _, z⟩ := I'.tuple hs
    exact z
variable {a b c e : Expr} {f f1 f2 f3 m : G.St → M D} {pos p p1 p2 : Pos} {tg : Expr}
theorem pit_it (hK : X.K = g.K) (ha : PE X a (tM g f)) : PI X tg a (tI g fun st => do let x ← f st; items x) := by
  refine ⟨fun pins s σ H R I h => ?_⟩
  obtain ⟨T, k, st, l, k', w, r, em, q⟩ := h
  obtain ⟨x, k1, e1, e2⟩ := bind_some.mp em
  have hz := PE.sized hK ha
  cases x with
  | lst l' =>
    cases pure_some.mp e2
    refine (pi_list hz).run pins s σ H R I ⟨T, k, st, _, _, w, r, e1, fun v1 H1 g1 w1 d1 z1 => ?_⟩
    cases d1 with
    | lst h1 h2 =>
      have sq : SqL g.K H1 _ _ := .inl (.inr ⟨_, h1⟩)
      refine ⟨_, rfl, ⟨_, by rw [hK]; exact sq⟩, ?_⟩
      rw [hK]
      exact q _ H1 g1 w1 (git_list h1 h2) (by rw [← h2.length]; exact z1 _ _ rfl (.inl sq))
  | tup l' =>
    cases pure_some.mp e2
    refine (pi_tup hz).run pins s σ H R I ⟨T, k, st, _, _, w, r, e1, fun v1 H1 g1 w1 d1 z1 => ?_⟩
    cases d1 with
    | tup h1 h2 =>
      have sq : SqT g.K H1 _ _ := .of h1
      refine ⟨_, rfl, ⟨_, by rw [hK]; exact sq⟩, ?_⟩
      rw [hK]
      exact q _ H1 g1 w1 (git_tup h1 h2) (by rw [← h2.length]; exact z1 _ _ rfl (.inr sq))
  | str z =>
    obtain ⟨hz', e3⟩ := if_some (show (if z.length ≤ 16777216 then (pure (z.map fun c => .str [c]) : M (List D)) else no) k1 = some (l, k') from e2)
    cases pure_some.mp e3
    refine (pi_str ha).run pins s σ H R I ⟨T, k, st, _, _, w, r, e1, fun v1 H1 g1 w1 d1 => ?_⟩
    cases d1
    exact ⟨_, rfl, q _ H1 g1 w1 git_str (by simpa using hz')⟩
  | dic ks vs =>
    refine thn (ha.run pins s σ H (fun _ _ => False) I ⟨T, k, st, _, _, w, r, e1, fun v1 H1 g1 w1 d1 => by cases d1⟩) fun u s' hu => ?_
    obtain ⟨_, _, _, _, hu⟩ := hu
    exact hu.elim
  | _ => exact absurd e2 (no_some (k := k1))
theorem smallI_of {i : Int} (h : smallI i = true) : -8388608 ≤ i ∧ i ≤ 8388608 := by
  have := absLe_of.mp h
  exact ⟨by omega, by omega⟩
theorem pit_r1 (hg : Gl X "range") (hm : X.mg "range" = none) (hs : ∀ v p, a ≠ .Starred v p) (ha : PE X a (tM g f)) : PI X tg (.Call (.Name "range" p) [a] [] pos) (tI g fun st => do let x ← f st; srcD .r1 x .non .non) :=
  PIi (pi_range1 hg hm (pa_cons ha pa_nil (starEach_ok hs)) (starEach_ok hs)) fun σ H R h => by
    obtain ⟨T, k, st, l, k', w, r, em, q⟩ := h
    obtain ⟨x, k1, e1, e2⟩ := bind_some.mp em
    cases x with
    | int i =>
      obtain ⟨hi, e3⟩ := if_some (show (if smallI i = true then (pure (rangeL 0 i.toNat 1) : M (List D)) else no) k1 = some (l, k') from e2)
      cases pure_some.mp e3
      have hb := smallI_of hi
      exact ⟨T, k, st, _, _, w, r, e1, fun v1 H1 g1 w1 d1 => ⟨i, by rw [int_den d1], by omega, by omega, q _ H1 g1 w1 git_range (by simp [rangeL]; omega)⟩⟩
    | _ => exact absurd e2 (no_some (k := k1))
theorem pit_r2 (hg : Gl X "range") (hm : X.mg "range" = none) (hs : ∀ v p, a ≠ .Starred v p) (hs' : ∀ v p, b ≠ .Starred v p) (ha : PE X a (tM g f1)) (hb : PE X b (tM g f2)) :
    PI X tg (.Call (.Name "range" p) [a, b] [] pos) (tI g fun st => do let x ← f1 st; let y ← f2 st; srcD .r2 x y .non) :=
  PIi (pi_range2 hg hm (pa_cons ha (pa_cons hb pa_nil (starEach_ok hs')) (starEach_ok hs)) (by rw [starEach_ok hs, starEach_ok hs']; rfl) (starEach_ok hs')) fun σ H R h => by
    obtain ⟨T, k, st, l, k', w, r, em, q⟩ := h
    obtain ⟨x, k1, e1, e2⟩ := bind_some.mp em
    obtain ⟨y, k2, e3, e4⟩ := bind_some.mp e2
    cases x with
    | int i =>
      cases y with
      | int j =>
        obtain ⟨hi, e5⟩ := if_some (show (if (smallI i && smallI j) = true then (pure (rangeL i (j - i).toNat 1) : M (List D)) else no) k2 = some (l, k') from e4)
        cases pure_some.mp e5
        rw [Bool.and_eq_true] at hi
        have hb1 := smallI_of hi.1
        have hb2 := smallI_of hi.2
        exact ⟨T, k, st, _, _, w, r, e1, fun v1 H1 g1 w1 d1 => ⟨T, k1, st, _, _, w1, r.grow g.stays g1 w.town, e3, fun v2 H2 g2 w2 d2 => ⟨i, j, by rw [int_den d1, int_den d2], ⟨by omega, by omega, by omega, by omega⟩, q _ H2 (g1.trans g2) w2 git_range (by simp [rangeL]; omega)⟩⟩⟩
      | _ => exact absurd e4 (no_some (k := k2))
    | _ => exact absurd e4 (no_some (k := k2))
theorem pit_en {elts : List Expr} {kk : Nat} {tpos : Pos} (hK : X.K = g.K) (hg : Gl X "enumerate") (hm : X.mg "enumerate" = none) (hs : ∀ v p, a ≠ .Starred v p) (ha : PE X a (tM g f)) :
    PI X (.Tuple elts kk tpos) (.Call (.Name "enumerate" p) [a] [] pos) (tI g fun st => do let x ← f st; srcD .en x .non .non) := by
  refine ⟨fun pins s σ H R I h => ?_⟩
  obtain ⟨T, k, st, l, k', w, r, em, q⟩ := h
  obtain ⟨x, k1, e1, e2⟩ := bind_some.mp em
  have hz := PE.sized hK ha
  cases x with
  | lst l' =>
    cases pure_some.mp e2
    refine (pi_enum hg hm (pa_cons hz pa_nil (starEach_ok hs)) (starEach_ok hs)).run pins s σ H R I ⟨T, k, st, _, _, w, r, e1, fun v1 H1 g1 w1 d1 z1 => ?_⟩
    cases d1 with
    | lst h1 h2 =>
      have sq : SqL g.K H1 _ _ := .inl (.inr ⟨_, h1⟩)
      refine ⟨_, _, rfl, by rw [hK]; exact sq, ?_⟩
      rw [hK]
      exact q _ H1 g1 w1 (git_enumL h1 h2) (by rw [List.length_map, List.length_zipIdx, ← h2.length]; exact z1 _ _ rfl (.inl sq))
  | tup l' =>
    cases pure_some.mp e2
    refine (pi_enumT hg hm (pa_cons hz pa_nil (starEach_ok hs)) (starEach_ok hs)).run pins s σ H R I ⟨T, k, st, _, _, w, r, e1, fun v1 H1 g1 w1 d1 z1 => ?_⟩
    cases d1 with
    | tup h1 h2 =>
      have sq : SqT g.K H1 _ _ := .of h1
      refine ⟨_, _, rfl, by rw [hK]; exact sq, ?_⟩
      rw [hK]
      exact q _ H1 g1 w1 (git_enumT h1 h2) (by rw [List.length_map, List.length_zipIdx, ← h2.length]; exact z1 _ _ rfl (.inr sq))
  | _ => exact absurd e2 (no_some (k := k1))
theorem pit_zp {elts : List Expr} {kk : Nat} {tpos : Pos} (hK : X.K = g.K) (hg : Gl X "zip") (hm : X.mg "zip" = none) (hs : ∀ v p, a ≠ .Starred v p) (hs' : ∀ v p, b ≠ .Starred v p) (ha : PE X a (tM g f1)) (hb : PE X b (tM g f2)) :
    PI X (.Tuple elts kk tpos) (.Call (.Name "zip" p) [a, b] [] pos) (tI g fun st => do let x ← f1 st; let y ← f2 st; srcD .zp x y .non) :=
  PIi (RZ.pi_zipA hg hm (pa_cons ha (pa_cons (PE.sized hK hb) pa_nil (starEach_ok hs')) (starEach_ok hs)) (starEach_ok hs) (noStars (es := [b]) fun e he => by rw [List.mem_singleton.mp he]; exact hs')) fun σ H R h => by
    obtain ⟨T, k, st, l, k', w, r, em, q⟩ := h
    obtain ⟨x, k1, e1, e2⟩ := bind_some.mp em
    obtain ⟨y, k2, e3, e4⟩ := bind_some.mp e2
    refine ⟨T, k, st, _, _, w, r, e1, fun v1 H1 g1 w1 d1 => ⟨T, k1, st, _, _, w1, r.grow g.stays g1 w.town, e3, fun v2 H2 g2 w2 d2 z2 => ?_⟩⟩
    have d1' := Den.keep (g2.keeps w1.town) _ _ d1
    cases x with
    | tup l1 =>
      cases y with
      | tup l2 =>
        cases pure_some.mp e4
        cases d1' with
        | tup h1 h2 =>
          cases d2 with
          | tup h3 h4 =>
            refine ⟨_, _, _, _, rfl, .inr ⟨.of h1, .of h3, ?_⟩⟩
            rw [hK]
            refine q _ H2 (g1.trans g2) w2 (git_zipT h1 h2 h3 h4) ?_
            have := z2 _ _ rfl (.inr (.of h3))
            rw [List.length_zipWith, ← h4.length]
            omega
      | _ => exact absurd e4 (no_some (k := k2))
    | lst l1 =>
      cases y with
      | lst l2 =>
        cases pure_some.mp e4
        cases d1' with
        | lst h1 h2 =>
          cases d2 with
          | lst h3 h4 =>
            refine ⟨_, _, _, _, rfl, .inl ⟨.inl (.inr ⟨_, h1⟩), .inl (.inr ⟨_, h3⟩), ?_⟩⟩
            rw [hK]
            refine q _ H2 (g1.trans g2) w2 (git_zipL h1 h2 h3 h4) ?_
            have := z2 _ _ rfl (.inl (.inl (.inr ⟨_, h3⟩)))
            rw [List.length_zipWith, ← h4.length]
            omega
      | _ => exact absurd e4 (no_some (k := k2))
    | _ => exact absurd e4 (no_some (k := k2))
end
end G

namespace G
open PySem PySem.Spec PyProof.Rows L2

section
variable {g : Cf} {X : Cx}
def lcF (t : Tg) (ms : G.St → M (List D)) (fc fe : G.St → M D) (vs : List Nat) : G.St → M D := fun st => do
  let l ← ms st
  let r ← lcM (fun d => do
      let st' ← bindTg t d (G.wipe st vs)
      let q ← fc st'
      let b ← tru q
      if b then do let e ← fe st'; pure (some e) else pure none) l
  pure (.lst r)
/-- the data made so far -/
def lcI (g : Cf) (T : Addr) (F : D → M (Option D)) (l r : List D) (k' : Nat) (H1 : Hp) (Dd : Addr) (i m : Nat) (H : Hp) : Prop :=
  m = l.length - i ∧ i ≤ l.length ∧ ∃ k0 r0 ds0 acc, lcM F (l.drop i) k0 = some (r0, k') ∧ r = ds0 ++ r0 ∧ acc.length ≤ i ∧ H Dd = some (.lst acc) ∧ Dens T g.K H acc ds0 ∧ Grow T H1 H ∧ WS T g.Tb H k0
theorem Dens.snoc {T : Addr} {H : Hp} : ∀ {xs : List V} {ds : List D} {x : V} {d : D}, Dens T g.K H xs ds → Den T g.K H x d → Dens T g.K H (xs ++ [x]) (ds ++ [d])
  | _, _, _, _, .nil, h => .cons h .nil
  | _, _, _, _, .cons h1 h2, h => .cons h1 (Dens.snoc h2 h)
theorem tLc_of {t : Tg} {tg : TG} {ms : G.St → M (List D)} {fc fe : G.St → M D} {vs : List Nat} (hG : GTg g t tg) (htg : ∀ i ∈ tgIs t, i ∈ vs) {σ : L2.St} {H : Hp} {Q : VK}
    (h : tN g (lcF t ms fc fe vs) σ H Q) : tLc (tI g ms) tg (tMB g (truM fc)) (tM g fe) vs σ H Q := by
  obtain ⟨T, k, st, d, k', w, r, em, q⟩ := h
  obtain ⟨l, k1, e1, e2⟩ := bind_some.mp em
  obtain ⟨rr, k2, e3, e4⟩ := bind_some.mp e2
  cases pure_some.mp e4
  refine ⟨T, k, st, l, k1, w, r, e1, fun J H1 g1 w1 gi hl Dd hD => ?_⟩
  have hDT := w1.neT hD
  generalize hF : (fun d => do
      let st' ← bindTg t d (G.wipe st vs)
      let q ← fc st'
      let b ← tru q
      if b then do let e ← fe st'; pure (some e) else pure none : D → M (Option D)) = F at e3
  refine ⟨lcI g T F l rr k' H1 Dd, ⟨l.length, by simp, Nat.zero_le _, k1, rr, [], [], by simpa using e3, rfl, Nat.le_refl _, upd_same, .nil, Grow.new hD, w1.grow0 hD⟩, ?_⟩
  rintro i m H2 ⟨hm, hi, k0, r0, ds0, acc, a1, a2, a3, a4, a5, a6, a7⟩
  have kp : Keeps H1 H2 := a6.keeps w1.town
  obtain ⟨stop, go⟩ := gi H2 k0 kp a7
  by_cases hil : i = l.length
  · refine .inl ⟨stop i (Nat.le_of_eq hil.symm), ?_⟩
    rw [List.drop_eq_nil_of_le (Nat.le_of_eq hil.symm)] at a1
    cases pure_some.mp a1
    rw [List.append_nil] at a2
    subst a2
    exact q Dd acc _ H2 rfl (g1.none _ hD) hDT (g1.trans a6) a7 a4 a5
  · have hlt : i < l.length := Nat.lt_of_le_of_ne hi hil
    obtain ⟨go1, yl⟩ := go i l[i] (List.getElem?_eq_getElem hlt)
    refine .inr ⟨go1, fun H' => ∃ m', m' < m ∧ lcI g T F l rr k' H1 Dd (i + 1) m' H', fun H' hx => hx, fun x H3 hy => ?_⟩
    obtain ⟨g3, w3, d3⟩ := yl x H3 hy
    rw [List.drop_eq_getElem_cons hlt] at a1
    obtain ⟨o, k3, b1, b2⟩ := bind_some.mp (show (do let r ← F l[i]; let rs ← lcM F (l.drop (i + 1)); pure (match r with | some d => d :: rs | none => rs) : M (List D)) k0 = some (r0, k') from a1)
    obtain ⟨rs, k4, b3, b4⟩ := bind_some.mp b2
    cases pure_some.mp b4
    rw [← hF] at b1
    obtain ⟨st', k5, c1, c2⟩ := bind_some.mp b1
    obtain ⟨qd, k6, c3, c4⟩ := bind_some.mp c2
    obtain ⟨bb, k7, c5, c6⟩ := bind_some.mp c4
    have r3 : SR T g.K g.CL (G.wipe st vs) (L2.wipe σ vs) H3 := ((((r.grow g.stays g1 w.town).grow g.stays a6 w1.town).grow g.stays g3 a7.town)).wipe vs
    refine hG T k0 k5 _ _ _ H3 x l[i] _ w3 r3 d3 c1 fun σ2 r4 hw _ ek => ?_
    subst ek
    refine ⟨?_, ?_⟩
    · rw [hw vs htg]
      exact wipe_wipe vs vs fun v hv => hv
    refine ⟨T, _, st', bb, k7, w3, r4, bind_some.mpr ⟨qd, k6, c3, c5⟩, fun H4 g4 w4 => ?_⟩
    have a4' : H3 Dd = some (.lst acc) := g3.keep _ _ a4 hDT (fun _ z => nomatch z)
    have a4'' : H4 Dd = some (.lst acc) := g4.keep _ _ a4' hDT (fun _ z => nomatch z)
    have g14 := (a6.trans g3).trans g4
    cases bb with
    | false =>
      cases pure_some.mp (show (pure none : M (Option D)) k7 = some (o, k3) from c6)
      exact ⟨l.length - (i + 1), by omega, rfl, hlt, _, rs, ds0, acc, b3, a2, by omega, a4'', Dens.keep ((g3.trans g4).keeps a7.town) _ _ a5, g14, w4⟩
    | true =>
      obtain ⟨ed, k8, c7, c8⟩ := bind_some.mp (show (do let e ← fe st'; pure (some e) : M (Option D)) k7 = some (o, k3) from c6)
      cases pure_some.mp c8
      show tM g fe σ2 H4 _
      refine ⟨T, k7, st', ed, _, w4, r4.grow g.stays g4 w3.town, c7, fun y H5 g5 w5 d5 => ?_⟩
      have a45 : H5 Dd = some (.lst acc) := g5.keep _ _ a4'' hDT (fun _ z => nomatch z)
      refine ⟨acc, a45, ?_, l.length - (i + 1), by omega, rfl, hlt, _, rs, ds0 ++ [ed], acc ++ [y], b3, ?_, ?_, upd_same, ?_, (g14.trans g5).at hD, w5.updL a45 hDT⟩
      · rw [sizeLine_eq]; omega
      · rw [a2, List.append_assoc]; rfl
      · rw [List.length_append]; simp; omega
      · have kk : Keeps H5 (upd H5 Dd (.lst (acc ++ [y]))) := keeps_upd a45 (fun _ z => nomatch z) (fun _ _ z => nomatch z)
        exact (Dens.keep ((((g3.trans g4).trans g5).keeps a7.town).trans kk) _ _ a5).snoc (Den.keep kk _ _ d5)
theorem pn_lc {t : Tg} {tg : TG} {ms : G.St → M (List D)} {fc fe : G.St → M D} {elt tge iter : Expr} {ifs : List Expr} {scope : Scope} {own : List (Str × Nat)} {pos : Pos} (hc : X.calm = true) (hN : X.N.Nodup)
    (hi : PI X tge iter (tI g ms)) (ok : BlkOk X.N X.env.scope scope own) (hG : GTg g t tg) (htg : ∀ i ∈ tgIs t, i ∈ own.map (·.2))
    (hg : ∀ (s : Shared) (H : Hp) (C : Addr) (cl : List (Str × Addr)) (fp : List Addr), PG (X.blk s H scope (compEnvC scope cl C X.env) fp) tge tg)
    (ht : ∀ (s : Shared) (H : Hp) (C : Addr) (cl : List (Str × Addr)) (fp : List Addr), PTs (X.blk s H scope (compEnvC scope cl C X.env) fp) ifs (tMB g (truM fc)))
    (he : ∀ (s : Shared) (H : Hp) (C : Addr) (cl : List (Str × Addr)) (fp : List Addr), PE (X.blk s H scope (compEnvC scope cl C X.env) fp) elt (tM g fe)) (hs : ∀ x, foldedSetIterable iter X.env x = pure x) :
    PE X (.ListComp elt [⟨tge, iter, ifs, 0⟩] scope pos) (tN g (lcF t ms fc fe (own.map (·.2)))) :=
  PEi (pe_lc hc hN hi ok hg ht he hs) fun σ H Q h => tLc_of hG htg h
theorem ptsm_nil : PTs X [] (tMB g (truM fun _ => pure (.bl true))) := ⟨fun pins s σ H Q I h => by
  refine pts_nil.run pins s σ H Q I ?_
  obtain ⟨T, k, st, b, k', w, r, em, q⟩ := h
  cases pure_some.mp (show (pure true : M Bool) k = some (b, k') from em)
  exact q H (Grow.refl T H) w⟩
end
end G

namespace G
open PySem PySem.Spec PyProof.Rows L2

/-- the slots, the heap at the entry, the lists of one's own -/
structure SO (g : Cf) (T : Addr) (H0 : Hp) (st : G.St) (σ : L2.St) (H : Hp) : Prop where
  sr : SR T g.K g.CL st σ H
  gr : Grow T H0 H
  ow : ∀ (i : Nat) (d : D) (a : Addr), st[i]? = some (.ow d) → σ[i]? = some (some (.ref a)) → H0 a = none
def postS (g : Cf) (T : Addr) (D : Ends) (fl : Fl) (σ : L2.St) (H : Hp) : Prop := match fl with
  | .nx => D.nx σ H
  | .bk => D.bk σ H
  | .ct => D.ct σ H
  | .rt d => ∀ v, Den T g.K H v d → D.rt v H
def tS (g : Cf) (m : G.St → M (G.St × Fl)) : TS := fun D σ H => ∃ T H0 k st st' fl k', WS T g.Tb H k ∧ SO g T H0 st σ H ∧ m st k = some ((st', fl), k') ∧ ∀ σ' H', Keeps H H' → WS T g.Tb H' k' → SO g T H0 st' σ' H' → postS g T D fl σ' H'
section
variable {g : Cf} {X : Cx}
theorem SO.grow {T : Addr} {H0 H H' : Hp} {k : Nat} {st : G.St} {σ : L2.St} (r : SO g T H0 st σ H) (gr : Grow T H H') (t : Town T H k) : SO g T H0 st σ H' := ⟨r.sr.grow g.stays gr t, r.gr.trans gr, r.ow⟩
theorem SO.setFr {T : Addr} {H0 H : Hp} {st : G.St} {σ : L2.St} {i : Nat} {d : D} {v : V} (r : SO g T H0 st σ H) (hd : Den T g.K H v d) : SO g T H0 (st.set i (.fr d)) (σ.set i (some v)) H := by
  refine ⟨r.sr.setFr hd, r.gr, fun j d' a e1 e2 => ?_⟩
  rw [List.getElem?_set] at e1
  by_cases h : i = j
  · rw [if_pos h] at e1; split at e1 <;> cases e1
  · rw [if_neg h] at e1
    rw [List.getElem?_set_ne h] at e2
    exact r.ow j d' a e1 e2
/-- an owned slot's list -/
theorem SO.own {T : Addr} {H0 H : Hp} {st : G.St} {σ : L2.St} {i : Nat} {d : D} (r : SO g T H0 st σ H) (e : st[i]? = some (.ow d)) : ∃ ds a xs, d = .lst ds ∧ σ[i]? = some (some (.ref a)) ∧ a ≠ T ∧ H a = some (.lst xs) ∧ Dens T g.K H xs ds ∧ H0 a = none := by
  have q := r.sr.at' i _ e
  cases d with
  | lst ds =>
    cases o : σ[i]? with
    | none => rw [o] at q; exact q.elim
    | some o' =>
      cases o' with
      | none => rw [o] at q; exact q.elim
      | some v =>
        rw [o] at q
        obtain ⟨a, xs, e1, e2, e3, e4⟩ := q
        subst e1
        exact ⟨ds, a, xs, rfl, rfl, e2, e3, e4, r.ow i _ a e o⟩
  | _ =>
    cases o : σ[i]? with
    | none => rw [o] at q; exact q.elim
    | some o' => cases o' <;> (rw [o] at q; exact q.elim)
/-- a new list in a slot -/
theorem SO.setOw {T : Addr} {H0 H H' : Hp} {st : G.St} {σ : L2.St} {i : Nat} {ds : List D} {p : Addr} {xs : List V} {k : Nat} (r : SO g T H0 st σ H) (t : Town T H k) (gr : Grow T H H') (hp : H p = none) (hT : p ≠ T) (hx : H' p = some (.lst xs)) (hd : Dens T g.K H' xs ds) :
    SO g T H0 (st.set i (.ow (.lst ds))) (σ.set i (some (.ref p))) H' := by
  have r' := r.grow gr t
  have fresh : ∀ (j : Nat) (d : D) (a : Addr), st[j]? = some (.ow d) → σ[j]? = some (some (.ref a)) → a ≠ p := fun j d a e1 e2 z => by
    obtain ⟨_, a', _, _, e3, _, e4, _⟩ := r.own e1
    rw [e2] at e3
    cases e3
    rw [z, hp] at e4
    cases e4
  refine ⟨⟨by rw [List.length_set, List.length_set, r.sr.len], fun j s e => ?_, fun j l d1 d2 a e1 e2 e3 e4 => ?_⟩, r'.gr, fun j d' a e1 e2 => ?_⟩
  · rw [List.getElem?_set] at e
    by_cases h : i = j
    · rw [if_pos h] at e
      split at e
      · rename_i hl
        cases e
        rw [← h, List.getElem?_set_self (by rw [← r.sr.len]; exact hl)]
        exact ⟨p, xs, rfl, hT, hx, hd⟩
      · cases e
    · rw [if_neg h] at e
      rw [List.getElem?_set_ne h]
      exact r'.sr.at' j s e
  · rw [List.getElem?_set] at e1 e2 e3 e4
    by_cases h : i = j
    · by_cases h2 : i = l
      · rw [← h, h2]
      · exfalso
        rw [if_neg h2] at e2 e4
        rw [if_pos h] at e3
        split at e3
        · cases e3
          exact fresh l d2 _ e2 e4 rfl
        · cases e3
    · by_cases h2 : i = l
      · exfalso
        rw [if_neg h] at e1 e3
        rw [if_pos h2] at e4
        split at e4
        · cases e4
          exact fresh j d1 _ e1 e3 rfl
        · cases e4
      · rw [if_neg h] at e1 e3
        rw [if_neg h2] at e2 e4
        exact r.sr.own j l d1 d2 a e1 e2 e3 e4
  · rw [List.getElem?_set] at e1 e2
    by_cases h : i = j
    · rw [if_pos h] at e2
      split at e2
      · cases e2
        exact r.gr.none _ hp
      · cases e2
    · rw [if_neg h] at e1 e2
      exact r.ow j d' a e1 e2
/-- an owned list is changed -/
theorem SO.upOw {T : Addr} {H0 H : Hp} {st : G.St} {σ : L2.St} {i : Nat} {d : D} {es : List D} {a : Addr} {xs ys : List V} (r : SO g T H0 st σ H) (e : st[i]? = some (.ow d)) (eσ : σ[i]? = some (some (.ref a))) (ha : H a = some (.lst xs)) (hT : a ≠ T)
    (hd : Dens T g.K H ys es) : SO g T H0 (st.set i (.ow (.lst es))) σ (upd H a (.lst ys)) := by
  have kp : Keeps H (upd H a (.lst ys)) := keeps_upd ha (fun _ z => nomatch z) (fun _ _ z => nomatch z)
  have hi : i < st.length := by
    rcases Nat.lt_or_ge i st.length with z | z
    · exact z
    · rw [List.getElem?_eq_none z] at e; cases e
  have old : ∀ (j : Nat) (d' : D), (st.set i (.ow (.lst es)))[j]? = some (.ow d') → ∃ d0, st[j]? = some (.ow d0) := fun j d' e1 => by
    rw [List.getElem?_set] at e1
    by_cases h : i = j
    · exact ⟨d, h ▸ e⟩
    · rw [if_neg h] at e1
      exact ⟨d', e1⟩
  refine ⟨⟨by rw [List.length_set, r.sr.len], fun j s e1 => ?_, fun j l d1 d2 b e1 e2 e3 e4 => ?_⟩, r.gr.at (r.ow i d a e eσ), fun j d' b e1 e2 => ?_⟩
  · rw [List.getElem?_set] at e1
    by_cases h : i = j
    · rw [if_pos h, if_pos hi] at e1
      cases e1
      rw [← h, eσ]
      exact ⟨a, ys, rfl, hT, upd_same, Dens.keep kp _ _ hd⟩
    · rw [if_neg h] at e1
      have q := r.sr.at' j s e1
      cases s with
      | un => exact True.intro
      | fr d' =>
        cases o : σ[j]? with
        | none => rw [o] at q; exact q
        | some o' =>
          cases o' with
          | none => rw [o] at q; exact q
          | some v => rw [o] at q; exact Den.keep kp _ _ q
      | ow d' =>
        obtain ⟨ds, b, zs, f1, f2, f3, f4, f5, _⟩ := r.own e1
        subst f1
        rw [f2]
        have hb : b ≠ a := fun z => h (r.sr.own i j d _ a e e1 eσ (by rw [f2, z]))
        exact ⟨b, zs, rfl, f3, by rw [upd_ne hb]; exact f4, Dens.keep kp _ _ f5⟩
      | cl li cs =>
        cases o : σ[j]? with
        | none => rw [o] at q; exact q
        | some o' =>
          cases o' with
          | none => rw [o] at q; exact q
          | some v =>
            rw [o] at q
            obtain ⟨f, f1, f2⟩ := q
            exact ⟨f, f1, g.stays _ _ _ _ _ _ kp f2⟩
  · obtain ⟨d3, e5⟩ := old j d1 e1
    obtain ⟨d4, e6⟩ := old l d2 e2
    exact r.sr.own j l d3 d4 b e5 e6 e3 e4
  · obtain ⟨d3, e5⟩ := old j d' e1
    exact r.ow j d3 b e5 e2
/-- the town grows -/
theorem WS.tick {T : Addr} {Tb : List (Addr × Str)} {H : Hp} {k : Nat} (w : WS T Tb H k) (hk : k < 16777216) : WS T Tb (upd H T (.lst (List.replicate k (.int 0) ++ [.int 0]))) (k + 1) := by
  refine ⟨⟨by rw [upd_same, List.replicate_succ'], hk⟩, fun q hq => ?_⟩
  obtain ⟨ps, h1, h2, h3⟩ := w.tabs q hq
  refine ⟨ps, by rw [upd_ne (fun z => by rw [z, w.town.1] at h1; cases h1)]; exact h1, h2, fun pos cv hc => ?_⟩
  obtain ⟨c, e1, e2⟩ := h3 pos cv hc
  exact ⟨c, e1, by rw [upd_ne (fun z => by rw [z, w.town.1] at e2; unfold LamX.CodeO at e2; cases e2)]; exact e2⟩
theorem Grow.tick {T : Addr} {H : Hp} {k : Nat} {o : HO} (t : Town T H k) : Grow T H (upd H T o) := ⟨fun a u h n _ => by rw [upd_ne n]; exact h, fun a h => NdefX.upd_none h⟩

/-! ### small statements -/
variable {a b c e : Expr} {f f1 f2 f3 : G.St → M D} {m m1 m2 : G.St → M (G.St × Fl)} {pos p p1 p2 : Pos} {st1 st2 : Stmt} {rest : List Stmt}
theorem sm_nil : PSs X [] (tS g fun st => pure (st, .nx)) := PSsi pss_nil fun D σ H h => by
  obtain ⟨T, H0, k, st, st', fl, k', w, r, em, q⟩ := h
  cases pure_some.mp em
  exact q σ H (Keeps.refl H) w r
def seqM (m1 m2 : G.St → M (G.St × Fl)) : G.St → M (G.St × Fl) := fun st => do
  let (st1, fl) ← m1 st
  match fl with
  | .nx => m2 st1
  | fl => pure (st1, fl)
theorem tS_seq {D : Ends} {σ : L2.St} {H : Hp} (h : tS g (seqM m1 m2) D σ H) : tSeq (tS g m1) (tS g m2) D σ H := by
  obtain ⟨T, H0, k, st, st', fl, k', w, r, em, q⟩ := h
  obtain ⟨⟨s1, f1⟩, k1, e1, e2⟩ := bind_some.mp em
  cases f1 with
  | nx =>
    refine ⟨T, H0, k, st, s1, .nx, k1, w, r, e1, fun σ1 H1 kp w1 r1 => ?_⟩
    exact ⟨T, H0, k1, s1, st', fl, k', w1, r1, e2, fun σ2 H2 kp2 w2 r2 => q σ2 H2 (kp.trans kp2) w2 r2⟩
  | bk => cases pure_some.mp e2; exact ⟨T, H0, k, st, _, _, _, w, r, e1, fun σ1 H1 kp w1 r1 => q σ1 H1 kp w1 r1⟩
  | ct => cases pure_some.mp e2; exact ⟨T, H0, k, st, _, _, _, w, r, e1, fun σ1 H1 kp w1 r1 => q σ1 H1 kp w1 r1⟩
  | rt d => cases pure_some.mp e2; exact ⟨T, H0, k, st, _, _, _, w, r, e1, fun σ1 H1 kp w1 r1 => q σ1 H1 kp w1 r1⟩
theorem sm_cons (h1 : PS X st1 (tS g m1)) (h2 : PSs X rest (tS g m2)) : PSs X (st1 :: rest) (tS g (seqM m1 m2)) := PSsi (pss_cons h1 h2) fun D σ H h => tS_seq h
theorem sm_pass : PS X (.Pass pos) (tS g fun st => pure (st, .nx)) := PSi ps_pass fun D σ H h => by
  obtain ⟨T, H0, k, st, st', fl, k', w, r, em, q⟩ := h
  cases pure_some.mp em
  exact q σ H (Keeps.refl H) w r
theorem sm_brk : PS X (.Break pos) (tS g fun st => pure (st, .bk)) := PSi ps_break fun D σ H h => by
  obtain ⟨T, H0, k, st, st', fl, k', w, r, em, q⟩ := h
  cases pure_some.mp em
  exact q σ H (Keeps.refl H) w r
theorem sm_cnt : PS X (.Continue pos) (tS g fun st => pure (st, .ct)) := PSi ps_continue fun D σ H h => by
  obtain ⟨T, H0, k, st, st', fl, k', w, r, em, q⟩ := h
  cases pure_some.mp em
  exact q σ H (Keeps.refl H) w r
theorem sm_doc {x j pos pos'} : PS X (.Expr (.Constant (.str x) j pos) pos') (tS g fun st => pure (st, .nx)) := PSi ps_doc fun D σ H h => by
  obtain ⟨T, H0, k, st, st', fl, k', w, r, em, q⟩ := h
  cases pure_some.mp em
  exact q σ H (Keeps.refl H) w r
theorem sm_retN : PS X (.Return none pos) (tS g fun st => pure (st, .rt .non)) := PSi ps_retN fun D σ H h => by
  obtain ⟨T, H0, k, st, st', fl, k', w, r, em, q⟩ := h
  cases pure_some.mp em
  exact q σ H (Keeps.refl H) w r _ .non
/-- an expression's reading in a statement -/
theorem tS_expr {σ : L2.St} {H : Hp} {m' : D → G.St → M (G.St × Fl)} {Dn : Ends} (h : tS g (fun st => do let d ← f st; m' d st) Dn σ H) :
    tM g f σ H fun v H1 => ∃ T H0 k st st' fl k' d, WS T g.Tb H1 k ∧ SO g T H0 st σ H1 ∧ Den T g.K H1 v d ∧ m' d st k = some ((st', fl), k') ∧ ∀ σ' H', Keeps H1 H' → WS T g.Tb H' k' → SO g T H0 st' σ' H' → postS g T Dn fl σ' H' := by
  obtain ⟨T, H0, k, st, st', fl, k', w, r, em, q⟩ := h
  obtain ⟨d, k1, e1, e2⟩ := bind_some.mp em
  exact ⟨T, k, st, d, k1, w, r.sr, e1, fun v H1 g1 w1 d1 => ⟨T, H0, k1, st, st', fl, k', d, w1, r.grow g1 w.town, d1, e2, fun σ' H' kp w2 r2 => q σ' H' ((g1.keeps w.town).trans kp) w2 r2⟩⟩
theorem sm_ret (he : PE X e (tM g f)) : PS X (.Return (some e) pos) (tS g fun st => do let d ← f st; pure (st, .rt d)) := PSi (ps_ret he) fun D σ H h => by
  obtain ⟨T, k, st, d, k1, w, r, e1, q⟩ := tS_expr (m' := fun d st => pure (st, .rt d)) h
  refine ⟨T, k, st, d, k1, w, r, e1, fun v H1 g1 w1 d1 => ?_⟩
  obtain ⟨T', H0, k2, s2, s3, fl, k3, d', w2, r2, d2, e2, q2⟩ := q v H1 g1 w1 d1
  cases pure_some.mp e2
  exact q2 σ H1 (Keeps.refl H1) w2 r2 v d2
theorem sm_exp (he : PE X e (tM g f)) (hs : swapsWith e none pos.line X.env = pure false) : PS X (.Expr e pos) (tS g fun st => do let d ← f st; pure (st, .nx)) := PSi (ps_expr he hs) fun D σ H h => by
  obtain ⟨T, k, st, d, k1, w, r, e1, q⟩ := tS_expr (m' := fun d st => pure (st, .nx)) h
  refine ⟨T, k, st, d, k1, w, r, e1, fun v H1 g1 w1 d1 => ?_⟩
  obtain ⟨T', H0, k2, s2, s3, fl, k3, d', w2, r2, d2, e2, q2⟩ := q v H1 g1 w1 d1
  cases pure_some.mp e2
  exact q2 σ H1 (Keeps.refl H1) w2 r2
def setM (i : Nat) (f : G.St → M D) : G.St → M (G.St × Fl) := fun st => do let d ← f st; pure (st.set i (.fr d), .nx)
theorem tAsg_of {i : Nat} {D : Ends} {σ : L2.St} {H : Hp} (h : tS g (setM i f) D σ H) : tAsg (tM g f) (gName i) D σ H := by
  obtain ⟨T, k, st, d, k1, w, r, e1, q⟩ := tS_expr (m' := fun d st => pure (st.set i (.fr d), .nx)) h
  refine ⟨T, k, st, d, k1, w, r, e1, fun v H1 g1 w1 d1 => ?_⟩
  obtain ⟨T', H0, k2, s2, s3, fl, k3, d', w2, r2, d2, e2, q2⟩ := q v H1 g1 w1 d1
  cases pure_some.mp e2
  exact q2 _ H1 (Keeps.refl H1) w2 (r2.setFr d2)
theorem sm_set {i : Nat} {x : Str} (hN : X.N.Nodup) (hi : X.N[i]? = some x) (hx : Loc X.env.scope x) (he : PE X e (tM g f)) (hs : swapsWith e (some (.Name x p)) pos.line X.env = pure false) (hf : X.fn x = true ∨ X.env.scope.names.lookup x = some .local) :
    PS X (.Assign [.Name x p] e pos) (tS g (setM i f)) := PSi (ps_set hN hi hx he hs hf) fun D σ H h => tAsg_of h
def ownM (i : Nat) (f : G.St → M D) : G.St → M (G.St × Fl) := fun st => do let d ← f st; pure (st.set i (.ow d), .nx)
theorem tAsgN_of {i : Nat} {D : Ends} {σ : L2.St} {H : Hp} (hl : ∀ st k d k', f st k = some (d, k') → ∃ ds, d = .lst ds) (h : tS g (ownM i f) D σ H) : tAsg (tN g f) (gName i) D σ H := by
  obtain ⟨T, H0, k, st, st', fl, k', w, r, em, q⟩ := h
  obtain ⟨d, k1, e1, e2⟩ := bind_some.mp em
  cases pure_some.mp e2
  obtain ⟨ds, rfl⟩ := hl _ _ _ _ e1
  refine ⟨T, k, st, _, _, w, r.sr, e1, fun v xs ds' H1 e3 e4 e5 e6 e7 e8 e9 => ?_⟩
  cases e3
  exact q _ H1 (e6.keeps w.town) e7 (r.setOw w.town e6 e4 e5 e8 e9)
theorem sm_own {i : Nat} {x : Str} (hl : ∀ st k d k', f st k = some (d, k') → ∃ ds, d = .lst ds) (hN : X.N.Nodup) (hi : X.N[i]? = some x) (hx : Loc X.env.scope x) (he : PE X e (tN g f)) (hs : swapsWith e (some (.Name x p)) pos.line X.env = pure false) (hf : X.fn x = true ∨ X.env.scope.names.lookup x = some .local) :
    PS X (.Assign [.Name x p] e pos) (tS g (ownM i f)) := PSi (ps_set hN hi hx he hs hf) fun D σ H h => tAsgN_of hl h
end
end G

namespace G
open PySem PySem.Spec PyProof.Rows L2

section
variable {g : Cf} {X : Cx}
variable {a b c e : Expr} {f f1 f2 f3 : G.St → M D} {m m1 m2 : G.St → M (G.St × Fl)} {pos p p1 p2 : Pos} {st1 st2 : Stmt} {rest body : List Stmt}
/-! ### comprehensions that are stored at once -/
theorem sm_ownLc {t : Tg} {tg : TG} {ms : G.St → M (List D)} {fc fe : G.St → M D} {elt tge iter : Expr} {ifs : List Expr} {scope : Scope} {own : List (Str × Nat)} {y : Str} {i : Nat} {py spos : Pos} (hc : X.calm = true) (hN : X.N.Nodup)
    (hy : X.N[i]? = some y) (hyl : X.env.scope.names.lookup y = some .local) (hsw : swapsWith (.ListComp elt [⟨tge, iter, ifs, 0⟩] scope pos) (some (.Name y py)) spos.line X.env = pure true)
    (hi : PI X tge iter (tI g ms)) (ok : BlkOk X.N X.env.scope scope own) (hG : GTg g t tg) (htg : ∀ i ∈ tgIs t, i ∈ own.map (·.2))
    (hg : ∀ (s : Shared) (H : Hp) (C : Addr) (cl : List (Str × Addr)) (fp : List Addr), PG (X.blk s H scope (compEnvC scope cl C X.env) fp) tge tg)
    (ht : ∀ (s : Shared) (H : Hp) (C : Addr) (cl : List (Str × Addr)) (fp : List Addr), PTs (X.blk s H scope (compEnvC scope cl C X.env) fp) ifs (tMB g (truM fc)))
    (he : ∀ (s : Shared) (H : Hp) (C : Addr) (cl : List (Str × Addr)) (fp : List Addr), PE (X.blk s H scope (compEnvC scope cl C X.env) fp) elt (tM g fe)) (hs : ∀ x, foldedSetIterable iter X.env x = pure x) :
    PS X (.Assign [.Name y py] (.ListComp elt [⟨tge, iter, ifs, 0⟩] scope pos) spos) (tS g (ownM i (lcF t ms fc fe (own.map (·.2))))) :=
  PSi (ps_setLc hc hN hy hyl hsw hi ok hg ht he hs) fun Dn σ H h => by
    have hl : ∀ st k d k', lcF t ms fc fe (own.map (·.2)) st k = some (d, k') → ∃ ds, d = .lst ds := fun st k d k' e => by
      obtain ⟨l, k1, e1, e2⟩ := bind_some.mp e
      obtain ⟨l2, k2, e3, e4⟩ := bind_some.mp e2
      cases pure_some.mp e4
      exact ⟨_, rfl⟩
    exact tLc_of hG htg (tAsgN_of hl h)
/-- the same, then locked -/
theorem lockO {T : Addr} {H0 H : Hp} {st : G.St} {σ : L2.St} {i k : Nat} {d : D} {pins : List (Addr × Obj)} {s : Shared} (I : Inv X pins σ H s) (w : WS T g.Tb H k) (r : SO g T H0 st σ H) (e : st[i]? = some (.ow d)) :
    ∃ H', Inv X pins σ H' s ∧ Keeps H H' ∧ WS T g.Tb H' k ∧ SO g T H0 (st.set i (.fr d)) σ H' := by
  obtain ⟨ds, a, xs, rfl, e1, e2, e3, e4, e5⟩ := r.own e
  obtain ⟨o, I2⟩ := I.lock e3 trivial
  have kp : Keeps H (upd H a (.frz o (.lst xs))) := keeps_upd e3 (fun _ z => nomatch z) (fun _ _ z => nomatch z)
  have hi : i < st.length := by
    rcases Nat.lt_or_ge i st.length with z | z
    · exact z
    · rw [List.getElem?_eq_none z] at e; cases e
  have old : ∀ (j : Nat) (d' : D), (st.set i (.fr (.lst ds)))[j]? = some (.ow d') → st[j]? = some (.ow d') ∧ i ≠ j := fun j d' e1 => by
    rw [List.getElem?_set] at e1
    by_cases h : i = j
    · rw [if_pos h] at e1; split at e1 <;> cases e1
    · rw [if_neg h] at e1
      exact ⟨e1, h⟩
  refine ⟨_, I2, kp, w.updL e3 e2, ⟨⟨by rw [List.length_set, r.sr.len], fun j s' q1 => ?_, fun j l d1 d2 b f1 f2 f3 f4 => ?_⟩, r.gr.at e5, fun j d' b f1 f2 => ?_⟩⟩
  · rw [List.getElem?_set] at q1
    by_cases h : i = j
    · rw [if_pos h, if_pos hi] at q1
      cases q1
      rw [← h, e1]
      exact .lst upd_same (Dens.keep kp _ _ e4)
    · rw [if_neg h] at q1
      have q := r.sr.at' j s' q1
      cases s' with
      | un => exact True.intro
      | fr d' =>
        cases o' : σ[j]? with
        | none => rw [o'] at q; exact q
        | some o'' =>
          cases o'' with
          | none => rw [o'] at q; exact q
          | some v => rw [o'] at q; exact Den.keep kp _ _ q
      | ow d' =>
        obtain ⟨ds', b, zs, f1, f2, f3, f4, f5, _⟩ := r.own q1
        subst f1
        rw [f2]
        have hb : b ≠ a := fun z => h (r.sr.own i j _ _ a e q1 e1 (by rw [f2, z]))
        exact ⟨b, zs, rfl, f3, by rw [upd_ne hb]; exact f4, Dens.keep kp _ _ f5⟩
      | cl li cs =>
        cases o' : σ[j]? with
        | none => rw [o'] at q; exact q
        | some o'' =>
          cases o'' with
          | none => rw [o'] at q; exact q
          | some v =>
            rw [o'] at q
            obtain ⟨f, f1, f2⟩ := q
            exact ⟨f, f1, g.stays _ _ _ _ _ _ kp f2⟩
  · exact r.sr.own j l d1 d2 b (old j d1 f1).1 (old l d2 f2).1 f3 f4
  · exact r.ow j d' b (old j d' f1).1 f2
theorem set_same {α : Type} : ∀ {l : List α} {i : Nat} {x : α}, l[i]? = some x → l.set i x = l
  | [], _, _, h => by cases h
  | y :: l, 0, x, h => by cases h; rfl
  | y :: l, i + 1, x, h => by
    rw [List.set_cons_succ, set_same (by simpa using h)]
theorem fz_step {T : Addr} {H0 : Hp} {σ : L2.St} {k : Nat} {pins : List (Addr × Obj)} {s : Shared} : ∀ (is : List Nat) {st : G.St} {H : Hp}, Inv X pins σ H s → WS T g.Tb H k → SO g T H0 st σ H →
    ∃ H', Inv X pins σ H' s ∧ Keeps H H' ∧ WS T g.Tb H' k ∧ SO g T H0 (fz st is) σ H'
  | [], st, H, I, w, r => ⟨H, I, Keeps.refl H, w, r⟩
  | i :: is, st, H, I, w, r => by
    unfold fz
    cases e : st[i]? with
    | none => exact fz_step is I w r
    | some sl =>
      cases sl with
      | ow d =>
        obtain ⟨H1, I1, kp, w1, r1⟩ := lockO I w r e
        obtain ⟨H2, I2, kp2, w2, r2⟩ := fz_step is I1 w1 r1
        exact ⟨H2, I2, kp.trans kp2, w2, r2⟩
      | un =>
        show ∃ H', _ ∧ _ ∧ _ ∧ SO g T H0 (fz (st.set i .un) is) σ H'
        rw [set_same e]
        exact fz_step is I w r
      | fr d =>
        show ∃ H', _ ∧ _ ∧ _ ∧ SO g T H0 (fz (st.set i (.fr d)) is) σ H'
        rw [set_same e]
        exact fz_step is I w r
      | cl li cs =>
        show ∃ H', _ ∧ _ ∧ _ ∧ SO g T H0 (fz (st.set i (.cl li cs)) is) σ H'
        rw [set_same e]
        exact fz_step is I w r
theorem sm_fz {is : List Nat} {sts : List Stmt} (h : PSs X sts (tS g m)) : PSs X sts (tS g fun st => m (fz st is)) := by
  refine ⟨fun pins s σ H Dn I hq => ?_⟩
  obtain ⟨T, H0, k, st, st', fl, k', w, r, em, q⟩ := hq
  obtain ⟨H1, I1, kp, w1, r1⟩ := fz_step is I w r
  exact h.run pins s σ H1 Dn I1 ⟨T, H0, k, _, st', fl, k', w1, r1, em, fun σ' H' kp2 w2 r2 => q σ' H' (kp.trans kp2) w2 r2⟩

/-! ### targets -/
theorem bind_ow {t : Tg} {d : D} {st st' : G.St} {k k' : Nat} (h : bindTg t d st k = some (st', k')) {j : Nat} {d' : D} (e : st'[j]? = some (.ow d')) : st[j]? = some (.ow d') ∧ j ∉ tgIs t := by
  have one : ∀ (st : G.St) (i : Nat) (x : D), (st.set i (.fr x))[j]? = some (.ow d') → st[j]? = some (.ow d') ∧ j ≠ i := fun st i x e1 => by
    rw [List.getElem?_set] at e1
    by_cases h : i = j
    · rw [if_pos h] at e1; split at e1 <;> cases e1
    · rw [if_neg h] at e1
      exact ⟨e1, Ne.symm h⟩
  cases t with
  | one i =>
    cases pure_some.mp h
    obtain ⟨q1, q2⟩ := one _ _ _ e
    exact ⟨q1, by simp [tgIs, q2]⟩
  | two i l =>
    cases d with
    | tup ds =>
      cases ds with
      | nil => exact absurd h (no_some (k := k))
      | cons a ds =>
        cases ds with
        | nil => exact absurd h (no_some (k := k))
        | cons b ds =>
          cases ds with
          | cons _ _ => exact absurd h (no_some (k := k))
          | nil =>
            cases pure_some.mp h
            obtain ⟨q1, q2⟩ := one _ _ _ e
            obtain ⟨q3, q4⟩ := one _ _ _ q1
            exact ⟨q3, by simp [tgIs, q2, q4]⟩
    | _ => exact absurd h (no_some (k := k))
theorem gtg_so {t : Tg} {tg : TG} (hG : GTg g t tg) {T : Addr} {H0 : Hp} {k k' : Nat} {st st' : G.St} {σ : L2.St} {H : Hp} {x : V} {d : D} {Q : L2.St → Hp → Prop} (w : WS T g.Tb H k) (r : SO g T H0 st σ H) (hd : Den T g.K H x d) (e : bindTg t d st k = some (st', k'))
    (q : ∀ σ', SO g T H0 st' σ' H → k' = k → Q σ' H) : tg x σ H Q :=
  hG T k k' st st' σ H x d Q w r.sr hd e fun σ' r' _ hσ ek => q σ' ⟨r', r.gr, fun i d' a e1 e2 => by
    obtain ⟨e3, e4⟩ := bind_ow e e1
    exact r.ow i d' a e3 (by rw [← hσ i e4]; exact e2)⟩ ek
def tgtM (t : Tg) (f : G.St → M D) : G.St → M (G.St × Fl) := fun st => do let d ← f st; let st' ← bindTg t d st; pure (st', .nx)
theorem sm_tgt {t : Tg} {tg : TG} {tge : Expr} (hG : GTg g t tg) (hg : PG X tge tg) (he : PE X e (tM g f)) (hs : swapsWithSole [tge] e pos.line X.env = pure false) (hw : swappedStores [tge] e X.env = pure none) (h1 : (assignEach [tge] X.env).map (·.2) = [assign tge X.env]) :
    PS X (.Assign [tge] e pos) (tS g (tgtM t f)) := PSi (ps_asg he hg hs hw h1) fun Dn σ H h => by
  obtain ⟨T, k, st, d, k1, w, r, e1, q⟩ := tS_expr (m' := fun d st => do let st' ← bindTg t d st; pure (st', .nx)) h
  refine ⟨T, k, st, d, k1, w, r, e1, fun v H1 g1 w1 d1 => ?_⟩
  obtain ⟨T', H0, k2, s2, s3, fl, k3, d', w2, r2, d2, e2, q2⟩ := q v H1 g1 w1 d1
  obtain ⟨st', k4, e3, e4⟩ := bind_some.mp e2
  cases pure_some.mp e4
  exact gtg_so hG w2 r2 d2 e3 fun σ' r' ek => by
    subst ek
    exact q2 σ' H1 (Keeps.refl H1) w2 r'

/-! ### if, while, for -/
def iteS (f : G.St → M D) (m1 m2 : G.St → M (G.St × Fl)) : G.St → M (G.St × Fl) := fun st => do let d ← f st; let r ← tru d; if r then m1 st else m2 st
theorem sm_if {sa sb : List Stmt} (hc : PT X c (tMB g (truM f))) (ha : PSs X sa (tS g m1)) (hb : PSs X sb (tS g m2)) : PS X (.If c sa sb pos) (tS g (iteS f m1 m2)) := PSi (ps_if hc ha hb) fun Dn σ H h => by
  obtain ⟨T, H0, k, st, st', fl, k', w, r, em, q⟩ := h
  obtain ⟨d, k1, e1, e2⟩ := bind_some.mp em
  obtain ⟨b', k2, e3, e4⟩ := bind_some.mp e2
  refine ⟨T, k, st, b', k2, w, r.sr, bind_some.mpr ⟨d, k1, e1, e3⟩, fun H1 g1 w1 => ?_⟩
  cases b' with
  | true => exact ⟨T, H0, k2, st, st', fl, k', w1, r.grow g1 w.town, e4, fun σ' H' kp w2 r2 => q σ' H' ((g1.keeps w.town).trans kp) w2 r2⟩
  | false => exact ⟨T, H0, k2, st, st', fl, k', w1, r.grow g1 w.town, e4, fun σ' H' kp w2 r2 => q σ' H' ((g1.keeps w.town).trans kp) w2 r2⟩
def whR (f : G.St → M D) (m : G.St → M (G.St × Fl)) (n : Nat) : G.St × Fl → M (G.St × Fl) := fun x => match x with
  | (st1, fl) => match fl with
    | .nx => whM (truM f) m n st1
    | .ct => whM (truM f) m n st1
    | .bk => pure (st1, .nx)
    | .rt d => pure (st1, .rt d)
theorem sm_while (hp : PassesOwn (model X.prog X.w) X.A X.env X.xe) (hc : PT X c (tMB g (truM f))) (hb : PSs X body (tS g m)) : PS X (.While c body [] pos) (tS g fun st => whM (truM f) m fuel st) := PSi (ps_while hp hc hb) fun Dn σ H h => by
  obtain ⟨T, H0, k, st, st', fl, k', w, r, em, q⟩ := h
  refine ⟨fun n σ1 H1 => ∃ st1 k1, WS T g.Tb H1 k1 ∧ SO g T H0 st1 σ1 H1 ∧ Keeps H H1 ∧ whM (truM f) m n st1 k1 = some ((st', fl), k'), ⟨fuel, st, k, w, r, Keeps.refl H, em⟩, ?_⟩
  rintro n σ1 H1 ⟨st1, k1, w1, r1, kp1, e1⟩
  cases n with
  | zero => exact absurd e1 (no_some (k := k1))
  | succ n =>
    obtain ⟨b', k2, e2, e3⟩ := bind_some.mp (show (truM f st1 >>= fun b => if b = true then m st1 >>= whR f m n else pure (st1, .nx) : M (G.St × Fl)) k1 = some ((st', fl), k') from e1)
    refine ⟨T, k1, st1, b', k2, w1, r1.sr, e2, fun H2 g2 w2 => ?_⟩
    have r2 := r1.grow g2 w1.town
    have kp2 := kp1.trans (g2.keeps w1.town)
    cases b' with
    | false =>
      cases pure_some.mp (show (pure (st1, .nx) : M (G.St × Fl)) k2 = some ((st', fl), k') from e3)
      exact q σ1 H2 kp2 w2 r2
    | true =>
      obtain ⟨⟨s1, f1⟩, k3, e4, e5⟩ := bind_some.mp (show (m st1 >>= whR f m n : M (G.St × Fl)) k2 = some ((st', fl), k') from e3)
      refine ⟨fun σ' H' => ∃ m', m' < n + 1 ∧ ∃ st1 k1, WS T g.Tb H' k1 ∧ SO g T H0 st1 σ' H' ∧ Keeps H H' ∧ whM (truM f) m m' st1 k1 = some ((st', fl), k'), fun σ' H' h => h, ?_⟩
      refine ⟨T, H0, k2, st1, s1, f1, k3, w2, r2, e4, fun σ' H' kp3 w3 r3 => ?_⟩
      cases f1 with
      | nx => exact ⟨n, Nat.lt_succ_self n, s1, k3, w3, r3, kp2.trans kp3, e5⟩
      | ct => exact ⟨n, Nat.lt_succ_self n, s1, k3, w3, r3, kp2.trans kp3, e5⟩
      | bk => cases pure_some.mp e5; exact q σ' H' (kp2.trans kp3) w3 r3
      | rt d => cases pure_some.mp e5; exact fun v hv => q σ' H' (kp2.trans kp3) w3 r3 v hv
def forF (t : Tg) (ms : G.St → M (List D)) (m : G.St → M (G.St × Fl)) : G.St → M (G.St × Fl) := fun st => do
  let l ← ms st
  forM' (fun d st => do let st' ← bindTg t d st; m st') l st
theorem sm_for {t : Tg} {tg : TG} {ms : G.St → M (List D)} {tge iter : Expr} (hp : PassesOwn (model X.prog X.w) X.A X.env X.xe) (hc : X.calm = true) (hi : PI X tge iter (tI g ms)) (hG : GTg g t tg) (hg : PG X tge tg) (hb : PSs X body (tS g m)) (hs : ∀ x, foldedSetIterable iter X.env x = pure x) :
    PS X (.For tge iter body [] pos) (tS g (forF t ms m)) := PSi (ps_for hp hc hi hg hb hs) fun Dn σ H h => by
  obtain ⟨T, H0, k, st, st', fl, k', w, r, em, q⟩ := h
  obtain ⟨l, k1, e1, e2⟩ := bind_some.mp em
  refine ⟨T, k, st, l, k1, w, r.sr, e1, fun J H1 g1 w1 gi hl => ?_⟩
  refine ⟨fun i n σ2 H2 => n = l.length - i ∧ i ≤ l.length ∧ ∃ st2 k2, WS T g.Tb H2 k2 ∧ SO g T H0 st2 σ2 H2 ∧ Keeps H1 H2 ∧ forM' (fun d st => do let st' ← bindTg t d st; m st') (l.drop i) st2 k2 = some ((st', fl), k'),
    ⟨l.length, by simp, Nat.zero_le _, st, k1, w1, r.grow g1 w.town, Keeps.refl H1, by simpa using e2⟩, ?_⟩
  rintro i n σ2 H2 ⟨hn, hi, st2, k2, w2, r2, kp2, e3⟩
  obtain ⟨stop, go⟩ := gi H2 k2 kp2 w2
  by_cases hil : i = l.length
  · refine .inl ⟨stop i (Nat.le_of_eq hil.symm), ?_⟩
    rw [List.drop_eq_nil_of_le (Nat.le_of_eq hil.symm)] at e3
    cases pure_some.mp e3
    exact q σ2 H2 ((g1.keeps w.town).trans kp2) w2 r2
  · have hlt : i < l.length := Nat.lt_of_le_of_ne hi hil
    obtain ⟨go1, yl⟩ := go i l[i] (List.getElem?_eq_getElem hlt)
    refine .inr ⟨go1, fun σ' H' => ∃ m', m' < n ∧ (m' = l.length - (i + 1) ∧ i + 1 ≤ l.length ∧ ∃ st2 k2, WS T g.Tb H' k2 ∧ SO g T H0 st2 σ' H' ∧ Keeps H1 H' ∧ forM' (fun d st => do let st' ← bindTg t d st; m st') (l.drop (i + 1)) st2 k2 = some ((st', fl), k')), fun σ' H' h => h, fun x H3 hy => ?_⟩
    obtain ⟨g3, w3, d3⟩ := yl x H3 hy
    rw [List.drop_eq_getElem_cons hlt] at e3
    obtain ⟨⟨s1, f1⟩, k3, e4, e5⟩ := bind_some.mp (show (do
      let (st1, fl) ← (do let st' ← bindTg t l[i] st2; m st' : M (G.St × Fl))
      match fl with
      | .nx => forM' (fun d st => do let st' ← bindTg t d st; m st') (l.drop (i + 1)) st1
      | .ct => forM' (fun d st => do let st' ← bindTg t d st; m st') (l.drop (i + 1)) st1
      | .bk => pure (st1, .nx)
      | .rt d => pure (st1, .rt d) : M (G.St × Fl)) k2 = some ((st', fl), k') from e3)
    obtain ⟨s2, k4, e6, e7⟩ := bind_some.mp e4
    refine gtg_so hG w3 (r2.grow g3 w2.town) d3 e6 fun σ4 r4 ek => ?_
    subst ek
    refine ⟨T, H0, _, s2, s1, f1, k3, w3, r4, e7, fun σ' H' kp5 w5 r5 => ?_⟩
    have kp6 := (kp2.trans (g3.keeps w2.town)).trans kp5
    have hm : l.length - (i + 1) < n := by omega
    cases f1 with
    | nx => exact ⟨_, hm, rfl, hlt, s1, k3, w5, r5, kp6, e5⟩
    | ct => exact ⟨_, hm, rfl, hlt, s1, k3, w5, r5, kp6, e5⟩
    | bk => cases pure_some.mp e5; exact q σ' H' ((g1.keeps w.town).trans kp6) w5 r5
    | rt d => cases pure_some.mp e5; exact fun v hv => q σ' H' ((g1.keeps w.town).trans kp6) w5 r5 v hv
end
end G

namespace G
open PySem PySem.Spec PyProof.Rows L2

section
variable {g : Cf} {X : Cx}
variable {a b c e : Expr} {f f1 f2 f3 : G.St → M D} {m m1 m2 : G.St → M (G.St × Fl)} {pos p p1 p2 apos cpos : Pos} {i j : Nat} {x y z : Str}
theorem getO_some {st : G.St} {i k : Nat} {r : D × Nat} (h : getO st i k = some r) : st[i]? = some (.ow r.1) ∧ r.2 = k := by
  unfold getO at h
  cases e : st[i]? with
  | none => rw [e] at h; exact absurd h (no_some (k := k))
  | some sl =>
    rw [e] at h
    cases sl with
    | ow d => cases pure_some.mp h; exact ⟨rfl, rfl⟩
    | _ => exact absurd h (no_some (k := k))
/-- a method of a list in a slot, with one argument -/
theorem pe_lm {name : Str} {id : String} {r : V → List V → Hp → VK → Prop} {te : TE} (slot : Slot "list" name id) (ty : typeOf (.builtin id) = pure (.type "method_descriptor")) (hm : MtM X id r) (hN : X.N[i]? = some x) (hv : Vis X.env.scope x)
    (hd : (x == ("__debug__" : Str)) = false) (hcd : (x == ("__classdict__" : Str)) = false) (hs : ∀ v p, e ≠ .Starred v p) (he : PE X e te) (hline : (apos.endLine == cpos.line) = true) :
    PE X (.Call (.Attribute (.Name x p) name apos) [e] [] cpos) (tBM X.K "list" r (tVar i) (tCons te tNil)) :=
  pe_bm PySem.F.plainAttrs_list slot ty hm (pe_var hN hv hd hcd) (pa_cons he pa_nil (starEach_ok hs)) rfl (by rw [starEach_ok hs]; rfl) hline (starEach_ok hs) rfl
def appM (i : Nat) (f : G.St → M D) : G.St → M (G.St × Fl) := fun st => do
  let d ← f st
  let x ← getO st i
  let y ← appD x d
  pure (st.set i (.ow y), .nx)
theorem app_some {l : List D} {d y : D} {k k' : Nat} (h : appD (.lst l) d k = some (y, k')) : l.length < 16777216 ∧ y = .lst (l ++ [d]) ∧ k' = k := by
  obtain ⟨h1, h2⟩ := if_some (show (if l.length < 16777216 then (pure (.lst (l ++ [d])) : M D) else no) k = some (y, k') from h)
  cases pure_some.mp h2
  exact ⟨h1, rfl, rfl⟩
theorem sm_app (hN : X.N[i]? = some x) (hv : Vis X.env.scope x) (hd : (x == ("__debug__" : Str)) = false) (hcd : (x == ("__classdict__" : Str)) = false) (hs : ∀ v p, e ≠ .Starred v p) (he : PE X e (tM g f)) (hline : (apos.endLine == cpos.line) = true) :
    PS X (.Expr (.Call (.Attribute (.Name x p) "append" apos) [e] [] cpos) pos) (tS g (appM i f)) :=
  PSi (ps_expr (pe_lm PySem.F.slot_list_append PySem.F.type_list_append mt_append hN hv hd hcd hs he hline) rfl) fun Dn σ H h => by
    obtain ⟨T, H0, k, st, st', fl, k', w, r, em, q⟩ := h
    obtain ⟨d, k1, e1, e2⟩ := bind_some.mp em
    obtain ⟨xd, k2, e3, e4⟩ := bind_some.mp e2
    obtain ⟨y, k3, e5, e6⟩ := bind_some.mp e4
    cases pure_some.mp e6
    obtain ⟨e7, e8⟩ := getO_some e3
    cases e8
    obtain ⟨ds, a, xs, rfl, o1, o2, o3, o4, o5⟩ := r.own e7
    obtain ⟨z1, z2, z3⟩ := app_some e5
    subst z2 z3
    refine ⟨_, o1, .inl ⟨rfl, _, .inl (.inl o3)⟩, T, k, st, d, _, w, r.sr, e1, fun v H1 g1 w1 d1 => ?_⟩
    have o3' : H1 a = some (.lst xs) := g1.keep _ _ o3 o2 (fun _ z => nomatch z)
    have kp : Keeps H1 (upd H1 a (.lst (xs ++ [v]))) := keeps_upd o3' (fun _ z => nomatch z) (fun _ _ z => nomatch z)
    refine ⟨a, xs, v, rfl, rfl, o3', by rw [sizeLine_eq, o4.length]; exact z1, ?_⟩
    exact q σ _ ((g1.keeps w.town).trans kp) (w1.updL o3' o2) ((r.grow g1 w.town).upOw e7 o1 o3' o2 ((Dens.keep (g1.keeps w.town) _ _ o4).snoc d1))
def extM (i : Nat) (f : G.St → M D) : G.St → M (G.St × Fl) := fun st => do
  let d ← f st
  let x ← getO st i
  let y ← extD x d
  pure (st.set i (.ow y), .nx)
theorem ext_some {l : List D} {d y : D} {k k' : Nat} (h : extD (.lst l) d k = some (y, k')) : ∃ r, d = .lst r ∧ l.length + r.length ≤ 16777216 ∧ y = .lst (l ++ r) ∧ k' = k := by
  cases d with
  | lst r =>
    obtain ⟨h1, h2⟩ := if_some (show (if l.length + r.length ≤ 16777216 then (pure (.lst (l ++ r)) : M D) else no) k = some (y, k') from h)
    cases pure_some.mp h2
    exact ⟨r, rfl, h1, rfl, rfl⟩
  | _ => exact absurd h (no_some (k := k))
theorem sm_ext (hN : X.N[i]? = some x) (hv : Vis X.env.scope x) (hd : (x == ("__debug__" : Str)) = false) (hcd : (x == ("__classdict__" : Str)) = false) (hs : ∀ v p, e ≠ .Starred v p) (he : PE X e (tN g f)) (hline : (apos.endLine == cpos.line) = true) :
    PS X (.Expr (.Call (.Attribute (.Name x p) "extend" apos) [e] [] cpos) pos) (tS g (extM i f)) :=
  PSi (ps_expr (pe_lm PySem.F.slot_list_extend PySem.F.type_list_extend mt_extend hN hv hd hcd hs he hline) rfl) fun Dn σ H h => by
    obtain ⟨T, H0, k, st, st', fl, k', w, r, em, q⟩ := h
    obtain ⟨d, k1, e1, e2⟩ := bind_some.mp em
    obtain ⟨xd, k2, e3, e4⟩ := bind_some.mp e2
    obtain ⟨y, k3, e5, e6⟩ := bind_some.mp e4
    cases pure_some.mp e6
    obtain ⟨e7, e8⟩ := getO_some e3
    cases e8
    obtain ⟨ds, a, xs, rfl, o1, o2, o3, o4, o5⟩ := r.own e7
    obtain ⟨r0, rfl, z1, z2, z3⟩ := ext_some e5
    subst z2 z3
    refine ⟨_, o1, .inl ⟨rfl, _, .inl (.inl o3)⟩, T, k, st, _, _, w, r.sr, e1, fun b ys ds' H1 b1 b2 b3 g1 w1 b4 b5 => ?_⟩
    cases b1
    have o3' : H1 a = some (.lst xs) := g1.keep _ _ o3 o2 (fun _ z => nomatch z)
    have kp : Keeps H1 (upd H1 a (.lst (xs ++ ys))) := keeps_upd o3' (fun _ z => nomatch z) (fun _ _ z => nomatch z)
    refine ⟨a, b, xs, ys, rfl, rfl, o3', b4, by rw [sizeLine_eq, o4.length, b5.length]; exact z1, ?_⟩
    exact q σ _ ((g1.keeps w.town).trans kp) (w1.updL o3' o2) ((r.grow g1 w.town).upOw e7 o1 o3' o2 ((Dens.keep (g1.keeps w.town) _ _ o4).append b5))
/-- the town -/
def tickS (i : Nat) : G.St → M (G.St × Fl) := fun st => do let d ← getV st i; tickM d; pure (st, .nx)
theorem tick_some {d : D} {k : Nat} {r : Unit × Nat} (h : tickM d k = some r) : d = .town ∧ k < 16777216 ∧ r = ((), k + 1) := by
  cases d with
  | town =>
    by_cases z : k < 16777216
    · have := show (if k < 16777216 then some ((), k + 1) else none) = some r from h
      rw [if_pos z] at this
      exact ⟨rfl, z, (Option.some.inj this).symm⟩
    · have := show (if k < 16777216 then some ((), k + 1) else none) = some r from h
      rw [if_neg z] at this
      cases this
  | _ => exact absurd h (fun z => nomatch z)
theorem sm_tick {n : Nat} {q1 : Pos} (hN : X.N[i]? = some x) (hv : Vis X.env.scope x) (hd : (x == ("__debug__" : Str)) = false) (hcd : (x == ("__classdict__" : Str)) = false) (hline : (apos.endLine == cpos.line) = true) :
    PS X (.Expr (.Call (.Attribute (.Name x p) "append" apos) [.Constant (.int 0) n q1] [] cpos) pos) (tS g (tickS i)) :=
  PSi (ps_expr (pe_lm PySem.F.slot_list_append PySem.F.type_list_append mt_append hN hv hd hcd (by intro _ _ z; cases z) pe_int hline) rfl) fun Dn σ H h => by
    obtain ⟨T, H0, k, st, st', fl, k', w, r, em, q⟩ := h
    obtain ⟨d, k1, e1, e2⟩ := bind_some.mp em
    obtain ⟨u, k2, e3, e4⟩ := bind_some.mp e2
    cases pure_some.mp e4
    obtain ⟨rfl, hk, e5⟩ := tick_some e3
    cases e5
    obtain ⟨e6, e7, v, e8, e9⟩ := getV_sr r.sr e1
    cases e6
    cases e9
    refine ⟨_, e8, .inl ⟨rfl, _, .inl (.inl w.town.1)⟩, ?_⟩
    refine ⟨T, _, _, rfl, rfl, w.town.1, by rw [sizeLine_eq, List.length_replicate]; exact hk, ?_⟩
    exact q σ _ (keeps_upd w.town.1 (fun _ z => nomatch z) (fun _ _ z => nomatch z)) (w.tick hk) (r.grow (Grow.tick w.town) w.town)
/-- list[k] = e -/
def stiM (i : Nat) (f fk : G.St → M D) : G.St → M (G.St × Fl) := fun st => do
  let d ← f st
  let x ← getO st i
  let j ← fk st
  let y ← stiD x j d
  pure (st.set i (.ow y), .nx)
theorem ixN_eq2 (n : Nat) (i : Int) : L2.ixN n i = G.ixN n i := by
  unfold L2.ixN G.ixN
  by_cases h0 : 0 ≤ i
  · rw [if_pos h0, if_pos h0]
  · rw [if_neg h0, if_neg h0]
    by_cases h1 : 0 ≤ i + n
    · rw [if_pos (by omega), if_pos h1]
    · rw [if_neg (by omega), if_neg h1]
theorem sti_some {l : List D} {kd d y : D} {k k' : Nat} (h : stiD (.lst l) kd d k = some (y, k')) : ∃ i j, kd = .int i ∧ G.ixN l.length i = some j ∧ y = .lst (l.set j d) ∧ k' = k := by
  cases kd with
  | int i =>
    cases e : G.ixN l.length i with
    | none =>
      have h2 : (match G.ixN l.length i with | some j => (pure (.lst (l.set j d)) : M D) | none => no) k = some (y, k') := h
      rw [e] at h2
      exact absurd h2 (no_some (k := k))
    | some j =>
      have h2 : (match G.ixN l.length i with | some j => (pure (.lst (l.set j d)) : M D) | none => no) k = some (y, k') := h
      rw [e] at h2
      cases pure_some.mp h2
      exact ⟨i, j, rfl, e, rfl, rfl⟩
  | _ => exact absurd h (no_some (k := k))
theorem sm_sti {spos : Pos} (hN : X.N[i]? = some x) (hv : Vis X.env.scope x) (hd : (x == ("__debug__" : Str)) = false) (hcd : (x == ("__classdict__" : Str)) = false) (he : PE X e (tM g f1)) (hk : PE X c (tM g f2))
    (hs : swapsWithSole [.Subscript (.Name x p) c spos] e pos.line X.env = pure false) (hw : swappedStores [.Subscript (.Name x p) c spos] e X.env = pure none)
    (ha : ∀ v, assign (.Subscript (.Name x p) c spos) X.env v = (do
      let ov ← holding [v] (eval (.Name x p) X.env)
      let iv ← holding [v, ov] (eval c X.env)
      standAt spos
      holding [v, ov, iv] (setItem ov iv v)
      release [v, ov, iv] [])) (h1 : (assignEach [.Subscript (.Name x p) c spos] X.env).map (·.2) = [assign (.Subscript (.Name x p) c spos) X.env]) :
    PS X (.Assign [.Subscript (.Name x p) c spos] e pos) (tS g (stiM i f1 f2)) :=
  PSi (ps_asg he (pg_sub (pe_var hN hv hd hcd) hk set_list ha) hs hw h1) fun Dn σ H h => by
    obtain ⟨T, H0, k, st, st', fl, k', w, r, em, q⟩ := h
    obtain ⟨d, k1, e1, e2⟩ := bind_some.mp em
    obtain ⟨xd, k2, e3, e4⟩ := bind_some.mp e2
    obtain ⟨kd, k3, e5, e6⟩ := bind_some.mp e4
    obtain ⟨y, k4, e7, e8⟩ := bind_some.mp e6
    cases pure_some.mp e8
    obtain ⟨e9, e10⟩ := getO_some e3
    cases e10
    obtain ⟨ds, a, xs, rfl, o1, o2, o3, o4, o5⟩ := r.own e9
    obtain ⟨ii, jj, rfl, z1, z2, z3⟩ := sti_some e7
    subst z2 z3
    refine ⟨T, k, st, d, _, w, r.sr, e1, fun v H1 g1 w1 d1 => ⟨_, o1, T, _, st, _, _, w1, (r.grow g1 w.town).sr, e5, fun v2 H2 g2 w2 d2 => ?_⟩⟩
    have o3' : H2 a = some (.lst xs) := (g1.trans g2).keep _ _ o3 o2 (fun _ z => nomatch z)
    have kp : Keeps H2 (upd H2 a (.lst (xs.set jj v))) := keeps_upd o3' (fun _ z => nomatch z) (fun _ _ z => nomatch z)
    have g12 := g1.trans g2
    refine ⟨a, xs, ii, jj, rfl, int_den d2, o3', by rw [ixN_eq2, o4.length]; exact z1, ?_⟩
    exact q σ _ ((g12.keeps w.town).trans kp) (w2.updL o3' o2) ((r.grow g12 w.town).upOw e9 o1 o3' o2 (Dens.set (Den.keep (g2.keeps w1.town) _ _ d1) _ (Dens.keep (g12.keeps w.town) _ _ o4)))
/-- found.append(left.pop(e)) -/
def popM (i j : Nat) (f : G.St → M D) : G.St → M (G.St × Fl) := fun st => do
  let k ← f st
  let x ← getO st j
  let (d, x') ← popD x k
  let w ← getO st i
  let y ← appD w d
  pure ((st.set j (.ow x')).set i (.ow y), .nx)
theorem pop_some {l : List D} {kd : D} {k k' : Nat} {d y : D} (h : popD (.lst l) kd k = some ((d, y), k')) : ∃ i j, kd = .int i ∧ smallI i = true ∧ G.ixN l.length i = some j ∧ l[j]? = some d ∧ y = .lst (l.eraseIdx j) ∧ k' = k := by
  cases kd with
  | int i =>
    have h1 : (if ¬ smallI i = true then no else (match G.ixN l.length i with | some j => (match l[j]? with | some d => (pure (d, .lst (l.eraseIdx j)) : M (D × D)) | none => no) | none => no) : M (D × D)) k = some ((d, y), k') := h
    by_cases hi : ¬ smallI i = true
    · rw [if_pos hi] at h1
      exact absurd h1 (no_some (k := k))
    rw [if_neg hi] at h1
    have hi := Classical.not_not.mp hi
    have h2 := h1
    cases e : G.ixN l.length i with
    | none => rw [e] at h2; exact absurd h2 (no_some (k := k))
    | some j =>
      rw [e] at h2
      cases e2 : l[j]? with
      | none =>
        have h3 : (match l[j]? with | some d => (pure (d, .lst (l.eraseIdx j)) : M (D × D)) | none => no) k = some ((d, y), k') := h2
        rw [e2] at h3
        exact absurd h3 (no_some (k := k))
      | some d' =>
        have h3 : (match l[j]? with | some d => (pure (d, .lst (l.eraseIdx j)) : M (D × D)) | none => no) k = some ((d, y), k') := h2
        rw [e2] at h3
        cases pure_some.mp h3
        exact ⟨i, j, rfl, hi, e, e2, rfl, rfl⟩
  | _ => exact absurd h (no_some (k := k))
theorem seqIndex_ixN {n : Nat} {i : Int} {j : Nat} (h : G.ixN n i = some j) : seqIndex? i n = some j ∧ j < n ∧ -(n : Int) ≤ i ∧ i < n := ixN_seq (by rw [ixN_eq2]; exact h)
theorem sm_pop {a2 c2 q2 : Pos} (hij : i ≠ j) (hN : X.N[i]? = some x) (hv : Vis X.env.scope x) (hd : (x == ("__debug__" : Str)) = false) (hcd : (x == ("__classdict__" : Str)) = false)
    (hN' : X.N[j]? = some y) (hv' : Vis X.env.scope y) (hd' : (y == ("__debug__" : Str)) = false) (hcd' : (y == ("__classdict__" : Str)) = false) (hs : ∀ v p, e ≠ .Starred v p) (he : PE X e (tM g f)) (hline : (apos.endLine == cpos.line) = true) (hline' : (a2.endLine == c2.line) = true) :
    PS X (.Expr (.Call (.Attribute (.Name x p) "append" apos) [.Call (.Attribute (.Name y q2) "pop" a2) [e] [] c2] [] cpos) pos) (tS g (popM i j f)) :=
  PSi (ps_expr (pe_lm PySem.F.slot_list_append PySem.F.type_list_append mt_append hN hv hd hcd (by intro _ _ z; cases z) (pe_lm PySem.F.slot_list_pop PySem.F.type_list_pop mt_popAt hN' hv' hd' hcd' hs he hline') hline) rfl) fun Dn σ H h => by
    obtain ⟨T, H0, k, st, st', fl, k', w, r, em, q⟩ := h
    obtain ⟨kd, k1, e1, e2⟩ := bind_some.mp em
    obtain ⟨xd, k2, e3, e4⟩ := bind_some.mp e2
    obtain ⟨⟨d, x'⟩, k3, e5, e6⟩ := bind_some.mp e4
    obtain ⟨wd, k4, e7, e8⟩ := bind_some.mp e6
    obtain ⟨yd, k5, e9, e10⟩ := bind_some.mp e8
    cases pure_some.mp e10
    obtain ⟨f1, f2⟩ := getO_some e3
    cases f2
    obtain ⟨f3, f4⟩ := getO_some e7
    obtain ⟨ds, b, ys, rfl, o1, o2, o3, o4, o5⟩ := r.own f1
    obtain ⟨es, a, xs, eq, u1, u2, u3, u4, u5⟩ := r.own f3
    cases eq
    obtain ⟨ii, jj, rfl, z0, z1, z2, z3, z4⟩ := pop_some e5
    have z0 := smallI_of z0
    subst z3 z4
    cases f4
    obtain ⟨y1, y2, y3⟩ := app_some e9
    subst y2 y3
    have hab : a ≠ b := fun z => hij (r.sr.own i j _ _ a f3 f1 u1 (by rw [o1, z]))
    obtain ⟨s1, s2, s3, s4⟩ := seqIndex_ixN z1
    refine ⟨_, u1, .inl ⟨rfl, _, .inl (.inl u3)⟩, _, o1, .inl ⟨rfl, _, .inl (.inl o3)⟩, T, k, st, _, _, w, r.sr, e1, fun v H1 g1 w1 d1 => ?_⟩
    have o3' : H1 b = some (.lst ys) := g1.keep _ _ o3 o2 (fun _ z => nomatch z)
    have u3' : H1 a = some (.lst xs) := g1.keep _ _ u3 u2 (fun _ z => nomatch z)
    have o4' := Dens.keep (g1.keeps w.town) _ _ o4
    have u4' := Dens.keep (g1.keeps w.town) _ _ u4
    obtain ⟨v', v1, v2⟩ := o4'.get z2
    have hz : (ys.length : Int) = ds.length := by rw [o4.length]
    refine ⟨b, ys, ii, jj, v', rfl, by rw [int_den d1], o3', ?_, ?_, by rw [o4.length]; exact s1, v1, ?_⟩
    · omega
    · omega
    · have kp1 : Keeps H1 (upd H1 b (.lst (ys.eraseIdx jj))) := keeps_upd o3' (fun _ z => nomatch z) (fun _ _ z => nomatch z)
      have r1 := (r.grow g1 w.town).upOw f1 o1 o3' o2 (Dens.erase jj o4')
      have w2 := w1.updL (o := .lst (ys.eraseIdx jj)) o3' o2
      have u3'' : (upd H1 b (.lst (ys.eraseIdx jj))) a = some (.lst xs) := by rw [upd_ne hab]; exact u3'
      have kp2 : Keeps (upd H1 b (.lst (ys.eraseIdx jj))) (upd (upd H1 b (.lst (ys.eraseIdx jj))) a (.lst (xs ++ [v']))) := keeps_upd u3'' (fun _ z => nomatch z) (fun _ _ z => nomatch z)
      have f3' : (st.set j (.ow (.lst (ds.eraseIdx jj))))[i]? = some (.ow (.lst es)) := by rw [List.getElem?_set_ne (Ne.symm hij)]; exact f3
      refine ⟨a, xs, v', rfl, rfl, u3'', by rw [sizeLine_eq, u4.length]; exact y1, ?_⟩
      exact q σ _ (((g1.keeps w.town).trans kp1).trans kp2) (w2.updL u3'' u2) (r1.upOw f3' u1 u3'' u2 (Dens.snoc (Dens.keep kp1 _ _ u4') (Den.keep kp1 _ _ v2)))
end
end G

namespace G
open PySem PySem.Spec PyProof.Rows L2

section
variable {g : Cf} {X : Cx}
variable {a b c e : Expr} {f f1 f2 f3 : G.St → M D} {m m1 m2 : G.St → M (G.St × Fl)} {pos p p1 p2 apos cpos : Pos} {i j : Nat} {x y z : Str}
/-! ### isinstance -/
def tyS : Ty → String
  | .int => "int"
  | .bool => "bool"
  | .tuple => "tuple"
  | .str => "str"
theorem kitT : ∀ (t : Ty), (kitB "NoneType" (tyS t) = some false) ∧ (kitB "bool" (tyS t) = some (match t with | .int => true | .bool => true | _ => false)) ∧ (kitB "int" (tyS t) = some (match t with | .int => true | _ => false)) ∧
    (kitB "str" (tyS t) = some (match t with | .str => true | _ => false)) ∧ (kitB "tuple" (tyS t) = some (match t with | .tuple => true | _ => false)) ∧ (kitB "list" (tyS t) = some false)
  | .int => by refine ⟨?_, ?_, ?_, ?_, ?_, ?_⟩ <;> decide +kernel
  | .bool => by refine ⟨?_, ?_, ?_, ?_, ?_, ?_⟩ <;> decide +kernel
  | .tuple => by refine ⟨?_, ?_, ?_, ?_, ?_, ?_⟩ <;> decide +kernel
  | .str => by refine ⟨?_, ?_, ?_, ?_, ?_, ?_⟩ <;> decide +kernel
theorem isTy_tyX {t : Ty} {T : Addr} {H : Hp} {v : V} {d : D} {k k' : Nat} {r : Bool} (hd : Den T g.K H v d) (h : isTy t d k = some (r, k')) : k' = k ∧ ∃ u, TyX g.K H v (.type u) ∧ kitB u (tyS t) = some r := by
  obtain ⟨t1, t2, t3, t4, t5, t6⟩ := kitT t
  cases hd with
  | non => cases t <;> (cases pure_some.mp h; exact ⟨rfl, _, .base .non, t1⟩)
  | bl b => cases t <;> (cases pure_some.mp h; exact ⟨rfl, _, .base (.bl b), t2⟩)
  | int i => cases t <;> (cases pure_some.mp h; exact ⟨rfl, _, .base (.int i), t3⟩)
  | str s => cases t <;> (cases pure_some.mp h; exact ⟨rfl, _, .base (.str _), t4⟩)
  | tup h1 h2 => cases t <;> (cases pure_some.mp h; exact ⟨rfl, _, .base (.tup h1), t5⟩)
  | lst h1 h2 => cases t <;> (cases pure_some.mp h; exact ⟨rfl, _, .base (.frz h1), t6⟩)
  | town => cases t <;> exact absurd h (no_some (k := k))
  | scr h1 => cases t <;> exact absurd h (no_some (k := k))
  | sk h1 h2 h3 h4 => cases t <;> exact absurd h (no_some (k := k))
theorem pm_isi {t : Ty} {q1 : Pos} (hK : X.K = g.K) (hg : Gl X "isinstance") (hm : X.mg "isinstance" = none) (hy : y = Str.ofString (tyS t)) (hg' : Gl X y) (hm' : X.mg y = none) (hs : ∀ v p, a ≠ .Starred v p) (ha : PE X a (tM g f)) :
    PE X (.Call (.Name "isinstance" p) [a, .Name y q1] [] pos) (tM g fun st => do let x ← f st; let r ← isTy t x; pure (.bl r)) := by
  have hv : bootBuiltins y = some (.type (tyS t)) := by
    subst hy
    cases t <;> decide +kernel
  have hn : y ≠ "__name__" := by
    subst hy
    cases t <;> decide
  have hd : (y == ("__debug__" : Str)) = false := by
    subst hy
    cases t <;> decide
  refine PEi (pe_callB call_isi hg hm (by decide +kernel) (pa_cons ha (pa_cons (pe_bltn hg' hm' hv (v := .ty (tyS t)) rfl hn hd) pa_nil (starEach_ok (by intro _ _ z; cases z))) (starEach_ok hs)) (by decide) (by decide) (starEach_ok hs) rfl) fun σ H Q q => ?_
  obtain ⟨T, k, st, d, k', w, r, em, q⟩ := q
  obtain ⟨y, k1, e1, e2⟩ := bind_some.mp em
  obtain ⟨z, k2, e3, e4⟩ := bind_some.mp e2
  cases pure_some.mp e4
  refine ⟨T, k, st, y, k1, w, r, e1, fun v1 H1 g1 w1 d1 => ?_⟩
  obtain ⟨e5, u, e6, e7⟩ := isTy_tyX d1 e3
  subst e5
  exact ⟨v1, .ty (tyS t), .type u, .type (tyS t), z, rfl, .ty _, by rw [hK]; exact e6, kit_ty e7, q _ H1 g1 w1 (.bl z)⟩
/-! ### functions -/
/-- what a def promises -/
def spF (g : Cf) (n : Nat) (h : List D → M D) : Sp := fun vs H Q E => ∃ T k ds d k', ds.length = n ∧ WS T g.Tb H k ∧ Dens T g.K H vs ds ∧ h ds k = some (d, k') ∧ ∀ v H', Grow T H H' → WS T g.Tb H' k' → Den T g.K H' v d → Q v H'
theorem pm_call {es : List Expr} {fs : G.St → M (List D)} {h : List D → M D} {CX : CXT} {E : XK} {n k : Nat} {fa : Addr} {fd : FuncData} {ps : List Str} (F : FnOk X.prog X.w X.K X.mg X.base CX k fa fd ps (spF g n h)) (hr : Room k X.A) (hg : Gl X x) (hm : X.mg x = some (.ref fa))
    (hk : PySem.W.keepIn X.K (.ref fa) = true) (hb : Binds X.K fd ps []) (hx : Passes CX X E) (hd : (x == ("__debug__" : Str)) = false) (hn : (e :: es).length = n) (hlen : ∀ st k ds k', fs st k = some (ds, k') → ds.length = (e :: es).length)
    (hs : ∀ e' ∈ e :: es, ∀ v p, e' ≠ .Starred v p) (ha : PA X (e :: es) (tMA g fs)) : PE X (.Call (.Name x p) (e :: es) [] pos) (tM g fun st => do let ds ← fs st; h ds) :=
  PEi (pe_call F hr hg hm hk hb .nil hx ha hd (starEach_ok (hs e List.mem_cons_self)) (noStars fun e' he => hs e' (List.mem_cons_of_mem _ he))) fun σ H Q q => by
    obtain ⟨T, k, st, d, k', w, r, em, q⟩ := q
    obtain ⟨ds, k1, e1, e2⟩ := bind_some.mp em
    refine ⟨T, k, st, ds, k1, w, r, e1, fun vs H1 g1 w1 d1 => ?_⟩
    show spF g n h (vs ++ []) H1 Q E
    rw [List.append_nil]
    exact ⟨T, k1, ds, d, k', (hlen _ _ _ _ e1).trans hn, w1, d1, e2, fun v H' g2 w2 d2 => q v H' (g1.trans g2) w2 d2⟩

/-! ### a, b = x, y -/
/-- a value for a slot: a new list of one's own, or one that stands -/
def DenG (o : Bool) (T : Addr) (K : PySem.W.Frag) (H0 H : Hp) (v : V) (d : D) : Prop := match o with
  | true => ∃ p xs ds, d = .lst ds ∧ v = .ref p ∧ H0 p = none ∧ p ≠ T ∧ H p = some (.lst xs) ∧ Dens T K H xs ds
  | false => Den T K H v d
def tG (g : Cf) (o : Bool) (m : G.St → M D) : TE := fun σ H Q => ∃ T k st d k', WS T g.Tb H k ∧ SR T g.K g.CL st σ H ∧ m st k = some (d, k') ∧ ∀ v H', Grow T H H' → WS T g.Tb H' k' → DenG o T g.K H H' v d → Q v H'
theorem pg_of_M (h : PE X e (tM g f)) : PE X e (tG g false f) := h
theorem pg_of_N (hl : ∀ st k d k', f st k = some (d, k') → ∃ ds, d = .lst ds) (h : PE X e (tN g f)) : PE X e (tG g true f) := PEi h fun σ H Q q => by
  obtain ⟨T, k, st, d, k', w, r, em, q⟩ := q
  exact ⟨T, k, st, d, k', w, r, em, fun p xs ds H' e1 e2 e3 e4 e5 e6 e7 => q _ H' e4 e5 ⟨p, xs, ds, e1, rfl, e2, e3, e6, e7⟩⟩
/-- a value goes to a slot -/
theorem SO.setG {o : Bool} {T : Addr} {H0 H H' : Hp} {st : G.St} {σ : L2.St} {d : D} {v : V} {k : Nat} (r : SO g T H0 st σ H) (t : Town T H k) (gr : Grow T H H') (hd : DenG o T g.K H H' v d) : SO g T H0 (st.set i (slOf o d)) (σ.set i (some v)) H' := by
  cases o with
  | false => exact (r.grow gr t).setFr hd
  | true =>
    obtain ⟨p, xs, ds, rfl, rfl, e1, e2, e3, e4⟩ := hd
    exact r.setOw t gr e1 e2 e3 e4
def par2M (i j : Nat) (o1 o2 : Bool) (f1 f2 : G.St → M D) : G.St → M (G.St × Fl) := fun st => do
  let d ← f1 st
  let e ← f2 st
  pure ((st.set i (slOf o1 d)).set j (slOf o2 e), .nx)
theorem sm_par2 {o1 o2 : Bool} {px py pt : Pos} {kt k2 pt2} (hc : X.calm = true) (hN : X.N.Nodup) (hi : X.N[i]? = some x) (hj : X.N[j]? = some y) (hij : i ≠ j)
    (hx : X.env.scope.names.lookup x = some .local) (hy : X.env.scope.names.lookup y = some .local) (hsa : ∀ v p, a ≠ .Starred v p) (hsb : ∀ v p, b ≠ .Starred v p) (ha : PE X a (tG g o1 f1)) (hb : PE X b (tG g o2 f2))
    (hw : swappedStores [.Tuple [.Name x px, .Name y py] kt pt] (.Tuple [a, b] k2 pt2) X.env = pure (some [x, y])) :
    PS X (.Assign [.Tuple [.Name x px, .Name y py] kt pt] (.Tuple [a, b] k2 pt2) pos) (tS g (par2M i j o1 o2 f1 f2)) :=
  PSi (ps_par hc hN hi hj hij hx hy (pa_cons ha (pa_cons hb pa_nil (starEach_ok hsb)) (starEach_ok hsa)) hw) fun Dn σ H h => by
    obtain ⟨T, H0, k, st, st', fl, k', w, r, em, q⟩ := h
    obtain ⟨d, k1, e1, e2⟩ := bind_some.mp em
    obtain ⟨e, k2, e3, e4⟩ := bind_some.mp e2
    cases pure_some.mp e4
    refine ⟨T, k, st, d, k1, w, r.sr, e1, fun v1 H1 g1 w1 d1 => ⟨T, k1, st, e, _, w1, (r.grow g1 w.town).sr, e3, fun v2 H2 g2 w2 d2 => ⟨v1, v2, rfl, ?_⟩⟩⟩
    have r1 := r.setG (i := i) w.town g1 d1
    exact q _ H2 ((g1.trans g2).keeps w.town) w2 (r1.setG w1.town g2 d2)
def par3M (i j l : Nat) (o1 o2 o3 : Bool) (f1 f2 f3 : G.St → M D) : G.St → M (G.St × Fl) := fun st => do
  let d ← f1 st
  let e ← f2 st
  let u ← f3 st
  pure (((st.set i (slOf o1 d)).set j (slOf o2 e)).set l (slOf o3 u), .nx)
theorem sm_par3 {l : Nat} {o1 o2 o3 : Bool} {px py pz pt : Pos} {kt k2 pt2} (hc : X.calm = true) (hN : X.N.Nodup) (hi : X.N[i]? = some x) (hj : X.N[j]? = some y) (hl : X.N[l]? = some z) (hij : i ≠ j) (hil : i ≠ l) (hjl : j ≠ l)
    (hx : X.env.scope.names.lookup x = some .local) (hy : X.env.scope.names.lookup y = some .local) (hz : X.env.scope.names.lookup z = some .local) (hsa : ∀ v p, a ≠ .Starred v p) (hsb : ∀ v p, b ≠ .Starred v p) (hsc : ∀ v p, c ≠ .Starred v p)
    (ha : PE X a (tG g o1 f1)) (hb : PE X b (tG g o2 f2)) (hc' : PE X c (tG g o3 f3))
    (hw : swappedStores [.Tuple [.Name x px, .Name y py, .Name z pz] kt pt] (.Tuple [a, b, c] k2 pt2) X.env = pure (some [x, y, z])) :
    PS X (.Assign [.Tuple [.Name x px, .Name y py, .Name z pz] kt pt] (.Tuple [a, b, c] k2 pt2) pos) (tS g (par3M i j l o1 o2 o3 f1 f2 f3)) :=
  PSi (ps_par3 hc hN hi hj hl hij hil hjl hx hy hz (pa_cons ha (pa_cons hb (pa_cons hc' pa_nil (starEach_ok hsc)) (starEach_ok hsb)) (starEach_ok hsa)) hw) fun Dn σ H h => by
    obtain ⟨T, H0, k, st, st', fl, k', w, r, em, q⟩ := h
    obtain ⟨d, k1, e1, e2⟩ := bind_some.mp em
    obtain ⟨e, k2, e3, e4⟩ := bind_some.mp e2
    obtain ⟨u, k3, e5, e6⟩ := bind_some.mp e4
    cases pure_some.mp e6
    refine ⟨T, k, st, d, k1, w, r.sr, e1, fun v1 H1 g1 w1 d1 => ⟨T, k1, st, e, k2, w1, (r.grow g1 w.town).sr, e3, fun v2 H2 g2 w2 d2 => ⟨T, k2, st, u, _, w2, ((r.grow g1 w.town).grow g2 w1.town).sr, e5, fun v3 H3 g3 w3 d3 => ⟨v1, v2, v3, rfl, ?_⟩⟩⟩⟩
    have r1 := r.setG (i := i) w.town g1 d1
    exact q _ H3 (((g1.trans g2).trans g3).keeps w.town) w3 ((r1.setG (i := j) w1.town g2 d2).setG w2.town g3 d3)
end
end G

namespace G
open PySem PySem.Spec PyProof.Rows L2

section
variable {g : Cf} {X : Cx}
variable {a b c e : Expr} {f f1 f2 f3 : G.St → M D} {pos p p1 p2 : Pos} {x y z : Str}
theorem pe_bool1 {op : BoolOp} {t : TE} (h : PE X a t) : PE X (.BoolOp op [a] pos) t := by
  refine ⟨fun pins s σ H Q I hq => ?_⟩
  have e : eval (.BoolOp op [a] pos) X.env = eval a X.env := by rfl
  rw [e]
  exact h.run pins s σ H Q I hq
def plainT : Expr → Bool
  | .UnaryOp .. => false
  | .BoolOp .. => false
  | .IfExp .. => false
  | .Compare .. => false
  | _ => true
theorem plainT_ok {a : Expr} {env : Env} (h : plainT a = true) : ∀ whole, isTrue a env whole = (do let v ← whole; standAt a.pos; holding [v] (truthy v)) := fun whole => by
  cases a <;> first | rfl | (simp [plainT] at h)
theorem pmt_plain (hK : X.K = g.K) (h : plainT a = true) (ha : PE X a (tO g f)) : PT X a (tMB g (truM f)) := pmt_truth hK ha (plainT_ok h)
/-- the same test -/
theorem PTm {m1 m2 : G.St → M Bool} (h : PT X a (tMB g m1)) (e : ∀ st k r, m2 st k = some r → m1 st k = some r) : PT X a (tMB g m2) := PTi h fun σ H Q q => by
  obtain ⟨T, k, st, b, k', w, r, em, q⟩ := q
  exact ⟨T, k, st, b, k', w, r, e _ _ _ em, q⟩
theorem PEm {m1 m2 : G.St → M D} (h : PE X a (tM g m1)) (e : ∀ st k r, m2 st k = some r → m1 st k = some r) : PE X a (tM g m2) := PEi h fun σ H Q q => by
  obtain ⟨T, k, st, b, k', w, r, em, q⟩ := q
  exact ⟨T, k, st, b, k', w, r, e _ _ _ em, q⟩
theorem bl_tru {m : G.St → M Bool} {st : G.St} {k : Nat} {r : Bool × Nat} (h : truM (fun st => do let b ← m st; pure (.bl b)) st k = some r) : m st k = some r := by
  obtain ⟨d, k1, e1, e2⟩ := bind_some.mp h
  obtain ⟨b, k2, e3, e4⟩ := bind_some.mp e1
  cases pure_some.mp e4
  cases pure_some.mp (show (pure b : M Bool) k1 = some r from e2)
  exact e3
theorem pmt_not' (ha : PT X a (tMB g (truM f))) : PT X (.UnaryOp .Not a pos) (tMB g (truM fun st => do let x ← f st; let r ← tru x; pure (.bl !r))) := PTm (pmt_not ha) fun st k r h => by
  obtain ⟨d, k1, e1, e2⟩ := bind_some.mp h
  obtain ⟨y, k2, e3, e4⟩ := bind_some.mp e1
  obtain ⟨b, k3, e5, e6⟩ := bind_some.mp e4
  cases pure_some.mp e6
  cases pure_some.mp (show (pure (!b) : M Bool) k1 = some r from e2)
  exact bind_some.mpr ⟨b, _, bind_some.mpr ⟨y, k2, e3, e5⟩, rfl⟩
/-! ### is None -/
theorem isn_key {n : Bool} {σ : L2.St} {H : Hp} {Q : VK} (h : tM g (fun st => do let x ← f st; pure (isnD n x)) σ H Q) : tM g f σ H fun x H1 => Q (.bl (xor n (decide (x = .non)))) H1 := by
  obtain ⟨T, k, st, d, k', w, r, em, q⟩ := h
  obtain ⟨x, k1, e1, e2⟩ := bind_some.mp em
  refine ⟨T, k, st, x, k1, w, r, e1, fun v H' gr w' hd => ?_⟩
  cases pure_some.mp e2
  refine q _ H' gr w' ?_
  rw [den_non hd]
  exact .bl _
theorem isn_bl {n : Bool} {st : G.St} {k k' : Nat} {d : D} (h : (do let x ← f st; pure (isnD n x) : M D) k = some (d, k')) : isBl d := by
  obtain ⟨x, k1, e1, e2⟩ := bind_some.mp h
  cases pure_some.mp e2
  cases x <;> exact ⟨_, rfl⟩
theorem pmt_isn {n : Bool} {j : Nat} (ha : PE X a (tM g f)) : PT X (.Compare a [isOp n] [.Constant .none j p] pos) (tMB g (truM fun st => do let x ← f st; pure (isnD n x))) := by
  refine pt_bool (fun st k d k' e => isn_bl e) ?_
  cases n with
  | false =>
    refine PTi (pt_cmp (pc_isN ha) rfl) fun σ H Q h => ?_
    have := isn_key h
    simpa [tIsN, tB, tTest] using this
  | true =>
    refine PTi (pt_cmp (pc_notN ha) rfl) fun σ H Q h => ?_
    have := isn_key h
    simpa [tNotN, tB, tTest] using this
/-! ### in -/
theorem in_key {n : Bool} {σ : L2.St} {H : Hp} {Q : VK} (h : tM g (fun st => do let x ← f1 st; let y ← f2 st; inM n x y) σ H Q) : tOp (rB2 g (inM n)) (tM g f1) (tO g f2) σ H Q := by
  obtain ⟨T, k, st, d, k', w, r, em, q⟩ := h
  obtain ⟨x, k1, e1, e2⟩ := bind_some.mp em
  obtain ⟨y, k2, e3, e4⟩ := bind_some.mp e2
  exact ⟨T, k, st, x, k1, w, r, e1, fun v1 H1 g1 w1 d1 => ⟨T, k1, st, y, k2, w1, r.grow g.stays g1 w.town, e3, fun v2 H2 g2 w2 d2 => ⟨T, k2, x, y, d, k', w2, Den.keep (g2.keeps w1.town) _ _ d1, d2, e4, fun v3 H3 g3 w3 d3 => q v3 H3 ((g1.trans g2).trans g3) w3 d3⟩⟩⟩
theorem pm_inn {n : Bool} (hK : X.K = g.K) (hu : X.A.units + 65 < cLine) (ha : PE X a (tM g f1)) (hb : PE X b (tO g f2)) (hm : behindInMarks (inOp n) b = false) : PE X (.Compare a [inOp n] [b] pos) (tM g fun st => do let x ← f1 st; let y ← f2 st; inM n x y) :=
  PEi (pe_cmpR (op_inM hK hu n) ha hb hm) fun σ H Q h => in_key h
theorem in_bl {n : Bool} {st : G.St} {k k' : Nat} {d : D} (h : (do let x ← f1 st; let y ← f2 st; inM n x y : M D) k = some (d, k')) : isBl d := by
  obtain ⟨x, k1, e1, e2⟩ := bind_some.mp h
  obtain ⟨y, k2, e3, e4⟩ := bind_some.mp e2
  obtain ⟨z, k3, e5, e6⟩ := bind_some.mp e4
  cases pure_some.mp e6
  exact ⟨_, rfl⟩
theorem pmt_inn {n : Bool} (hK : X.K = g.K) (hu : X.A.units + 65 < cLine) (ha : PE X a (tM g f1)) (hb : PE X b (tO g f2)) (hm : behindInMarks (inOp n) b = false) : PT X (.Compare a [inOp n] [b] pos) (tMB g (truM fun st => do let x ← f1 st; let y ← f2 st; inM n x y)) :=
  pt_bool (fun st k d k' e => in_bl e) (PTi (pt_cmpR (op_inM hK hu n) ha hb hm) fun σ H Q h => in_key h)
/-! ### is True -/
theorem isb_key {n bb : Bool} {j : Nat} {σ : L2.St} {H : Hp} {Q : VK} (h : tM g (fun st => do let x ← f st; isbD n bb x) σ H Q) : tOp (fun x y H Q => y = .bl bb ∧ rU1 g (isbD n bb) x H Q) (tM g f) (tC (.bl bb)) σ H Q := by
  obtain ⟨T, k, st, d, k', w, r, em, q⟩ := h
  obtain ⟨x, k1, e1, e2⟩ := bind_some.mp em
  exact ⟨T, k, st, x, k1, w, r, e1, fun v1 H1 g1 w1 d1 => ⟨rfl, T, k1, x, d, k', w1, d1, e2, fun v3 H3 g3 w3 d3 => q v3 H3 (g1.trans g3) w3 d3⟩⟩
theorem isb_nm {n : Bool} {cst : Const} {j : Nat} : behindInMarks (isOp n) (.Constant cst j p) = false := by cases n <;> rfl
theorem pm_isb {n bb : Bool} {cst : Const} {j : Nat} (hcst : cst = .bool bb) (hb : PE X (.Constant cst j p) (tC (.bl bb))) (ha : PE X a (tM g f)) : PE X (.Compare a [isOp n] [.Constant cst j p] pos) (tM g fun st => do let x ← f st; isbD n bb x) :=
  PEi (pe_cmpR (op_isbM n bb) ha hb isb_nm) fun σ H Q h => isb_key (j := 0) h
theorem pmt_isb {n bb : Bool} {cst : Const} {j : Nat} (hcst : cst = .bool bb) (hb : PE X (.Constant cst j p) (tC (.bl bb))) (ha : PE X a (tM g f)) : PT X (.Compare a [isOp n] [.Constant cst j p] pos) (tMB g (truM fun st => do let x ← f st; isbD n bb x)) :=
  pt_bool (fun st k d k' e => by
    obtain ⟨x, k1, e1, e2⟩ := bind_some.mp e
    cases x with
    | bl bv => cases pure_some.mp e2; exact ⟨_, rfl⟩
    | _ => exact absurd e2 (no_some (k := k1))) (PTi (pt_cmpR (op_isbM n bb) ha hb isb_nm) fun σ H Q h => isb_key (j := 0) h)
/-! ### comparisons as tests -/
theorem cmpM_bl {o : Cp} {x y : D} {k k' : Nat} {d : D} (h : cmpM o x y k = some (d, k')) : isBl d := by
  obtain ⟨z, k3, e5, e6⟩ := bind_some.mp h
  cases pure_some.mp e6
  exact ⟨_, rfl⟩
theorem pmt_cmp' {o : Cp} (hK : X.K = g.K) (hu : X.A.units + 64 < cLine) (ha : PE X a (tM g f1)) (hb : PE X b (tM g f2)) (hm : behindInMarks (cpOp o) b = false) : PT X (.Compare a [cpOp o] [b] pos) (tMB g (truM fun st => do let x ← f1 st; let y ← f2 st; cmpM o x y)) :=
  pmt_cmp (fun x y k d k' e => cmpM_bl e) (op_cmp hK hu o) ha hb hm
theorem chain_bl {o o' : Cp} {st : G.St} {k k' : Nat} {d : D} (h : (do let x ← f1 st; let y ← f2 st; let r ← cmpD o x y; if r then do let z ← f3 st; cmpM o' y z else pure (.bl false) : M D) k = some (d, k')) : isBl d := by
  obtain ⟨x, k1, e1, e2⟩ := bind_some.mp h
  obtain ⟨y, k2, e3, e4⟩ := bind_some.mp e2
  obtain ⟨r, k3, e5, e6⟩ := bind_some.mp e4
  cases r with
  | true =>
    obtain ⟨z, k4, e7, e8⟩ := bind_some.mp (show (do let z ← f3 st; cmpM o' y z : M D) k3 = some (d, k') from e6)
    exact cmpM_bl e8
  | false =>
    cases pure_some.mp (show (pure (.bl false) : M D) k3 = some (d, k') from e6)
    exact ⟨_, rfl⟩
end
end G

namespace G
open PySem PySem.Spec PyProof.Rows L2

section
variable {g : Cf} {X : Cx}
variable {a b c e tg : Expr} {f f1 f2 f3 : G.St → M D} {pos p p1 p2 : Pos} {x y z : Str}
theorem dens_rg {T : Addr} {K : PySem.W.Frag} {H : Hp} {i j : Int} {n : Nat} (hn : (j - i).toNat = n) : Dens T K H (rgV i j) (rangeL i n 1) := by
  subst hn
  unfold rgV rangeL
  generalize List.range (j - i).toNat = l
  induction l with
  | nil => exact .nil
  | cons k l ih =>
    refine .cons ?_ ih
    have e : i + (k : Int) * 1 = i + (k : Int) := by omega
    show Den T K H (.int (i + (k : Int))) (.int (i + (k : Int) * 1))
    rw [e]
    exact .int _
theorem r1_some {x : D} {k k' : Nat} {l : List D} (h : srcD .r1 x .non .non k = some (l, k')) : ∃ i, x = .int i ∧ smallI i = true ∧ l = rangeL 0 i.toNat 1 ∧ k' = k := by
  cases x with
  | int i =>
    obtain ⟨hi, e3⟩ := if_some (show (if smallI i = true then (pure (rangeL 0 i.toNat 1) : M (List D)) else no) k = some (l, k') from h)
    cases pure_some.mp e3
    exact ⟨i, rfl, hi, rfl, rfl⟩
  | _ => exact absurd h (no_some (k := k))
theorem r2_some {x y : D} {k k' : Nat} {l : List D} (h : srcD .r2 x y .non k = some (l, k')) : ∃ i j, x = .int i ∧ y = .int j ∧ smallI i = true ∧ smallI j = true ∧ l = rangeL i (j - i).toNat 1 ∧ k' = k := by
  cases x with
  | int i =>
    cases y with
    | int j =>
      obtain ⟨hi, e5⟩ := if_some (show (if (smallI i && smallI j) = true then (pure (rangeL i (j - i).toNat 1) : M (List D)) else no) k = some (l, k') from h)
      cases pure_some.mp e5
      rw [Bool.and_eq_true] at hi
      exact ⟨i, j, rfl, rfl, hi.1, hi.2, rfl, rfl⟩
    | _ => exact absurd h (no_some (k := k))
  | _ => exact absurd h (no_some (k := k))
theorem rgOk_of {i j : Int} (hi : smallI i = true) (hj : smallI j = true) : RgOk i j := by
  have h1 := smallI_of hi
  have h2 := smallI_of hj
  exact ⟨by omega, by omega, by omega, by omega, by omega⟩
/-- an expression that makes a range -/
theorem rg1_key (hg : Gl X "range") (hm : X.mg "range" = none) (hs : ∀ v p, a ≠ .Starred v p) (ha : PE X a (tM g f)) : PRg X (.Call (.Name "range" p) [a] [] pos) (tRg1 (tM g f)) := prg_1 hg hm ha (starEach_ok hs)
theorem rg2_key (hg : Gl X "range") (hm : X.mg "range" = none) (hs : ∀ v p, a ≠ .Starred v p) (hs' : ∀ v p, b ≠ .Starred v p) (ha : PE X a (tM g f1)) (hb : PE X b (tM g f2)) : PRg X (.Call (.Name "range" p) [a, b] [] pos) (tRg2 (tM g f1) (tM g f2)) :=
  prg_2 hg hm ha hb (starEach_ok hs) (starEach_ok hs') (noStars (es := [b]) fun e he => by rw [List.mem_singleton.mp he]; exact hs')
theorem pm_tupR1 (hc : X.calm = true) (ht : Gl X "tuple") (hmt : X.mg "tuple" = none) (hg : Gl X "range") (hm : X.mg "range" = none) (hs : ∀ v p, a ≠ .Starred v p) (ha : PE X a (tM g f)) :
    PE X (.Call (.Name "tuple" p1) [.Call (.Name "range" p) [a] [] pos] [] p2) (tM g fun st => do let x ← f st; cvD true .r1 x .non) :=
  PEi (pe_tupRg hc ht hmt (rg1_key hg hm hs ha)) fun σ H Q h => by
    obtain ⟨T, k, st, d, k', w, r, em, q⟩ := h
    obtain ⟨x, k1, e1, e2⟩ := bind_some.mp em
    obtain ⟨l, k2, e3, e4⟩ := bind_some.mp e2
    cases pure_some.mp e4
    obtain ⟨i, rfl, hi, rfl, rfl⟩ := r1_some e3
    refine ⟨T, k, st, _, _, w, r, e1, fun v1 H1 g1 w1 d1 => ⟨i, int_den d1, rgOk_of (by decide) hi, fun p hp => ?_⟩⟩
    exact newT w1 hp (dens_rg (by omega)) fun v H' g2 w2 d2 => q v H' (g1.trans g2) w2 d2
theorem pm_tupR2 (hc : X.calm = true) (ht : Gl X "tuple") (hmt : X.mg "tuple" = none) (hg : Gl X "range") (hm : X.mg "range" = none) (hs : ∀ v p, a ≠ .Starred v p) (hs' : ∀ v p, b ≠ .Starred v p) (ha : PE X a (tM g f1)) (hb : PE X b (tM g f2)) :
    PE X (.Call (.Name "tuple" p1) [.Call (.Name "range" p) [a, b] [] pos] [] p2) (tM g fun st => do let x ← f1 st; let y ← f2 st; cvD true .r2 x y) :=
  PEi (pe_tupRg hc ht hmt (rg2_key hg hm hs hs' ha hb)) fun σ H Q h => by
    obtain ⟨T, k, st, d, k', w, r, em, q⟩ := h
    obtain ⟨x, k1, e1, e2⟩ := bind_some.mp em
    obtain ⟨y, k2, e3, e4⟩ := bind_some.mp e2
    obtain ⟨l, k3, e5, e6⟩ := bind_some.mp e4
    cases pure_some.mp e6
    obtain ⟨i, j, rfl, rfl, hi, hj, rfl, rfl⟩ := r2_some e5
    refine ⟨T, k, st, _, _, w, r, e1, fun v1 H1 g1 w1 d1 => ⟨T, k1, st, _, _, w1, r.grow g.stays g1 w.town, e3, fun v2 H2 g2 w2 d2 => ⟨i, j, int_den d1, int_den d2, rgOk_of hi hj, fun p hp => ?_⟩⟩⟩
    exact newT w2 hp (dens_rg rfl) fun v H' g3 w3 d3 => q v H' ((g1.trans g2).trans g3) w3 d3
theorem pn_lstR1 (hc : X.calm = true) (ht : Gl X "list") (hmt : X.mg "list" = none) (hg : Gl X "range") (hm : X.mg "range" = none) (hs : ∀ v p, a ≠ .Starred v p) (ha : PE X a (tM g f)) :
    PE X (.Call (.Name "list" p1) [.Call (.Name "range" p) [a] [] pos] [] p2) (tN g fun st => do let x ← f st; cvD false .r1 x .non) :=
  PEi (pe_listRg hc ht hmt (rg1_key hg hm hs ha)) fun σ H Q h => by
    obtain ⟨T, k, st, d, k', w, r, em, q⟩ := h
    obtain ⟨x, k1, e1, e2⟩ := bind_some.mp em
    obtain ⟨l, k2, e3, e4⟩ := bind_some.mp e2
    cases pure_some.mp e4
    obtain ⟨i, rfl, hi, rfl, rfl⟩ := r1_some e3
    refine ⟨T, k, st, _, _, w, r, e1, fun v1 H1 g1 w1 d1 => ⟨i, int_den d1, rgOk_of (by decide) hi, fun p hp => ?_⟩⟩
    exact q p _ _ _ rfl (g1.none p hp) (w1.neT hp) (g1.trans (Grow.new hp)) (w1.grow0 hp) upd_same (dens_rg (by omega))
theorem pn_lstR2 (hc : X.calm = true) (ht : Gl X "list") (hmt : X.mg "list" = none) (hg : Gl X "range") (hm : X.mg "range" = none) (hs : ∀ v p, a ≠ .Starred v p) (hs' : ∀ v p, b ≠ .Starred v p) (ha : PE X a (tM g f1)) (hb : PE X b (tM g f2)) :
    PE X (.Call (.Name "list" p1) [.Call (.Name "range" p) [a, b] [] pos] [] p2) (tN g fun st => do let x ← f1 st; let y ← f2 st; cvD false .r2 x y) :=
  PEi (pe_listRg hc ht hmt (rg2_key hg hm hs hs' ha hb)) fun σ H Q h => by
    obtain ⟨T, k, st, d, k', w, r, em, q⟩ := h
    obtain ⟨x, k1, e1, e2⟩ := bind_some.mp em
    obtain ⟨y, k2, e3, e4⟩ := bind_some.mp e2
    obtain ⟨l, k3, e5, e6⟩ := bind_some.mp e4
    cases pure_some.mp e6
    obtain ⟨i, j, rfl, rfl, hi, hj, rfl, rfl⟩ := r2_some e5
    refine ⟨T, k, st, _, _, w, r, e1, fun v1 H1 g1 w1 d1 => ⟨T, k1, st, _, _, w1, r.grow g.stays g1 w.town, e3, fun v2 H2 g2 w2 d2 => ⟨i, j, int_den d1, int_den d2, rgOk_of hi hj, fun p hp => ?_⟩⟩⟩
    exact q p _ _ _ rfl ((g1.trans g2).none p hp) (w2.neT hp) ((g1.trans g2).trans (Grow.new hp)) (w2.grow0 hp) upd_same (dens_rg rfl)
theorem cv_out {k : Sk} {x y : D} {n : Nat} {d : D} {n' : Nat} (h : cvD false k x y n = some (d, n')) : ∃ ds, d = .lst ds := by
  obtain ⟨l, k2, e3, e4⟩ := bind_some.mp h
  cases pure_some.mp e4
  exact ⟨l, rfl⟩
theorem rg3_size {i j u : Int} (hu : u ≠ 0) : Builtin.Range.rangeSize i j u = (rangeN i j u : Int) := by
  unfold Builtin.Range.rangeSize rangeN
  by_cases h : 0 < u
  · rw [if_pos (show u > 0 from h), if_pos h]
    have e : j - i + u - 1 = (j - i - 1) + u * 1 := by omega
    rw [e, Int.add_mul_ediv_left _ _ hu]
    split
    · have := Int.ediv_nonneg (a := j - i - 1) (b := u) (by omega) (by omega)
      omega
    · have := Int.ediv_lt_of_lt_mul (a := j - i - 1) (b := 0) h (by omega)
      omega
  · rw [if_neg (show ¬ u > 0 from h), if_neg h]
    have hn : -u ≠ 0 := by omega
    have e : i - j + -u - 1 = (i - j - 1) + (-u) * 1 := by omega
    rw [e, Int.add_mul_ediv_left _ _ hn]
    split
    · have := Int.ediv_nonneg (a := i - j - 1) (b := -u) (by omega) (by omega)
      omega
    · have := Int.ediv_lt_of_lt_mul (a := i - j - 1) (b := 0) (c := -u) (by omega) (by omega)
      omega
theorem git_rangeC {T : Addr} {a c : Int} {n : Nat} {H0 : Hp} : GIt g T (Itc a c n) (rangeL a n c) H0 := by
  intro H k kp w
  have hl : (rangeL a n c).length = n := by simp [rangeL]
  refine ⟨fun i hi => by rw [hl] at hi; exact hi, fun i d hi => ?_⟩
  unfold rangeL at hi
  rw [List.getElem?_map] at hi
  rcases Nat.lt_or_ge i n with z | z
  · rw [List.getElem?_range z] at hi
    cases hi
    refine ⟨z, fun x H' hy => ?_⟩
    obtain ⟨e1, e2⟩ := hy
    rw [e1, e2]
    exact ⟨Grow.refl T H, w, .int _⟩
  · rw [List.getElem?_eq_none (by simpa using z)] at hi
    cases hi
theorem rangeN_le {i j u : Int} (hi : smallI i = true) (hj : smallI j = true) (hu : u ≠ 0) : rangeN i j u ≤ 16777216 := by
  have h1 := smallI_of hi
  have h2 := smallI_of hj
  unfold rangeN
  split
  · have := Int.ediv_le_self (b := u) (a := j - i + u - 1)
    by_cases hp : 0 ≤ j - i + u - 1
    · have e : j - i + u - 1 = (j - i - 1) + u * 1 := by omega
      rw [e, Int.add_mul_ediv_left _ _ hu]
      by_cases hq : 0 ≤ j - i - 1
      · have := Int.ediv_le_self u hq
        omega
      · have := Int.ediv_neg_of_neg_of_pos (a := j - i - 1) (b := u) (by omega) (by omega)
        omega
    · have := Int.ediv_neg_of_neg_of_pos (a := j - i + u - 1) (b := u) (by omega) (by omega)
      omega
  · have hn : -u ≠ 0 := by omega
    have e : i - j + -u - 1 = (i - j - 1) + (-u) * 1 := by omega
    rw [e, Int.add_mul_ediv_left _ _ hn]
    by_cases hq : 0 ≤ i - j - 1
    · have := Int.ediv_le_self (-u) hq
      omega
    · have := Int.ediv_neg_of_neg_of_pos (a := i - j - 1) (b := -u) (by omega) (by omega)
      omega
/-- range(i, j, c), a step upwards -/
theorem pit_r3 (hg : Gl X "range") (hm : X.mg "range" = none) (hs : ∀ v p, a ≠ .Starred v p) (hs' : ∀ v p, b ≠ .Starred v p) (hs2 : ∀ v p, c ≠ .Starred v p) (ha : PE X a (tM g f1)) (hb : PE X b (tM g f2)) (hc : PE X c (tM g f3)) :
    PI X tg (.Call (.Name "range" p) [a, b, c] [] pos) (tI g fun st => do let x ← f1 st; let y ← f2 st; let z ← f3 st; srcD .r3 x y z) :=
  PIi (pi_range3 hg hm (pa_cons ha (pa_cons hb (pa_cons hc pa_nil (starEach_ok hs2)) (starEach_ok hs')) (starEach_ok hs)) (starEach_ok hs) (noStars (es := [b, c]) fun e he => by
      rcases List.mem_cons.mp he with e1 | he
      · rw [e1]; exact hs'
      · rw [List.mem_singleton.mp he]; exact hs2)) fun σ H R h => by
    obtain ⟨T, k, st, l, k', w, r, em, q⟩ := h
    obtain ⟨x, k1, e1, e2⟩ := bind_some.mp em
    obtain ⟨y, k2, e3, e4⟩ := bind_some.mp e2
    obtain ⟨z, k3, e5, e6⟩ := bind_some.mp e4
    have e6' := e6
    cases x with
    | int i =>
      cases y with
      | int j =>
        cases z with
        | int u =>
          obtain ⟨hi, e7⟩ := if_some (show (if (smallI i && smallI j && smallI u && decide (u ≠ 0)) = true then (pure (rangeL i (rangeN i j u) u) : M (List D)) else no) k3 = some (l, k') from e6)
          cases pure_some.mp e7
          simp only [Bool.and_eq_true, decide_eq_true_eq] at hi
          obtain ⟨⟨⟨h1, h2⟩, h3⟩, h4⟩ := hi
          have b1 := smallI_of h1
          have b2 := smallI_of h2
          have b3 := smallI_of h3
          refine ⟨T, k, st, _, _, w, r, e1, fun v1 H1 g1 w1 d1 => ⟨T, k1, st, _, _, w1, r.grow g.stays g1 w.town, e3, fun v2 H2 g2 w2 d2 => ⟨T, k2, st, _, _, w2, (r.grow g.stays g1 w.town).grow g.stays g2 w1.town, e5, fun v3 H3 g3 w3 d3 => ⟨i, j, u, rangeN i j u, by rw [int_den d1, int_den d2, int_den d3], ?_, ?_⟩⟩⟩⟩
          · refine ⟨h4, by omega, ?_, rg3_size h4⟩
            have hz := rg3_size (i := i) (j := j) h4
            have hn := rangeN_le (u := u) h1 h2 h4
            unfold Builtin.Range.small
            rw [hz]
            simp only [Builtin.Range.rangeFitsLong, Bool.and_eq_true, Bool.or_eq_true, decide_eq_true_eq, beq_iff_eq]
            split <;> (and_intros <;> first | omega | exact .inr ⟨by omega, by omega⟩ | (right; simp only [Bool.and_eq_true, decide_eq_true_eq]; omega))
          · exact q _ H3 ((g1.trans g2).trans g3) w3 git_rangeC (by have := rangeN_le (u := u) h1 h2 h4; simpa [rangeL] using this)
        | _ => exact absurd e6' (no_some (k := k3))
      | _ => exact absurd e6' (no_some (k := k3))
    | _ => exact absurd e6' (no_some (k := k3))
end
end G

namespace G
open PySem PySem.Spec PyProof.Rows L2
/-! ### sorted(dict(x)) -/
theorem keys_put (kvs : List (L2.Key × V)) (ks : List Int) (i : Int) (v : V) (h : kvs.map (·.1) = ks.map Sum.inl) : (L2.putK kvs (Sum.inl i) v).map (·.1) = (addK ks i).map Sum.inl := by
  have hany : (kvs.any fun kv => decide (kv.1 = (Sum.inl i : L2.Key))) = ks.contains i := by
    rw [Bool.eq_iff_iff, List.any_eq_true, List.contains_iff_mem]
    constructor
    · rintro ⟨kv, hk, e⟩
      have e := of_decide_eq_true e
      have : (Sum.inl i : L2.Key) ∈ kvs.map (·.1) := List.mem_map.mpr ⟨kv, hk, e⟩
      rw [h] at this
      obtain ⟨j, hj, e2⟩ := List.mem_map.mp this
      injection e2 with e2
      exact e2 ▸ hj
    · intro hi
      have : (Sum.inl i : L2.Key) ∈ kvs.map (·.1) := by
        rw [h]
        exact List.mem_map.mpr ⟨i, hi, rfl⟩
      obtain ⟨kv, hk, e⟩ := List.mem_map.mp this
      exact ⟨kv, hk, decide_eq_true e⟩
  unfold L2.putK addK
  rw [hany]
  by_cases e : ks.contains i = true
  · rw [if_pos e, if_pos e, ← h, List.map_map]
    apply List.map_congr_left
    intro kv _
    show (if kv.1 = (Sum.inl i : L2.Key) then (kv.1, v) else kv).1 = kv.1
    split <;> rfl
  · rw [if_neg e, if_neg e, List.map_append, List.map_append, h]
    rfl
theorem keys_merge : ∀ (more kvs : List (L2.Key × V)) (ks ms : List Int), kvs.map (·.1) = ks.map Sum.inl → more.map (·.1) = ms.map Sum.inl → (L2.mergeK kvs more).map (·.1) = (ms.foldl addK ks).map Sum.inl
  | [], kvs, ks, [], h, _ => h
  | [], _, _, _ :: _, _, h => by cases h
  | _ :: _, _, _, [], _, h => by cases h
  | (k, v) :: more, kvs, ks, m :: ms, h, h2 => by
    rw [List.map_cons, List.map_cons] at h2
    injection h2 with e1 e2
    have e1 : k = Sum.inl m := e1
    subst e1
    exact keys_merge more (L2.putK kvs (Sum.inl m) v) (addK ks m) ms (keys_put kvs ks m v h) e2
theorem fold_len : ∀ (ms ks : List Int), (ms.foldl addK ks).length ≤ ks.length + ms.length
  | [], ks => by simp
  | m :: ms, ks => by
    have := fold_len ms (addK ks m)
    have h2 : (addK ks m).length ≤ ks.length + 1 := by
      unfold addK
      split <;> simp
    rw [List.foldl_cons, List.length_cons]
    omega
theorem int_sorted : ∀ {l r : List Int}, l.Pairwise (· ≤ ·) → r.Pairwise (· ≤ ·) → l.Perm r → l = r
  | [], r, _, _, h => (List.nil_perm.mp h).symm
  | a :: l, [], _, _, h => by have := h.length_eq; simp at this
  | a :: l, b :: r, hl, hr, h => by
    rw [List.pairwise_cons] at hl hr
    have h1 : ∀ x ∈ a :: l, a ≤ x := fun x hx => by
      rcases List.mem_cons.mp hx with z | z
      · omega
      · exact hl.1 x z
    have h2 : ∀ x ∈ b :: r, b ≤ x := fun x hx => by
      rcases List.mem_cons.mp hx with z | z
      · omega
      · exact hr.1 x z
    have h3 := h1 b (h.mem_iff.mpr List.mem_cons_self)
    have h4 := h2 a (h.mem_iff.mp List.mem_cons_self)
    have hab : a = b := by omega
    subst hab
    rw [int_sorted hl.2 hr.2 ((List.perm_cons a).mp h)]
theorem srt_eq {ys ks : List Int} (h1 : ys.Perm (ks.foldl addK [])) (h2 : ys.Pairwise (· ≤ ·)) : ys = srtI ks := by
  refine int_sorted h2 ?_ (h1.trans (List.mergeSort_perm _ _).symm)
  unfold srtI
  exact (List.pairwise_mergeSort (le := fun a b : Int => decide (a ≤ b)) (fun a b c x y => by simp at *; omega) (fun a b => by simp; omega) _).imp fun h => of_decide_eq_true h
section
variable {g : Cf} {X : Cx} {a : Expr} {m : G.St → M D} {pos p p2 p3 : Pos}
theorem pairs_den (hK : X.K = g.K) {T : Addr} {H : Hp} : ∀ {l : List D} {ys : List V} {k k' : Nat} {ks : List Int}, Dens T g.K H ys l → keysL l k = some (ks, k') → k' = k ∧ ks.length = l.length ∧ ∃ (ps : List Addr) (kvs : List (L2.Key × V)), ys = ps.map V.ref ∧ Paired (fun p kv => SqT X.K H p [kV kv.1, kv.2]) ps kvs ∧ kvs.map (·.1) = ks.map Sum.inl
  | [], _, k, k', ks, h, e => by
    cases h
    cases pure_some.mp e
    exact ⟨rfl, rfl, [], [], rfl, .nil, rfl⟩
  | d :: l, _, k, k', ks, h, e => by
    cases h with
    | cons h1 h2 =>
      cases d with
      | tup u =>
        match u, h1, e with
        | [.int i, v], h1, e =>
          obtain ⟨ks', k1, e1, e2⟩ := bind_some.mp (show (do let ks ← keysL l; pure (i :: ks) : M (List Int)) k = some (ks, k') from e)
          cases pure_some.mp e2
          obtain ⟨r1, r2, ps, kvs, r3, r4, r5⟩ := pairs_den hK h2 e1
          cases h1 with
          | tup g1 g2 =>
            cases g2 with
            | cons g3 g4 =>
              cases g4 with
              | cons g5 g6 =>
                cases g6
                cases g3
                exact ⟨r1, by rw [List.length_cons, List.length_cons, r2], _ :: ps, (Sum.inl i, _) :: kvs, by rw [r3]; rfl, .cons (.of g1) r4, by rw [List.map_cons, r5]; rfl⟩
      | _ => exact absurd e (no_some (k := k))
theorem dens_ints {T : Addr} {K : PySem.W.Frag} {H : Hp} : ∀ l : List Int, Dens T K H (l.map V.int) (l.map D.int)
  | [] => .nil
  | i :: l => .cons (.int i) (dens_ints l)
theorem pn_dks (hK : X.K = g.K) (hc : X.calm = true) (hs1 : Gl X "sorted") (hm1 : X.mg "sorted" = none) (hs2 : Gl X "dict") (hm2 : X.mg "dict" = none) (hs : ∀ v p, a ≠ .Starred v p) (ha : PE X a (tO g m)) :
    PE X (.Call (.Name "sorted" p2) [.Call (.Name "dict" p) [a] [] pos] [] p3) (tN g fun st => do let d ← m st; f1D .dks d) :=
  PEi (pe_callB (L2.call_sortedDI hc) hs1 hm1 (by decide +kernel) (pa_cons (pe_callTy (L2.call_dictP hc) hs2 hm2 (by decide +kernel) (pa_one hs ha) (by decide) (by decide) (starEach_ok hs) rfl) pa_nil (starEach_ok (by intro v p z; cases z))) (by decide) (by decide) (starEach_ok (by intro v p z; cases z)) rfl) fun σ H Q q => by
    obtain ⟨T, k, st, d, k', w, r, em, q⟩ := q
    obtain ⟨y, k1, e1, e2⟩ := bind_some.mp em
    refine ⟨T, k, st, y, k1, w, r, e1, fun v1 H1 g1 w1 d1 => ?_⟩
    cases y with
    | lst l =>
      obtain ⟨ks, k2, e3, e4⟩ := bind_some.mp (show (do let ks ← keysL l; if ks.length < 64 then pure (.lst ((srtI ks).map .int)) else no : M D) k1 = some (d, k') from e2)
      obtain ⟨h64, e5⟩ := if_some e4
      cases pure_some.mp e5
      obtain ⟨b, ys, rfl, hs', hds⟩ := d1.sql hK
      obtain ⟨rfl, hlen, ps, kvs, rfl, hpr, hks⟩ := pairs_den hK hds e3
      have hkk := keys_merge kvs [] [] ks rfl hks
      refine ⟨b, ps, kvs, rfl, hs', hpr, fun p hp => ⟨p, _, ks.foldl addK [], rfl, .of upd_same, hkk, ?_, fun zs p' hperm hpw hp' => ?_⟩⟩
      · have := fold_len ks []
        simp at this
        omega
      · have hz := srt_eq hperm hpw
        subst hz
        have w2 := w1.grow0 (o := .dK (L2.mergeK [] kvs)) hp
        have gg := g1.trans (Grow.new (o := .dK (L2.mergeK [] kvs)) hp)
        exact q p' _ _ _ rfl (gg.none p' hp') (w2.neT hp') (gg.trans (Grow.new hp')) (w2.grow0 hp') upd_same (dens_ints _)
    | _ => exact absurd e2 (no_some (k := k1))
end
end G

namespace G
open PySem PySem.Spec PyProof.Rows L2 LamX

/-! ### lambdas: what stands of them in the heap -/
/-- a lambda of the text: its words; its names' slots, its parameters, what it captures -/
structure LamT where
  params : Arguments
  body : Expr
  scope : Scope
  N : List Str
  ps : List Str
  fr : List Str
/-- just this object stands at a -/
def PinO (a : Addr) (o : Obj) : HO := .ext fun h => h.get? a = some o
theorem PinO.at {P : Program} {w : World} {H : Hp} {h : Heap} {a : Addr} {o : Obj} (hok : HOk P w H h) (e : H a = some (PinO a o)) : h.get? a = some o := (hok a _ e).1
theorem PinO.ok {P : Program} {w : World} {H : Hp} {h : Heap} {a : Addr} {o : Obj} (e : h.get? a = some o) : ObjOk P w H h a (PinO a o) :=
  ⟨e, ⟨o, e⟩, fun _ _ e1 k => k o e1⟩
def lamObj (L : LamT) (q : Str) (cl : List (Str × Addr)) (pm : Value) (c' : Addr) (ctv : Value) : Obj := PySem.W.kla_obj "<lambda>" q L.params L.body L.scope cl pm c' ctv
/-- what a lambda captured: the cells' names, their values -/
structure CapOk (T : Addr) (K : PySem.W.Frag) (H : Hp) (P : Addr → Obj → Prop) (L : LamT) (cl : List (Str × Addr)) (cs : List D) : Prop where
  len : cs.length = L.fr.length
  inj : ∀ x y c, cl.lookup x = some c → cl.lookup y = some c → x = y
  only : ∀ y c, cl.lookup y = some c → y ∈ L.fr
  at' : ∀ (i : Nat) (y : Str) (d : D), L.fr[i]? = some y → cs[i]? = some d → ∃ c oc u v, cl.lookup y = some c ∧ P c oc ∧ oc.data = .cell (some u) ∧ RelV v u ∧ Den T K H v d
/-- the lambda li of the text is at f -/
def cloOf (ok : Nat → LamT → Prop) (K : PySem.W.Frag) : CloT := fun H f li cs T => ∃ (L : LamT) (q : Str) (cl : List (Str × Addr)) (c' : Addr) (pm ctv : Value),
  ok li L ∧ H f = some (PinO f (lamObj L q cl pm c' ctv)) ∧ H c' = some (CodeO c' q) ∧ CapOk T K H (fun c oc => H c = some (PinO c oc)) L cl cs
theorem cloOf_stays {ok : Nat → LamT → Prop} {K : PySem.W.Frag} : CloStays (cloOf ok K) := by
  rintro H H' f li cs T kp ⟨L, q, cl, c', pm, ctv, h1, h2, h3, h4⟩
  refine ⟨L, q, cl, c', pm, ctv, h1, kp.ex _ _ h2, kp.ex _ _ h3, h4.len, h4.inj, h4.only, fun i y d e1 e2 => ?_⟩
  obtain ⟨c, oc, u, v, a1, a2, a3, a4, a5⟩ := h4.at' i y d e1 e2
  exact ⟨c, oc, u, v, a1, kp.ex _ _ a2, a3, a4, Den.keep kp _ _ a5⟩
/-! ### some objects are left out, and told again -/
def unt (H : Hp) (l : List Addr) : Hp := fun b => if b ∈ l then none else H b
def ret (H' H : Hp) (l : List Addr) : Hp := fun b => if b ∈ l then H b else H' b
theorem unt_in {H : Hp} {l : List Addr} {b : Addr} (h : b ∈ l) : unt H l b = none := if_pos h
theorem unt_out {H : Hp} {l : List Addr} {b : Addr} (h : b ∉ l) : unt H l b = H b := if_neg h
theorem ret_in {H' H : Hp} {l : List Addr} {b : Addr} (h : b ∈ l) : ret H' H l b = H b := if_pos h
theorem ret_out {H' H : Hp} {l : List Addr} {b : Addr} (h : b ∉ l) : ret H' H l b = H' b := if_neg h
theorem unt_some {H : Hp} {l : List Addr} {b : Addr} {o : HO} (h : unt H l b = some o) : b ∉ l ∧ H b = some o := by
  by_cases q : b ∈ l
  · rw [unt_in q] at h; cases h
  · exact ⟨q, (unt_out (H := H) q).symm.trans h⟩
/-- all of l are pinned -/
def Pins (H : Hp) (l : List Addr) : Prop := ∀ b ∈ l, ∃ o, H b = some (PinO b o)
theorem Pins.ne {H : Hp} {l : List Addr} (p : Pins H l) {b : Addr} {u : HO} (e : H b = some u) (n : ∀ φ, u ≠ .ext φ) : b ∉ l := fun z => by
  obtain ⟨o, h⟩ := p b z
  rw [e] at h
  exact n _ (Option.some.inj h)
section
variable {P : Program} {w : World} {H H' : Hp} {h h' : Heap} {l : List Addr}
theorem hok_unt (p : Pins H l) (x : HOk P w H h) : HOk P w (unt H l) h := fun b u e => by
  obtain ⟨nb, e'⟩ := unt_some e
  exact (x b u e').stay (fun c v _ q => q) (fun c q => by rw [unt_out (p.ne q (fun _ z => nomatch z))]; exact q) fun c xs q => by rw [unt_out (p.ne q (fun _ z => nomatch z))]; exact q
theorem hok_ret (p : ∀ b ∈ l, H' b = none ∧ ∃ o, H b = some (PinO b o) ∧ h'.get? b = some o) (x : HOk P w H' h') : HOk P w (ret H' H l) h' := fun b u e => by
  have out : ∀ c v, H' c = some v → c ∉ l := fun c v q z => by rw [(p c z).1] at q; cases q
  by_cases hb : b ∈ l
  · rw [ret_in hb] at e
    obtain ⟨_, o, e1, e2⟩ := p b hb
    rw [e1] at e
    cases e
    exact PinO.ok e2
  · rw [ret_out hb] at e
    exact (x b u e).stay (fun c v _ q => q) (fun c q => by rw [ret_out (out c _ q)]; exact q) fun c xs q => by rw [ret_out (out c _ q)]; exact q
theorem memP_dict {a : Addr} {m : List Int} {h : Heap} (q : memP a m h) : ∃ o es ep, h.get? a = some o ∧ o.data = .dict es ep := by
  obtain ⟨P, w, kvs, ⟨_, _, vs, _, o, es, ep, e, c⟩, _⟩ := q
  exact ⟨o, es, ep, e, c.2.1⟩
/-- data stay where tuples and locked lists do -/
structure KD (H H' : Hp) : Prop where
  tu : ∀ a xs, H a = some (.tup xs) → H' a = some (.tup xs)
  fr : ∀ a o xs, H a = some (.frz o (.lst xs)) → H' a = some (.frz o (.lst xs))
  is : ∀ a C dx fs, H a = some (.ins C dx fs) → H' a = some (.ins C dx fs)
  mo : ∀ a m, H a = some (MemO a m) → H' a = some (MemO a m)
theorem KD.unt (p : Pins H l) (nm : ∀ b ∈ l, ∀ m, H b ≠ some (MemO b m)) : KD H (unt H l) := ⟨fun a xs e => by rw [unt_out (p.ne e (fun _ z => nomatch z))]; exact e, fun a o xs e => by rw [unt_out (p.ne e (fun _ z => nomatch z))]; exact e,
  fun a C dx fs e => by rw [unt_out (p.ne e (fun _ z => nomatch z))]; exact e, fun a m e => by rw [unt_out (fun z => nm a z m e)]; exact e⟩
theorem KD.ret (p : ∀ b ∈ l, H' b = none) : KD H' (ret H' H l) := ⟨fun a xs e => by rw [ret_out (fun z => by rw [p a z] at e; cases e)]; exact e, fun a o xs e => by rw [ret_out (fun z => by rw [p a z] at e; cases e)]; exact e,
  fun a C dx fs e => by rw [ret_out (fun z => by rw [p a z] at e; cases e)]; exact e, fun a m e => by rw [ret_out (fun z => by rw [p a z] at e; cases e)]; exact e⟩
end
section
variable {T : Addr} {K : PySem.W.Frag} {H H' : Hp}
theorem ScrL.kd {a : Addr} {xs : List V} (k : KD H H') (h : ScrL K H a xs) : ScrL K H' a xs := by
  rcases h with ⟨o, h⟩ | h
  · exact .inl ⟨o, k.2 a o xs h⟩
  · exact .inr h
mutual
theorem Den.kd (k : KD H H') : ∀ (d : D) (v : V), Den T K H v d → Den T K H' v d
  | .non, _, h => by cases h; exact .non
  | .bl b, _, h => by cases h; exact .bl b
  | .int i, _, h => by cases h; exact .int i
  | .str s, _, h => by cases h; exact .str s
  | .tup ds, _, h => by
    cases h with
    | tup h1 h2 => exact .tup (k.1 _ _ h1) (Dens.kd k ds _ h2)
  | .lst ds, _, h => by
    cases h with
    | lst h1 h2 => exact .lst (k.2 _ _ _ h1) (Dens.kd k ds _ h2)
  | .dic _ _, _, h => by cases h
  | .town, _, h => by cases h; exact .town
  | .scr _, _, h => by
    cases h with
    | scr h1 => exact .scr (h1.kd k)
  | .sk _, _, h => by
    cases h with
    | sk h1 h2 h3 h4 => exact .sk (k.is _ _ _ _ h1) (k.fr _ _ _ h2) (k.mo _ _ h3) h4
theorem Dens.kd (k : KD H H') : ∀ (ds : List D) (vs : List V), Dens T K H vs ds → Dens T K H' vs ds
  | [], _, h => by cases h; exact .nil
  | d :: ds, _, h => by
    cases h with
    | cons h1 h2 => exact .cons (Den.kd k d _ h1) (Dens.kd k ds _ h2)
end
end
/-- the town and the tables, where some pinned objects are left out: none of these is a code object -/
theorem WS.unt {T : Addr} {Tb : List (Addr × Str)} {H : Hp} {k : Nat} {l : List Addr} (w : WS T Tb H k) (p : Pins H l) (nc : ∀ b ∈ l, ∀ q, H b ≠ some (CodeO b q)) : WS T Tb (unt H l) k := by
  refine ⟨⟨by rw [unt_out (p.ne w.town.1 (fun _ z => nomatch z))]; exact w.town.1, w.town.2⟩, fun q hq => ?_⟩
  obtain ⟨ps, h1, h2, h3⟩ := w.tabs q hq
  refine ⟨ps, by rw [unt_out (p.ne h1 (fun _ z => nomatch z))]; exact h1, h2, fun pos cv hc => ?_⟩
  obtain ⟨c, e1, e2⟩ := h3 pos cv hc
  exact ⟨c, e1, by rw [unt_out (fun z => nc c z _ e2)]; exact e2⟩
theorem WS.ret {T : Addr} {Tb : List (Addr × Str)} {H H' : Hp} {k : Nat} {l : List Addr} (w : WS T Tb H' k) (p : ∀ b ∈ l, H' b = none) : WS T Tb (ret H' H l) k := by
  have out : ∀ c v, H' c = some v → c ∉ l := fun c v q z => by rw [p c z] at q; cases q
  refine ⟨⟨by rw [ret_out (out _ _ w.town.1)]; exact w.town.1, w.town.2⟩, fun q hq => ?_⟩
  obtain ⟨ps, h1, h2, h3⟩ := w.tabs q hq
  refine ⟨ps, by rw [ret_out (out _ _ h1)]; exact h1, h2, fun pos cv hc => ?_⟩
  obtain ⟨c, e1, e2⟩ := h3 pos cv hc
  exact ⟨c, e1, by rw [ret_out (out _ _ e2)]; exact e2⟩
theorem Grow.ret {T : Addr} {H H' : Hp} {l : List Addr} (g : Grow T (unt H l) H') (p : Pins H l) : Grow T H (ret H' H l) := by
  refine ⟨fun a o e hT ht => ?_, fun a e => ?_⟩
  · by_cases ha : a ∈ l
    · rw [ret_in ha]; exact e
    · rw [ret_out ha]
      exact g.keep a o (by rw [unt_out ha]; exact e) hT ht
  · by_cases ha : a ∈ l
    · rw [ret_in ha] at e; exact e
    · rw [ret_out ha] at e
      exact (unt_out (H := H) ha).symm.trans (g.none a e)
section
variable {X : Cx} {pins : List (Addr × Obj)} {σ : L2.St} {H H' : Hp} {s s' : Shared} {l : List Addr}
/-- a call, some pinned objects left out -/
theorem inv_env0U (I : Inv X pins σ H s) (p : Pins H l) : Env0 X.prog X.w X.K X.mg X.base X.A X.stack s (unt H l) := by
  have e := I.env0
  exact ⟨e.frames, e.mod, fun b o q => ⟨(e.bs b o q).1, by
    by_cases hb : b ∈ l
    · exact unt_in hb
    · rw [unt_out hb]; exact (e.bs b o q).2⟩, e.bsz, e.funs, fun b hb => by
    by_cases hl : b ∈ l
    · exact unt_in hl
    · rw [unt_out hl]; exact e.frf b hb, hok_unt p e.hok, e.bare⟩
theorem inv_afterU {Q : VK} {u : Value} (I : Inv X pins σ H s) (p : Pins H l) (h : CE X.stack X.prog X.w (unt H l) s (fun v H' => Q v (ret H' H l)) u s') : EP X pins σ Q u s' := by
  obtain ⟨v, H', os, bare, un, hok, r, q⟩ := h
  have pin : ∀ b ∈ l, H' b = none ∧ ∃ o, H b = some (PinO b o) ∧ s'.heap.get? b = some o := fun b hb => by
    obtain ⟨o, e⟩ := p b hb
    have e1 : s.heap.get? b = some o := PinO.at I.hok e
    have nf : b ∉ frs X.stack := fun z => by rw [I.stkFree b z] at e; cases e
    exact ⟨un.free b o e1 (unt_in hb) (by simp), o, e, un.keep b o e1 (unt_in hb) nf (by simp)⟩
  have old : ∀ {b}, H b = none → b ∉ l ∧ unt H l b = none := fun {b} n => by
    have nb : b ∉ l := fun z => by
      obtain ⟨o, e⟩ := p b z
      rw [n] at e; cases e
    exact ⟨nb, by rw [unt_out nb]; exact n⟩
  have un2 : Un (frs X.stack) [] H (ret H' H l) s.heap s'.heap := by
    refine ⟨fun b o e n hf hx => un.keep b o e (old n).2 hf hx, fun b o e n hf hx => un.slot b o e (old n).2 hf hx, fun b o e n hx => ?_, fun b o e hx => un.there b o e hx, fun b xs e => ?_, fun b o u e => ?_, fun b ps e => ?_⟩
    · rw [ret_out (old n).1]; exact un.free b o e (old n).2 hx
    · have nb := p.ne e (fun _ z => nomatch z)
      rw [ret_out nb]; exact un.tups b xs (by rw [unt_out nb]; exact e)
    · have nb := p.ne e (fun _ z => nomatch z)
      rw [ret_out nb]; exact un.frzs b o u (by rw [unt_out nb]; exact e)
    · have nb := p.ne e (fun _ z => nomatch z)
      rw [ret_out nb]; exact un.tbls b ps (by rw [unt_out nb]; exact e)
  obtain ⟨hh, g, d, t, os'⟩ := s'
  obtain rfl : os' = s.os := os
  exact ⟨v, _, I.call (h' := hh) (g' := g) (d' := d) (t' := t) (ch := []) un2 (hok_ret pin hok) bare (fun b z => absurd z (by simp)), r, q⟩
end
end G

namespace G
open PySem PySem.Spec PyProof.Rows L2 LamX

/-! ### the cells of a frame: its own, then the captured ones -/
theorem cells_split : ∀ (names : List (Str × NameKind)) (n : Nat) (acc : List (Str × Addr)), cellsFrom n names acc = cellsFrom n names [] ++ acc
  | [], _, _ => rfl
  | (x, k) :: r, n, acc => by
    show (if (k == NameKind.cell) = true then cellsFrom (n + 1) r ((x, n) :: acc) else cellsFrom n r acc) = (if (k == NameKind.cell) = true then cellsFrom (n + 1) r [(x, n)] else cellsFrom n r []) ++ acc
    split
    · rw [cells_split r (n + 1) ((x, n) :: acc), cells_split r (n + 1) [(x, n)], List.append_assoc]
      rfl
    · exact cells_split r n acc
theorem cells_name {x : Str} {c : Addr} : ∀ (names : List (Str × NameKind)) (n : Nat), (x, c) ∈ cellsFrom n names [] → (x, NameKind.cell) ∈ names
  | [], _, h => by cases h
  | (y, k) :: r, n, h => by
    have h : (x, c) ∈ (if (k == NameKind.cell) = true then cellsFrom (n + 1) r [(y, n)] else cellsFrom n r []) := h
    split at h
    · rename_i hk
      rw [cells_split] at h
      rcases List.mem_append.mp h with q | q
      · exact List.mem_cons_of_mem _ (cells_name r _ q)
      · have q' : (x, c) = (y, n) := by simpa using q
        cases q'
        rw [show k = NameKind.cell from by simpa using hk]
        exact List.mem_cons_self
    · exact List.mem_cons_of_mem _ (cells_name r _ h)
/-- a frame at L being made: its map, its cells' values -/
structure InE (s₀ : Shared) (env : Env) (m cm : Str → Option Value) (s : Shared) : Prop where
  same : ∃ h' tk, s = { s₀ with heap := h', toks := tk }
  ns : s.heap.Ns env.locals m
  keep : ∀ b o, s₀.heap.get? b = some o → s.heap.get? b = some o
  big : s₀.heap.objs.size ≤ env.locals
  own : ∀ x c, env.cells.lookup x = some c → env.locals < c → s.heap.IsCell c (cm x)
  inj : ∀ x y c, env.cells.lookup x = some c → env.cells.lookup y = some c → x = y
section
variable {M : Model} {A : Around} {E : Value → Shared → Prop} {s₀ s : Shared} {m cm : Str → Option Value} {env : Env}
theorem bindE (f : Str × Value → PUnit → Sem (ForInStep PUnit)) (hf : ∀ n v u, f (n, v) u = (do storeName env n v; pure (.yield ⟨⟩))) (hk : env.scope.kind = .function) :
    ∀ (binds : List (Str × Value)) (m cm : Str → Option Value) (s : Shared) (Q : PUnit → Shared → Prop), InE s₀ env m cm s →
      (∀ y ∈ binds, env.kindOf y.1 = some .local ∨ (env.kindOf y.1 = some .cell ∧ ∃ c, env.cells.lookup y.1 = some c ∧ env.locals < c)) →
      (∀ s', InE s₀ env (bindL env.kindOf binds m) (bindC env.kindOf binds cm) s' → Q ⟨⟩ s') → wpAny M A (forIn binds ⟨⟩ f) Q E s
  | [], m, cm, s, Q, x, _, h => by rw [List.forIn_nil]; exact wpAny_pure (h s x)
  | (n, v) :: r, m, cm, s, Q, x, hkind, h => by
    rw [List.forIn_cons, hf]
    have hr := fun y (hy : y ∈ r) => hkind y (List.mem_cons_of_mem _ hy)
    obtain ⟨hh, tt, e0⟩ := x.same
    rcases hkind (n, v) List.mem_cons_self with hl | ⟨hl, c, hc, hlt⟩
    · refine wpAny_bind (wpAny_bind (wpAny_storeName_local hl x.ns (fun h' n1 sb => ?_) (by rw [hk]; rfl)))
      refine wpAny_pure (bindE f hf hk r (fun y => if y = n then some v else m y) cm _ Q ⟨⟨h', _, by rw [e0]⟩, n1, fun b o e => ?_, x.big, fun y c e1 e2 => (x.own y c e1 e2).sameBut sb (Nat.ne_of_gt e2), x.inj⟩ hr fun s'' x'' => h s'' ?_)
      · exact sb.extBut b o (Nat.ne_of_lt (Nat.lt_of_lt_of_le (Heap.lt_size e) x.big)) (x.keep b o e)
      · unfold bindL bindC
        rw [if_pos hl, if_pos hl]
        exact x''
    · have hnl : ¬ env.kindOf n = some .local := by rw [hl]; decide
      refine wpAny_bind (wpAny_bind (wpAny_storeName_cell hk hl hc (x.own n c hc hlt) fun h' c1 sb => ?_))
      refine wpAny_pure (bindE f hf hk r m (fun y => if y = n then some v else cm y) _ Q ⟨⟨h', _, by rw [e0]⟩, x.ns.sameBut sb (Nat.ne_of_lt hlt), fun b o e => ?_, x.big, fun y c' e1 e2 => ?_, x.inj⟩ hr fun s'' x'' => h s'' ?_)
      · exact sb.extBut b o (Nat.ne_of_lt (Nat.lt_trans (Nat.lt_of_lt_of_le (Heap.lt_size e) x.big) hlt)) (x.keep b o e)
      · by_cases hy : y = n
        · subst hy
          rw [hc] at e1
          cases e1
          show h'.IsCell c (if y = y then some v else cm y)
          rw [if_pos rfl]
          exact c1
        · show h'.IsCell c' (if y = n then some v else cm y)
          rw [if_neg hy]
          exact (x.own y c' e1 e2).sameBut sb fun z => hy (x.inj y n c' e1 (by rw [z]; exact hc))
      · unfold bindL bindC
        rw [if_neg hnl, if_neg hnl]
        exact x''
/-- a frame of a function that captured cells and has cells of its own -/
theorem frameE {scope : Scope} {cl : List (Str × Addr)} {binds : List (Str × Value)} {qual : Str} {func : Option Addr} {code : Value} {Q : Env → Shared → Prop} (hk : scope.kind = .function)
    (hcl : ∀ x c, cl.lookup x = some c → c < s.heap.objs.size) (inj : ∀ x y c, cl.lookup x = some c → cl.lookup y = some c → x = y)
    (hkind : ∀ y ∈ binds, scope.names.lookup y.1 = some .local ∨ scope.names.lookup y.1 = some .cell)
    (hQ : ∀ env, env = newEnv scope s.heap.objs.size mainGlobals (cellsFrom (s.heap.objs.size + 1) scope.names cl) qual func code none builtinsNs →
      ∀ s', InE s env (bindL env.kindOf binds fun _ => none) (bindC env.kindOf binds fun _ => none) s' → Q env s') :
    wpAny M A (newFunctionEnv scope mainGlobals cl binds qual func code none builtinsNs) Q E s := by
  simp only [newFunctionEnv, Option.isSome_none, Bool.false_eq_true, if_false]
  refine wpAny_bind (wpAny_alloc ?_)
  refine wpAny_bind (wpAny_layCells _ (fun name kind cells => by cases hkc : kind == NameKind.cell <;> simp [hkc]) _ _ _ _ ?_)
  have hs1 : ({ s with heap := s.heap.push { cls := .type "frame", data := .dict #[] } } : Shared).heap.objs.size = s.heap.objs.size + 1 := Heap.size_push ..
  have ok := cellsFrom_ok scope.names (s.heap.push { cls := .type "frame", data := .dict #[] }) (s.heap.objs.size + 1) [] ⟨fun _ _ hm => (nomatch hm), List.Pairwise.nil⟩ (by rw [Heap.size_push]; exact Nat.le_refl _)
  rw [Heap.size_push] at ok
  have sp := cells_split scope.names (s.heap.objs.size + 1) cl
  have lk : ∀ x c, (cellsFrom (s.heap.objs.size + 1) scope.names cl).lookup x = some c → (x, c) ∈ cellsFrom (s.heap.objs.size + 1) scope.names [] ∨ cl.lookup x = some c := fun x c e => by
    rw [sp, List.lookup_append] at e
    cases q : (cellsFrom (s.heap.objs.size + 1) scope.names []).lookup x with
    | none => rw [q] at e; exact .inr e
    | some c' =>
      rw [q] at e
      cases e
      exact .inl (mem_of_lookup q)
  rw [hs1]
  refine wpAny_bind (bindE (s₀ := s) (env := newEnv scope s.heap.objs.size mainGlobals (cellsFrom (s.heap.objs.size + 1) scope.names cl) qual func code none builtinsNs) _ (fun _ _ _ => rfl) hk binds (fun _ => none) (fun _ => none) _ _
    ⟨⟨_, _, rfl⟩, (Heap.Ns.new s.heap (.type "frame")).keeps (pushCells_keeps _ _), fun b o e => pushCells_keeps _ _ b o (Heap.get?_push_of_some _ e), Nat.le_refl _, fun x c e hlt => ?_, fun x y c e1 e2 => ?_⟩ (fun y hy => ?_) fun s' x => wpAny_pure (hQ _ rfl s' x))
  · rcases lk x c e with q | q
    · exact (ok.empty x c q).1
    · exact absurd (Nat.lt_trans hlt (hcl x c q)) (Nat.lt_irrefl _)
  · rcases lk x c e1 with q1 | q1 <;> rcases lk y c e2 with q2 | q2
    · exact name_of_addr ok.apart q1 q2
    · exact absurd (Nat.lt_of_lt_of_le (hcl y c q2) (Nat.le_of_succ_le (ok.empty x c q1).2)) (Nat.lt_irrefl _)
    · exact absurd (Nat.lt_of_lt_of_le (hcl x c q1) (Nat.le_of_succ_le (ok.empty y c q2).2)) (Nat.lt_irrefl _)
    · exact inj x y c q1 q2
  · rcases hkind y hy with q | q
    · exact .inl q
    · refine .inr ⟨q, ?_⟩
      obtain ⟨c, hc⟩ := cell_has (n := s.heap.objs.size + 1) q
      have hm := (ok.empty y.1 c (mem_of_lookup hc)).2
      refine ⟨c, ?_, by show s.heap.objs.size < c; omega⟩
      show (cellsFrom (s.heap.objs.size + 1) scope.names cl).lookup y.1 = some c
      rw [sp, List.lookup_append, hc]
      rfl
end
/-! ### a lambda's names -/
structure LScope (L : LamT) : Prop where
  kind : L.scope.kind = .function
  co : L.scope.isCoroutine = false
  gen : L.scope.isGenerator = false
  nd : L.N.Nodup
  pre : L.N.take (L.ps.length + L.fr.length) = L.ps ++ L.fr
  par : ∀ x ∈ L.ps, L.scope.names.lookup x = some .local ∨ L.scope.names.lookup x = some .cell
  frk : ∀ x ∈ L.fr, L.scope.names.lookup x = some .free ∧ (x, NameKind.cell) ∉ L.scope.names
  free : ∀ y ∈ L.scope.names, y.2 = .free → y.1 ∈ L.fr
def lscB (L : LamT) : Bool :=
  decide (L.scope.kind = .function) && !L.scope.isCoroutine && !L.scope.isGenerator && decide L.N.Nodup && decide (L.N.take (L.ps.length + L.fr.length) = L.ps ++ L.fr) &&
    L.ps.all (fun x => decide (L.scope.names.lookup x = some .local) || decide (L.scope.names.lookup x = some .cell)) && L.fr.all (fun x => decide (L.scope.names.lookup x = some .free) && decide ((x, NameKind.cell) ∉ L.scope.names)) &&
    L.scope.names.all (fun y => !decide (y.2 = .free) || decide (y.1 ∈ L.fr))
theorem lscope_by {L : LamT} (h : lscB L = true) : LScope L := by
  unfold lscB at h
  simp only [Bool.and_eq_true, Bool.not_eq_true', decide_eq_true_eq, List.all_eq_true, Bool.or_eq_true, decide_eq_false_iff_not] at h
  obtain ⟨⟨⟨⟨⟨⟨⟨h1, h2⟩, h3⟩, h4⟩, h5⟩, h6⟩, h7⟩, h8⟩ := h
  exact ⟨h1, h2, h3, h4, h5, h6, h7, fun y hy e => (h8 y hy).elim (fun z => absurd e z) id⟩
abbrev lamEnvE (L : LamT) (q : Str) (cl : List (Str × Addr)) (c' f : Addr) (n : Addr) : Env := newEnv L.scope n mainGlobals (cellsFrom (n + 1) L.scope.names cl) (q ++ ".<locals>.") (some f) (.ref c') none builtinsNs
/-- the context of a lambda's body, at its entry -/
def lcx (P : Program) (w : World) (K : PySem.W.Frag) (mg : Str → Option Value) (base : Heap) (L : LamT) (q : Str) (cl : List (Str × Addr)) (c' f : Addr) (A : Around) (outer : List Env) (s : Shared) (H : Hp) : Cx where
  prog := P
  w := w
  K := K
  mg := mg
  base := base
  A := A.deeper (lamEnvE L q cl c' f s.heap.objs.size)
  N := L.N
  s_0 := s
  H_0 := H
  env := lamEnvE L q cl c' f s.heap.objs.size
  outer := outer
  stack := lamEnvE L q cl c' f s.heap.objs.size :: outer
  ex := []
  fn := fun x => L.scope.names.lookup x == some .cell
  calm := true
  pn := []
  xe := fun e s' => wpAny (model P w) (A.deeper (lamEnvE L q cl c' f s.heap.objs.size)) (leaving (lamEnvE L q cl c' f s.heap.objs.size) e) (fun _ s'' => L2.CX0 outer H s (fun _ _ _ => False) e s'') (fun e' s'' => L2.CX0 outer H s (fun _ _ _ => False) e' s'') s'
section
variable {P : Program} {w : World} {K : PySem.W.Frag} {mg : Str → Option Value} {base : Heap} {L : LamT} {q : Str} {cl : List (Str × Addr)} {c' f : Addr} {A : Around} {outer : List Env} {s s1 : Shared} {H : Hp} {us : List Value} {vs ws : List V}
theorem inv_startL (S : LScope L) (hd : A.handled = none) (e0 : Env0 P w K mg base A outer s H) (hl : vs.length = L.ps.length) (r : Vals vs us) (hw : ws.length = L.fr.length) (inj : ∀ x y c, cl.lookup x = some c → cl.lookup y = some c → x = y)
    (only : ∀ y c, cl.lookup y = some c → H c = none ∧ ∃ v, s.heap.IsCell c v) (cap : ∀ (i : Nat) (y : Str) (v : V), L.fr[i]? = some y → ws[i]? = some v → ∃ c u, cl.lookup y = some c ∧ RelV v u ∧ s.heap.IsCell c (some u))
    (x : InE s (lamEnvE L q cl c' f s.heap.objs.size) (bindL (lamEnvE L q cl c' f s.heap.objs.size).kindOf (L.ps.zip us) fun _ => none) (bindC (lamEnvE L q cl c' f s.heap.objs.size).kindOf (L.ps.zip us) fun _ => none) s1) :
    Inv (lcx P w K mg base L q cl c' f A outer s H) [] (NdefX.startF L.N vs (ws.map some)) H s1 := by
  have hpl : L.ps.length + L.fr.length ≤ L.N.length := by
    have z := congrArg List.length S.pre
    rw [List.length_take, List.length_append] at z
    omega
  obtain ⟨h1, tk, rfl⟩ := x.same
  have hk := x.keep
  have noA : ∀ b : Addr, b ∉ (lcx P w K mg base L q cl c' f A outer s H).ex := fun b z => absurd (show b ∈ ([] : List Addr) from z) (by simp)
  have sp := cells_split L.scope.names (s.heap.objs.size + 1) cl
  have ok := cellsFrom_ok L.scope.names (s.heap.push { cls := .type "frame", data := .dict #[] }) (s.heap.objs.size + 1) [] ⟨fun _ _ hm => (nomatch hm), List.Pairwise.nil⟩ (by rw [Heap.size_push]; exact Nat.le_refl _)
  rw [Heap.size_push] at ok
  have lk : ∀ y c, (lamEnvE L q cl c' f s.heap.objs.size).cells.lookup y = some c → ((y, NameKind.cell) ∈ L.scope.names ∧ s.heap.objs.size < c) ∨ cl.lookup y = some c := fun y c e => by
    have e : (cellsFrom (s.heap.objs.size + 1) L.scope.names cl).lookup y = some c := e
    rw [sp, List.lookup_append] at e
    cases z : (cellsFrom (s.heap.objs.size + 1) L.scope.names []).lookup y with
    | none => rw [z] at e; exact .inr e
    | some c2 =>
      rw [z] at e
      cases e
      exact .inl ⟨cells_name _ _ (mem_of_lookup z), (ok.empty y c (mem_of_lookup z)).2⟩
  have frl : ∀ y, y ∈ L.fr → (lamEnvE L q cl c' f s.heap.objs.size).cells.lookup y = cl.lookup y := fun y hy => by
    show (cellsFrom (s.heap.objs.size + 1) L.scope.names cl).lookup y = _
    rw [sp, List.lookup_append]
    cases z : (cellsFrom (s.heap.objs.size + 1) L.scope.names []).lookup y with
    | none => rfl
    | some c2 => exact absurd (cells_name _ _ (mem_of_lookup z)) (S.frk y hy).2
  have cellK : ∀ {c : Addr} {v : Option Value}, s.heap.IsCell c v → h1.IsCell c v := fun {c v} ⟨o, ho, hd⟩ => ⟨o, hk _ _ ho, hd⟩
  have frHas : ∀ y, y ∈ L.fr → ∃ c, cl.lookup y = some c := fun y hy => by
    obtain ⟨i, hi⟩ := List.mem_iff_getElem?.mp hy
    have hlt : i < L.fr.length := by
      rcases Nat.lt_or_ge i L.fr.length with z | z
      · exact z
      · rw [List.getElem?_eq_none z] at hi; cases hi
    obtain ⟨c, _, h, _⟩ := cap i y ws[i] hi (List.getElem?_eq_getElem (by omega))
    exact ⟨c, h⟩
  refine ⟨⟨e0.mod, S.kind, rfl, rfl, Nat.le_refl _, x.inj, fun y hy => ?_, fun y c h1' h2 => ?_, fun _ => hd, Around.frames_deeper e0.frames, .inr ⟨rfl, rfl⟩, fun b z => absurd z (noA b), e0.bs, e0.bsz, fun b _ _ => noA b, fun b z => absurd z (noA b), e0.funs, e0.frf⟩,
    rfl, e0.bare, Un.kept hk, ⟨_, x.ns, fun i y v e1 e2 e3 => ?_⟩, fun y c e => ?_, e0.hok.fresh (Nat.le_refl _), fun y c e => ?_, fun p hp => absurd (show p ∈ ([] : List (Addr × Obj)) from hp) (by simp), e0.hok.kept hk, ?_⟩
  · have hy : L.scope.names.lookup y = some .cell ∨ L.scope.names.lookup y = some .free := hy
    rcases hy with hy | hy
    · obtain ⟨c, hc⟩ := cell_has (n := s.heap.objs.size + 1) hy
      refine ⟨c, ?_⟩
      show (cellsFrom (s.heap.objs.size + 1) L.scope.names cl).lookup y = some c
      rw [sp, List.lookup_append, hc]
      rfl
    · have hf := S.free _ (mem_of_lookup hy) rfl
      obtain ⟨c, hc⟩ := frHas y hf
      exact ⟨c, (frl y hf).trans hc⟩
  · have h1' : (L.scope.names.lookup y == some NameKind.cell) = true := h1'
    have hy : L.scope.names.lookup y = some .cell := by simpa using h1'
    rcases lk y c h2 with z | z
    · exact Nat.le_of_lt z.2
    · exfalso
      obtain ⟨c2, hc2⟩ := cell_has (n := s.heap.objs.size + 1) hy
      have h2 : (cellsFrom (s.heap.objs.size + 1) L.scope.names cl).lookup y = some c := h2
      rw [sp, List.lookup_append, hc2] at h2
      have e3 : c2 = c := Option.some.inj h2
      obtain ⟨_, v, hv⟩ := only y c z
      subst e3
      exact absurd (Nat.lt_of_lt_of_le hv.lt (Nat.le_of_succ_le (ok.empty y c2 (mem_of_lookup hc2)).2)) (Nat.lt_irrefl _)
  · have e1 : L.N[i]? = some y := e1
    unfold NdefX.startF at e2
    by_cases hi : i < L.ps.length
    · have hq : (L.ps ++ L.fr)[i]? = some y := by
        rw [← S.pre, List.getElem?_take_of_lt (by omega)]
        exact e1
      rw [List.getElem?_append_left hi] at hq
      rw [List.getElem?_append_left (by rw [List.length_map]; omega), List.getElem?_map] at e2
      have ha : vs[i]? = some v := by
        cases e : vs[i]? with
        | none => rw [e] at e2; cases e2
        | some a => rw [e] at e2; cases e2; rfl
      obtain ⟨u, hu, rv⟩ := r.get ha
      have ndP : L.ps.Nodup := by
        have z := S.nd.sublist (List.take_sublist (L.ps.length + L.fr.length) L.N)
        rw [S.pre] at z
        exact (List.nodup_append.mp z).1
      refine ⟨u, rv, ?_⟩
      rcases S.par y (List.mem_of_getElem? hq) with k | k
      · exact .inl ⟨k, bindL_get ndP hq hu k⟩
      · obtain ⟨c, hc⟩ := cell_has (n := s.heap.objs.size + 1) k
        have e3 : (lamEnvE L q cl c' f s.heap.objs.size).cells.lookup y = some c := by
          show (cellsFrom (s.heap.objs.size + 1) L.scope.names cl).lookup y = some c
          rw [sp, List.lookup_append, hc]
          rfl
        refine .inr ⟨.inl k, c, e3, ?_⟩
        have z := x.own y c e3 (by have := (ok.empty y c (mem_of_lookup hc)).2; show s.heap.objs.size < c; omega)
        rw [bindC_get ndP hq hu (by show L.scope.names.lookup y ≠ _; rw [k]; decide)] at z
        exact z
    · rw [List.getElem?_append_right (by rw [List.length_map]; omega)] at e2
      simp only [List.length_map, hl] at e2
      by_cases h2 : i < L.ps.length + L.fr.length
      · have hq : (L.ps ++ L.fr)[i]? = some y := by
          rw [← S.pre, List.getElem?_take_of_lt (by omega)]
          exact e1
        rw [List.getElem?_append_right (by omega)] at hq
        rw [List.getElem?_append_left (by rw [List.length_map]; omega), List.getElem?_map] at e2
        have ha : ws[i - L.ps.length]? = some v := by
          cases e : ws[i - L.ps.length]? with
          | none => rw [e] at e2; cases e2
          | some a => rw [e] at e2; cases e2; rfl
        obtain ⟨c, u, hc, rv, hu⟩ := cap (i - L.ps.length) y v hq ha
        have hm := List.mem_of_getElem? hq
        exact ⟨u, rv, .inr ⟨.inr (S.frk y hm).1, c, (frl y hm).trans hc, cellK hu⟩⟩
      · rw [List.getElem?_append_right (by rw [List.length_map]; omega), List.getElem?_replicate] at e2
        split at e2 <;> cases e2
  · rcases lk y c e with z | z
    · exact ⟨_, x.own y c e z.2⟩
    · obtain ⟨_, v, hv⟩ := only y c z
      exact ⟨v, cellK hv⟩
  · rcases lk y c e with z | z
    · exact e0.hok.fresh (Nat.le_of_lt z.2)
    · exact (only y c z).1
  · unfold NdefX.startF
    show _ = L.N.length
    rw [List.length_append, List.length_append, List.length_map, List.length_replicate, List.length_map]
    omega
end
end G

namespace G
open PySem PySem.Spec PyProof.Rows L2 LamX

def E00 : XK := fun _ _ _ => False
/-! ### what the calls of lambdas promise -/
def LamP (g : Cf) (ok : Nat → LamT → Prop) (prog : Program) (w : World) (mg : Str → Option Value) (base : Heap) (n : Nat) (cc : Nat → List D → List D → M D) : Prop :=
  ∀ (li : Nat) (L : LamT), ok li L → ∀ (A : Around) (outer : List Env) (s : Shared) (H : Hp) (us : List Value) (vs : List V) (Q : VK) (q : Str) (cl : List (Str × Addr)) (c' : Addr) (pm ctv : Value) (f T : Addr) (k : Nat) (ds cs : List D) (d : D) (k' : Nat),
    Room n A → Env0 prog w g.K mg base A outer s H → s.heap.get? f = some (lamObj L q cl pm c' ctv) → s.heap.CodeRec (.ref c') q → CapOk T g.K H (fun c oc => H c = none ∧ s.heap.get? c = some oc) L cl cs → Vals vs us → WS T g.Tb H k → Dens T g.K H vs ds → cc li cs ds k = some (d, k') →
    (∀ v H', Grow T H H' → WS T g.Tb H' k' → Den T g.K H' v d → Q v H') → codeAny (model prog w) A (.call (.ref f) ⟨us, []⟩) (CR L2.CX0 outer prog w H s Q E00) s
/-- a lambda by its body -/
theorem lam_of {g : Cf} {prog : Program} {w : World} {mg : Str → Option Value} {base : Heap} {n : Nat} {L : LamT} {m : G.St → M D} (S : LScope L)
    (hb : ∀ (q : Str) (cl : List (Str × Addr)) (pm cv ctv : Value) (us : List Value), us.length = L.ps.length → bindArgs (PySem.W.kla_fn "<lambda>" q L.params L.body L.scope cl pm cv ctv) ⟨us, []⟩ = pure (L.ps.zip us))
    (hbody : ∀ (q : Str) (cl : List (Str × Addr)) (c' f : Addr) (A : Around) (outer : List Env) (s : Shared) (H : Hp), Room n (A.deeper (lamEnvE L q cl c' f s.heap.objs.size)) → PE (lcx prog w g.K mg base L q cl c' f A outer s H) L.body (tM g m))
    {A : Around} {outer : List Env} {s : Shared} {H : Hp} {us : List Value} {vs : List V} {Q : VK} {q : Str} {cl : List (Str × Addr)} {c' : Addr} {pm ctv : Value} {f T : Addr} {k : Nat} {ds cs : List D} {d : D} {k' : Nat}
    (hr : Room (n + 1) A) (e0 : Env0 prog w g.K mg base A outer s H) (hf : s.heap.get? f = some (lamObj L q cl pm c' ctv)) (hcd : s.heap.CodeRec (.ref c') q) (C : CapOk T g.K H (fun c oc => H c = none ∧ s.heap.get? c = some oc) L cl cs) (rv : Vals vs us) (W : WS T g.Tb H k) (hd : Dens T g.K H vs ds)
    (hl : ds.length = L.ps.length) (em : m (ds.map .fr ++ (cs.map .fr ++ List.replicate (L.N.length - ds.length - cs.length) .un)) k = some (d, k')) (hq : ∀ v H', Grow T H H' → WS T g.Tb H' k' → Den T g.K H' v d → Q v H') :
    codeAny (model prog w) A (.call (.ref f) ⟨us, []⟩) (CR L2.CX0 outer prog w H s Q E00) s := by
  have hvl : vs.length = L.ps.length := hd.length.trans hl
  have hul : us.length = L.ps.length := by rw [← rv.length]; exact hvl
  -- the captured values
  have hcap : ∃ ws : List V, ws.length = L.fr.length ∧ Dens T g.K H ws cs ∧ ∀ (i : Nat) (y : Str) (v : V), L.fr[i]? = some y → ws[i]? = some v → ∃ c u, cl.lookup y = some c ∧ RelV v u ∧ s.heap.IsCell c (some u) := by
    have key : ∀ (fr : List Str) (cs : List D), cs.length = fr.length → (∀ (i : Nat) (y : Str) (d : D), fr[i]? = some y → cs[i]? = some d → ∃ c oc u v, cl.lookup y = some c ∧ (H c = none ∧ s.heap.get? c = some oc) ∧ oc.data = .cell (some u) ∧ RelV v u ∧ Den T g.K H v d) →
        ∃ ws : List V, ws.length = fr.length ∧ Dens T g.K H ws cs ∧ ∀ (i : Nat) (y : Str) (v : V), fr[i]? = some y → ws[i]? = some v → ∃ c u, cl.lookup y = some c ∧ RelV v u ∧ s.heap.IsCell c (some u) := by
      intro fr
      induction fr with
      | nil =>
        intro cs h1 _
        cases cs with
        | nil => exact ⟨[], rfl, .nil, fun i y v e => by simp at e⟩
        | cons _ _ => simp at h1
      | cons y fr ih =>
        intro cs h1 h2
        cases cs with
        | nil => simp at h1
        | cons d cs =>
          obtain ⟨ws, i1, i2, i3⟩ := ih cs (by simpa using h1) fun i z d' e1 e2 => h2 (i + 1) z d' (by simpa using e1) (by simpa using e2)
          obtain ⟨c, oc, u, v, a1, a2, a3, a4, a5⟩ := h2 0 y d rfl rfl
          refine ⟨v :: ws, by simp [i1], .cons a5 i2, fun i z v' e1 e2 => ?_⟩
          cases i with
          | zero => cases e1; cases e2; exact ⟨c, u, a1, a4, oc, a2.2, a3⟩
          | succ i => exact i3 i z v' (by simpa using e1) (by simpa using e2)
    exact key L.fr cs C.len C.at'
  obtain ⟨ws, hwl, hws, hwc⟩ := hcap
  have hclt : ∀ x c, cl.lookup x = some c → H c = none ∧ ∃ v, s.heap.IsCell c v := fun x c e => by
    obtain ⟨i, hi⟩ := List.mem_iff_getElem?.mp (C.only x c e)
    have hlt : i < L.fr.length := by
      rcases Nat.lt_or_ge i L.fr.length with z | z
      · exact z
      · rw [List.getElem?_eq_none z] at hi; cases hi
    have hlc : i < cs.length := by rw [C.len]; exact hlt
    obtain ⟨c2, oc, u, v, a1, a2, a3, _⟩ := C.at' i x cs[i] hi (List.getElem?_eq_getElem hlc)
    rw [e] at a1
    cases a1
    exact ⟨a2.1, some u, oc, a2.2, a3⟩
  have lim : s.heap.NoLimit := e0.mod.nolimit.keeps fun b o e => (e0.bs b o e).1
  refine PySem.W.kla_callFunE hr.depth hf rfl S.co S.gen rfl hcd ?_
  rw [hb q cl pm (.ref c') ctv us hul]
  refine wpAny_pure (frameE S.kind (fun x c e => by obtain ⟨_, v, hv⟩ := hclt x c e; exact hv.lt) C.inj (fun ⟨y, u⟩ hy => S.par y (List.of_mem_zip hy).1) fun env he s1 x => ?_)
  subst he
  refine ⟨lim.keeps x.keep, ?_⟩
  have I := inv_startL (L := L) (q := q) (cl := cl) (c' := c') (f := f) (w := w) S hr.hd e0 hvl rv hwl C.inj hclt hwc x
  have r0 : SR T g.K g.CL (ds.map .fr ++ (cs.map .fr ++ List.replicate (L.N.length - ds.length - cs.length) .un)) (NdefX.startF L.N vs (ws.map some)) H := by
    have hpl : L.ps.length + L.fr.length ≤ L.N.length := by
      have z := congrArg List.length S.pre
      rw [List.length_take, List.length_append] at z
      omega
    have hcl := C.len
    unfold NdefX.startF
    refine ⟨by simp [hvl, hl, hwl, hcl], fun i sl e => ?_, fun i j d1 d2 a e1 _ => ?_⟩
    · by_cases h1 : i < ds.length
      · rw [List.getElem?_append_left (by simpa using h1), List.getElem?_map, List.getElem?_eq_getElem h1] at e
        cases e
        obtain ⟨v, h3, h4⟩ := hd.get (List.getElem?_eq_getElem h1)
        rw [List.getElem?_append_left (by rw [List.length_map]; omega), List.getElem?_map, h3]
        exact h4
      · rw [List.getElem?_append_right (by simpa using h1), List.length_map] at e
        rw [List.getElem?_append_right (by rw [List.length_map]; omega)]
        simp only [List.length_map, hvl, ← hl]
        by_cases h2 : i - ds.length < cs.length
        · rw [List.getElem?_append_left (by simpa using h2), List.getElem?_map, List.getElem?_eq_getElem h2] at e
          cases e
          obtain ⟨v, h3, h4⟩ := hws.get (List.getElem?_eq_getElem h2)
          rw [List.getElem?_append_left (by rw [List.length_map]; omega), List.getElem?_map, h3]
          exact h4
        · rw [List.getElem?_append_right (by simpa using h2), List.getElem?_replicate] at e
          split at e
          · cases e; exact True.intro
          · cases e
    · exfalso
      by_cases h1 : i < ds.length
      · rw [List.getElem?_append_left (by simpa using h1), List.getElem?_map, List.getElem?_eq_getElem h1] at e1
        cases e1
      · rw [List.getElem?_append_right (by simpa using h1), List.length_map] at e1
        by_cases h2 : i - ds.length < cs.length
        · rw [List.getElem?_append_left (by simpa using h2), List.getElem?_map, List.getElem?_eq_getElem h2] at e1
          cases e1
        · rw [List.getElem?_append_right (by simpa using h2), List.getElem?_replicate] at e1
          split at e1 <;> cases e1
  refine PySem.W.kla_codeExpr (wpAny_mono ((hbody q cl c' f A outer s H (hr.deeper _)).run [] s1 _ H Q I ⟨T, k, _, d, k', W, r0, em, hq⟩) (fun v s' hs => ?_) fun e s' hs => hs)
  obtain ⟨w', H', J', rv', q'⟩ := hs
  exact ⟨w', H', J'.os, J'.bare, J'.base, J'.hok, rv', q'⟩
section
variable {g : Cf} {X : Cx} {pins : List (Addr × Obj)} {σ : L2.St} {H : Hp} {s : Shared} {ok : Nat → LamT → Prop} {cc : Nat → List D → List D → M D} {n i : Nat} {x : Str} {e : Expr} {es : List Expr} {p pos : Pos} {fs : G.St → M (List D)}
theorem getC_some {st : G.St} {k : Nat} {r : (Nat × List D) × Nat} (h : getC st i k = some r) : st[i]? = some (.cl r.1.1 r.1.2) ∧ r.2 = k := by
  unfold getC at h
  cases e : st[i]? with
  | none => rw [e] at h; exact absurd h (no_some (k := k))
  | some sl =>
    rw [e] at h
    cases sl with
    | cl a b => cases pure_some.mp h; exact ⟨rfl, rfl⟩
    | _ => exact absurd h (no_some (k := k))
/-- what was captured, as cells that are left out while the lambda runs -/
def capCells (L : LamT) (cl : List (Str × Addr)) : List Addr := L.fr.filterMap fun y => cl.lookup y
theorem capPins {T : Addr} {K : PySem.W.Frag} {L : LamT} {cl : List (Str × Addr)} {cs : List D} (C : CapOk T K H (fun c oc => H c = some (PinO c oc)) L cl cs) : Pins H (capCells L cl) ∧ ∀ b ∈ capCells L cl, ∃ oc u, H b = some (PinO b oc) ∧ oc.data = .cell (some u) := by
  have key : ∀ b ∈ capCells L cl, ∃ oc u, H b = some (PinO b oc) ∧ oc.data = .cell (some u) := fun b hb => by
    obtain ⟨y, hy, e⟩ := List.mem_filterMap.mp hb
    obtain ⟨i, hi⟩ := List.mem_iff_getElem?.mp hy
    have hlt : i < L.fr.length := by
      rcases Nat.lt_or_ge i L.fr.length with z | z
      · exact z
      · rw [List.getElem?_eq_none z] at hi; cases hi
    have hlc : i < cs.length := by rw [C.len]; exact hlt
    obtain ⟨c, oc, u, v, a1, a2, a3, _⟩ := C.at' i y cs[i] hi (List.getElem?_eq_getElem hlc)
    rw [e] at a1
    cases a1
    exact ⟨oc, u, a2, a3⟩
  exact ⟨fun b hb => by obtain ⟨oc, _, e, _⟩ := key b hb; exact ⟨oc, e⟩, key⟩
/-- f(..), f a lambda that this def got -/
theorem pm_callv (hK : X.K = g.K) (hCL : g.CL = cloOf ok g.K) (P : LamP g ok X.prog X.w X.mg X.base n cc) (hr : Room n X.A) (hN : X.N[i]? = some x) (hv : Vis X.env.scope x) (hd : (x == ("__debug__" : Str)) = false) (hcd : (x == ("__classdict__" : Str)) = false)
    (hs : ∀ e' ∈ e :: es, ∀ v p, e' ≠ .Starred v p) (ha : PA X (e :: es) (tMA g fs)) :
    PE X (.Call (.Name x p) (e :: es) [] pos) (tM g fun st => do let (li, cs) ← getC st i; let ds ← fs st; cc li cs ds) := by
  refine ⟨fun pins s σ H Q I h => ?_⟩
  obtain ⟨T, k, st, d, k', w, r, em, q⟩ := h
  obtain ⟨⟨li, cs⟩, k1, e1, e2⟩ := bind_some.mp em
  obtain ⟨ds, k2, e3, e4⟩ := bind_some.mp e2
  obtain ⟨e5, e6⟩ := getC_some e1
  have e6 : k1 = k := e6
  subst e6
  have so := r.at' i _ e5
  have hslot : ∃ f, σ[i]? = some (some (.ref f)) ∧ g.CL H f li cs T := by
    cases o1 : σ[i]? with
    | none => rw [o1] at so; exact so.elim
    | some o2 =>
      cases o2 with
      | none => rw [o1] at so; exact so.elim
      | some v =>
        rw [o1] at so
        obtain ⟨f, f1, f2⟩ := so
        exact ⟨f, by rw [f1], f2⟩
  obtain ⟨f, hsf, hf⟩ := hslot
  have fnat : ∀ {s1 : Shared} {H1 : Hp} {pins1 σ1}, Inv X pins1 σ1 H1 s1 → g.CL H1 f li cs T → ∃ L q cl c' pm ctv, s1.heap.get? f = some (lamObj L q cl pm c' ctv) := fun {s1 H1 _ _} I1 h1 => by
    rw [hCL] at h1
    obtain ⟨L, q, cl, c', pm, ctv, a1, a2, _⟩ := h1
    exact ⟨L, q, cl, c', pm, ctv, PinO.at I1.hok a2⟩
  refine wpAny_Call_Name_kw (thn ((pe_var (pos := p) (i := i) hN hv hd hcd).run pins s σ H (fun v H1 => v = .ref f ∧ H1 = H) I ⟨.ref f, hsf, rfl, rfl⟩) fun u s1 ⟨v, H1, I1, r1, q1⟩ => ?_)
  obtain ⟨ev, eH⟩ := q1
  subst ev
  rw [eH] at I1
  obtain rfl : u = Value.ref f := r1
  obtain ⟨L0, q0, cl0, c0, pm0, ctv0, of1⟩ := fnat I1 hf
  refine PySem.W.callWith_F (first := []) ⟨_, _, _, _, of1⟩ (thn (ha.run pos pins s1 σ H (fun vs H2 => ∃ k3, Grow T H H2 ∧ WS T g.Tb H2 k3 ∧ Dens T g.K H2 vs ds ∧ cc li cs ds k3 = some (d, k')) I1 ⟨T, _, st, ds, k2, w, r, e3, fun vs H2 g2 w2 d2 => ⟨k2, g2, w2, d2, e4⟩⟩) fun us s2 hu => ?_)
    (starEach_ok (hs e List.mem_cons_self)) (noStars fun e' he => hs e' (List.mem_cons_of_mem _ he))
  obtain ⟨vs, H2, I2, rv, k3, g2, w2, d2, e7⟩ := hu
  have hf2 : g.CL H2 f li cs T := g.stays _ _ _ _ _ _ (g2.keeps w.town) hf
  obtain ⟨L1, q1, cl1, c1, pm1, ctv1, of2⟩ := fnat I2 hf2
  refine ⟨⟨_, _, _, _, of2⟩, ?_⟩
  show wpAny _ _ (call (.ref f) us) _ _ _
  rw [hCL] at hf2
  obtain ⟨L, q', cl, c', pm, ctv, a1, a2, a3, a4⟩ := hf2
  obtain ⟨pn, pcell⟩ := capPins a4
  have hok2 := I2.hok
  have ncode : ∀ b ∈ capCells L cl, ∀ q, H2 b ≠ some (CodeO b q) := fun b hb qq z => by
    obtain ⟨oc, u, b1, b2⟩ := pcell b hb
    obtain ⟨⟨oc2, vs2, t2, z1, z2, z3⟩, _⟩ := hok2 b _ z
    have b3 := PinO.at hok2 b1
    rw [b3] at z1
    cases z1
    rw [b2] at z2
    cases z2
  have nmem : ∀ b ∈ capCells L cl, ∀ m, H2 b ≠ some (MemO b m) := fun b hb m z => by
    obtain ⟨oc, u, b1, b2⟩ := pcell b hb
    obtain ⟨o, es, ep, z1, z2⟩ := memP_dict (hok2 b _ z).1
    have b3 := PinO.at hok2 b1
    rw [b3] at z1
    cases z1
    rw [b2] at z2
    cases z2
  have kd := KD.unt (l := capCells L cl) pn nmem
  have C2 : CapOk T g.K (unt H2 (capCells L cl)) (fun c oc => unt H2 (capCells L cl) c = none ∧ s2.heap.get? c = some oc) L cl cs := by
    refine ⟨a4.len, a4.inj, a4.only, fun j y dd j1 j2 => ?_⟩
    obtain ⟨c, oc, u, v, b1, b2, b3, b4, b5⟩ := a4.at' j y dd j1 j2
    exact ⟨c, oc, u, v, b1, ⟨unt_in (List.mem_filterMap.mpr ⟨y, List.mem_of_getElem? j1, b1⟩), PinO.at hok2 b2⟩, b3, b4, Den.kd kd _ _ b5⟩
  have hcode : s2.heap.CodeRec (.ref c') q' := NdefX.codeO_at hok2 a3
  have run2 := P li L a1 X.A X.stack s2 (unt H2 (capCells L cl)) us vs (fun v H' => (∀ b ∈ capCells L cl, H' b = none) → Q v (ret H' H2 (capCells L cl))) q' cl c' pm ctv f T k3 ds cs d k' hr (by have z := inv_env0U I2 pn; rw [hK] at z; exact z) (PinO.at hok2 a2) hcode C2 rv (w2.unt pn ncode) (Dens.kd kd _ _ d2) e7
    (fun v H' g3 w3 d3 nn => q v _ (g2.trans (g3.ret pn)) (w3.ret nn) (Den.kd (KD.ret nn) _ _ d3))
  refine wpAny_call (codeAny_mono run2 fun rr s' hq => ?_)
  cases rr with
  | error e => exact (show False from hq).elim
  | ok fl =>
    cases fl with
    | ret u =>
      obtain ⟨v, H', os, bare, un, hok, rr, qq⟩ := (show CE X.stack X.prog X.w (unt H2 (capCells L cl)) s2 _ u s' from hq)
      refine inv_afterU I2 pn ⟨v, H', os, bare, un, hok, rr, qq fun b hb => ?_⟩
      obtain ⟨oc, u', b1, b2⟩ := pcell b hb
      exact un.free b oc (PinO.at hok2 b1) (unt_in hb) (by simp)
    | next => exact False.elim hq
    | brk => exact False.elim hq
    | cont => exact False.elim hq
end
end G

namespace G
open PySem PySem.Spec PyProof.Rows L2 LamX

section
variable {X : Cx} {pins : List (Addr × Obj)} {σ : L2.St} {H : Hp} {s : Shared}
/-- the function object just made is pinned -/
theorem inv_pin {o : Obj} {t' : Nat} (I : Inv X pins σ H s) (hs : o.isFreed = false) : Inv X pins σ (upd H s.heap.objs.size (PinO s.heap.objs.size o)) { s with heap := s.heap.push o, toks := t' } := by
  refine I.laid (a := s.heap.objs.size) (fun b u e => Heap.get?_push_of_some _ e) (Nat.le_refl _) ?_
  exact PinO.ok (Heap.get?_push_size _ hs)
theorem upd_nn {H : Hp} {a b : Addr} {o : HO} (e : upd H a o b = Option.none) : H b = Option.none := by
  unfold upd at e
  split at e
  · cases e
  · exact e
/-- a lambda is made: it is pinned, its code object is known -/
theorem lam_mk {Tb : List (Addr × Str)} {c P : Addr} {L : LamT} {pos : Pos} {E : Value → Shared → Prop} {Q : Value → Shared → Prop} (I : Inv X pins σ H s) (TB : TabB X.base X.mg c P) (hcode : X.env.code = .ref c)
    (hm : (P, X.env.qual ++ "<lambda>") ∈ Tb) (hu : ∀ p ∈ Tb, p.1 = P → p.2 = X.env.qual ++ "<lambda>") (hT : LamX.Tabs Tb H) (hdef : defaultsOf L.params X.env = ([], [])) (hfree : ∀ y ∈ L.scope.names, y.2 = .free → ∃ c, X.env.cells.lookup y.1 = some c)
    (h : ∀ (f c' : Addr) (pm ctv : Value) (H1 : Hp) (s' : Shared), Inv X pins σ H1 s' → (∀ b o, H b = some o → (∀ ps, o ≠ .tbl ps) → H1 b = some o) → (∀ b, H1 b = Option.none → H b = Option.none) → LamX.Tabs Tb H1 → H f = Option.none →
      H1 f = some (PinO f (lamObj L (X.env.qual ++ "<lambda>") (cloFrom X.env.cells L.scope.names []) pm c' ctv)) → H1 c' = some (CodeO c' (X.env.qual ++ "<lambda>")) → Q (.ref f) s') :
    wpAny (model X.prog X.w) X.A (eval (.Lambda L.params L.body L.scope pos) X.env) Q E s := by
  obtain ⟨ps, hP, ht, ha⟩ := hT _ hm
  have bP : s.heap.BuiltinsAt X.mg P := TB.bm.keeps I.bk
  have hP' : s.heap.get? P = some { cls := .none, data := .fields ps } := I.hok P _ hP
  refine PySem.W.kla_eval hdef ?_
  cases hc : codeAmong pos ps.toList with
  | none =>
    refine PySem.W.kla_makeFunction (c := c) (P := P) (mg := X.mg) (ps := ps) (closure_ok hfree) I.ok.glob (I.mod.glob.keeps I.bk) hcode (TB.code.keeps I.bk) hP' ht hc TB.gP bP ?_
    intro c' ctv h' tk hx hge hlt hrec htb
    obtain ⟨c2, oc, vs, t, e2, hoc, hd, hv⟩ := hrec
    cases e2
    have nC : H c' = Option.none := I.hok.fresh hge
    have I1 := inv_table (t' := tk) (more := #[rawInt pos.line, rawInt pos.col, .ref c']) (h' := h') (q := X.env.qual ++ "<lambda>") I hP (fun b o hb e => hx b o hb e) htb hge ⟨oc, vs, t, hoc, hd, hv⟩
    have nF := I1.hok.fresh (Nat.le_refl h'.objs.size)
    have I2 := inv_pin (t' := tk) (o := lamObj L (X.env.qual ++ "<lambda>") (cloFrom X.env.cells L.scope.names []) ((X.mg "__name__").getD .none) c' ctv) I1 rfl
    have grow : ∀ b o, H b = some o → (∀ ps, o ≠ .tbl ps) → upd (upd H P (.tbl (ps ++ #[rawInt pos.line, rawInt pos.col, .ref c']))) c' (CodeO c' (X.env.qual ++ "<lambda>")) b = some o := fun b o e n => by
      have nb : b ≠ c' := ne_of_none e nC
      have nP : b ≠ P := fun z => by rw [z, hP] at e; exact n ps (Option.some.inj e).symm
      rw [upd_ne nb, upd_ne nP]
      exact e
    have eL : (ps ++ #[rawInt pos.line, rawInt pos.col, .ref c']).toList = ps.toList ++ [rawInt pos.line, rawInt pos.col, .ref c'] := by simp
    have T1 : LamX.Tabs Tb (upd (upd H P (.tbl (ps ++ #[rawInt pos.line, rawInt pos.col, .ref c']))) c' (CodeO c' (X.env.qual ++ "<lambda>"))) := fun p hp => by
      have old : ∀ c0, H c0 = some (CodeO c0 p.2) → upd (upd H P (.tbl (ps ++ #[rawInt pos.line, rawInt pos.col, .ref c']))) c' (CodeO c' (X.env.qual ++ "<lambda>")) c0 = some (CodeO c0 p.2) := fun c0 e => grow _ _ e codeO_ne
      by_cases hb : p.1 = P
      · refine ⟨_, by rw [hb, upd_ne (ne_of_none hP nC), upd_same], by rw [eL]; exact PySem.TriplesOk_snoc _ _ _ _ ht, fun p' cv hcv => ?_⟩
        rw [eL] at hcv
        rw [hu p hp hb] at old ⊢
        rcases among_app _ ht hcv with z | z
        · obtain ⟨c0, e1, e2⟩ := ha p' cv z
          exact ⟨c0, e1, old c0 e2⟩
        · exact ⟨c', z, upd_same⟩
      · obtain ⟨ps', a1, a2, a3⟩ := hT p hp
        refine ⟨ps', by rw [upd_ne (ne_of_none a1 nC), upd_ne hb]; exact a1, a2, fun p' cv hcv => ?_⟩
        obtain ⟨c0, e1, e2⟩ := a3 p' cv hcv
        exact ⟨c0, e1, old c0 e2⟩
    refine h h'.objs.size c' _ _ _ _ I2 (fun b o e n => ?_) (fun b e => upd_nn (upd_nn (upd_nn e))) (T1.ext fun b o e => ?_) (I.hok.fresh (Nat.le_trans hge (Nat.le_of_lt hlt))) upd_same ?_
    · have e1 := grow b o e n
      exact (upd_ne (ne_of_none e1 nF)).trans e1
    · exact (upd_ne (ne_of_none e nF)).trans e
    · exact (upd_ne (Nat.ne_of_lt hlt)).trans upd_same
  | some cv =>
    obtain ⟨c', e, hco⟩ := ha pos cv hc
    subst e
    refine PySem.W.kla_makeFunctionHit (c := c) (P := P) (mg := X.mg) (ps := ps) (closure_ok hfree) I.ok.glob (I.mod.glob.keeps I.bk) hcode (TB.code.keeps I.bk) hP' ht hc bP ?_
    intro ctv h' tk hx hsz
    have I1 : Inv X pins σ H { s with heap := h', toks := tk } := I.kept hx
    have nF : H h'.objs.size = Option.none := I1.hok.fresh (Nat.le_refl _)
    have I2 := inv_pin (t' := tk) (o := lamObj L (X.env.qual ++ "<lambda>") (cloFrom X.env.cells L.scope.names []) ((X.mg "__name__").getD .none) c' ctv) I1 rfl
    refine h h'.objs.size c' _ _ _ _ I2 (fun b o e n => ?_) (fun b e => upd_nn e) (hT.ext fun b o e => ?_) nF upd_same ?_
    · exact (upd_ne (ne_of_none e nF)).trans e
    · exact (upd_ne (ne_of_none e nF)).trans e
    · exact (upd_ne (ne_of_none hco nF)).trans hco
end
/-! ### f(e, lambda ..) -/
/-- what a def promises whose last argument is a lambda -/
def spX (g : Cf) (n : Nat) (h : List D → Nat → List D → M D) : Sp := fun vs H Q E => ∃ T k ds li cs d k' vs0 f, vs = vs0 ++ [.ref f] ∧ ds.length + 1 = n ∧ WS T g.Tb H k ∧ Dens T g.K H vs0 ds ∧ g.CL H f li cs T ∧ h ds li cs k = some (d, k') ∧ ∀ v H', Grow T H H' → WS T g.Tb H' k' → Den T g.K H' v d → Q v H'
def spFX (g : Cf) (n : Nat) (h : List D → M D) (hx : List D → Nat → List D → M D) : Sp := fun vs H Q E => spF g n h vs H Q E ∨ spX g n hx vs H Q E
/-- some cells are pinned -/
def tra (H : Hp) (h : Heap) (l : List Addr) : Hp := fun b => if b ∈ l then (h.get? b).map (PinO b) else H b
theorem tra_in {H : Hp} {h : Heap} {l : List Addr} {b : Addr} {o : Obj} (hb : b ∈ l) (e : h.get? b = some o) : tra H h l b = some (PinO b o) := by
  unfold tra
  rw [if_pos hb, e]
  rfl
theorem tra_out {H : Hp} {h : Heap} {l : List Addr} {b : Addr} (hb : b ∉ l) : tra H h l b = H b := if_neg hb
/-- what may be pinned: it stands, untracked, not of the base, no frame -/
structure CanPin (X : Cx) (H : Hp) (h : Heap) (l : List Addr) : Prop where
  there : ∀ b ∈ l, ∃ o, h.get? b = some o
  free : ∀ b ∈ l, H b = none
  base : ∀ b ∈ l, X.base.get? b = none
  nofr : ∀ b ∈ l, b ∉ frs X.stack
section
variable {X : Cx} {pins : List (Addr × Obj)} {σ : L2.St} {H H' : Hp} {s s' : Shared} {l : List Addr} {T : Addr} {Tb : List (Addr × Str)} {k : Nat}
theorem CanPin.out (C : CanPin X H s.heap l) {b : Addr} {o : HO} (e : H b = some o) : b ∉ l := fun z => by rw [C.free b z] at e; cases e
theorem CanPin.env0 (I : Inv X pins σ H s) (C : CanPin X H s.heap l) : Env0 X.prog X.w X.K X.mg X.base X.A X.stack s (tra H s.heap l) := by
  have e := I.env0
  refine ⟨e.frames, e.mod, fun b o q => ⟨(e.bs b o q).1, ?_⟩, e.bsz, e.funs, fun b hb => ?_, fun b u q => ?_, e.bare⟩
  · rw [tra_out (fun z => by rw [C.base b z] at q; cases q)]
    exact (e.bs b o q).2
  · rw [tra_out (fun z => C.nofr b z hb)]
    exact e.frf b hb
  · by_cases hb : b ∈ l
    · obtain ⟨o, ho⟩ := C.there b hb
      rw [tra_in hb ho] at q
      cases q
      exact PinO.ok ho
    · rw [tra_out hb] at q
      exact (e.hok b u q).stay (fun c v _ z => z) (fun c z => by rw [tra_out (C.out z)]; exact z) fun c xs z => by rw [tra_out (C.out z)]; exact z
theorem CanPin.kd (C : CanPin X H s.heap l) : KD H (tra H s.heap l) := ⟨fun a xs e => by rw [tra_out (C.out e)]; exact e, fun a o xs e => by rw [tra_out (C.out e)]; exact e, fun a D dx fs e => by rw [tra_out (C.out e)]; exact e, fun a m e => by rw [tra_out (C.out e)]; exact e⟩
theorem CanPin.ws (C : CanPin X H s.heap l) (w : WS T Tb H k) : WS T Tb (tra H s.heap l) k := by
  refine ⟨⟨by rw [tra_out (C.out w.town.1)]; exact w.town.1, w.town.2⟩, fun q hq => ?_⟩
  obtain ⟨ps, h1, h2, h3⟩ := w.tabs q hq
  refine ⟨ps, by rw [tra_out (C.out h1)]; exact h1, h2, fun pos cv hc => ?_⟩
  obtain ⟨c, e1, e2⟩ := h3 pos cv hc
  exact ⟨c, e1, by rw [tra_out (C.out e2)]; exact e2⟩
theorem CanPin.grow (C : CanPin X H s.heap l) (gr : Grow T (tra H s.heap l) H') : Grow T H (unt H' l) := by
  refine ⟨fun a o e hT ht => ?_, fun a e => ?_⟩
  · have na := C.out e
    rw [unt_out na]
    exact gr.keep a o (by rw [tra_out na]; exact e) hT ht
  · by_cases ha : a ∈ l
    · exact C.free a ha
    · rw [unt_out ha] at e
      have z := gr.none a e
      rw [tra_out ha] at z
      exact z
theorem CanPin.pinAt (C : CanPin X H s.heap l) (gr : Grow T (tra H s.heap l) H') (w : WS T Tb H k) : ∀ b ∈ l, ∃ o, s.heap.get? b = some o ∧ H' b = some (PinO b o) := fun b hb => by
  obtain ⟨o, ho⟩ := C.there b hb
  refine ⟨o, ho, gr.keep b _ (tra_in hb ho) (fun z => ?_) (fun _ z => nomatch z)⟩
  have := w.town.1
  rw [← z, C.free b hb] at this
  cases this
theorem CanPin.after {Q : VK} {u : Value} (I : Inv X pins σ H s) (C : CanPin X H s.heap l) (w : WS T Tb H k) (h : CE X.stack X.prog X.w (tra H s.heap l) s (fun v H' => Grow T (tra H s.heap l) H' ∧ Q v (unt H' l)) u s') : EP X pins σ Q u s' := by
  obtain ⟨v, H', os, bare, un, hok, r, gr, q⟩ := h
  have pn := C.pinAt gr w
  have un2 : Un (frs X.stack) [] H (unt H' l) s.heap s'.heap := by
    refine ⟨fun b o e n hf hx => ?_, fun b o e n hf hx => ?_, fun b o e n hx => ?_, fun b o e hx => un.there b o e hx, fun b xs e => ?_, fun b o u e => ?_, fun b ps e => ?_⟩
    · by_cases hb : b ∈ l
      · obtain ⟨o', e1, e2⟩ := pn b hb
        rw [e] at e1
        cases e1
        exact PinO.at hok e2
      · exact un.keep b o e (by rw [tra_out hb]; exact n) hf hx
    · exact un.slot b o e (by rw [tra_out (fun z => C.nofr b z hf)]; exact n) hf hx
    · by_cases hb : b ∈ l
      · exact unt_in hb
      · rw [unt_out hb]; exact un.free b o e (by rw [tra_out hb]; exact n) hx
    · rw [unt_out (C.out e)]; exact un.tups b xs (by rw [tra_out (C.out e)]; exact e)
    · rw [unt_out (C.out e)]; exact un.frzs b o u (by rw [tra_out (C.out e)]; exact e)
    · rw [unt_out (C.out e)]; exact un.tbls b ps (by rw [tra_out (C.out e)]; exact e)
  obtain ⟨hh, g, d, t, os'⟩ := s'
  obtain rfl : os' = s.os := os
  exact ⟨v, _, I.call (h' := hh) (g' := g) (d' := d) (t' := t) (ch := []) un2 (hok_unt (fun b hb => by obtain ⟨o, _, e⟩ := pn b hb; exact ⟨o, e⟩) hok) bare (fun b z => absurd z (by simp)), r, q⟩
end
section
variable {g : Cf} {X : Cx} {ok : Nat → LamT → Prop} {n m li : Nat} {x : Str} {e : Expr} {p pos lpos : Pos} {f0 : G.St → M D} {h : List D → Nat → List D → M D} {is : List Nat}
theorem caps_some {st : G.St} : ∀ {is : List Nat} {k : Nat} {r : List D × Nat}, caps st is k = some r → r.2 = k ∧ r.1.length = is.length ∧ ∀ (i j : Nat) (d : D), is[i]? = some j → r.1[i]? = some d → st[j]? = some (.fr d)
  | [], k, r, e => by cases pure_some.mp e; exact ⟨rfl, rfl, fun i j d z => by simp at z⟩
  | a :: is, k, r, e => by
    obtain ⟨d, k1, e1, e2⟩ := bind_some.mp (show (do let d ← getV st a; let ds ← caps st is; pure (d :: ds) : M (List D)) k = some r from e)
    obtain ⟨ds, k2, e3, e4⟩ := bind_some.mp e2
    cases pure_some.mp e4
    have hv : st[a]? = some (.fr d) ∧ k1 = k := by
      unfold getV at e1
      cases z : st[a]? with
      | none => rw [z] at e1; exact absurd e1 (no_some (k := k))
      | some sl =>
        rw [z] at e1
        cases sl with
        | fr d' => cases pure_some.mp e1; exact ⟨rfl, rfl⟩
        | _ => exact absurd e1 (no_some (k := k))
    obtain ⟨i1, i2, i3⟩ := caps_some e3
    refine ⟨i1.trans hv.2, by simp [i2], fun i j d' z1 z2 => ?_⟩
    cases i with
    | zero => cases z1; cases z2; exact hv.1
    | succ i => exact i3 i j d' (by simpa using z1) (by simpa using z2)
/-- x(e, lambda ..), x a def of the module -/
theorem pm_callL {L : LamT} {c P fa : Addr} {fd : FuncData} {ps : List Str} (hK : X.K = g.K) (hCL : g.CL = cloOf ok g.K) (hL : ok li L) (S : LScope L) (F : FnOk X.prog X.w X.K X.mg X.base L2.CX0 n fa fd ps (spX g 2 h)) (hr : Room n X.A) (hg : Gl X x) (hm : X.mg x = some (.ref fa))
    (hk : PySem.W.keepIn X.K (.ref fa) = true) (hb : Binds X.K fd ps []) (hd : (x == ("__debug__" : Str)) = false) (hs : ∀ v p, e ≠ .Starred v p) (he : PE X e (tM g f0))
    (TB : TabB X.base X.mg c P) (hcode : X.env.code = .ref c) (hmT : (P, X.env.qual ++ "<lambda>") ∈ g.Tb) (hu : ∀ p ∈ g.Tb, p.1 = P → p.2 = X.env.qual ++ "<lambda>") (hdef : defaultsOf L.params X.env = ([], []))
    (hfn : ∀ y, X.fn y = true) (hil : is.length = L.fr.length) (his : ∀ (i : Nat) (y : Str) (j : Nat), L.fr[i]? = some y → is[i]? = some j → X.N[j]? = some y ∧ X.env.scope.names.lookup y = some .cell) :
    PE X (.Call (.Name x p) [e, .Lambda L.params L.body L.scope lpos] [] pos) (tM g fun st => do let d ← f0 st; let cs ← caps st is; h [d] li cs) := by
  refine ⟨fun pins s σ H Q I hq => ?_⟩
  obtain ⟨T, k, st, d, k', w, r, em, q⟩ := hq
  obtain ⟨d0, k1, e1, e2⟩ := bind_some.mp em
  obtain ⟨cs, k2, e3, e4⟩ := bind_some.mp e2
  obtain ⟨z1, z2, z3⟩ := caps_some e3
  have z1 : k2 = k1 := z1
  subst z1
  have z2 : cs.length = is.length := z2
  refine wpAny_Call_Name_kw (ld_glob I hg hm ?_ hd)
  refine PySem.W.callWith_K (h₀ := X.base) I.ok.mod.kin hk ?_ (starEach_ok hs) (by rfl)
  rw [starEach_ok hs]
  show wpAny _ _ (spliced ((false, eval e X.env) :: backTo pos (starEach [.Lambda L.params L.body L.scope lpos] X.env))) _ _ s
  refine Calls.spliced_cons (thn (he.run pins s σ H (fun v H1 => Grow T H H1 ∧ WS T g.Tb H1 k2 ∧ Den T g.K H1 v d0) I ⟨T, k, st, d0, _, w, r, e1, fun v H1 g1 w1 d1 => ⟨g1, w1, d1⟩⟩) fun u s1 hu1 => ?_)
  obtain ⟨v0, H1, I1, r1, g1, w1, d1⟩ := hu1
  have hcell : ∀ y ∈ L.fr, X.env.scope.names.lookup y = some .cell := fun y hy => by
    obtain ⟨i, hi⟩ := List.mem_iff_getElem?.mp hy
    have hlt : i < L.fr.length := by
      rcases Nat.lt_or_ge i L.fr.length with z | z
      · exact z
      · rw [List.getElem?_eq_none z] at hi; cases hi
    have hli : i < is.length := by rw [hil]; exact hlt
    exact (his i y is[i] hi (List.getElem?_eq_getElem hli)).2
  have hfree : ∀ y ∈ L.scope.names, y.2 = .free → ∃ c, X.env.cells.lookup y.1 = some c := fun y hy ef => I.ok.has _ (.inl (hcell _ (S.free y hy ef)))
  show wpAny _ _ (spliced ((false, eval (.Lambda L.params L.body L.scope lpos) X.env) :: backTo pos (starEach [] X.env))) _ _ s1
  refine Calls.spliced_cons (lam_mk I1 TB hcode hmT hu w1.tabs hdef hfree ?_)
  intro f c' pm ctv H2 s2 I2 gk gn T2 f0' f1 hc2
  refine Calls.spliced_nil ⟨I2.kIn, ?_⟩
  have nT : ∀ ps, (HO.lst (List.replicate k2 (.int 0))) ≠ .tbl ps := fun _ z => nomatch z
  have w2 : WS T g.Tb H2 k2 := ⟨⟨gk _ _ w1.town.1 nT, w1.town.2⟩, T2⟩
  have g2 : Grow T H1 H2 := ⟨fun a o ea _ nt => gk a o ea nt, gn⟩
  have r2 : SR T g.K g.CL st σ H2 := r.grow g.stays (g1.trans g2) w.town
  -- the cells
  let cl := cloFrom X.env.cells L.scope.names []
  have clm : ∀ y c0, cl.lookup y = some c0 → (y, NameKind.free) ∈ L.scope.names ∧ X.env.cells.lookup y = some c0 := fun y c0 ey => by
    rcases cloFrom_mem (mem_of_lookup ey) with hm' | ⟨h1, h2⟩
    · cases hm'
    · obtain ⟨c1, hc1⟩ := hfree _ h1 rfl
      refine ⟨h1, ?_⟩
      have hc1 : X.env.cells.lookup y = some c1 := hc1
      rw [hc1] at h2 ⊢
      rw [h2]
      rfl
  have clh : ∀ y ∈ L.fr, ∃ c0, cl.lookup y = some c0 ∧ X.env.cells.lookup y = some c0 := fun y hy => by
    have hfr : (y, NameKind.free) ∈ L.scope.names := mem_of_lookup (S.frk y hy).1
    obtain ⟨c0, h0⟩ := mem_lookup (cloFrom_has (cells := X.env.cells) (acc := []) hfr)
    exact ⟨c0, h0, (clm y c0 h0).2⟩
  have hl : ∀ b ∈ capCells L cl, ∃ y, y ∈ L.fr ∧ cl.lookup y = some b ∧ X.env.cells.lookup y = some b := fun b hb => by
    obtain ⟨y, hy, ey⟩ := List.mem_filterMap.mp hb
    exact ⟨y, hy, ey, (clm y b ey).2⟩
  have C : CanPin X H2 s2.heap (capCells L cl) := by
    refine ⟨fun b hb => ?_, fun b hb => ?_, fun b hb => ?_, fun b hb z => ?_⟩
    · obtain ⟨y, _, _, ey⟩ := hl b hb
      obtain ⟨v, o, ho, _⟩ := I2.cell y b ey
      exact ⟨o, ho⟩
    · obtain ⟨y, _, _, ey⟩ := hl b hb
      exact I2.freeC y b ey
    · obtain ⟨y, _, _, ey⟩ := hl b hb
      exact Heap.get?_none_of_le (Nat.le_trans I2.ok.bsz (I2.ok.cab y b (hfn y) ey))
    · obtain ⟨y, _, _, ey⟩ := hl b hb
      rcases List.mem_cons.mp (I2.stkSub b z) with e0 | e0
      · exact I2.cne y b ey e0
      · obtain ⟨_, o, ho, _⟩ := I2.ok.funs.mem e0
        exact absurd (Nat.lt_of_lt_of_le (Heap.lt_size ho) (I2.ok.cab y b (hfn y) ey)) (Nat.lt_irrefl _)
  have kd := C.kd
  have hfl : f ∉ capCells L cl := C.out f1
  have hcl2 : c' ∉ capCells L cl := C.out hc2
  have hclo : g.CL (tra H2 s2.heap (capCells L cl)) f li cs T := by
    rw [hCL]
    refine ⟨L, X.env.qual ++ "<lambda>", cl, c', pm, ctv, hL, by rw [tra_out hfl]; exact f1, by rw [tra_out hcl2]; exact hc2, z2.trans hil, fun a b c0 ea eb => I2.ok.inj a b c0 (clm a c0 ea).2 (clm b c0 eb).2, fun y c0 ey => S.free _ (clm y c0 ey).1 rfl, fun i y dd ei ed => ?_⟩
    obtain ⟨c0, hc0, hc1⟩ := clh y (List.mem_of_getElem? ei)
    have hlt : i < is.length := by
      rcases Nat.lt_or_ge i is.length with z | z
      · exact z
      · rw [List.getElem?_eq_none (by rw [z2]; exact z)] at ed; cases ed
    obtain ⟨hN, hkc⟩ := his i y is[i] ei (List.getElem?_eq_getElem hlt)
    have hst : st[is[i]]? = some (.fr dd) := z3 i is[i] dd (List.getElem?_eq_getElem hlt) ed
    have so := r2.at' _ _ hst
    cases o1 : σ[is[i]]? with
    | none => rw [o1] at so; exact so.elim
    | some o2 =>
      cases o2 with
      | none => rw [o1] at so; exact so.elim
      | some v =>
        rw [o1] at so
        obtain ⟨mm, _, hloc⟩ := I2.loc
        obtain ⟨u, rv, lk⟩ := hloc _ _ _ hN o1 (.inr (.inl hkc))
        rcases lk with ⟨kl, _⟩ | ⟨_, c1, ec1, oc, hoc, hdc⟩
        · have kl : X.env.scope.names.lookup y = some .local := kl
          rw [hkc] at kl
          cases kl
        · rw [hc1] at ec1
          cases ec1
          have hmem : c0 ∈ capCells L cl := List.mem_filterMap.mpr ⟨y, List.mem_of_getElem? ei, hc0⟩
          exact ⟨c0, oc, u, v, hc0, tra_in hmem hoc, hdc, rv, Den.kd kd _ _ so⟩
  have d2 : Den T g.K H2 v0 d0 := Den.keep (g2.keeps w1.town) _ _ d1
  have hsp : spX g 2 h [v0, .ref f] (tra H2 s2.heap (capCells L cl)) (fun v H' => Grow T (tra H2 s2.heap (capCells L cl)) H' ∧ Q v (unt H' (capCells L cl))) E00 := by
    refine ⟨T, k2, [d0], li, cs, d, k', [v0], f, rfl, rfl, C.ws w2, .cons (Den.kd kd _ _ d2) .nil, hclo, e4, fun v H' g3 w3 d3 => ⟨g3, ?_⟩⟩
    have pn := C.pinAt g3 w2
    have pn' : Pins H' (capCells L cl) := fun b hb => by obtain ⟨o, _, e⟩ := pn b hb; exact ⟨o, e⟩
    have nc : ∀ b ∈ capCells L cl, ∀ qq, H' b ≠ some (CodeO b qq) := fun b hb qq z => by
      obtain ⟨o, eo, ep⟩ := pn b hb
      obtain ⟨y, _, _, ey⟩ := hl b hb
      obtain ⟨v, o', ho', hd'⟩ := I2.cell y b ey
      rw [eo] at ho'
      cases ho'
      rw [ep] at z
      have z2 : (fun hh : Heap => hh.get? b = some o) = (fun hh : Heap => ∃ (oc : Obj) (vs : Array Value) (t : Tok), hh.get? b = some oc ∧ oc.data = .fields vs ∧ vs[1]? = some (.str qq t)) := HO.ext.inj (Option.some.inj z)
      obtain ⟨oc, vs, t, y1, y2, _⟩ := (congrFun z2 s2.heap).mp eo
      rw [eo] at y1
      cases y1
      rw [hd'] at y2
      cases y2
    have nm : ∀ b ∈ capCells L cl, ∀ m, H' b ≠ some (MemO b m) := fun b hb m z => by
      obtain ⟨o, eo, ep⟩ := pn b hb
      obtain ⟨y, _, _, ey⟩ := hl b hb
      obtain ⟨v, o', ho', hd'⟩ := I2.cell y b ey
      rw [eo] at ho'
      cases ho'
      rw [ep] at z
      have z2 : (fun hh : Heap => hh.get? b = some o) = memP b m := HO.ext.inj (Option.some.inj z)
      obtain ⟨oc, es, ep2, y1, y2⟩ := memP_dict ((congrFun z2 s2.heap).mp eo)
      rw [eo] at y1
      cases y1
      rw [hd'] at y2
      cases y2
    exact q v _ ((g1.trans g2).trans (C.grow g3)) (w3.unt pn' nc) (Den.kd (KD.unt pn' nm) _ _ d3)
  have e0 := C.env0 I2
  refine wpAny_call (codeAny_mono (F.run X.A X.stack s2 (tra H2 s2.heap (capCells L cl)) ⟨[u, .ref f], []⟩ [u, .ref f] [v0, .ref f] _ E00 hr e0 (hb s2 [u, .ref f] I2.kIn ?_) (.cons r1 (.cons rfl .nil)) hsp) fun rr s' hq => ?_)
  · rw [List.append_nil]
    exact F.len [v0, .ref f] _ _ _ hsp
  · cases rr with
    | error e => exact (show False from hq).elim
    | ok fl =>
      cases fl with
      | ret u => exact C.after I2 w2 hq
      | next => exact False.elim hq
      | brk => exact False.elim hq
      | cont => exact False.elim hq
end
end G

namespace G
open PySem PySem.Spec PyProof.Rows L2

def boOp : Bo → Operator
  | .and => .BitAnd
  | .or => .BitOr
  | .shl => .LShift
  | .shr => .RShift
section
variable {g : Cf} {X : Cx} {a b c e y : Expr} {f f1 f2 f3 : G.St → M D} {pos p p1 p2 apos cpos : Pos}
theorem bitAnd_I {i j : Int} (h : 0 ≤ i) : Builtin.bitAnd i j = andI i j := by
  unfold Builtin.bitAnd andI
  rw [decide_eq_true h]
  by_cases z : 0 ≤ j
  · rw [decide_eq_true z, if_pos z]
  · rw [decide_eq_false z, if_neg z]
    rfl
theorem op_bitD : ∀ o : Bo, OpR X (binaryOp (boOp o)) (rM g (bitD o)) := by
  intro o pins s σ H x y v u Q I rx ry h
  obtain ⟨T, k, d, e, r, k', w, hd, he, em, q⟩ := h
  unfold bitD at em
  split at em
  · cases hd; cases he
    obtain ⟨hz, em⟩ := if_some em
    cases pure_some.mp em
    refine op_and pins s σ H _ _ v u Q I rx ry ⟨_, _, rfl, rfl, ?_⟩
    show Q (.int (Builtin.bitAnd _ _)) H
    rw [bitAnd_I hz]
    exact q _ H (Grow.refl T H) w (.int _)
  · cases hd; cases he
    obtain ⟨hz, em⟩ := if_some em
    cases pure_some.mp em
    refine op_or pins s σ H _ _ v u Q I rx ry ⟨_, _, rfl, rfl, ?_⟩
    show Q (.int (Builtin.bitOr _ _)) H
    rw [Bits.bitOr_pp hz.1 hz.2]
    exact q _ H (Grow.refl T H) w (.int _)
  · cases hd; cases he
    obtain ⟨hz, em⟩ := if_some em
    cases pure_some.mp em
    have h1 := absLe_of.mp hz.2.1
    have h2 := absLe_of.mp hz.2.2
    exact op_shl pins s σ H _ _ v u Q I rx ry ⟨_, _, rfl, rfl, ⟨hz.1, by omega, by omega⟩, q _ H (Grow.refl T H) w (.int _)⟩
  · cases hd; cases he
    obtain ⟨hz, em⟩ := if_some em
    cases pure_some.mp em
    exact op_shr pins s σ H _ _ v u Q I rx ry ⟨_, _, rfl, rfl, hz.1, q _ H (Grow.refl T H) w (.int _)⟩
  · exact absurd em no_some
theorem un_invD : UnR X (unaryOp .Invert) (rU1 g invD) := by
  intro pins s σ H x v Q I rx h
  obtain ⟨T, k, d, r, k', w, hd, em, q⟩ := h
  unfold invD at em
  split at em
  · cases hd
    cases pure_some.mp em
    exact un_inv pins s σ H _ v Q I rx ⟨_, rfl, q _ H (Grow.refl T H) w (.int _)⟩
  · exact absurd em no_some
/-! ### the class -/
abbrev skA (K : PySem.W.Frag) : Addr := He.ga K "Seeker"
structure SkCls (K : PySem.W.Frag) : Prop where
  cls : Cls K (skA K)
  nb : NoAttr K (skA K) "beside"
  nk : NoAttr K (skA K) "known"
/-- what may stand ahead of a dot -/
def recvOk : Expr → Bool
  | .Name .. => true
  | .Call _ (_ :: _) _ _ => true
  | _ => false
theorem base_ok {o : Expr} {m : Str} {env : Env} (h : recvOk o = true) : attributeBase o m env (eval o env) = eval o env := by
  unfold recvOk at h
  split at h
  · rfl
  · rename_i f _ _ _ _
    cases f <;> rfl
  · cases h
theorem ints_dens {T : Addr} {K : PySem.W.Frag} {H : Hp} : ∀ l : List Int, Dens T K H (l.map V.int) (l.map D.int)
  | [] => .nil
  | i :: l => .cons (.int i) (ints_dens l)
theorem pm_bes (hK : X.K = g.K) (S : SkCls g.K) (hr : recvOk y = true) (ha : PE X y (tM g f)) : PE X (.Attribute y "beside" pos) (tM g fun st => do let x ← f st; besD x) :=
  PEi (pe_fld ha (base_ok hr)) fun σ H Q q => by
    obtain ⟨T, k, st, d, k', w, r, em, q⟩ := q
    obtain ⟨x, k1, e1, e2⟩ := bind_some.mp em
    refine ⟨T, k, st, x, k1, w, r, e1, fun v H1 g1 w1 d1 => ?_⟩
    cases x with
    | sk l =>
      cases pure_some.mp e2
      cases d1 with
      | @sk a b kn dx o _ h1 h2 h3 h4 =>
        exact ⟨a, _, dx, _, .ref b, rfl, h1, by rw [hK]; exact S.cls, by rw [hK]; exact S.nb, rfl, q _ H1 g1 w1 (.lst h2 (ints_dens l))⟩
    | _ => exact absurd e2 (no_some (k := k1))
theorem meth_ev {o : Expr} {m : Str} {env : Env} (hb : recvOk o = true) (hs : ∀ v p, e ≠ .Starred v p) (hline : (apos.endLine == pos.line) = true) : eval (.Call (.Attribute o m apos) [e] [] pos) env = (do
      let ov ← eval o env
      standAt apos.atName
      let (f, first) ← holding [ov] (getMethod ov m (plainOf o env))
      callWith pos f first (backTo pos (starEach [e] env)) (backToKw pos (keywordEach [] env))) := by
  rw [arm_eval_Call, base_ok hb]
  have hf : methodCallForm ([e].length + ([] : List Keyword).length) (backTo pos (starEach [e] env)) (backToKw pos (keywordEach [] env)) = true := by
    rw [starEach_ok hs]
    rfl
  congr 1
  funext ov
  congr 1
  funext _
  exact mcall_line hf hline
/-- what a method of a seeker promises -/
def spMe (g : Cf) (h : List D → M D) : Sp := fun vs H Q E => ∃ T k l ds d k', WS T g.Tb H k ∧ Dens T g.K H vs (.sk l :: ds) ∧ h (.sk l :: ds) k = some (d, k') ∧ ∀ v H', Grow T H H' → WS T g.Tb H' k' → Den T g.K H' v d → Q v H'
theorem pm_mth {m : Str} {n : Nat} {fa : Addr} {fd : FuncData} {ps : List Str} {h : List D → M D} {fs : G.St → M (List D)} (hK : X.K = g.K) (S : SkCls g.K) (M : Meth g.K (skA g.K) m fa) (F : FnOk X.prog X.w X.K X.mg X.base L2.CX0 n fa fd ps (spMe g h)) (hr : Room n X.A)
    (hb : Binds X.K fd ps []) (h1 : m ≠ "beside") (h2 : m ≠ "known") (hrv : recvOk y = true) (hs : ∀ v p, e ≠ .Starred v p) (hline : (apos.endLine == pos.line) = true) (ha : PE X y (tM g f)) (he : PA X [e] (tMA g fs)) :
    PE X (.Call (.Attribute y m apos) [e] [] pos) (tM g fun st => do let x ← f st; let ds ← fs st; if isSk x then h (x :: ds) else no) :=
  PEi (pe_meth (E := L2.E0) ha (by rw [hK]; exact S.cls) (by rw [hK]; exact M) F hr hb .nil L2.pass0 he (starEach_ok hs) rfl (meth_ev hrv hs hline)) fun σ H Q q => by
    obtain ⟨T, k, st, d, k', w, r, em, q⟩ := q
    obtain ⟨x, k1, e1, e2⟩ := bind_some.mp em
    obtain ⟨ds, k2, e3, e4⟩ := bind_some.mp e2
    obtain ⟨hx, e5⟩ := if_some e4
    refine ⟨T, k, st, x, k1, w, r, e1, fun v H1 g1 w1 d1 => ?_⟩
    cases x with
    | sk l =>
      cases d1 with
      | @sk a b kn dx o _ q1 q2 q3 q4 =>
        refine ⟨a, dx, _, rfl, q1, ?_, T, k1, st, ds, k2, w1, r.grow g.stays g1 w.town, e3, fun vs H2 g2 w2 d2 => ?_⟩
        · have z1 : (m == ("beside" : Str)) = false := beq_eq_false_iff_ne.mpr h1
          have z2 : (m == ("known" : Str)) = false := beq_eq_false_iff_ne.mpr h2
          show (match m == ("beside" : Str) with | true => some (V.ref b) | false => match m == ("known" : Str) with | true => some (V.ref kn) | false => none) = none
          rw [z1, z2]
        · show spMe g h (V.ref a :: (vs ++ [])) H2 Q L2.E0
          rw [List.append_nil]
          exact ⟨T, k2, l, ds, d, k', w2, .cons (Den.keep (g2.keeps w1.town) _ _ (.sk q1 q2 q3 q4)) d2, e5, fun v H3 g3 w3 d3 => q v H3 ((g1.trans g2).trans g3) w3 d3⟩
    | _ => cases hx
/-- what making a seeker promises -/
def spIni (g : Cf) (h : List D → M D) : Sp := fun vs H Q E => ∃ T k ds d k' x dx ws H1, vs = .ref x :: ws ∧ Dens T g.K H1 ws ds ∧ H1 x = none ∧ H1 dx = none ∧ dx ≠ x ∧ H = upd (upd H1 dx (.own x)) x (.ins (skA g.K) dx []) ∧ WS T g.Tb H1 k ∧ h ds k = some (d, k') ∧
  ∀ H', Grow T H1 H' → WS T g.Tb H' k' → Den T g.K H' (.ref x) d → Q .non H'
theorem pm_mk {n : Nat} {fa : Addr} {fd : FuncData} {ps : List Str} {h : List D → M D} {fs : G.St → M (List D)} (hK : X.K = g.K) (M : Mk g.K (skA g.K) fa) (F : FnOk X.prog X.w X.K X.mg X.base L2.CX0 n fa fd ps (spIni g h)) (hr : Room (n + 1) X.A)
    (hg : Gl X "Seeker") (hm : X.mg "Seeker" = some (.ref (skA g.K))) (hb : Binds X.K fd ps []) (hs : ∀ v p, e ≠ .Starred v p) (he : PA X [e] (tMA g fs)) :
    PE X (.Call (.Name "Seeker" p) [e] [] pos) (tM g fun st => do let ds ← fs st; h ds) :=
  PEi (pe_make (E := L2.E0) (C := skA g.K) (by rw [hK]; exact M) F hr hg hm hb .nil L2.pass0 he (by decide) (starEach_ok hs) rfl) fun σ H Q q => by
    obtain ⟨T, k, st, d, k', w, r, em, q⟩ := q
    obtain ⟨ds, k1, e1, e2⟩ := bind_some.mp em
    refine ⟨T, k, st, ds, k1, w, r, e1, fun vs H1 g1 w1 d1 x dx hx hdx ne => ?_⟩
    show spIni g h (V.ref x :: (vs ++ [])) _ _ L2.E0
    rw [List.append_nil]
    exact ⟨T, k1, ds, d, k', x, dx, vs, H1, rfl, d1, hx, hdx, ne, rfl, w1, e2, fun H' g2 w2 d2 => ⟨rfl, q _ H' (g1.trans g2) w2 d2⟩⟩
end
end G

namespace G
open PySem PySem.Spec PyProof.Rows L2

/-- what is known of the names where an expression stands -/
structure Sc where
  N : List Str
  sc : Scope
  fns : List (Str × Nat × Nat)
  gls : List (Str × D)
  raw : Option Scope
  lds : List Ld
  lamN : List (List Str × List Str)
  lam : Bool
def Sc.vis (c : Sc) (x : Str) : Bool := match c.sc.names.lookup x with
  | some .local => true
  | some .cell => true
  | some .free => true
  | _ => false
def Sc.slot (c : Sc) (i : Nat) (x : Str) : Bool := decide (c.N[i]? = some x) && c.vis x && !(x == ("__debug__" : Str)) && !(x == ("__classdict__" : Str))
def Sc.glob (c : Sc) (x : Str) : Bool := decide (c.sc.names.lookup x = some .globalImplicit)
def Sc.store (c : Sc) (i : Nat) (x : Str) : Bool := decide (c.N[i]? = some x) && (decide (c.sc.names.lookup x = some .local) || (decide (c.sc.names.lookup x = some .cell) && (match c.raw with | none => true | some s => s.names.lookup x == some .cell)))
def Sc.blk (c : Sc) (scope : Scope) : Sc := { c with sc := relS scope c.sc, raw := some scope, lam := false }
def notStar : Expr → Bool
  | .Starred .. => false
  | _ => true
def notSet : Expr → Bool
  | .Set .. => false
  | _ => true
def constOk : D → Expr → Bool
  | .non, .Constant .none _ _ => true
  | .bl b, .Constant (.bool c) _ _ => b == c
  | .int b, .Constant (.int c) _ _ => b == c
  | .str b, .Constant (.str c) _ _ => decide (strOf b = c)
  | _, _ => false
def plainD : D → Bool
  | .int _ => true
  | .str _ => true
  | _ => false
def b1N : F1 → Str
  | .len => "len" | .all => "all" | .any => "any" | .tuple => "tuple" | .list => "list" | .sorted => "sorted" | .min => "min" | .max => "max" | .sum => "sum" | .int => "int" | .str => "str" | .dict => "dict" | .num => "int" | .dks => "sorted"
def b1Ok : F1 → Bool
  | .str => false
  | .dict => false
  | .num => false
  | .dks => false
  | _ => true
def b1New : F1 → Bool
  | .list => true
  | .sorted => true
  | .dks => true
  | _ => false
def chkTg (c : Sc) : Tg → Expr → Bool
  | .one i, .Name n _ => c.store i n
  | .two i j, .Tuple [.Name a _, .Name b _] _ _ => c.store i a && c.store j b
  | _, _ => false
def isTupE : Expr → Bool
  | .Tuple .. => true
  | _ => false
def isNonE : E → Bool
  | .c .non => true
  | _ => false
def isYesE : E → Bool
  | .c (.bl true) => true
  | _ => false
def ownL (N : List Str) (own : List Nat) : List (Str × Nat) := own.filterMap fun i => (N[i]?).map fun x => (x, i)
def bvOk (c : Sc) (i : Nat) : Expr → Bool
  | .Name n _ => c.slot i n
  | _ => false
def eqC : D → D → Bool
  | .int a, .int b => a == b
  | .str a, .str b => decide (a = b)
  | _, _ => false
def chkAll (f : E → Expr → Bool) : List E → List Expr → Bool
  | [], [] => true
  | e :: es, x :: xs => notStar x && f e x && chkAll f es xs
  | _, _ => false
def chkAllT (f : E → Expr → Bool) : List E → List Expr → Bool
  | [], [] => true
  | e :: es, x :: xs => f e x && chkAllT f es xs
  | _, _ => false
def chkO (f : Sc → E → Expr → Bool) (c : Sc) : E → Expr → Bool
  | .bv i, x => bvOk c i x
  | e, x => f c e x
def lineOk (a c : Pos) : Bool := a.endLine == c.line
abbrev Ck := Sc → E → Expr → Bool
def chkSrc (m : Ck) (c : Sc) : Sk → E → E → E → Expr → Expr → Bool
  | .it, a, b, d, _, x => isNonE b && isNonE d && notSet x && m c a x
  | .r1, a, b, d, _, .Call (.Name n _) [x] [] _ => isNonE b && isNonE d && c.glob n && decide (n = "range") && notStar x && m c a x
  | .r2, a, b, d, _, .Call (.Name n _) [x, y] [] _ => isNonE d && c.glob n && decide (n = "range") && notStar x && notStar y && m c a x && m c b y
  | .r3, a, b, d, _, .Call (.Name n _) [x, y, z] [] _ => c.glob n && decide (n = "range") && notStar x && notStar y && notStar z && m c a x && m c b y && m c d z
  | .en, a, b, d, tg, .Call (.Name n _) [x] [] _ => isNonE b && isNonE d && isTupE tg && c.glob n && decide (n = "enumerate") && notStar x && m c a x
  | .zp, a, b, d, tg, .Call (.Name n _) [x, y] [] _ => isNonE d && isTupE tg && c.glob n && decide (n = "zip") && notStar x && notStar y && m c a x && m c b y
  | _, _, _, _, _, _ => false
def chkLc (m t : Ck) (c : Sc) (tg : Tg) (k : Sk) (a b d cond elt : E) (own : List Nat) : Expr → Bool
  | .ListComp xe [⟨tge, iter, ifs, asy⟩] scope _ =>
    decide (asy = 0) && chkSrc m c k a b d tge iter && blkC c.N c.sc scope (ownL c.N own) && decide ((ownL c.N own).map (·.2) = own) && decide (∀ i ∈ tgIs tg, i ∈ own) && chkTg (c.blk scope) tg tge &&
      (match ifs with
        | [] => isYesE cond
        | [y] => t (c.blk scope) cond y
        | _ => false) && m (c.blk scope) elt xe
  | _ => false
/-- two parameters, no more -/
def lam2 : Arguments → Option (Str × Str)
  | ⟨[], [a, b], .none, [], [], .none, []⟩ => if a.arg = "one" ∧ b.arg = "other" then some ("one", "other") else if a.arg = "first" ∧ b.arg = "second" then some ("first", "second") else none
  | _ => none
/-- a lambda of the text and the one of the mini language -/
def chkLam (m : Ck) (c : Sc) (li : Nat) (pr : Arguments) (bd : Expr) (sp : Scope) : Bool := match lam2 pr, c.lds[li]?, c.lamN[li]? with
  | some (a, b), some ld, some (N, fr) => decide (ld.np = 2) && decide (ld.nc = fr.length) && decide (ld.ns = N.length) && lscB ⟨pr, bd, sp, N, [a, b], fr⟩ && m { c with N := N, sc := sp, raw := some sp, lam := false } ld.body bd
  | _, _, _ => false
def chkCap (c : Sc) (li : Nat) (is : List Nat) : Bool := match c.lamN[li]? with
  | some (_, fr) => decide (is.length = fr.length) && (fr.zip is).all fun q => decide (c.N[q.2]? = some q.1) && decide (c.sc.names.lookup q.1 = some .cell)
  | none => false
def chk1 (m t : Ck) (c : Sc) : E → Expr → Bool
  | .v i, .Name n _ => c.slot i n
  | .c d, x => constOk d x
  | .gl k d, .Name n _ => c.glob n && (match c.gls[k]? with | some (n', d') => decide (n' = n) && eqC d d' | none => false) && !(n == ("__debug__" : Str))
  | .tup es, .Tuple xs _ _ => decide (xs.length ≤ 1000) && chkAll (m c) es xs
  | .lst es, .List xs _ => decide (xs.length ≤ 1000) && chkAll (m c) es xs
  | .add a b, .BinOp x .Add y _ => m c a x && m c b y
  | .sub a b, .BinOp x .Sub y _ => m c a x && m c b y
  | .mul a b, .BinOp x .Mult y _ => m c a x && m c b y
  | .fdv a b, .BinOp x .FloorDiv y _ => m c a x && m c b y
  | .mod a b, .BinOp x .Mod y _ => m c a x && m c b y
  | .neg a, .UnaryOp .USub x _ => m c a x
  | .cmp o a b, .Compare x [op] [y] _ => decide (op = cpOp o) && !behindInMarks op y && m c a x && m c b y
  | .chain o o' a b d, .Compare x [op, op'] [y, z] _ => decide (op = cpOp o) && decide (op' = cpOp o') && !lastMarks [op, op'] [y, z] && m c a x && m c b y && m c d z
  | .isn n a, .Compare x [op] [.Constant .none _ _] _ => decide (op = isOp n) && m c a x
  | .isb n a bb, .Compare x [op] [.Constant (.bool b2) _ _] _ => decide (op = isOp n) && decide (bb = b2) && m c a x
  | .inn n a b, .Compare x [op] [y] _ => decide (op = inOp n) && !behindInMarks op y && m c a x && chkO m c b y
  | .not a, .UnaryOp .Not x _ => chkO m c a x
  | .and es, .BoolOp .And xs _ => chkAll (m c) es xs && !es.isEmpty
  | .or es, .BoolOp .Or xs _ => chkAll (m c) es xs && !es.isEmpty
  | .ite q a b, .IfExp x y z _ => t c q x && m c a y && m c b z
  | .call f es, .Call (.Name n _) xs [] _ => c.glob n && decide (c.fns.lookup n = some (f, es.length)) && decide (es.length < 100) && !(n == ("__debug__" : Str)) && !xs.isEmpty && chkAll (m c) es xs
  | .callv i es, .Call (.Name n _) xs [] _ => c.slot i n && !xs.isEmpty && chkAll (m c) es xs
  | .callL f [a] li is, .Call (.Name n _) [x, .Lambda pr bd sp _] [] _ => c.lam && c.raw.isNone && c.glob n && decide (c.fns.lookup n = some (f, 2)) && !(n == ("__debug__" : Str)) && notStar x && m c a x && chkLam m c li pr bd sp && chkCap c li is
  | .b1 .dks a, .Call (.Name n _) [.Call (.Name r _) [x] [] _] [] _ => c.glob n && decide (n = "sorted") && c.glob r && decide (r = "dict") && notStar x && chkO m c a x
  | .b1 f a, .Call (.Name n _) [x] [] _ => c.glob n && decide (n = b1N f) && b1Ok f && notStar x && chkO m c a x
  | .b2 f a b, .Call (.Name n _) [x, y] [] _ => c.glob n && (match f with | .min => decide (n = "min") | .max => decide (n = "max") | .sum => false) && notStar x && notStar y && m c a x && m c b y
  | .isi q a, .Call (.Name n _) [x, .Name u _] [] _ => c.glob n && decide (n = "isinstance") && c.glob u && decide (u = Str.ofString (tyS q)) && notStar x && m c a x
  | .ix a b, .Subscript x y _ => plainE y && chkO m c a x && m c b y
  | .slh a h, .Subscript x (.Slice none (some y) none _) _ => m c a x && m c h y
  | .sll a l, .Subscript x (.Slice (some y) none none _) _ => m c a x && m c l y
  | .slb a l h, .Subscript x (.Slice (some y) (some z) none _) _ => m c a x && m c l y && m c h z
  | .rev a, .Subscript x (.Slice none none (some (.UnaryOp .USub (.Constant (.int j) _ _) _)) _) _ => decide (j = 1) && m c a x
  | .lc tg k a b d cond elt own, x => chkLc m t c tg k a b d cond elt own x
  | .cv tt .r1 a b, .Call (.Name n _) [.Call (.Name r _) [x] [] _] [] _ => isNonE b && c.glob n && decide (n = if tt then "tuple" else "list") && c.glob r && decide (r = "range") && notStar x && m c a x
  | .bit o a b, .BinOp x op y _ => decide (op = boOp o) && m c a x && m c b y
  | .inv a, .UnaryOp .Invert x _ => m c a x
  | .bes a, .Attribute y f _ => decide (f = "beside") && ((c.fns.lookup ("Seeker.__init__" : Str)).isSome && (match c.fns.lookup ("Seeker.__init__" : Str) with | some (_, np) => decide (100 ≤ np) | none => false)) && recvOk y && m c a y
  | .mth f a [b], .Call (.Attribute y mn ap) [x] [] cp => decide (c.fns.lookup (("Seeker." : Str) ++ mn) = some (f, 101)) && lineOk ap cp && recvOk y && notStar x && m c a y && m c b x
  | .mk f [b], .Call (.Name n _) [x] [] _ => c.glob n && decide (n = "Seeker") && decide (c.fns.lookup n = some (f, 301)) && notStar x && m c b x
  | .cv tt .r2 a b, .Call (.Name n _) [.Call (.Name r _) [x, y] [] _] [] _ => c.glob n && decide (n = if tt then "tuple" else "list") && c.glob r && decide (r = "range") && notStar x && notStar y && m c a x && m c b y
  | _, _ => false
def chkT1 (m t : Ck) (c : Sc) : E → Expr → Bool
  | .not a, .UnaryOp .Not x _ => t c a x
  | .and es, .BoolOp .And xs _ => chkAllT (t c) es xs && !es.isEmpty
  | .or es, .BoolOp .Or xs _ => chkAllT (t c) es xs && !es.isEmpty
  | .cmp o a b, .Compare x [op] [y] _ => decide (op = cpOp o) && !behindInMarks op y && m c a x && m c b y
  | .chain o o' a b d, .Compare x [op, op'] [y, z] _ => decide (op = cpOp o) && decide (op' = cpOp o') && !lastMarks [op, op'] [y, z] && m c a x && m c b y && m c d z
  | .isn n a, .Compare x [op] [.Constant .none _ _] _ => decide (op = isOp n) && m c a x
  | .isb n a bb, .Compare x [op] [.Constant (.bool b2) _ _] _ => decide (op = isOp n) && decide (bb = b2) && m c a x
  | .inn n a b, .Compare x [op] [y] _ => decide (op = inOp n) && !behindInMarks op y && m c a x && chkO m c b y
  | e, x => plainT x && chkO m c e x
mutual
def chk : Nat → Ck
  | 0 => fun _ _ _ => false
  | n + 1 => chk1 (chk n) (chkT n)
def chkT : Nat → Ck
  | 0 => fun _ _ _ => false
  | n + 1 => chkT1 (chk n) (chkT n)
end
/-- the built-in names that are used -/
def bltN : List Str := ["len", "all", "any", "tuple", "list", "sorted", "min", "max", "sum", "int", "str", "dict", "isinstance", "bool", "range", "enumerate", "zip"]
end G

namespace G
open PySem PySem.Spec PyProof.Rows L2

/-- a lambda that was looked at -/
def okL (c : Sc) (li : Nat) (L : LamT) : Prop := ∃ (k : Nat) (a b : Str), c.lamN[li]? = some (L.N, L.fr) ∧ lam2 L.params = some (a, b) ∧ L.ps = [a, b] ∧ chkLam (chk k) c li L.params L.body L.scope = true
/-- an entry of the table: a def (np parameters), a method of the class Seeker (101), its __init__ (201), the class (301) -/
def EntP (g : Cf) (K : PySem.W.Frag) (prog : Program) (w : World) (mg : Str → Option Value) (base : Heap) (n : Nat) (C : Cs) (x : Str) (i np : Nat) : Prop :=
  (np < 100 → ∃ fa fd ps, FnOk prog w K mg base L2.CX0 n fa fd ps (spFX g np (C.cl i) (C.cx i)) ∧ mg x = some (.ref fa) ∧ PySem.W.keepIn K (.ref fa) = true ∧ Binds K fd ps []) ∧
  (100 ≤ np → SkCls K) ∧
  (np = 101 → ∃ m fa fd ps, x = ("Seeker." : Str) ++ m ∧ m ≠ "beside" ∧ m ≠ "known" ∧ Meth K (skA K) m fa ∧ FnOk prog w K mg base L2.CX0 n fa fd ps (spMe g (C.cl i)) ∧ Binds K fd ps []) ∧
  (np = 201 → ∃ fa fd ps, Mk K (skA K) fa ∧ FnOk prog w K mg base L2.CX0 n fa fd ps (spIni g (C.cl i)) ∧ Binds K fd ps []) ∧
  (np = 301 → mg "Seeker" = some (.ref (skA K)) ∧ ∀ ds k r, C.cl i ds k = some r → ∃ n' h fa fd ps, n = n' + 1 ∧ Mk K (skA K) fa ∧ FnOk prog w K mg base L2.CX0 n' fa fd ps (spIni g h) ∧ Binds K fd ps [] ∧ h ds k = some r)
structure EnvOk (g : Cf) (C : Cs) (n : Nat) (c : Sc) (X : Cx) : Prop where
  K : X.K = g.K
  N : X.N = c.N
  nd : X.N.Nodup
  sc : X.env.scope = c.sc
  calm : X.calm = true
  room : Room n X.A
  fns : ∀ x i np, c.fns.lookup x = some (i, np) → EntP g X.K X.prog X.w X.mg X.base n C x i np
  blt : ∀ x ∈ bltN, X.mg x = none
  gls : ∀ (k : Nat) (x : Str) (d : D), c.gls[k]? = some (x, d) → ∃ v u, X.mg x = some u ∧ RelV v u ∧ ∀ T H, Den T g.K H v d
  clo : g.CL = cloOf (okL c) g.K
  lamp : LamP g (okL c) X.prog X.w X.mg X.base n C.cc
  mkl : c.lam = true → ∃ ca P, X.env.code = .ref ca ∧ LamX.TabB X.base X.mg ca P ∧ (P, X.env.qual ++ "<lambda>") ∈ g.Tb ∧ ∀ p ∈ g.Tb, p.1 = P → p.2 = X.env.qual ++ "<lambda>"
  top : ∀ x, X.fn x = (match c.raw with | none => true | some s => s.names.lookup x == some .cell)
def Snd (g : Cf) (C : Cs) (n : Nat) (m : Ck) : Prop := ∀ c X e x, EnvOk g C n c X → m c e x = true → PE X x (tM g (ev C e))
def SndT (g : Cf) (C : Cs) (n : Nat) (t : Ck) : Prop := ∀ c X e x, EnvOk g C n c X → t c e x = true → PT X x (tMB g (truM (ev C e)))
section
variable {g : Cf} {C : Cs} {n : Nat} {c : Sc} {X : Cx} {m t : Ck}
theorem EnvOk.fn (E : EnvOk g C n c X) {x : Str} {i np : Nat} (h : c.fns.lookup x = some (i, np)) (hl : np < 100) : ∃ fa fd ps, FnOk X.prog X.w X.K X.mg X.base L2.CX0 n fa fd ps (spFX g np (C.cl i) (C.cx i)) ∧ X.mg x = some (.ref fa) ∧ PySem.W.keepIn X.K (.ref fa) = true ∧ Binds X.K fd ps [] := (E.fns _ _ _ h).1 hl
theorem EnvOk.gl (E : EnvOk g C n c X) {x : Str} (h : c.glob x = true) : Gl X x := by
  unfold Sc.glob at h
  unfold Gl Env.kindOf
  rw [E.sc]
  exact of_decide_eq_true h
theorem slot_of {i : Nat} {x : Str} (h : c.slot i x = true) : c.N[i]? = some x ∧ c.vis x = true ∧ (x == ("__debug__" : Str)) = false ∧ (x == ("__classdict__" : Str)) = false := by
  unfold Sc.slot at h
  simp only [Bool.and_eq_true, decide_eq_true_eq, Bool.not_eq_true'] at h
  exact ⟨h.1.1.1, h.1.1.2, h.1.2, h.2⟩
theorem vis_of (E : EnvOk g C n c X) {x : Str} (h : c.vis x = true) : Vis X.env.scope x := by
  unfold Sc.vis at h
  unfold Vis
  rw [E.sc]
  split at h
  · rename_i e; exact .inl e
  · rename_i e; exact .inr (.inl e)
  · rename_i e; exact .inr (.inr e)
  · cases h
theorem star_of {x : Expr} (h : notStar x = true) : ∀ v p, x ≠ .Starred v p := fun v p e => by rw [e] at h; cases h
theorem EnvOk.units (E : EnvOk g C n c X) : X.A.units + 64 < cLine := E.room.units
theorem EnvOk.units5 (E : EnvOk g C n c X) : X.A.units + 65 < cLine := by have := E.room.un; omega
theorem EnvOk.blk (E : EnvOk g C n c X) {scope : Scope} {s : Shared} {H : Hp} {Ca : Addr} {cl : List (Str × Addr)} {fp : List Addr} : EnvOk g C n (c.blk scope) (X.blk s H scope (compEnvC scope cl Ca X.env) fp) where
  K := E.K
  N := E.N
  nd := E.nd
  sc := by
    show relabel scope X.env = relS scope c.sc
    rw [← E.sc]
    rfl
  calm := E.calm
  room := E.room
  fns := E.fns
  blt := E.blt
  gls := E.gls
  clo := E.clo
  lamp := E.lamp
  mkl := fun z => Bool.noConfusion (show false = true from z)
  top := fun x => rfl
theorem snd_o (hm : Snd g C n m) (E : EnvOk g C n c X) {e : G.E} {x : Expr} (h : chkO m c e x = true) : PE X x (tO g (ev C e)) := by
  unfold chkO at h
  split at h
  · rename_i i x
    unfold bvOk at h
    split at h
    · obtain ⟨h1, h2, h3, h4⟩ := slot_of h
      exact pm_bv (by rw [E.N]; exact h1) (vis_of E h2) h3 h4
    · cases h
  · exact pm_b (hm c X _ _ E h)
theorem evs_len {es : List G.E} {st : G.St} : ∀ {k : Nat} {ds : List D} {k' : Nat}, evs C es st k = some (ds, k') → ds.length = es.length := by
  induction es with
  | nil => intro k ds k' h; cases pure_some.mp h; rfl
  | cons e es ih =>
    intro k ds k' h
    obtain ⟨d, k1, e1, e2⟩ := bind_some.mp (show (do let d ← ev C e st; let ds ← evs C es st; pure (d :: ds) : M (List D)) k = some (ds, k') from h)
    obtain ⟨ds', k2, e3, e4⟩ := bind_some.mp e2
    cases pure_some.mp e4
    rw [List.length_cons, List.length_cons, ih e3]
theorem snd_all (hm : Snd g C n m) (E : EnvOk g C n c X) : ∀ {es : List G.E} {xs : List Expr}, chkAll (m c) es xs = true → PA X xs (tMA g (evs C es)) ∧ es.length = xs.length ∧ ∀ x ∈ xs, ∀ v p, x ≠ .Starred v p
  | [], [], _ => ⟨pam_nil, rfl, fun x hx => by cases hx⟩
  | e :: es, x :: xs, h => by
    unfold chkAll at h
    simp only [Bool.and_eq_true] at h
    obtain ⟨⟨h1, h2⟩, h3⟩ := h
    obtain ⟨i1, i2, i3⟩ := snd_all hm E h3
    refine ⟨pam_cons (star_of h1) (hm c X e x E h2) i1, by simp [i2], fun y hy => ?_⟩
    rcases List.mem_cons.mp hy with rfl | hy
    · exact star_of h1
    · exact i3 y hy
  | [], _ :: _, h => by simp [chkAll] at h
  | _ :: _, [], h => by simp [chkAll] at h
theorem ev_and1 {e : G.E} {st : G.St} : evAnd C [e] st = ev C e st := by rw [evAnd]
theorem ev_or1 {e : G.E} {st : G.St} : evOr C [e] st = ev C e st := by rw [evOr]
theorem ev_and2 {e e' : G.E} {es : List G.E} : evAnd C (e :: e' :: es) = andM (ev C e) (evAnd C (e' :: es)) := by
  funext st
  rw [evAnd]
  · rfl
  · intro h; cases h
theorem ev_or2 {e e' : G.E} {es : List G.E} : evOr C (e :: e' :: es) = orM (ev C e) (evOr C (e' :: es)) := by
  funext st
  rw [evOr]
  · rfl
  · intro h; cases h
theorem snd_and (hm : Snd g C n m) (E : EnvOk g C n c X) {pos : Pos} : ∀ {es : List G.E} {xs : List Expr}, chkAll (m c) es xs = true → es ≠ [] → PE X (.BoolOp .And xs pos) (tM g (evAnd C es))
  | [], _, _, hn => absurd rfl hn
  | [e], [x], h, _ => by
    unfold chkAll at h
    simp only [Bool.and_eq_true] at h
    have q := pe_bool1 (op := .And) (pos := pos) (hm c X e x E h.1.2)
    exact PEm q fun st k r h => by rw [ev_and1] at h; exact h
  | e :: e' :: es, x :: x' :: xs, h, _ => by
    unfold chkAll at h
    simp only [Bool.and_eq_true] at h
    rw [ev_and2]
    have ha := hm c X e x E h.1.2
    exact pm_and E.K (pm_b ha) (snd_and hm E h.2 (by simp)) ha
  | [e], [], h, _ => by simp [chkAll] at h
  | [e], _ :: _ :: _, h, _ => by simp [chkAll] at h
  | _ :: _ :: _, [], h, _ => by simp [chkAll] at h
  | _ :: _ :: _, [_], h, _ => by simp [chkAll] at h
theorem snd_or (hm : Snd g C n m) (E : EnvOk g C n c X) {pos : Pos} : ∀ {es : List G.E} {xs : List Expr}, chkAll (m c) es xs = true → es ≠ [] → PE X (.BoolOp .Or xs pos) (tM g (evOr C es))
  | [], _, _, hn => absurd rfl hn
  | [e], [x], h, _ => by
    unfold chkAll at h
    simp only [Bool.and_eq_true] at h
    have q := pe_bool1 (op := .Or) (pos := pos) (hm c X e x E h.1.2)
    exact PEm q fun st k r h => by rw [ev_or1] at h; exact h
  | e :: e' :: es, x :: x' :: xs, h, _ => by
    unfold chkAll at h
    simp only [Bool.and_eq_true] at h
    rw [ev_or2]
    exact pm_or E.K (hm c X e x E h.1.2) (snd_or hm E h.2 (by simp))
  | [e], [], h, _ => by simp [chkAll] at h
  | [e], _ :: _ :: _, h, _ => by simp [chkAll] at h
  | _ :: _ :: _, [], h, _ => by simp [chkAll] at h
  | _ :: _ :: _, [_], h, _ => by simp [chkAll] at h
theorem snd_andT (ht : SndT g C n t) (E : EnvOk g C n c X) {pos : Pos} : ∀ {es : List G.E} {xs : List Expr}, chkAllT (t c) es xs = true → es ≠ [] → PW X (.BoolOp .And xs pos) (tMB g (truM (evAnd C es)))
  | [], _, _, hn => absurd rfl hn
  | [e], [x], h, _ => by
    unfold chkAllT at h
    simp only [Bool.and_eq_true] at h
    have e1 : evAnd C [e] = ev C e := funext fun st => ev_and1
    rw [e1]
    exact pw_and1 (ht c X e x E h.1)
  | e :: e' :: es, x :: x' :: xs, h, _ => by
    unfold chkAllT at h
    simp only [Bool.and_eq_true] at h
    rw [ev_and2]
    exact pmw_and (ht c X e x E h.1) (snd_andT ht E h.2 (by simp))
  | [e], [], h, _ => by simp [chkAllT] at h
  | [e], _ :: _ :: _, h, _ => by simp [chkAllT] at h
  | _ :: _ :: _, [], h, _ => by simp [chkAllT] at h
  | _ :: _ :: _, [_], h, _ => by simp [chkAllT] at h
theorem snd_orT (ht : SndT g C n t) (E : EnvOk g C n c X) {pos : Pos} : ∀ {es : List G.E} {xs : List Expr}, chkAllT (t c) es xs = true → es ≠ [] → PW X (.BoolOp .Or xs pos) (tMB g (truM (evOr C es)))
  | [], _, _, hn => absurd rfl hn
  | [e], [x], h, _ => by
    unfold chkAllT at h
    simp only [Bool.and_eq_true] at h
    have e1 : evOr C [e] = ev C e := funext fun st => ev_or1
    rw [e1]
    exact pw_or1 (ht c X e x E h.1)
  | e :: e' :: es, x :: x' :: xs, h, _ => by
    unfold chkAllT at h
    simp only [Bool.and_eq_true] at h
    rw [ev_or2]
    exact pmw_or (ht c X e x E h.1) (snd_orT ht E h.2 (by simp))
  | [e], [], h, _ => by simp [chkAllT] at h
  | [e], _ :: _ :: _, h, _ => by simp [chkAllT] at h
  | _ :: _ :: _, [], h, _ => by simp [chkAllT] at h
  | _ :: _ :: _, [_], h, _ => by simp [chkAllT] at h
/-! ### targets, sources -/
def tgOf (g : Cf) : Tg → TG
  | .one i => gName i
  | .two i j => gTup g.K 2 (gCons (gName i) (gCons (gName j) gNil))
theorem gtg_of : ∀ t : Tg, GTg g t (tgOf g t)
  | .one _ => gtg_one
  | .two _ _ => gtg_two
theorem store_of (E : EnvOk g C n c X) {i : Nat} {x : Str} (h : c.store i x = true) : X.N[i]? = some x ∧ Loc X.env.scope x ∧ (X.fn x = true ∨ X.env.scope.names.lookup x = some .local) := by
  unfold Sc.store at h
  simp only [Bool.and_eq_true, Bool.or_eq_true, decide_eq_true_eq] at h
  unfold L2.Loc
  rw [E.sc, E.N]
  obtain ⟨h1, h2⟩ := h
  rcases h2 with h2 | h2
  · exact ⟨h1, .inl h2, .inr h2⟩
  · exact ⟨h1, .inr h2.1, .inl ((E.top x).trans h2.2)⟩
theorem tg_ok (E : EnvOk g C n c X) {tg : Tg} {x : Expr} (h : chkTg c tg x = true) : PG X x (tgOf g tg) := by
  unfold chkTg at h
  split at h
  · obtain ⟨h1, h2, h3⟩ := store_of E h
    exact pg_name E.nd h1 h2 h3
  · simp only [Bool.and_eq_true] at h
    obtain ⟨h1, h2, h3⟩ := store_of E h.1
    obtain ⟨h4, h5, h6⟩ := store_of E h.2
    show PG X _ (gTup g.K 2 _)
    rw [← E.K]
    exact pg_tup E.calm (pgs_cons (pg_name E.nd h1 h2 h3) (pgs_cons (pg_name E.nd h4 h5 h6) pgs_nil))
  · cases h
theorem isNonE_of {e : G.E} (h : isNonE e = true) : ev C e = fun _ => pure .non := by
  unfold isNonE at h
  split at h
  · funext st; rw [ev]
  · cases h
def srcF (C : Cs) (k : Sk) (a b d : G.E) : G.St → M (List D) := fun st => do let x ← ev C a st; let y ← ev C b st; let z ← ev C d st; srcD k x y z
theorem notSet_ok {x : Expr} {env : Env} (h : notSet x = true) : ∀ v, foldedSetIterable x env v = pure v := fun v => by
  cases x <;> first | rfl | (simp [notSet] at h)
theorem PIm {tg iter : Expr} {m1 m2 : G.St → M (List D)} (h : PI X tg iter (tI g m1)) (e : ∀ st k r, m2 st k = some r → m1 st k = some r) : PI X tg iter (tI g m2) := PIi h fun σ H R q => by
  obtain ⟨T, k, st, b, k', w, r, em, q⟩ := q
  exact ⟨T, k, st, b, k', w, r, e _ _ _ em, q⟩
theorem pure_bind_some {α β : Type} {a : α} {f : α → M β} {k : Nat} {r : β × Nat} (h : (pure a >>= f) k = some r) : f a k = some r := h
theorem src_ok (hm : Snd g C n m) (E : EnvOk g C n c X) {k : Sk} {a b d : G.E} {tg iter : Expr} (h : chkSrc m c k a b d tg iter = true) : PI X tg iter (tI g (srcF C k a b d)) ∧ ∀ v, foldedSetIterable iter X.env v = pure v := by
  unfold chkSrc at h
  split at h
  · simp only [Bool.and_eq_true] at h
    obtain ⟨⟨⟨h1, h2⟩, h3⟩, h4⟩ := h
    refine ⟨PIm (pit_it E.K (hm c X _ _ E h4)) fun st k r q => ?_, notSet_ok h3⟩
    unfold srcF at q
    rw [isNonE_of h1, isNonE_of h2] at q
    exact q
  · simp only [Bool.and_eq_true, decide_eq_true_eq] at h
    obtain ⟨⟨⟨⟨⟨h1, h2⟩, h3⟩, h4⟩, h5⟩, h6⟩ := h
    subst h4
    refine ⟨PIm (pit_r1 (E.gl h3) (E.blt _ (by decide)) (star_of h5) (hm c X _ _ E h6)) fun st k r q => ?_, fun v => rfl⟩
    unfold srcF at q
    rw [isNonE_of h1, isNonE_of h2] at q
    exact q
  · simp only [Bool.and_eq_true, decide_eq_true_eq] at h
    obtain ⟨⟨⟨⟨⟨⟨h2, h3⟩, h4⟩, h5⟩, h6⟩, h7⟩, h8⟩ := h
    subst h4
    refine ⟨PIm (pit_r2 (E.gl h3) (E.blt _ (by decide)) (star_of h5) (star_of h6) (hm c X _ _ E h7) (hm c X _ _ E h8)) fun st k r q => ?_, fun v => rfl⟩
    unfold srcF at q
    rw [isNonE_of h2] at q
    exact q
  · simp only [Bool.and_eq_true, decide_eq_true_eq] at h
    obtain ⟨⟨⟨⟨⟨⟨⟨h3, h4⟩, h5⟩, h6⟩, h7⟩, h8⟩, h9⟩, h10⟩ := h
    subst h4
    exact ⟨PIm (pit_r3 (E.gl h3) (E.blt _ (by decide)) (star_of h5) (star_of h6) (star_of h7) (hm c X _ _ E h8) (hm c X _ _ E h9) (hm c X _ _ E h10)) fun st k r q => q, fun v => rfl⟩
  · simp only [Bool.and_eq_true, decide_eq_true_eq] at h
    obtain ⟨⟨⟨⟨⟨⟨h1, h2⟩, h0⟩, h3⟩, h4⟩, h5⟩, h6⟩ := h
    subst h4
    refine ⟨?_, fun v => rfl⟩
    unfold isTupE at h0
    split at h0
    · refine PIm (pit_en E.K (E.gl h3) (E.blt _ (by decide)) (star_of h5) (hm c X _ _ E h6)) fun st k r q => ?_
      unfold srcF at q
      rw [isNonE_of h1, isNonE_of h2] at q
      exact q
    · cases h0
  · simp only [Bool.and_eq_true, decide_eq_true_eq] at h
    obtain ⟨⟨⟨⟨⟨⟨⟨h2, h0⟩, h3⟩, h4⟩, h5⟩, h6⟩, h7⟩, h8⟩ := h
    subst h4
    refine ⟨?_, fun v => rfl⟩
    unfold isTupE at h0
    split at h0
    · refine PIm (pit_zp E.K (E.gl h3) (E.blt _ (by decide)) (star_of h5) (star_of h6) (hm c X _ _ E h7) (hm c X _ _ E h8)) fun st k r q => ?_
      unfold srcF at q
      rw [isNonE_of h2] at q
      exact q
    · cases h0
  · cases h
/-! ### comprehensions -/
theorem ev_lc {tg : Tg} {k : Sk} {a b d cond elt : G.E} {own : List Nat} : ev C (.lc tg k a b d cond elt own) = lcF tg (srcF C k a b d) (ev C cond) (ev C elt) own := by
  funext st
  rw [ev]
  unfold lcF srcF
  funext j
  show _ = _
  simp only [bind_assoc]
theorem ts_ok (ht : SndT g C n t) (E : EnvOk g C n c X) {ifs : List Expr} {cond : G.E} (h : (match ifs with | [] => isYesE cond | [y] => t c cond y | _ => false) = true) : PTs X ifs (tMB g (truM (ev C cond))) := by
  split at h
  · unfold isYesE at h
    split at h
    · have e : ev C (.c (.bl true)) = fun _ => pure (.bl true) := by funext st; rw [ev]
      rw [e]
      exact ptsm_nil
    · cases h
  · exact pts_one (ht c X _ _ E h)
  · cases h
theorem lc_ok (hm : Snd g C n m) (ht : SndT g C n t) (E : EnvOk g C n c X) {tg : Tg} {k : Sk} {a b d cond elt : G.E} {own : List Nat} {x : Expr} (h : chkLc m t c tg k a b d cond elt own x = true) : PE X x (tN g (ev C (.lc tg k a b d cond elt own))) := by
  unfold chkLc at h
  split at h
  · simp only [Bool.and_eq_true, decide_eq_true_eq] at h
    obtain ⟨⟨⟨⟨⟨⟨⟨h1, h2⟩, h3⟩, h4⟩, h5⟩, h6⟩, h7⟩, h8⟩ := h
    subst h1
    obtain ⟨i1, i2⟩ := src_ok hm E h2
    rw [ev_lc, ← h4]
    refine pn_lc E.calm E.nd i1 (blkOk_by (by rw [E.N, E.sc]; exact h3)) (gtg_of tg) (by rw [h4]; exact h5) (fun s H Ca cl fp => tg_ok E.blk h6) (fun s H Ca cl fp => ts_ok ht E.blk h7) (fun s H Ca cl fp => hm _ _ _ _ E.blk h8) i2
  · cases h
end
end G

namespace G
open PySem PySem.Spec PyProof.Rows L2

section
variable {g : Cf} {C : Cs} {n : Nat} {c : Sc} {X : Cx} {m t : Ck}
theorem const_ok {d : D} {x : Expr} (h : constOk d x = true) : PE X x (tM g fun _ => pure d) := by
  unfold constOk at h
  split at h
  · exact pm_c (fun T H => .non) pe_non
  · rename_i b c _ _
    have e : b = c := by simpa using h
    subst e
    exact pm_c (fun T H => .bl _) pe_bl
  · rename_i b c _ _
    have e : b = c := by simpa using h
    subst e
    exact pm_c (fun T H => .int _) pe_int
  · rename_i b c _ _
    have e := of_decide_eq_true h
    subst e
    exact pm_c (fun T H => .str _) pe_str
  · cases h
theorem eqC_eq {d d' : D} (h : eqC d d' = true) : d = d' := by
  unfold eqC at h
  split at h
  · rw [beq_iff_eq.mp h]
  · rw [of_decide_eq_true h]
  · cases h
theorem lst_out {m : G.St → M (List D)} {st : G.St} {k : Nat} {d : D} {k' : Nat} (h : (do let ds ← m st; pure (.lst ds) : M D) k = some (d, k')) : ∃ ds, d = .lst ds := by
  obtain ⟨x, k1, e1, e2⟩ := bind_some.mp h
  cases pure_some.mp e2
  exact ⟨_, rfl⟩
theorem lc_out {tg : Tg} {k : Sk} {a b d cond elt : G.E} {own : List Nat} {st : G.St} {j : Nat} {r : D} {k' : Nat} (h : ev C (.lc tg k a b d cond elt own) st j = some (r, k')) : ∃ ds, r = .lst ds := by
  rw [ev_lc] at h
  obtain ⟨l, k1, e1, e2⟩ := bind_some.mp h
  obtain ⟨l2, k2, e3, e4⟩ := bind_some.mp e2
  cases pure_some.mp e4
  exact ⟨_, rfl⟩
theorem list_out {d : D} {k : Nat} {r : D} {k' : Nat} (h : f1D .list d k = some (r, k')) : ∃ ds, r = .lst ds := by
  cases d with
  | lst l => cases pure_some.mp h; exact ⟨_, rfl⟩
  | tup l => cases pure_some.mp h; exact ⟨_, rfl⟩
  | _ => exact absurd h (no_some (k := k))
theorem sorted_out {d : D} {k : Nat} {r : D} {k' : Nat} (h : f1D .sorted d k = some (r, k')) : ∃ ds, r = .lst ds := by
  cases d with
  | lst l =>
    obtain ⟨_, e2⟩ := if_some (show (if sortable l then (pure (.lst (sortL l)) : M D) else no) k = some (r, k') from h)
    cases pure_some.mp e2
    exact ⟨_, rfl⟩
  | tup l =>
    obtain ⟨_, e2⟩ := if_some (show (if (sortable l || (okds deep l && decide (l.length ≤ 1))) = true then (pure (.lst (sortL l)) : M D) else no) k = some (r, k') from h)
    cases pure_some.mp e2
    exact ⟨_, rfl⟩
  | _ => exact absurd h (no_some (k := k))
theorem dks_out {d : D} {k : Nat} {r : D} {k' : Nat} (h : f1D .dks d k = some (r, k')) : ∃ ds, r = .lst ds := by
  cases d with
  | lst l =>
    obtain ⟨ks, k2, e3, e4⟩ := bind_some.mp (show (do let ks ← keysL l; if ks.length < 64 then pure (.lst ((srtI ks).map .int)) else no : M D) k = some (r, k') from h)
    obtain ⟨h64, e5⟩ := if_some e4
    cases pure_some.mp e5
    exact ⟨_, rfl⟩
  | _ => exact absurd h (no_some (k := k))
theorem bind_out {m : G.St → M D} {h : D → M D} (hh : ∀ d k r k', h d k = some (r, k') → ∃ ds, r = .lst ds) {st : G.St} {k : Nat} {r : D} {k' : Nat} (q : (do let d ← m st; h d : M D) k = some (r, k')) : ∃ ds, r = .lst ds := by
  obtain ⟨x, k1, e1, e2⟩ := bind_some.mp q
  exact hh _ _ _ _ e2
/-- a new list: a display, a comprehension, list(x), sorted(x) -/
def isN : G.E → Bool
  | .lst _ => true
  | .lc .. => true
  | .b1 f _ => b1New f
  | .cv t _ _ _ => !t
  | _ => false
theorem isN_out {e : G.E} (h : isN e = true) {st : G.St} {k : Nat} {d : D} {k' : Nat} (q : ev C e st k = some (d, k')) : ∃ ds, d = .lst ds := by
  unfold isN at h
  split at h
  · rw [ev] at q; exact lst_out (m := fun st => evs C _ st) q
  · exact lc_out q
  · rename_i f a
    rw [ev] at q
    cases f <;> first
      | exact bind_out (m := fun st => ev C a st) (fun _ _ _ _ => list_out) q
      | exact bind_out (m := fun st => ev C a st) (fun _ _ _ _ => sorted_out) q
      | exact bind_out (m := fun st => ev C a st) (fun _ _ _ _ => dks_out) q
      | cases h
  · rename_i tt kk a b
    rw [ev] at q
    obtain ⟨x, k1, e1, e2⟩ := bind_some.mp q
    obtain ⟨y, k2, e3, e4⟩ := bind_some.mp e2
    cases tt with
    | true => cases h
    | false => exact cv_out e4
  · cases h
theorem evq_v {i : Nat} : ev C (.v i) = fun st => getV st i := funext fun st => by rw [ev]
theorem evq_bv {i : Nat} : ev C (.bv i) = fun st => getB st i := funext fun st => by rw [ev]
theorem evq_c {d : D} : ev C (.c d) = fun st => pure d := funext fun st => by rw [ev]
theorem evq_gl {i : Nat} {d : D} : ev C (.gl i d) = fun st => pure d := funext fun st => by rw [ev]
theorem evq_tup {es : List G.E} : ev C (.tup es) = fun st => (do let ds ← evs C es st; pure (.tup ds)) := funext fun st => by rw [ev]
theorem evq_lst {es : List G.E} : ev C (.lst es) = fun st => (do let ds ← evs C es st; pure (.lst ds)) := funext fun st => by rw [ev]
theorem evq_neg {a : G.E} : ev C (.neg a) = fun st => (do let x ← ev C a st; negD x) := funext fun st => by rw [ev]
theorem evq_cmp {o : Cp} {a b : G.E} : ev C (.cmp o a b) = fun st => (do let x ← ev C a st; let y ← ev C b st; cmpM o x y) := funext fun st => by rw [ev]
theorem evq_chain {o o' : Cp} {a b c : G.E} : ev C (.chain o o' a b c) = fun st => (do let x ← ev C a st; let y ← ev C b st; let r ← cmpD o x y; if r then do let z ← ev C c st; cmpM o' y z else pure (.bl false)) := funext fun st => by rw [ev]
theorem evq_isn {q : Bool} {a : G.E} : ev C (.isn q a) = fun st => (do let x ← ev C a st; pure (isnD q x)) := funext fun st => by rw [ev]
theorem evq_isb {q bb : Bool} {a : G.E} : ev C (.isb q a bb) = fun st => (do let x ← ev C a st; isbD q bb x) := funext fun st => by rw [ev]
theorem evq_inn {q : Bool} {a b : G.E} : ev C (.inn q a b) = fun st => (do let x ← ev C a st; let y ← ev C b st; inM q x y) := funext fun st => by rw [ev]
theorem evq_not {a : G.E} : ev C (.not a) = fun st => (do let x ← ev C a st; let r ← tru x; pure (.bl !r)) := funext fun st => by rw [ev]
theorem evq_and {es : List G.E} : ev C (.and es) = evAnd C es := funext fun st => by rw [ev]
theorem evq_or {es : List G.E} : ev C (.or es) = evOr C es := funext fun st => by rw [ev]
theorem evq_ite {q a b : G.E} : ev C (.ite q a b) = iteM (ev C q) (ev C a) (ev C b) := funext fun st => by rw [ev]; rfl
theorem evq_call {f : Nat} {es : List G.E} : ev C (.call f es) = fun st => (do let ds ← evs C es st; C.cl f ds) := funext fun st => by rw [ev]
theorem evq_callv {i : Nat} {es : List G.E} : ev C (.callv i es) = fun st => (do let (li, cs) ← getC st i; let ds ← evs C es st; C.cc li cs ds) := funext fun st => by rw [ev]
theorem evq_callL {f li : Nat} {a : G.E} {is : List Nat} : ev C (.callL f [a] li is) = fun st => (do let d ← ev C a st; let cs ← caps st is; C.cx f [d] li cs) := funext fun st => by
  rw [ev, evs, evs]
  simp only [pure_bind, bind_assoc]
theorem lam2_ok {pr : Arguments} {a b : Str} (h : lam2 pr = some (a, b)) : (∀ env, defaultsOf pr env = ([], [])) ∧ ∀ (q : Str) (bd : Expr) (sp : Scope) (cl : List (Str × Addr)) (pm cv ctv : Value) (us : List Value), us.length = 2 → bindArgs (PySem.W.kla_fn "<lambda>" q pr bd sp cl pm cv ctv) ⟨us, []⟩ = pure ([a, b].zip us) := by
  unfold lam2 at h
  split at h
  · rename_i x y
    obtain ⟨xa, xn, xp⟩ := x
    obtain ⟨ya, yn, yp⟩ := y
    split at h
    · rename_i hxy
      obtain ⟨h1, h2⟩ := hxy
      have h1 : xa = "one" := h1
      have h2 : ya = "other" := h2
      subst h1 h2
      cases h
      refine ⟨fun env => rfl, fun q bd sp cl pm cv ctv us hl => ?_⟩
      match us, hl with
      | [u, v], _ => rfl
    · split at h
      · rename_i hxy
        obtain ⟨h1, h2⟩ := hxy
        have h1 : xa = "first" := h1
        have h2 : ya = "second" := h2
        subst h1 h2
        cases h
        refine ⟨fun env => rfl, fun q bd sp cl pm cv ctv us hl => ?_⟩
        match us, hl with
        | [u, v], _ => rfl
      · cases h
  · cases h
theorem chkLam_some {m : Ck} {c : Sc} {li : Nat} {pr : Arguments} {bd : Expr} {sp : Scope} (h : chkLam m c li pr bd sp = true) : ∃ a b ld N fr, lam2 pr = some (a, b) ∧ c.lds[li]? = some ld ∧ c.lamN[li]? = some (N, fr) ∧ ld.np = 2 ∧ ld.nc = fr.length ∧ ld.ns = N.length ∧ LScope ⟨pr, bd, sp, N, [a, b], fr⟩ ∧
    m { c with N := N, sc := sp, raw := some sp, lam := false } ld.body bd = true := by
  unfold chkLam at h
  split at h
  · rename_i a b ld N fr e1 e2 e3
    simp only [Bool.and_eq_true, decide_eq_true_eq] at h
    obtain ⟨⟨⟨⟨h1, h2⟩, h3⟩, h4⟩, h5⟩ := h
    exact ⟨a, b, ld, N, fr, e1, e2, e3, h1, h2, h3, lscope_by h4, h5⟩
  · cases h
theorem callL_ok (E : EnvOk g C n c X) {f li : Nat} {is : List Nat} {nm : Str} {p lpos pos : Pos} {x : Expr} {pr : Arguments} {bd : Expr} {sp : Scope} {fa : Addr} {fd : FuncData} {ps : List Str} {ma : G.St → M D} (h1 : c.lam = true) (h2 : c.raw.isNone = true) (h3 : c.glob nm = true)
    (F : FnOk X.prog X.w X.K X.mg X.base L2.CX0 n fa fd ps (spFX g 2 (C.cl f) (C.cx f))) (f1 : X.mg nm = some (.ref fa)) (f2 : PySem.W.keepIn X.K (.ref fa) = true) (f3 : Binds X.K fd ps []) (h5 : (nm == ("__debug__" : Str)) = false) (h6 : notStar x = true) (he : PE X x (tM g ma))
    (hok : ∃ k, m = chk k) (h8 : chkLam m c li pr bd sp = true) (h9 : chkCap c li is = true) :
    PE X (.Call (.Name nm p) [x, .Lambda pr bd sp lpos] [] pos) (tM g fun st => do let d ← ma st; let cs ← caps st is; C.cx f [d] li cs) := by
  obtain ⟨k, rfl⟩ := hok
  obtain ⟨a, b, ld, N, fr, e1, e2, e3, e4, e5, e6, S, e7⟩ := chkLam_some h8
  obtain ⟨ca, P, t1, t2, t3, t4⟩ := E.mkl h1
  unfold chkCap at h9
  rw [e3] at h9
  simp only [Bool.and_eq_true, decide_eq_true_eq, List.all_eq_true] at h9
  obtain ⟨g1, g2⟩ := h9
  have hraw : c.raw = none := by simpa using h2
  refine pm_callL (L := ⟨pr, bd, sp, N, [a, b], fr⟩) (ok := okL c) E.K E.clo ⟨k, a, b, e3, e1, rfl, h8⟩ S (F.imp fun _ _ _ _ q => .inr q) E.room (E.gl h3) f1 f2 f3 h5 (star_of h6) he t2 t1 t3 t4 ((lam2_ok e1).1 _) (fun y => by rw [E.top, hraw]) g1 fun i y j q1 q2 => ?_
  have hz : (y, j) ∈ fr.zip is := by
    refine List.mem_of_getElem? (i := i) ?_
    rw [List.getElem?_zip_eq_some]
    exact ⟨q1, q2⟩
  obtain ⟨z1, z2⟩ := g2 _ hz
  exact ⟨by rw [E.N]; exact z1, by rw [E.sc]; exact z2⟩
theorem evq_b1 {f : F1} {a : G.E} : ev C (.b1 f a) = fun st => (do let d ← ev C a st; f1D f d) := funext fun st => by rw [ev]
theorem evq_b2 {f : F2} {a b : G.E} : ev C (.b2 f a b) = fun st => (do let d ← ev C a st; let d' ← ev C b st; f2D f d d') := funext fun st => by rw [ev]
theorem evq_cv {t : Bool} {k : Sk} {a b : G.E} : ev C (.cv t k a b) = fun st => (do let x ← ev C a st; let y ← ev C b st; cvD t k x y) := funext fun st => by rw [ev]
theorem evq_isi {q : Ty} {a : G.E} : ev C (.isi q a) = fun st => (do let x ← ev C a st; let r ← isTy q x; pure (.bl r)) := funext fun st => by rw [ev]
theorem evq_ix {a b : G.E} : ev C (.ix a b) = fun st => (do let x ← ev C a st; let y ← ev C b st; ixD x y) := funext fun st => by rw [ev]
theorem evq_slh {a b : G.E} : ev C (.slh a b) = fun st => (do let x ← ev C a st; let y ← ev C b st; slhD x y) := funext fun st => by rw [ev]
theorem evq_sll {a b : G.E} : ev C (.sll a b) = fun st => (do let x ← ev C a st; let y ← ev C b st; sllD x y) := funext fun st => by rw [ev]
theorem evq_slb {a b c : G.E} : ev C (.slb a b c) = fun st => (do let x ← ev C a st; let y ← ev C b st; let z ← ev C c st; slbD x y z) := funext fun st => by rw [ev]
theorem evq_rev {a : G.E} : ev C (.rev a) = fun st => (do let x ← ev C a st; revD x) := funext fun st => by rw [ev]
theorem evq_add {a b : G.E} : ev C (.add a b) = fun st => (do let x ← ev C a st; let y ← ev C b st; addD x y) := funext fun st => by rw [ev]
theorem evq_sub {a b : G.E} : ev C (.sub a b) = fun st => (do let x ← ev C a st; let y ← ev C b st; subD x y) := funext fun st => by rw [ev]
theorem evq_mul {a b : G.E} : ev C (.mul a b) = fun st => (do let x ← ev C a st; let y ← ev C b st; mulD x y) := funext fun st => by rw [ev]
theorem evq_fdv {a b : G.E} : ev C (.fdv a b) = fun st => (do let x ← ev C a st; let y ← ev C b st; fdvD x y) := funext fun st => by rw [ev]
theorem evq_mod {a b : G.E} : ev C (.mod a b) = fun st => (do let x ← ev C a st; let y ← ev C b st; modD x y) := funext fun st => by rw [ev]
theorem evq_bit {o : Bo} {a b : G.E} : ev C (.bit o a b) = fun st => (do let x ← ev C a st; let y ← ev C b st; bitD o x y) := funext fun st => by rw [ev]
theorem evq_inv {a : G.E} : ev C (.inv a) = fun st => (do let x ← ev C a st; invD x) := funext fun st => by rw [ev]
theorem evq_bes {a : G.E} : ev C (.bes a) = fun st => (do let x ← ev C a st; besD x) := funext fun st => by rw [ev]
theorem evq_mth {f : Nat} {a : G.E} {es : List G.E} : ev C (.mth f a es) = fun st => (do let x ← ev C a st; let ds ← evs C es st; if isSk x then C.cl f (x :: ds) else no) := funext fun st => by rw [ev]
theorem evq_mk {f : Nat} {es : List G.E} : ev C (.mk f es) = fun st => (do let ds ← evs C es st; C.cl f ds) := funext fun st => by rw [ev]
theorem evs_one {b : G.E} : evs C [b] = fun st => (do let d ← ev C b st; let ds ← (fun _ => pure [] : G.St → M (List D)) st; pure (d :: ds)) := funext fun st => by rw [evs]; rfl
theorem some_isSome {α : Type} {o : Option α} (h : o.isSome = true) : ∃ a, o = some a := by
  cases o with
  | none => cases h
  | some a => exact ⟨a, rfl⟩
theorem str_app_inj {p a b : Str} (h : p ++ a = p ++ b) : a = b := by
  have e := congrArg (fun s : Str => s.cps.toList) h
  have e2 : p.cps.toList ++ a.cps.toList = p.cps.toList ++ b.cps.toList := by
    have e3 : ∀ x y : Str, (x ++ y).cps.toList = x.cps.toList ++ y.cps.toList := fun x y => by
      show (x.cps ++ y.cps).toList = _
      simp
    rw [← e3, ← e3]
    exact e
  have e4 := List.append_cancel_left e2
  cases a; cases b
  congr 1
  exact Array.toList_inj.mp e4
theorem mk_ok (E : EnvOk g C n c X) {f : Nat} {x : Expr} {p pos : Pos} {fs : G.St → M (List D)} (hg : c.glob "Seeker" = true) (hl : c.fns.lookup ("Seeker" : Str) = some (f, 301)) (hs : notStar x = true) (he : PA X [x] (tMA g fs)) :
    PE X (.Call (.Name "Seeker" p) [x] [] pos) (tM g fun st => do let ds ← fs st; C.cl f ds) := by
  obtain ⟨hm, hh⟩ := (E.fns _ _ _ hl).2.2.2.2 rfl
  refine ⟨fun pins s σ H Q I h => ?_⟩
  obtain ⟨T, k, st, d, k', w, r, em, q⟩ := h
  obtain ⟨ds, k1, e1, e2⟩ := bind_some.mp em
  obtain ⟨n', h', fa, fd, ps, hn, M, F, hb, eh⟩ := hh ds k1 _ e2
  have hr : Room (n' + 1) X.A := by rw [← hn]; exact E.room
  have M' : Mk g.K (skA g.K) fa := by rw [← E.K]; exact M
  have hm' : X.mg "Seeker" = some (.ref (skA g.K)) := by rw [← E.K]; exact hm
  refine (pm_mk (g := g) (h := h') (p := p) (pos := pos) E.K M' F hr (E.gl hg) hm' hb (star_of hs) he).run pins s σ H Q I ⟨T, k, st, d, k', w, r, bind_some.mpr ⟨ds, k1, e1, eh⟩, q⟩
theorem ev_f {e : G.E} {f : G.St → M D} (h : ∀ st, ev C e st = f st) : ev C e = f := funext h
/-- built-ins of one value -/
theorem b1_ok (E : EnvOk g C n c X) {f : F1} {x : Str} {a : Expr} {p pos : Pos} {ma : G.St → M D} (hg : c.glob x = true) (hx : x = b1N f) (hf : b1Ok f = true) (hs : notStar a = true) (ha : PE X a (tO g ma)) :
    (PE X (.Call (.Name x p) [a] [] pos) (tM g fun st => do let d ← ma st; f1D f d)) ∧ (b1New f = true → PE X (.Call (.Name x p) [a] [] pos) (tN g fun st => do let d ← ma st; f1D f d)) := by
  subst hx
  have G := E.gl hg
  have S := star_of hs
  cases f with
  | len => exact ⟨pm_b1 (call_lenD E.K) G (E.blt _ (by decide)) (by decide +kernel) (by decide) (by decide) S ha, fun z => by cases z⟩
  | all => exact ⟨pm_b1 (call_allD E.K E.calm) G (E.blt _ (by decide)) (by decide +kernel) (by decide) (by decide) S ha, fun z => by cases z⟩
  | any => exact ⟨pm_b1 (call_anyD E.K E.calm) G (E.blt _ (by decide)) (by decide +kernel) (by decide) (by decide) S ha, fun z => by cases z⟩
  | sum => exact ⟨pm_b1 (call_sumD E.K E.calm) G (E.blt _ (by decide)) (by decide +kernel) (by decide) (by decide) S ha, fun z => by cases z⟩
  | min => exact ⟨pm_b1 (call_minD E.K E.calm E.units) G (E.blt _ (by decide)) (by decide +kernel) (by decide) (by decide) S ha, fun z => by cases z⟩
  | max => exact ⟨pm_b1 (call_maxD E.K E.calm E.units) G (E.blt _ (by decide)) (by decide +kernel) (by decide) (by decide) S ha, fun z => by cases z⟩
  | tuple => exact ⟨pm_t1 (call_tupleD E.K) G (E.blt _ (by decide)) (by decide +kernel) (by decide) (by decide) S ha, fun z => by cases z⟩
  | list =>
    have q := pn_t1 (call_listN E.K) (p := p) (pos := pos) G (E.blt _ (by decide)) (by decide +kernel) (by decide) (by decide) S ha
    exact ⟨PE.lockN (fun _ _ _ _ => bind_out fun _ _ _ _ => list_out) q, fun _ => q⟩
  | sorted =>
    have q := pn_b1 (call_sortedN E.K E.units) (p := p) (pos := pos) G (E.blt _ (by decide)) (by decide +kernel) (by decide) (by decide) S ha
    exact ⟨PE.lockN (fun _ _ _ _ => bind_out fun _ _ _ _ => sorted_out) q, fun _ => q⟩
  | int =>
    refine ⟨PEm (pm_t1 call_intD G (E.blt _ (by decide)) (by decide +kernel) (by decide) (by decide) S ha) fun st k r q => ?_, fun z => by cases z⟩
    obtain ⟨d, k1, e1, e2⟩ := bind_some.mp q
    refine bind_some.mpr ⟨d, k1, e1, ?_⟩
    cases d with
    | int i => exact e2
    | bl b => exact e2
    | _ => exact absurd e2 (no_some (k := k1))
  | str => cases hf
  | dict => cases hf
  | num => cases hf
  | dks => cases hf
theorem snd1 (hm : Snd g C n m) (ht : SndT g C n t) (hok : ∃ k, m = chk k) (E : EnvOk g C n c X) {e : G.E} {x : Expr} (h : chk1 m t c e x = true) : PE X x (tM g (ev C e)) ∧ (isN e = true → PE X x (tN g (ev C e))) := by
  have no : ∀ {e : G.E} {P : Prop}, isN e = false → (isN e = true → P) := fun h z => by rw [h] at z; cases z
  unfold chk1 at h
  split at h
  · -- v
    obtain ⟨h1, h2, h3, h4⟩ := slot_of h
    rw [evq_v]
    exact ⟨pm_v (by rw [E.N]; exact h1) (vis_of E h2) h3 h4, no rfl⟩
  · rw [evq_c]
    exact ⟨const_ok h, no rfl⟩
  · -- gl
    rename_i k d nm p
    simp only [Bool.and_eq_true, Bool.not_eq_true'] at h
    obtain ⟨⟨h1, h2⟩, h3⟩ := h
    split at h2
    · rename_i n' d' hk
      rw [Bool.and_eq_true] at h2
      have e1 := of_decide_eq_true h2.1
      have e2 := eqC_eq h2.2
      subst e1 e2
      obtain ⟨v, u, g1, g2, g3⟩ := E.gls _ _ _ hk
      rw [evq_gl]
      exact ⟨pm_c g3 (pe_glob (E.gl h1) g1 g2 h3), no rfl⟩
    · cases h2
  · -- tup
    simp only [Bool.and_eq_true, decide_eq_true_eq] at h
    obtain ⟨i1, i2, i3⟩ := snd_all hm E h.2
    rw [evq_tup]
    exact ⟨pm_tup h.1 (fun st k ds k' e => by rw [evs_len e, i2]) i1, no rfl⟩
  · -- lst
    simp only [Bool.and_eq_true, decide_eq_true_eq] at h
    obtain ⟨i1, i2, i3⟩ := snd_all hm E h.2
    have q := pn_lst (pos := by assumption) h.1 (fun st k ds k' e => by rw [evs_len e, i2]) i1
    rw [evq_lst]
    exact ⟨PE.lockN (fun _ _ _ _ => lst_out) q, fun _ => q⟩
  · rw [Bool.and_eq_true] at h
    rw [evq_add]
    exact ⟨pm_op (op_addD E.K) (hm _ _ _ _ E h.1) (hm _ _ _ _ E h.2), no rfl⟩
  · rw [Bool.and_eq_true] at h
    rw [evq_sub]
    exact ⟨pm_op op_subD (hm _ _ _ _ E h.1) (hm _ _ _ _ E h.2), no rfl⟩
  · rw [Bool.and_eq_true] at h
    rw [evq_mul]
    exact ⟨pm_op op_mulD (hm _ _ _ _ E h.1) (hm _ _ _ _ E h.2), no rfl⟩
  · rw [Bool.and_eq_true] at h
    rw [evq_fdv]
    exact ⟨pm_op op_fdvD (hm _ _ _ _ E h.1) (hm _ _ _ _ E h.2), no rfl⟩
  · rw [Bool.and_eq_true] at h
    rw [evq_mod]
    exact ⟨pm_op op_modD (hm _ _ _ _ E h.1) (hm _ _ _ _ E h.2), no rfl⟩
  · rw [evq_neg]
    exact ⟨pm_un un_negD (hm _ _ _ _ E h), no rfl⟩
  · -- cmp
    simp only [Bool.and_eq_true, decide_eq_true_eq, Bool.not_eq_true'] at h
    obtain ⟨⟨⟨h1, h2⟩, h3⟩, h4⟩ := h
    subst h1
    rw [evq_cmp]
    exact ⟨pm_cmp (op_cmp E.K E.units _) (hm _ _ _ _ E h3) (hm _ _ _ _ E h4) h2, no rfl⟩
  · -- chain
    simp only [Bool.and_eq_true, decide_eq_true_eq, Bool.not_eq_true'] at h
    obtain ⟨⟨⟨⟨⟨h1, h2⟩, h3⟩, h4⟩, h5⟩, h6⟩ := h
    subst h1 h2
    refine ⟨?_, no rfl⟩
    rw [evq_chain]
    exact (pm_chain E.K E.units (hm _ _ _ _ E h4) (hm _ _ _ _ E h5) (hm _ _ _ _ E h6) h3).1
  · -- isn
    simp only [Bool.and_eq_true, decide_eq_true_eq] at h
    obtain ⟨h1, h2⟩ := h
    subst h1
    rw [evq_isn]
    exact ⟨pm_isn (hm _ _ _ _ E h2), no rfl⟩
  · -- isb
    simp only [Bool.and_eq_true, decide_eq_true_eq] at h
    obtain ⟨⟨h1, h0⟩, h2⟩ := h
    subst h1 h0
    rw [evq_isb]
    exact ⟨pm_isb rfl pe_bl (hm _ _ _ _ E h2), no rfl⟩
  · -- inn
    simp only [Bool.and_eq_true, decide_eq_true_eq, Bool.not_eq_true'] at h
    obtain ⟨⟨⟨h1, h2⟩, h3⟩, h4⟩ := h
    subst h1
    rw [evq_inn]
    exact ⟨pm_inn E.K E.units5 (hm _ _ _ _ E h3) (snd_o hm E h4) h2, no rfl⟩
  · -- not
    rw [evq_not]
    exact ⟨pm_not E.K (snd_o hm E h), no rfl⟩
  · simp only [Bool.and_eq_true, Bool.not_eq_true'] at h
    rw [evq_and]
    exact ⟨snd_and hm E h.1 (fun z => by rw [z] at h; exact absurd h.2 (by simp)), no rfl⟩
  · simp only [Bool.and_eq_true, Bool.not_eq_true'] at h
    rw [evq_or]
    exact ⟨snd_or hm E h.1 (fun z => by rw [z] at h; exact absurd h.2 (by simp)), no rfl⟩
  · -- ite
    simp only [Bool.and_eq_true] at h
    rw [evq_ite]
    exact ⟨pm_ite (ht _ _ _ _ E h.1.1) (hm _ _ _ _ E h.1.2) (hm _ _ _ _ E h.2), no rfl⟩
  · -- call
    rename_i f es nm p xs pos
    simp only [Bool.and_eq_true, decide_eq_true_eq, Bool.not_eq_true'] at h
    obtain ⟨⟨⟨⟨⟨h1, h2⟩, h0⟩, h3⟩, h4⟩, h5⟩ := h
    obtain ⟨i1, i2, i3⟩ := snd_all hm E h5
    obtain ⟨fa, fd, ps, F, f1, f2, f3⟩ := E.fn h2 h0
    cases xs with
    | nil => simp at h4
    | cons x xs =>
      rw [evq_call]
      exact ⟨pm_call (E := L2.E0) (F.imp fun _ _ _ _ q => .inl q) E.room (E.gl h1) f1 f2 f3 L2.pass0 h3 i2.symm (fun st k ds k' e => by rw [evs_len e, i2]) i3 i1, no rfl⟩
  · -- callv
    rename_i i es nm p xs pos
    simp only [Bool.and_eq_true, Bool.not_eq_true'] at h
    obtain ⟨⟨h1, h4⟩, h5⟩ := h
    obtain ⟨j1, j2, j3, j4⟩ := slot_of h1
    obtain ⟨i1, i2, i3⟩ := snd_all hm E h5
    cases xs with
    | nil => simp at h4
    | cons x xs =>
      rw [evq_callv]
      exact ⟨pm_callv E.K E.clo E.lamp E.room (by rw [E.N]; exact j1) (vis_of E j2) j3 j4 i3 i1, no rfl⟩
  · -- callL
    rename_i f a li is nm p x pr bd sp lpos pos
    simp only [Bool.and_eq_true, decide_eq_true_eq, Bool.not_eq_true'] at h
    obtain ⟨⟨⟨⟨⟨⟨⟨⟨h1, h2⟩, h3⟩, h4⟩, h5⟩, h6⟩, h7⟩, h8⟩, h9⟩ := h
    obtain ⟨fa, fd, ps, F, f1, f2, f3⟩ := E.fn h4 (by decide)
    rw [evq_callL]
    exact ⟨callL_ok E h1 h2 h3 F f1 f2 f3 h5 h6 (hm _ _ _ _ E h7) hok h8 h9, no rfl⟩
  · -- sorted(dict(x))
    rename_i a nm p r p2 x q2 pos
    simp only [Bool.and_eq_true, decide_eq_true_eq] at h
    obtain ⟨⟨⟨⟨⟨h1, h2⟩, h3⟩, h4⟩, h5⟩, h6⟩ := h
    subst h2 h4
    rw [evq_b1]
    have q := pn_dks (p := p2) (pos := q2) (p2 := p) (p3 := pos) E.K E.calm (E.gl h1) (E.blt _ (by decide)) (E.gl h3) (E.blt _ (by decide)) (star_of h5) (snd_o hm E h6)
    exact ⟨PE.lockN (fun _ _ _ _ => bind_out fun _ _ _ _ => dks_out) q, fun _ => q⟩
  · -- b1
    rename_i f a nm p x pos
    simp only [Bool.and_eq_true, decide_eq_true_eq] at h
    obtain ⟨⟨⟨⟨h1, h2⟩, h3⟩, h4⟩, h5⟩ := h
    rw [evq_b1]
    exact b1_ok E h1 h2 h3 h4 (snd_o hm E h5)
  · -- b2
    rename_i f a b nm p x y pos
    simp only [Bool.and_eq_true] at h
    obtain ⟨⟨⟨⟨⟨h1, h2⟩, h3⟩, h4⟩, h5⟩, h6⟩ := h
    rw [evq_b2]
    cases f with
    | min =>
      have e := of_decide_eq_true h2
      subst e
      exact ⟨pm_b2 (call_min2D E.calm) (E.gl h1) (E.blt _ (by decide)) (by decide +kernel) (by decide) (by decide) (star_of h3) (star_of h4) (hm _ _ _ _ E h5) (hm _ _ _ _ E h6), no rfl⟩
    | max =>
      have e := of_decide_eq_true h2
      subst e
      exact ⟨pm_b2 (call_max2D E.calm) (E.gl h1) (E.blt _ (by decide)) (by decide +kernel) (by decide) (by decide) (star_of h3) (star_of h4) (hm _ _ _ _ E h5) (hm _ _ _ _ E h6), no rfl⟩
    | sum => cases h2
  · -- isi
    rename_i q a nm p x u p2 k2
    simp only [Bool.and_eq_true, decide_eq_true_eq] at h
    obtain ⟨⟨⟨⟨⟨h1, h2⟩, h3⟩, h4⟩, h5⟩, h6⟩ := h
    subst h2
    have hb : X.mg u = none := by
      subst h4
      cases q <;> exact E.blt _ (by decide)
    rw [evq_isi]
    exact ⟨pm_isi E.K (E.gl h1) (E.blt _ (by decide)) h4 (E.gl h3) hb (star_of h5) (hm _ _ _ _ E h6), no rfl⟩
  · -- ix
    rename_i a b x y pos
    simp only [Bool.and_eq_true] at h
    obtain ⟨⟨h1, h2⟩, h3⟩ := h
    refine ⟨?_, no rfl⟩
    rw [evq_ix]
    unfold chkO at h2
    split at h2
    · rename_i i x
      unfold bvOk at h2
      split at h2
      · obtain ⟨j1, j2, j3, j4⟩ := slot_of h2
        rw [evq_bv]
        exact pm_ixB E.K (by rw [E.N]; exact j1) (vis_of E j2) j3 j4 (hm _ _ _ _ E h3) h1
      · cases h2
    · exact pm_ix E.K (hm _ _ _ _ E h2) (hm _ _ _ _ E h3) h1
  · rw [Bool.and_eq_true] at h
    rw [evq_slh]
    exact ⟨pm_slh E.K (hm _ _ _ _ E h.1) (hm _ _ _ _ E h.2), no rfl⟩
  · rw [Bool.and_eq_true] at h
    rw [evq_sll]
    exact ⟨pm_sll E.K (hm _ _ _ _ E h.1) (hm _ _ _ _ E h.2), no rfl⟩
  · rw [Bool.and_eq_true, Bool.and_eq_true] at h
    rw [evq_slb]
    exact ⟨pm_slb E.K (hm _ _ _ _ E h.1.1) (hm _ _ _ _ E h.1.2) (hm _ _ _ _ E h.2), no rfl⟩
  · -- rev
    rename_i a x j kk p1 p2 p3 pos
    simp only [Bool.and_eq_true, decide_eq_true_eq] at h
    obtain ⟨h1, h2⟩ := h
    subst h1
    rw [evq_rev]
    exact ⟨pm_rev E.K (hm _ _ _ _ E h2), no rfl⟩
  · -- lc
    have q := lc_ok hm ht E h
    exact ⟨PE.lockN (fun _ _ _ _ => lc_out) q, fun _ => q⟩
  · -- cv range(n)
    rename_i tt a b nm p r p2 x q2 pos
    simp only [Bool.and_eq_true, decide_eq_true_eq] at h
    obtain ⟨⟨⟨⟨⟨⟨h1, h2⟩, h3⟩, h4⟩, h5⟩, h6⟩, h7⟩ := h
    subst h5
    rw [evq_cv, isNonE_of h1]
    have ec : ∀ {st : G.St} {k : Nat} {r : D × Nat}, (do let x ← ev C a st; let y ← ev C (.c .non) st; cvD tt .r1 x y : M D) k = some r → (do let x ← ev C a st; cvD tt .r1 x .non : M D) k = some r := fun {st k r} q => by
      rw [evq_c] at q
      simpa using q
    cases tt with
    | true =>
      have h3 : nm = "tuple" := h3
      subst h3
      exact ⟨PEm (pm_tupR1 E.calm (E.gl h2) (E.blt _ (by decide)) (E.gl h4) (E.blt _ (by decide)) (star_of h6) (hm _ _ _ _ E h7)) fun st k r q => ec q, fun z => by cases z⟩
    | false =>
      have h3 : nm = "list" := h3
      subst h3
      have q := pn_lstR1 (p1 := p) (p2 := pos) (p := p2) (pos := q2) E.calm (E.gl h2) (E.blt _ (by decide)) (E.gl h4) (E.blt _ (by decide)) (star_of h6) (hm _ _ _ _ E h7)
      have q2 := PEi q fun σ H Q (z : tN g (fun st => (do let x ← ev C a st; let y ← ev C (.c .non) st; cvD false .r1 x y)) σ H Q) => by
        obtain ⟨T, k, st, d, k', w, r, em, q⟩ := z
        exact (⟨T, k, st, d, k', w, r, ec em, q⟩ : tN g (fun st => do let x ← ev C a st; cvD false .r1 x .non) σ H Q)
      exact ⟨PE.lockN (fun st k d k' z => by
        obtain ⟨x, k1, e1, e2⟩ := bind_some.mp z
        obtain ⟨y, k2, e3, e4⟩ := bind_some.mp e2
        exact cv_out e4) q2, fun _ => q2⟩
  · -- bit
    simp only [Bool.and_eq_true, decide_eq_true_eq] at h
    obtain ⟨⟨h1, h2⟩, h3⟩ := h
    subst h1
    rw [evq_bit]
    exact ⟨pm_op (op_bitD _) (hm _ _ _ _ E h2) (hm _ _ _ _ E h3), no rfl⟩
  · rw [evq_inv]
    exact ⟨pm_un un_invD (hm _ _ _ _ E h), no rfl⟩
  · -- bes
    simp only [Bool.and_eq_true, decide_eq_true_eq] at h
    obtain ⟨⟨⟨h1, h2⟩, h3⟩, h4⟩ := h
    subst h1
    rw [evq_bes]
    have hsk := h2
    obtain ⟨⟨i, np⟩, e⟩ := some_isSome h2.1
    exact ⟨pm_bes E.K (by rw [← E.K]; exact (E.fns _ _ _ e).2.1 (by have := h2.2; rw [e] at this; simpa using this)) h3 (hm _ _ _ _ E h4), no rfl⟩
  · -- mth
    rename_i f a b y mn ap x cp
    simp only [Bool.and_eq_true, decide_eq_true_eq] at h
    obtain ⟨⟨⟨⟨⟨h1, h2⟩, h3⟩, h4⟩, h5⟩, h6⟩ := h
    obtain ⟨m', fa, fd, ps, q1, q2, q3, q4, q5, q6⟩ := (E.fns _ _ _ h1).2.2.1 rfl
    have em : m' = mn := (str_app_inj q1).symm
    subst em
    have S := (E.fns _ _ _ h1).2.1 (by decide)
    rw [evq_mth]
    rw [E.K] at S q4
    rw [evs_one]
    exact ⟨pm_mth E.K S q4 q5 E.room q6 q2 q3 h3 (star_of h4) h2 (hm _ _ _ _ E h5) (pam_cons (star_of h4) (hm _ _ _ _ E h6) pam_nil), no rfl⟩
  · -- mk
    rename_i f b nm p x pos
    simp only [Bool.and_eq_true, decide_eq_true_eq] at h
    obtain ⟨⟨⟨⟨h1, h2⟩, h3⟩, h4⟩, h5⟩ := h
    subst h2
    rw [evq_mk, evs_one]
    exact ⟨mk_ok E h1 h3 h4 (pam_cons (star_of h4) (hm _ _ _ _ E h5) pam_nil), no rfl⟩
  · -- cv range(i, j)
    rename_i tt a b nm p r p2 x y q2 pos
    simp only [Bool.and_eq_true, decide_eq_true_eq] at h
    obtain ⟨⟨⟨⟨⟨⟨⟨h2, h3⟩, h4⟩, h5⟩, h6⟩, h6'⟩, h7⟩, h8⟩ := h
    subst h5
    rw [evq_cv]
    cases tt with
    | true =>
      have h3 : nm = "tuple" := h3
      subst h3
      exact ⟨pm_tupR2 E.calm (E.gl h2) (E.blt _ (by decide)) (E.gl h4) (E.blt _ (by decide)) (star_of h6) (star_of h6') (hm _ _ _ _ E h7) (hm _ _ _ _ E h8), fun z => by cases z⟩
    | false =>
      have h3 : nm = "list" := h3
      subst h3
      have q := pn_lstR2 (p1 := p) (p2 := pos) (p := p2) (pos := q2) E.calm (E.gl h2) (E.blt _ (by decide)) (E.gl h4) (E.blt _ (by decide)) (star_of h6) (star_of h6') (hm _ _ _ _ E h7) (hm _ _ _ _ E h8)
      exact ⟨PE.lockN (fun st k d k' z => by
        obtain ⟨x, k1, e1, e2⟩ := bind_some.mp z
        obtain ⟨y, k2, e3, e4⟩ := bind_some.mp e2
        exact cv_out e4) q, fun _ => q⟩
  · cases h
theorem sndT1 (hm : Snd g C n m) (ht : SndT g C n t) (E : EnvOk g C n c X) {e : G.E} {x : Expr} (h : chkT1 m t c e x = true) : PT X x (tMB g (truM (ev C e))) := by
  unfold chkT1 at h
  split at h
  · rw [evq_not]
    exact pmt_not' (ht _ _ _ _ E h)
  · simp only [Bool.and_eq_true, Bool.not_eq_true'] at h
    rw [evq_and]
    exact (snd_andT ht E h.1 (fun z => by rw [z] at h; exact absurd h.2 (by simp))).pt
  · simp only [Bool.and_eq_true, Bool.not_eq_true'] at h
    rw [evq_or]
    exact (snd_orT ht E h.1 (fun z => by rw [z] at h; exact absurd h.2 (by simp))).pt
  · simp only [Bool.and_eq_true, decide_eq_true_eq, Bool.not_eq_true'] at h
    obtain ⟨⟨⟨h1, h2⟩, h3⟩, h4⟩ := h
    subst h1
    rw [evq_cmp]
    exact pmt_cmp' E.K E.units (hm _ _ _ _ E h3) (hm _ _ _ _ E h4) h2
  · simp only [Bool.and_eq_true, decide_eq_true_eq, Bool.not_eq_true'] at h
    obtain ⟨⟨⟨⟨⟨h1, h2⟩, h3⟩, h4⟩, h5⟩, h6⟩ := h
    subst h1 h2
    rw [evq_chain]
    exact pt_bool (fun st k d k' e => chain_bl e) (pm_chain E.K E.units (hm _ _ _ _ E h4) (hm _ _ _ _ E h5) (hm _ _ _ _ E h6) h3).2
  · simp only [Bool.and_eq_true, decide_eq_true_eq] at h
    obtain ⟨h1, h2⟩ := h
    subst h1
    rw [evq_isn]
    exact pmt_isn (hm _ _ _ _ E h2)
  · simp only [Bool.and_eq_true, decide_eq_true_eq] at h
    obtain ⟨⟨h1, h0⟩, h2⟩ := h
    subst h1 h0
    rw [evq_isb]
    exact pmt_isb rfl pe_bl (hm _ _ _ _ E h2)
  · simp only [Bool.and_eq_true, decide_eq_true_eq, Bool.not_eq_true'] at h
    obtain ⟨⟨⟨h1, h2⟩, h3⟩, h4⟩ := h
    subst h1
    rw [evq_inn]
    exact pmt_inn E.K E.units5 (hm _ _ _ _ E h3) (snd_o hm E h4) h2
  · rw [Bool.and_eq_true] at h
    exact pmt_plain E.K h.1 (snd_o hm E h.2)
theorem snd_both : ∀ k, Snd g C n (chk k) ∧ SndT g C n (chkT k)
  | 0 => by
    refine ⟨?_, ?_⟩
    · intro c X e x _ h
      simp [chk] at h
    · intro c X e x _ h
      simp [chkT] at h
  | k + 1 => by
    obtain ⟨i1, i2⟩ := snd_both k
    refine ⟨?_, ?_⟩
    · intro c X e x E h
      unfold chk at h
      exact (snd1 i1 i2 ⟨_, rfl⟩ E h).1
    · intro c X e x E h
      unfold chkT at h
      exact sndT1 i1 i2 E h
theorem snd_N {k : Nat} (E : EnvOk g C n c X) {e : G.E} {x : Expr} (h : chk k c e x = true) (hn : isN e = true) : PE X x (tN g (ev C e)) := by
  cases k with
  | zero => simp [chk] at h
  | succ k =>
    unfold chk at h
    exact (snd1 (snd_both k).1 (snd_both k).2 ⟨_, rfl⟩ E h).2 hn
end
end G

namespace G
open PySem PySem.Spec PyProof.Rows L2

/-- not a comprehension -/
def notComp : Expr → Bool
  | .ListComp .. => false
  | .SetComp .. => false
  | .DictComp .. => false
  | _ => true
def notTupE : Expr → Bool
  | .Tuple .. => false
  | _ => true
def blockK (sc : Scope) : ScopeKind := if sc.kind.isAnnotationScope then .function else sc.kind
/-- a comprehension that is stored at once -/
def swC (sc : Scope) (t : Str) (p : Pos) (v : Expr) : Bool := match v with
  | .ListComp _ _ s vp => (blockK sc == .function && sc.names.lookup t == some .local && p.line == vp.line) && !(s.names.any fun (n, k) => n == t && (k == .local || k == .cell))
  | .SetComp _ _ s vp => (blockK sc == .function && sc.names.lookup t == some .local && p.line == vp.line) && !(s.names.any fun (n, k) => n == t && (k == .local || k == .cell))
  | .DictComp _ _ _ s vp => (blockK sc == .function && sc.names.lookup t == some .local && p.line == vp.line) && !(s.names.any fun (n, k) => n == t && (k == .local || k == .cell))
  | _ => false
theorem swaps_eq {v : Expr} {t : Str} {p : Pos} {l : Nat} {env : Env} : swapsWith v (some (.Name t p)) l env = pure (swC env.scope t p v) := by
  cases v <;> rfl
theorem swapsS_eq {v : Expr} {t : Expr} {l : Nat} {env : Env} (h : ∀ n p, t ≠ .Name n p) : swapsWithSole [t] v l env = pure false := by
  cases v <;> first | rfl | (cases t <;> first | rfl | exact absurd rfl (h _ _))
theorem swapsN_eq {v : Expr} {l : Nat} {env : Env} (h : notComp v = true) : swapsWith v none l env = pure false := by
  cases v <;> first | rfl | (simp [notComp] at h)
/-- two names at once -/
def par2C (sc : Scope) (x y : Str) (px py : Pos) (a b : Expr) : Bool :=
  blockK sc == .function && notStar a && notStar b && sc.names.lookup x == some .local && sc.names.lookup y == some .local && px.line == py.line && !(x == y) && !([a, b].all (foldedForSure 8)) && !([a, b].all (constantsAlone 8))
theorem er2 {x y : Str} (h : (x == y) = false) : [x, y].eraseDups.length = 2 := by
  have h' : (y == x) = false := by rw [← h]; exact Bool.eq_iff_iff.mpr ⟨fun e => by rw [beq_iff_eq] at e ⊢; exact e.symm, fun e => by rw [beq_iff_eq] at e ⊢; exact e.symm⟩
  simp [List.eraseDups_cons, h']
theorem er3 {x y z : Str} (h1 : (x == y) = false) (h2 : (x == z) = false) (h3 : (y == z) = false) : [x, y, z].eraseDups.length = 3 := by
  have sy : ∀ {x y : Str}, (x == y) = false → (y == x) = false := fun {x y} h => by rw [← h]; exact Bool.eq_iff_iff.mpr ⟨fun e => by rw [beq_iff_eq] at e ⊢; exact e.symm, fun e => by rw [beq_iff_eq] at e ⊢; exact e.symm⟩
  simp [List.eraseDups_cons, sy h1, sy h2, sy h3]
theorem par2_eq {env : Env} {x y : Str} {px py pt pt2 : Pos} {kt k2 : Nat} {a b : Expr} (h : par2C env.scope x y px py a b = true) : swappedStores [.Tuple [.Name x px, .Name y py] kt pt] (.Tuple [a, b] k2 pt2) env = pure (some [x, y]) := by
  unfold par2C at h
  simp only [Bool.and_eq_true, Bool.not_eq_true', beq_iff_eq] at h
  obtain ⟨⟨⟨⟨⟨⟨⟨⟨h1, h2⟩, h3⟩, h4⟩, h5⟩, h6⟩, h7⟩, h8⟩, h9⟩ := h
  have k1 : env.blockKind = .function := h1
  have k4 : env.kindOf x = some .local := h4
  have k5 : env.kindOf y = some .local := h5
  have st : ∀ e : Expr, notStar e = true → (match e with | .Starred .. => true | _ => false) = false := fun e h => by
    cases e <;> first | rfl | cases h
  unfold swappedStores
  simp [k1, st a h2, st b h3, k4, k5, h6, h7, h8, h9, Expr.pos]
  rw [if_neg (fun q => q.elim (fun q => Bool.noConfusion ((st a h2).symm.trans q)) (fun q => Bool.noConfusion ((st b h3).symm.trans q))), if_pos (er2 h7)]
/-- three names at once -/
def par3C (sc : Scope) (x y z : Str) (px py pz : Pos) (a b c : Expr) : Bool :=
  blockK sc == .function && notStar a && notStar b && notStar c && sc.names.lookup x == some .local && sc.names.lookup y == some .local && sc.names.lookup z == some .local && px.line == py.line && px.line == pz.line && !(x == y) && !(x == z) && !(y == z) && !([a, b, c].all (foldedForSure 8)) && !([a, b, c].all (constantsAlone 8))
theorem par3_eq {env : Env} {x y z : Str} {px py pz pt pt2 : Pos} {kt k2 : Nat} {a b c : Expr} (h : par3C env.scope x y z px py pz a b c = true) : swappedStores [.Tuple [.Name x px, .Name y py, .Name z pz] kt pt] (.Tuple [a, b, c] k2 pt2) env = pure (some [x, y, z]) := by
  unfold par3C at h
  simp only [Bool.and_eq_true, Bool.not_eq_true', beq_iff_eq] at h
  obtain ⟨⟨⟨⟨⟨⟨⟨⟨⟨⟨⟨⟨⟨h1, h2⟩, h3⟩, h3'⟩, h4⟩, h5⟩, h5'⟩, h6⟩, h6'⟩, h7⟩, h7'⟩, h7''⟩, h8⟩, h9⟩ := h
  have k1 : env.blockKind = .function := h1
  have k4 : env.kindOf x = some .local := h4
  have k5 : env.kindOf y = some .local := h5
  have k6 : env.kindOf z = some .local := h5'
  have st : ∀ e : Expr, notStar e = true → (match e with | .Starred .. => true | _ => false) = false := fun e h => by
    cases e <;> first | rfl | cases h
  unfold swappedStores
  simp [k1, st a h2, st b h3, st c h3', k4, k5, k6, ← h6, ← h6', h8, h9, Expr.pos]
  rw [if_neg (fun q => q.elim (fun q => Bool.noConfusion ((st a h2).symm.trans q)) (fun q => q.elim (fun q => Bool.noConfusion ((st b h3).symm.trans q)) (fun q => Bool.noConfusion ((st c h3').symm.trans q)))), if_pos (er3 h7 h7' h7'')]

/-- the plain order of stores: one of both names is captured -/
def cellC (sc : Scope) (x y : Str) : Bool := !(sc.names.lookup x == some .local) || !(sc.names.lookup y == some .local)
theorem cell_eq {env : Env} {x y : Str} {px py pt : Pos} {kt : Nat} {v : Expr} (h : cellC env.scope x y = true) : swappedStores [.Tuple [.Name x px, .Name y py] kt pt] v env = pure none := by
  unfold cellC at h
  have hk : (env.kindOf x == some .local) = false ∨ (env.kindOf y == some .local) = false := by
    rw [Bool.or_eq_true, Bool.not_eq_true', Bool.not_eq_true'] at h
    exact h
  unfold swappedStores
  cases v with
  | Tuple vs k2 p2 =>
    simp only [Expr.pos]
    split
    · rfl
    · split
      · rfl
      · rcases hk with hk | hk
        · have hk' : ¬ env.kindOf x = some .local := fun z => by rw [z] at hk; cases hk
          simp only [List.filterMap_cons, List.filterMap_nil, hk, Bool.false_and, Bool.false_eq_true, if_false, List.head?_cons, Option.map_some, Option.getD_some]
          split <;> simp
        · simp only [List.filterMap_cons, List.filterMap_nil, hk, Bool.false_and, Bool.false_eq_true, if_false, List.head?_cons, Option.map_some, Option.getD_some]
          split <;> simp
  | _ => rfl
/-- statements, one by one -/
def chkSs (one : S → Stmt → Bool) : List S → List Stmt → Bool
  | .fz _ :: ss, xs => chkSs one ss xs
  | s :: ss, x :: xs => one s x && chkSs one ss xs
  | [], [] => true
  | _, _ => false
/-- a value for a slot: a new list, or one that stands -/
def chkG (k : Nat) (c : Sc) (o : Bool) (e : E) (x : Expr) : Bool := chk k c e x && (!o || isN e)
def chkS1 (k : Nat) (rec : List S → List Stmt → Bool) (c : Sc) : S → Stmt → Bool
  | .set i e, .Assign [.Name n p] v _ => c.store i n && !swC c.sc n p v && chk k c e v
  | .own i e, .Assign [.Name n p] v _ => c.store i n && isN e && (if swC c.sc n p v then decide (c.sc.names.lookup n = some .local) && (match e with | .lc tg q a b d cond elt own => chkLc (chk k) (chkT k) c tg q a b d cond elt own v | _ => false) else chk k c e v)
  | .tgt t e, .Assign [.Tuple [.Name a p, .Name b p2] q p3] v _ => chkTg c t (.Tuple [.Name a p, .Name b p2] q p3) && (notTupE v || cellC c.sc a b) && chk k c e v
  | .par [(i, o1), (j, o2)] [a, b], .Assign [.Tuple [.Name x px, .Name y py] _ _] (.Tuple [u, v] _ _) _ => decide (c.N[i]? = some x) && decide (c.N[j]? = some y) && decide (i ≠ j) && par2C c.sc x y px py u v && chkG k c o1 a u && chkG k c o2 b v
  | .par [(i, o1), (j, o2), (l, o3)] [a, b, d], .Assign [.Tuple [.Name x px, .Name y py, .Name z pz] _ _] (.Tuple [u, v, w] _ _) _ => decide (c.N[i]? = some x) && decide (c.N[j]? = some y) && decide (c.N[l]? = some z) && decide (i ≠ j) && decide (i ≠ l) && decide (j ≠ l) &&
      par3C c.sc x y z px py pz u v w && chkG k c o1 a u && chkG k c o2 b v && chkG k c o3 d w
  | .exp e, .Expr v _ => notComp v && chk k c e v
  | .app i e, .Expr (.Call (.Attribute (.Name n _) at' ap) [x] [] cp) _ => decide (at' = "append") && c.slot i n && notStar x && lineOk ap cp && chk k c e x
  | .ext i e, .Expr (.Call (.Attribute (.Name n _) at' ap) [x] [] cp) _ => decide (at' = "extend") && c.slot i n && notStar x && lineOk ap cp && isN e && chk k c e x
  | .tick i, .Expr (.Call (.Attribute (.Name n _) at' ap) [.Constant (.int 0) _ _] [] cp) _ => decide (at' = "append") && c.slot i n && lineOk ap cp
  | .popa i j e, .Expr (.Call (.Attribute (.Name n _) at' ap) [.Call (.Attribute (.Name u _) at2 ap2) [x] [] cp2] [] cp) _ => decide (at' = "append") && decide (at2 = "pop") && c.slot i n && c.slot j u && decide (i ≠ j) && notStar x && lineOk ap cp && lineOk ap2 cp2 && chk k c e x
  | .sti i q e, .Assign [.Subscript (.Name n _) x _] v _ => c.slot i n && chk k c e v && chk k c q x && plainE x
  | .for t q a b d body, .For tge iter xs [] _ => chkSrc (chk k) c q a b d tge iter && chkTg c t tge && rec body xs
  | .whl e body, .While x xs [] _ => chkT k c e x && rec body xs
  | .ite e a b, .If x xs ys _ => chkT k c e x && rec a xs && rec b ys
  | .ret e, .Return (some x) _ => chk k c e x
  | .retN, .Return none _ => true
  | .brk, .Break _ => true
  | .cnt, .Continue _ => true
  | .pass, .Pass _ => true
  | .pass, .Expr (.Constant (.str _) _ _) _ => true
  | _, _ => false
def chkS (k : Nat) (c : Sc) : Nat → List S → List Stmt → Bool
  | 0 => fun _ _ => false
  | n + 1 => chkSs (chkS1 k (chkS k c n) c)
end G

namespace G
open PySem PySem.Spec PyProof.Rows L2

section
variable {g : Cf} {C : Cs} {n k : Nat} {c : Sc} {X : Cx}
theorem exq_set {i : Nat} {e : G.E} : ex C (.set i e) = setM i (ev C e) := funext fun st => by rw [ex]; rfl
theorem exq_own {i : Nat} {e : G.E} : ex C (.own i e) = ownM i (ev C e) := funext fun st => by rw [ex]; rfl
theorem exq_tgt {t : Tg} {e : G.E} : ex C (.tgt t e) = tgtM t (ev C e) := funext fun st => by rw [ex]; rfl
theorem exq_exp {e : G.E} : ex C (.exp e) = fun st => (do let d ← ev C e st; pure (st, .nx)) := funext fun st => by rw [ex]
theorem exq_app {i : Nat} {e : G.E} : ex C (.app i e) = appM i (ev C e) := funext fun st => by rw [ex]; rfl
theorem exq_ext {i : Nat} {e : G.E} : ex C (.ext i e) = extM i (ev C e) := funext fun st => by rw [ex]; rfl
theorem exq_sti {i : Nat} {q e : G.E} : ex C (.sti i q e) = stiM i (ev C e) (ev C q) := funext fun st => by rw [ex]; rfl
theorem exq_popa {i j : Nat} {e : G.E} : ex C (.popa i j e) = popM i j (ev C e) := funext fun st => by rw [ex]; rfl
theorem exq_tick {i : Nat} : ex C (.tick i) = tickS i := funext fun st => by rw [ex]; rfl
theorem exq_for {t : Tg} {q : Sk} {a b d : G.E} {body : List S} : ex C (.for t q a b d body) = forF t (srcF C q a b d) (exs C body) := by
  funext st
  rw [ex]
  unfold forF srcF
  funext j
  simp only [bind_assoc]
theorem exq_whl {e : G.E} {body : List S} : ex C (.whl e body) = fun st => whM (truM (ev C e)) (exs C body) fuel st := funext fun st => by rw [ex]; rfl
theorem exq_ite {e : G.E} {a b : List S} : ex C (.ite e a b) = iteS (ev C e) (exs C a) (exs C b) := funext fun st => by rw [ex]; rfl
theorem exq_ret {e : G.E} : ex C (.ret e) = fun st => (do let d ← ev C e st; pure (st, .rt d)) := funext fun st => by rw [ex]
theorem exq_retN : ex C .retN = fun st => pure (st, .rt .non) := funext fun st => by rw [ex]
theorem exq_brk : ex C .brk = fun st => pure (st, .bk) := funext fun st => by rw [ex]
theorem exq_cnt : ex C .cnt = fun st => pure (st, .ct) := funext fun st => by rw [ex]
theorem exq_pass : ex C .pass = fun st => pure (st, .nx) := funext fun st => by rw [ex]
theorem exq_par2 {i j : Nat} {o1 o2 : Bool} {a b : G.E} : ex C (.par [(i, o1), (j, o2)] [a, b]) = par2M i j o1 o2 (ev C a) (ev C b) := by
  funext st
  rw [ex, evs, evs, evs]
  unfold par2M
  funext q
  simp only [bind_assoc, pure_bind, setAll]
theorem exq_par3 {i j l : Nat} {o1 o2 o3 : Bool} {a b d : G.E} : ex C (.par [(i, o1), (j, o2), (l, o3)] [a, b, d]) = par3M i j l o1 o2 o3 (ev C a) (ev C b) (ev C d) := by
  funext st
  rw [ex, evs, evs, evs, evs]
  unfold par3M
  funext q
  simp only [bind_assoc, pure_bind, setAll]
theorem exsq_nil : exs C [] = fun st => pure (st, .nx) := funext fun st => by rw [exs]
theorem exsq_cons {s : S} {ss : List S} : exs C (s :: ss) = seqM (ex C s) (exs C ss) := funext fun st => by
  rw [exs]
  unfold seqM
  congr 1
theorem exsq_fz {is : List Nat} {ss : List S} : exs C (.fz is :: ss) = fun st => exs C ss (fz st is) := by
  funext st
  rw [exsq_cons]
  unfold seqM
  rw [ex]
  rfl
/-- statements do what they say -/
def SndS (g : Cf) (C : Cs) (n : Nat) (c : Sc) (X : Cx) (rec : List S → List Stmt → Bool) : Prop := ∀ ss xs, rec ss xs = true → PSs X xs (tS g (exs C ss))
theorem g_ok (E : EnvOk g C n c X) {o : Bool} {e : G.E} {x : Expr} (h : chkG k c o e x = true) : PE X x (tG g o (ev C e)) := by
  unfold chkG at h
  rw [Bool.and_eq_true, Bool.or_eq_true] at h
  cases o with
  | false => exact pg_of_M ((snd_both k).1 _ _ _ _ E h.1)
  | true =>
    have hn : isN e = true := h.2.elim (fun z => by cases z) id
    exact pg_of_N (fun st k d k' q => isN_out hn q) (snd_N E h.1 hn)
theorem par_star {sc : Scope} {x y : Str} {px py : Pos} {a b : Expr} (h : par2C sc x y px py a b = true) : notStar a = true ∧ notStar b = true ∧ sc.names.lookup x = some .local ∧ sc.names.lookup y = some .local := by
  unfold par2C at h
  simp only [Bool.and_eq_true, beq_iff_eq] at h
  obtain ⟨⟨⟨⟨⟨⟨⟨⟨h1, h2⟩, h3⟩, h4⟩, h5⟩, h6⟩, h7⟩, h8⟩, h9⟩ := h
  exact ⟨h2, h3, h4, h5⟩
theorem par_star3 {sc : Scope} {x y z : Str} {px py pz : Pos} {a b d : Expr} (h : par3C sc x y z px py pz a b d = true) : notStar a = true ∧ notStar b = true ∧ notStar d = true ∧ sc.names.lookup x = some .local ∧ sc.names.lookup y = some .local ∧ sc.names.lookup z = some .local := by
  unfold par3C at h
  simp only [Bool.and_eq_true, beq_iff_eq] at h
  obtain ⟨⟨⟨⟨⟨⟨⟨⟨⟨⟨⟨⟨⟨h1, h2⟩, h3⟩, h3'⟩, h4⟩, h5⟩, h5'⟩, h6⟩, h6'⟩, h7⟩, h7'⟩, h7''⟩, h8⟩, h9⟩ := h
  exact ⟨h2, h3, h3', h4, h5, h5'⟩
theorem s1_ok (E : EnvOk g C n c X) (hp : PassesOwn (model X.prog X.w) X.A X.env X.xe) {rec : List S → List Stmt → Bool} (hr : SndS g C n c X rec) {s : S} {x : Stmt} (h : chkS1 k rec c s x = true) : PS X x (tS g (ex C s)) := by
  have hm : Snd g C n (chk k) := (snd_both k).1
  have ht : SndT g C n (chkT k) := (snd_both k).2
  unfold chkS1 at h
  split at h
  · -- set
    simp only [Bool.and_eq_true, Bool.not_eq_true'] at h
    obtain ⟨⟨h1, h2⟩, h3⟩ := h
    obtain ⟨j1, j2, j3⟩ := store_of E h1
    rw [exq_set]
    exact sm_set E.nd j1 j2 (hm _ _ _ _ E h3) (by rw [swaps_eq, E.sc, h2]) j3
  · -- own
    simp only [Bool.and_eq_true] at h
    obtain ⟨⟨h1, h2⟩, h3⟩ := h
    obtain ⟨j1, j2, j3⟩ := store_of E h1
    rw [exq_own]
    split at h3
    · rename_i hsw
      rw [Bool.and_eq_true] at h3
      have hl := of_decide_eq_true h3.1
      have h4 := h3.2
      split at h4
      · rename_i tg q a b d cond elt own
        unfold chkLc at h4
        split at h4
        · simp only [Bool.and_eq_true, decide_eq_true_eq] at h4
          obtain ⟨⟨⟨⟨⟨⟨⟨u1, u2⟩, u3⟩, u4⟩, u5⟩, u6⟩, u7⟩, u8⟩ := h4
          subst u1
          obtain ⟨i1, i2⟩ := src_ok hm E u2
          rw [ev_lc, ← u4]
          exact sm_ownLc E.calm E.nd j1 (by rw [E.sc]; exact hl) (by rw [swaps_eq, E.sc, hsw]) i1 (blkOk_by (by rw [E.N, E.sc]; exact u3)) (gtg_of tg) (by rw [u4]; exact u5) (fun s H Ca cl fp => tg_ok E.blk u6) (fun s H Ca cl fp => ts_ok ht E.blk u7) (fun s H Ca cl fp => hm _ _ _ _ E.blk u8) i2
        · cases h4
      · cases h4
    · rename_i hsw
      exact sm_own (fun st k d k' q => isN_out h2 q) E.nd j1 j2 (snd_N E h3 h2) (by rw [swaps_eq, E.sc, Bool.eq_false_iff.mpr hsw]) j3
  · -- tgt
    simp only [Bool.and_eq_true] at h
    obtain ⟨⟨h1, h2⟩, h3⟩ := h
    rw [exq_tgt]
    refine sm_tgt (gtg_of _) (tg_ok E h1) (hm _ _ _ _ E h3) (swapsS_eq (by intro _ _ z; cases z)) ?_ rfl
    rename_i v _
    rw [Bool.or_eq_true] at h2
    rcases h2 with h2 | h2
    · cases v <;> first | rfl | (simp [notTupE] at h2)
    · exact cell_eq (by rw [E.sc]; exact h2)
  · -- par2
    rename_i i o1 j o2 a b x px y py q1 q2 u v q3 q4 q5
    simp only [Bool.and_eq_true, decide_eq_true_eq] at h
    obtain ⟨⟨⟨⟨⟨h1, h2⟩, h3⟩, h4⟩, h5⟩, h6⟩ := h
    obtain ⟨s1, s2, s3, s4⟩ := par_star h4
    rw [exq_par2]
    exact sm_par2 E.calm E.nd (by rw [E.N]; exact h1) (by rw [E.N]; exact h2) h3 (by rw [E.sc]; exact s3) (by rw [E.sc]; exact s4) (star_of s1) (star_of s2) (g_ok E h5) (g_ok E h6) (par2_eq (by rw [E.sc]; exact h4))
  · -- par3
    rename_i i o1 j o2 l o3 a b d x px y py z pz q1 q2 u v w q3 q4 q5
    simp only [Bool.and_eq_true, decide_eq_true_eq] at h
    obtain ⟨⟨⟨⟨⟨⟨⟨⟨⟨h1, h2⟩, h3⟩, h4⟩, h5⟩, h6⟩, h7⟩, h8⟩, h9⟩, h10⟩ := h
    obtain ⟨s1, s2, s3, s4, s5, s6⟩ := par_star3 h7
    rw [exq_par3]
    exact sm_par3 E.calm E.nd (by rw [E.N]; exact h1) (by rw [E.N]; exact h2) (by rw [E.N]; exact h3) h4 h5 h6 (by rw [E.sc]; exact s4) (by rw [E.sc]; exact s5) (by rw [E.sc]; exact s6) (star_of s1) (star_of s2) (star_of s3) (g_ok E h8) (g_ok E h9) (g_ok E h10) (par3_eq (by rw [E.sc]; exact h7))
  · -- exp
    rw [Bool.and_eq_true] at h
    rw [exq_exp]
    exact sm_exp (hm _ _ _ _ E h.2) (swapsN_eq h.1)
  · -- app
    simp only [Bool.and_eq_true, decide_eq_true_eq] at h
    obtain ⟨⟨⟨⟨h1, h2⟩, h3⟩, h4⟩, h5⟩ := h
    subst h1
    obtain ⟨j1, j2, j3, j4⟩ := slot_of h2
    rw [exq_app]
    exact sm_app (by rw [E.N]; exact j1) (vis_of E j2) j3 j4 (star_of h3) (hm _ _ _ _ E h5) h4
  · -- ext
    simp only [Bool.and_eq_true, decide_eq_true_eq] at h
    obtain ⟨⟨⟨⟨⟨h1, h2⟩, h3⟩, h4⟩, h5⟩, h6⟩ := h
    subst h1
    obtain ⟨j1, j2, j3, j4⟩ := slot_of h2
    rw [exq_ext]
    exact sm_ext (by rw [E.N]; exact j1) (vis_of E j2) j3 j4 (star_of h3) (snd_N E h6 h5) h4
  · -- tick
    simp only [Bool.and_eq_true, decide_eq_true_eq] at h
    obtain ⟨⟨h1, h2⟩, h3⟩ := h
    subst h1
    obtain ⟨j1, j2, j3, j4⟩ := slot_of h2
    rw [exq_tick]
    exact sm_tick (by rw [E.N]; exact j1) (vis_of E j2) j3 j4 h3
  · -- popa
    simp only [Bool.and_eq_true, decide_eq_true_eq] at h
    obtain ⟨⟨⟨⟨⟨⟨⟨⟨h1, h2⟩, h3⟩, h4⟩, h5⟩, h6⟩, h7⟩, h8⟩, h9⟩ := h
    subst h1 h2
    obtain ⟨j1, j2, j3, j4⟩ := slot_of h3
    obtain ⟨l1, l2, l3, l4⟩ := slot_of h4
    rw [exq_popa]
    exact sm_pop h5 (by rw [E.N]; exact j1) (vis_of E j2) j3 j4 (by rw [E.N]; exact l1) (vis_of E l2) l3 l4 (star_of h6) (hm _ _ _ _ E h9) h7 h8
  · -- sti
    simp only [Bool.and_eq_true] at h
    obtain ⟨⟨⟨h1, h2⟩, h3⟩, h4⟩ := h
    obtain ⟨j1, j2, j3, j4⟩ := slot_of h1
    rw [exq_sti]
    refine sm_sti (by rw [E.N]; exact j1) (vis_of E j2) j3 j4 (hm _ _ _ _ E h2) (hm _ _ _ _ E h3) (swapsS_eq (by intro _ _ z; cases z)) rfl (fun v => ?_) rfl
    rename_i x _ _ _
    cases x <;> first | rfl | (simp [plainE] at h4)
  · -- for
    simp only [Bool.and_eq_true] at h
    obtain ⟨⟨h1, h2⟩, h3⟩ := h
    obtain ⟨i1, i2⟩ := src_ok hm E h1
    rw [exq_for]
    exact sm_for hp E.calm i1 (gtg_of _) (tg_ok E h2) (hr _ _ h3) i2
  · -- while
    rw [Bool.and_eq_true] at h
    rw [exq_whl]
    exact sm_while hp (ht _ _ _ _ E h.1) (hr _ _ h.2)
  · -- if
    rw [Bool.and_eq_true, Bool.and_eq_true] at h
    rw [exq_ite]
    exact sm_if (ht _ _ _ _ E h.1.1) (hr _ _ h.1.2) (hr _ _ h.2)
  · rw [exq_ret]
    exact sm_ret (hm _ _ _ _ E h)
  · rw [exq_retN]
    exact sm_retN
  · rw [exq_brk]
    exact sm_brk
  · rw [exq_cnt]
    exact sm_cnt
  · rw [exq_pass]
    exact sm_pass
  · rw [exq_pass]
    exact sm_doc
  · cases h
theorem ss_ok {one : S → Stmt → Bool} (h1 : ∀ s x, one s x = true → PS X x (tS g (ex C s))) : ∀ (ss : List S) (xs : List Stmt), chkSs one ss xs = true → PSs X xs (tS g (exs C ss))
  | [], [], _ => by
    rw [exsq_nil]
    exact sm_nil
  | [], _ :: _, h => by simp [chkSs] at h
  | .fz is :: ss, xs, h => by
    rw [exsq_fz]
    exact sm_fz (ss_ok h1 ss xs (by simpa [chkSs] using h))
  | s :: ss, [], h => by
    cases s <;> first
      | (simp [chkSs] at h; done)
      | (rename_i is
         rw [exsq_fz]
         exact sm_fz (ss_ok h1 ss [] (by simpa [chkSs] using h)))
  | s :: ss, x :: xs, h => by
    by_cases hf : ∃ is, s = .fz is
    · obtain ⟨is, rfl⟩ := hf
      rw [exsq_fz]
      exact sm_fz (ss_ok h1 ss (x :: xs) (by simpa [chkSs] using h))
    · have h' : (one s x && chkSs one ss xs) = true := by
        cases s <;> first | exact h | exact absurd ⟨_, rfl⟩ hf
      rw [Bool.and_eq_true] at h'
      rw [exsq_cons]
      exact sm_cons (h1 s x h'.1) (ss_ok h1 ss xs h'.2)
theorem sS_ok (E : EnvOk g C n c X) (hp : PassesOwn (model X.prog X.w) X.A X.env X.xe) : ∀ j, SndS g C n c X (chkS k c j)
  | 0 => fun ss xs h => by simp [chkS] at h
  | j + 1 => fun ss xs h => by
    unfold chkS at h
    exact ss_ok (fun s x q => s1_ok E hp (sS_ok E hp j) q) ss xs h
end
end G

namespace G
open PySem PySem.Spec PyProof.Rows L2

def fscB (N ps : List Str) (sc : Scope) : Bool := decide (sc.kind = .function) && !sc.isCoroutine && !sc.isGenerator && decide N.Nodup && decide (N.take ps.length = ps) &&
  (ps.all fun x => decide (sc.names.lookup x = some .local) || decide (sc.names.lookup x = some .cell)) && sc.names.all fun y => !decide (y.2 = .free)
theorem fscope_by {N ps : List Str} {sc : Scope} (h : fscB N ps sc = true) : FnScope N ps sc := by
  unfold fscB at h
  simp only [Bool.and_eq_true, Bool.not_eq_true', decide_eq_true_eq, List.all_eq_true, Bool.or_eq_true, decide_eq_false_iff_not] at h
  obtain ⟨⟨⟨⟨⟨⟨h1, h2⟩, h3⟩, h4⟩, h5⟩, h6⟩, h7⟩ := h
  exact ⟨h1, h2, h3, h4, h5, h6, h7⟩
def ckDeep : Nat := 64
def ckDeepS : Nat := 32
/-- what does not hang on the place -/
def sc0 (P : Pr) (fns : List (Str × Nat × Nat)) (gls : List (Str × D)) (lamN : List (List Str × List Str)) : Sc := ⟨[], ⟨.function, [], false, false, []⟩, fns, gls, none, P.lams, lamN, false⟩
/-- the def st is the i-th function -/
def chkFn (P : Pr) (fns : List (Str × Nat × Nat)) (gls : List (Str × D)) (lamN : List (List Str × List Str)) (lam : Bool) (N ps : List Str) (i np : Nat) (st : Stmt) : Bool := match P.fns[i]? with
  | some (.py np' ns body) => decide (np' = np) && decide (ns = N.length) && decide (ps.length = np) && fscB N ps (defScope st) && chkS ckDeep ⟨N, defScope st, fns, gls, none, P.lams, lamN, lam⟩ ckDeepS body (defBody st)
  | _ => false
/-- a def of the top, by its text -/
abbrev FnT (K : PySem.W.Frag) (x : Str) (st : Stmt) (f : Addr) (fd : FuncData) : Prop := FunD K x x (defArgs st) (defBody st) (defScope st) [] [] f fd
section
variable {g : Cf} {P : Pr} {fns : List (Str × Nat × Nat)} {gls : List (Str × D)} {lamN : List (List Str × List Str)}
variable {prog : Program} {w : World} {mg : Str → Option Value} {base : Heap}
/-- what is known of the functions, n deep -/
def TblOk (g : Cf) (P : Pr) (fns : List (Str × Nat × Nat)) (prog : Program) (w : World) (mg : Str → Option Value) (base : Heap) (n : Nat) : Prop :=
  ∀ x i np, fns.lookup x = some (i, np) → EntP g g.K prog w mg base n (calls P n) x i np
structure Mg (g : Cf) (gls : List (Str × D)) (mg : Str → Option Value) : Prop where
  blt : ∀ x ∈ bltN, mg x = none
  gls : ∀ (k : Nat) (x : Str) (d : D), gls[k]? = some (x, d) → ∃ v u, mg x = some u ∧ RelV v u ∧ ∀ T H, Den T g.K H v d
/-- what the calls of lambdas lean on, n deep -/
abbrev LamOk (g : Cf) (P : Pr) (fns : List (Str × Nat × Nat)) (gls : List (Str × D)) (lamN : List (List Str × List Str)) (prog : Program) (w : World) (mg : Str → Option Value) (base : Heap) (n : Nat) : Prop := LamP g (okL (sc0 P fns gls lamN)) prog w mg base n (calls P n).cc
/-- the code object of a def that makes lambdas, its table -/
def TabAt (g : Cf) (mg : Str → Option Value) (base : Heap) (x : Str) (fa : Addr) : Prop := ∀ oc od fd osl, g.K.lookup fa = some ⟨oc, od, .func fd, osl⟩ → ∀ c, fd.code = .ref c → ∃ Pt, LamX.TabB base mg c Pt ∧ (Pt, (x ++ ".<locals>.") ++ "<lambda>") ∈ g.Tb ∧ ∀ p ∈ g.Tb, p.1 = Pt → p.2 = (x ++ ".<locals>.") ++ "<lambda>"
theorem start_sr {T : Addr} {H : Hp} {N : List Str} {vs : List V} {sl : List Sl} (hl : sl.length ≤ N.length) (hv : vs.length = sl.length) (hs : ∀ (i : Nat) (s : Sl) (v : V), sl[i]? = some s → vs[i]? = some v → SlOk T g.K g.CL H s (some (some v))) (no : ∀ d, Sl.ow d ∉ sl) :
    SR T g.K g.CL (sl ++ List.replicate (N.length - sl.length) .un) (L2.start N vs) H := by
  unfold L2.start
  refine ⟨by simp [hv], fun i s e => ?_, fun i j d1 d2 a e1 e2 => ?_⟩
  · by_cases h : i < sl.length
    · rw [List.getElem?_append_left h] at e
      rw [List.getElem?_append_left (by simpa [hv] using h), List.getElem?_map]
      have hv2 : vs[i]? = some vs[i] := List.getElem?_eq_getElem (by omega)
      rw [hv2]
      exact hs i s _ e hv2
    · rw [List.getElem?_append_right (by simpa using h), List.getElem?_replicate] at e
      split at e
      · cases e; exact True.intro
      · cases e
  · exfalso
    by_cases h : i < sl.length
    · rw [List.getElem?_append_left h] at e1
      exact no d1 (List.mem_of_getElem? e1)
    · rw [List.getElem?_append_right (by simpa using h), List.getElem?_replicate] at e1
      split at e1 <;> cases e1
theorem start_fr {T : Addr} {H : Hp} {vs : List V} {ds : List D} (hd : Dens T g.K H vs ds) : ∀ (i : Nat) (s : Sl) (v : V), (ds.map Sl.fr)[i]? = some s → vs[i]? = some v → SlOk T g.K g.CL H s (some (some v)) := fun i s v e1 e2 => by
  rw [List.getElem?_map] at e1
  cases e : ds[i]? with
  | none => rw [e] at e1; cases e1
  | some d =>
    rw [e] at e1
    cases e1
    obtain ⟨v', h1, h2⟩ := hd.get e
    rw [e2] at h1
    cases h1
    exact h2
theorem no_ow {ds : List D} : ∀ d, Sl.ow d ∉ ds.map Sl.fr := fun d h => by
  obtain ⟨_, _, e⟩ := List.mem_map.mp h
  cases e
theorem start_ow {sl : List Sl} {m : Nat} {i : Nat} {d : D} (no : ∀ d, Sl.ow d ∉ sl) (e : (sl ++ List.replicate m Sl.un)[i]? = some (.ow d)) : False := by
  by_cases h : i < sl.length
  · rw [List.getElem?_append_left h] at e
    exact no d (List.mem_of_getElem? e)
  · rw [List.getElem?_append_right (by simpa using h), List.getElem?_replicate] at e
    split at e <;> cases e
/-- a body run from its slots -/
theorem body_run {X : Cx} {C : Cs} {n : Nat} {body : List S} {N : List Str} {T : Addr} {k k' : Nat} {H : Hp} {vs : List V} {sl : List Sl} {d : D} {Q : VK} (em : runB C N.length body sl k = some (d, k')) (w : WS T g.Tb H k) (hl : sl.length ≤ N.length) (hv : vs.length = sl.length)
    (hs : ∀ (i : Nat) (s : Sl) (v : V), sl[i]? = some s → vs[i]? = some v → SlOk T g.K g.CL H s (some (some v))) (no : ∀ d, Sl.ow d ∉ sl) (q : ∀ v H', Grow T H H' → WS T g.Tb H' k' → Den T g.K H' v d → Q v H') :
    tS g (exs C body) { nx := fun _ H' => Q .non H', rt := Q } (L2.start N vs) H := by
  obtain ⟨⟨s1, fl⟩, k1, e1, e2⟩ := bind_some.mp (show ((exs C body (sl ++ List.replicate (N.length - sl.length) .un)) >>= (fun p => match p.2 with | .rt d => pure d | .nx => pure .non | _ => G.no) : M D) k = some (d, k') from em)
  refine ⟨T, H, k, _, s1, fl, k1, w, ⟨start_sr hl hv hs no, Grow.refl T H, fun i d a e _ => (start_ow no e).elim⟩, e1, fun σ' H' kp w2 r2 => ?_⟩
  cases fl with
  | nx =>
    cases pure_some.mp e2
    exact q .non H' r2.gr w2 .non
  | rt d' =>
    cases pure_some.mp e2
    exact fun v hv => q v H' r2.gr w2 hv
  | bk => exact absurd e2 (no_some (k := k1))
  | ct => exact absurd e2 (no_some (k := k1))
theorem fn_step {x : Str} {st : Stmt} {fa : Addr} {fd : FuncData} {N ps : List Str} {i np n : Nat} {lam : Bool} (F : FnT g.K x st fa fd) (h : chkFn P fns gls lamN lam N ps i np st = true) (hlam : lam = true → TabAt g mg base x fa) (hC : g.CL = cloOf (okL (sc0 P fns gls lamN)) g.K)
    (hT : TblOk g P fns prog w mg base n) (hL : LamOk g P fns gls lamN prog w mg base n) (hM : Mg g gls mg) :
    FnOk prog w g.K mg base L2.CX0 (n + 1) fa fd ps (spFX g np ((calls P (n + 1)).cl i) ((calls P (n + 1)).cx i)) := by
  unfold chkFn at h
  split at h
  · rename_i np' ns body hP
    simp only [Bool.and_eq_true, decide_eq_true_eq] at h
    obtain ⟨⟨⟨⟨h1, h2⟩, h3⟩, h4⟩, h5⟩ := h
    subst h1 h2
    have S := fscope_by h4
    have hpl : ps.length ≤ N.length := by have := congrArg List.length S.pre; rw [List.length_take] at this; omega
    obtain ⟨oc, od, dV, kV, doc, pm, an, cdv, ct, osl, rfl, lk, hcd, _, _⟩ := F.ex
    refine fn_of lk hcd S (fun vs H Q E q => ?_) (fun A outer s H vs Q E hr q => ?_)
    · rcases q with q | q
      · obtain ⟨T, k, ds, d, k', hl, w', hd, _⟩ := q
        rw [hd.length, hl, h3]
      · obtain ⟨T, k, ds, li, cs, d, k', vs0, f, rfl, hl, w', hd, _⟩ := q
        rw [List.length_append, hd.length, h3]
        simp
        omega
    · have E' : EnvOk g (calls P n) n ⟨N, defScope st, fns, gls, none, P.lams, lamN, lam⟩ (cxOf L2.CX0 prog w g.K mg base N x (defScope st) fa cdv A outer s H E).nox := by
        refine ⟨rfl, rfl, S.nd, rfl, rfl, hr, ?_, hM.blt, hM.gls, hC, hL, fun hlm => ?_, fun _ => rfl⟩
        · intro y j m' hy
          exact hT y j m' hy
        · obtain ⟨c, ec⟩ := He.codeIn_ref hcd
          obtain ⟨Pt, t1, t2, t3⟩ := hlam hlm _ _ _ _ lk c ec
          exact ⟨c, Pt, ec, t1, t2, t3⟩
      refine ⟨_, PSs.nox (sS_ok E' PassesOwn.never ckDeepS body (defBody st) h5), ?_⟩
      rcases q with q | q
      · obtain ⟨T, k, ds, d, k', hl, w', hd, em, q⟩ := q
        have em2 : runF (calls P n) (.py np' N.length body) ds k = some (d, k') := by
          have e : (calls P (n + 1)).cl i ds = runF (calls P n) (.py np' N.length body) ds := by
            show (match P.fns[i]? with | some fd => runF (calls P n) fd ds | none => no) = _
            rw [hP]
          rw [e] at em
          exact em
        obtain ⟨_, em3⟩ := if_some (show (if ds.length = np' then runB (calls P n) N.length body (ds.map .fr) else no : M D) k = some (d, k') from em2)
        exact body_run (X := (cxOf L2.CX0 prog w g.K mg base N x (defScope st) fa cdv A outer s H E).nox) (n := n) em3 w' (by rw [List.length_map]; omega) (by rw [List.length_map, hd.length]) (start_fr hd) no_ow q
      · obtain ⟨T, k, ds, li, cs, d, k', vs0, f, rfl, hl, w', hd, hclo, em, q⟩ := q
        have em2 : runX (calls P n) (.py np' N.length body) ds li cs k = some (d, k') := by
          have e : (calls P (n + 1)).cx i ds li cs = runX (calls P n) (.py np' N.length body) ds li cs := by
            show (match P.fns[i]? with | some fd => runX (calls P n) fd ds li cs | none => no) = _
            rw [hP]
          rw [e] at em
          exact em
        obtain ⟨_, em3⟩ := if_some (show (if ds.length + 1 = np' then runB (calls P n) N.length body (ds.map .fr ++ [.cl li cs]) else no : M D) k = some (d, k') from em2)
        refine body_run (X := (cxOf L2.CX0 prog w g.K mg base N x (defScope st) fa cdv A outer s H E).nox) (n := n) em3 w' (by simp; omega) (by simp [hd.length]) (fun j sl v e1 e2 => ?_) (fun d0 z => ?_) q
        · by_cases hj : j < ds.length
          · rw [List.getElem?_append_left (by simpa using hj)] at e1
            rw [List.getElem?_append_left (by rw [hd.length]; exact hj)] at e2
            exact start_fr hd j sl v e1 e2
          · rw [List.getElem?_append_right (by simpa using hj), List.length_map] at e1
            rw [List.getElem?_append_right (by rw [hd.length]; omega), hd.length] at e2
            cases z : j - ds.length with
            | zero =>
              rw [z] at e1 e2
              cases e1
              cases e2
              exact ⟨f, rfl, hclo⟩
            | succ m => rw [z] at e1; simp at e1
        · rcases List.mem_append.mp z with z | z
          · exact no_ow _ z
          · simp at z
  · cases h
/-- a function of the table, by its text -/
structure FnI (g : Cf) (P : Pr) (fns : List (Str × Nat × Nat)) (gls : List (Str × D)) (lamN : List (List Str × List Str)) (prog : Program) (w : World) (mg : Str → Option Value) (base : Heap) (x : Str) (i np : Nat) : Prop where
  z : EntP g g.K prog w mg base 0 (calls P 0) x i np
  s : ∀ n, TblOk g P fns prog w mg base n → LamOk g P fns gls lamN prog w mg base n → EntP g g.K prog w mg base (n + 1) (calls P (n + 1)) x i np
theorem sp0 {i np : Nat} : ∀ vs H Q E, spFX g np ((calls P 0).cl i) ((calls P 0).cx i) vs H Q E → False := fun vs H Q E q => by
  rcases q with q | q
  · obtain ⟨T, k, ds, d, k', hl, w', hd, em, q⟩ := q
    exact absurd em (no_some (k := k))
  · obtain ⟨T, k, ds, li, cs, d, k', vs0, f, _, hl, w', hd, _, em, q⟩ := q
    exact absurd em (no_some (k := k))
theorem EntP.of {n : Nat} {C : Cs} {x : Str} {i np : Nat} (hl : np < 100) (h : ∃ fa fd ps, FnOk prog w g.K mg base L2.CX0 n fa fd ps (spFX g np (C.cl i) (C.cx i)) ∧ mg x = some (.ref fa) ∧ PySem.W.keepIn g.K (.ref fa) = true ∧ Binds g.K fd ps []) : EntP g g.K prog w mg base n C x i np :=
  ⟨fun _ => h, fun z => absurd z (by omega), fun z => absurd z (by omega), fun z => absurd z (by omega), fun z => absurd z (by omega)⟩
theorem FnI.py {x : Str} {st : Stmt} {fa : Addr} {fd : FuncData} {N ps : List Str} {i np : Nat} {lam : Bool} (hl : np < 100) (F : FnT g.K x st fa fd) (hm : mg x = some (.ref fa)) (hb : Binds g.K fd ps []) (h : chkFn P fns gls lamN lam N ps i np st = true) (hlam : lam = true → TabAt g mg base x fa)
    (hC : g.CL = cloOf (okL (sc0 P fns gls lamN)) g.K) (hM : Mg g gls mg) : FnI g P fns gls lamN prog w mg base x i np :=
  ⟨.of hl ⟨fa, fd, ps, ⟨fun vs H Q E q => (sp0 _ _ _ _ q).elim, fun A outer s H args us vs Q E _ _ _ _ q => (sp0 _ _ _ _ q).elim⟩, hm, F.kp, hb⟩, fun n hT hL => .of hl ⟨fa, fd, ps, fn_step F h hlam hC hT hL hM, hm, F.kp, hb⟩⟩
/-- lambdas, one deeper -/
theorem lam_step {n : Nat} (hC : g.CL = cloOf (okL (sc0 P fns gls lamN)) g.K) (hT : TblOk g P fns prog w mg base n) (hL : LamOk g P fns gls lamN prog w mg base n) (hM : Mg g gls mg) : LamOk g P fns gls lamN prog w mg base (n + 1) := by
  intro li L hok A outer s H us vs Q q cl c' pm ctv f T k ds cs d k' hr e0 hf hcd C rv W hd em hq
  obtain ⟨m, a, b, z1, z2, z3, z4⟩ := hok
  obtain ⟨a', b', ld, N, fr, e1, e2, e3, e4, e5, e6, S, e7⟩ := chkLam_some z4
  rw [z2] at e1
  cases e1
  have z1' : (sc0 P fns gls lamN).lamN[li]? = some (L.N, L.fr) := z1
  rw [z1'] at e3
  cases e3
  obtain ⟨Lp, Lb, Ls, LN, Lps, Lfr⟩ := L
  have z3 : Lps = [a, b] := z3
  subst z3
  have hld : P.lams[li]? = some ld := e2
  have em2 : runL (calls P n) ld cs ds k = some (d, k') := by
    have e : (calls P (n + 1)).cc li cs ds = runL (calls P n) ld cs ds := by
      show (match P.lams[li]? with | some ld => runL (calls P n) ld cs ds | none => no) = _
      rw [hld]
    rw [e] at em
    exact em
  obtain ⟨hlen, em3⟩ := if_some (show (if ds.length = ld.np ∧ cs.length = ld.nc then ev (calls P n) ld.body (ds.map .fr ++ (cs.map .fr ++ List.replicate (ld.ns - ld.np - ld.nc) .un)) else no : M D) k = some (d, k') from em2)
  have hdl : ds.length = 2 := by rw [hlen.1, e4]
  refine lam_of (L := ⟨Lp, Lb, Ls, LN, [a, b], Lfr⟩) (m := ev (calls P n) ld.body) S (fun q cl pm cv ctv us hu => (lam2_ok z2).2 q Lb Ls cl pm cv ctv us hu) (fun q cl c' f A outer s H hr' => ?_) hr e0 hf hcd C rv W hd hdl ?_ hq
  · have E' : EnvOk g (calls P n) n { sc0 P fns gls lamN with N := LN, sc := Ls, raw := some Ls, lam := false } (lcx prog w g.K mg base ⟨Lp, Lb, Ls, LN, [a, b], Lfr⟩ q cl c' f A outer s H) := by
      refine ⟨rfl, rfl, S.nd, rfl, rfl, hr', ?_, hM.blt, hM.gls, hC, hL, fun z => Bool.noConfusion (show false = true from z), fun _ => rfl⟩
      intro y j m' hy
      exact hT y j m' hy
    exact (snd_both m).1 _ _ _ _ E' e7
  · rw [e6, ← hlen.1, ← hlen.2] at em3
    exact em3
theorem tbl_all (hF : ∀ x i np, fns.lookup x = some (i, np) → FnI g P fns gls lamN prog w mg base x i np) (hC : g.CL = cloOf (okL (sc0 P fns gls lamN)) g.K) (hM : Mg g gls mg) : ∀ n, TblOk g P fns prog w mg base n ∧ LamOk g P fns gls lamN prog w mg base n
  | 0 => by
    refine ⟨fun x i np hx => (hF x i np hx).z, ?_⟩
    · intro li L hok A outer s H us vs Q q cl c' pm ctv f T k ds cs d k' hr e0 hf hcd C rv W hd em hq
      exact absurd em (no_some (k := k))
  | n + 1 => by
    obtain ⟨i1, i2⟩ := tbl_all hF hC hM n
    exact ⟨fun x i np hx => (hF x i np hx).s n i1 i2, lam_step hC i1 i2 hM⟩
/-! ### the law -/
def chkLaw (P : Pr) (fns : List (Str × Nat × Nat)) (gls : List (Str × D)) (lamN : List (List Str × List Str)) (N : List Str) (x : Str) (it : Nat) (body : List S) (st : Stmt) : Bool := match defBody st with
  | .Assign [.Name tn _] (.List [] _) _ :: xs => decide (N[it]? = some tn) && (decide ((defScope st).names.lookup tn = some .local) || decide ((defScope st).names.lookup tn = some .cell)) && fscB N [x] (defScope st) && chkS ckDeep ⟨N, defScope st, fns, gls, none, P.lams, lamN, false⟩ ckDeepS body xs
  | _ => false
def spLaw (K : PySem.W.Frag) (tb : List Addr) : Sp := fun vs H Q _ => ∃ (a : Addr) (ns : List Int), vs = [.ref a] ∧ SqL K H a (ns.map V.int) ∧ (∀ p ∈ tb, H p = some (.tbl #[])) ∧ ns.length ≤ 63 ∧ ∀ H', Q (.bl true) H'
/-- a list of the caller's is locked at the entry -/
theorem pss_lock {X : Cx} {sts : List Stmt} {t : TS} {a : Addr} {xs : List V} (h : PSs X sts t) : PSs X sts (fun Dn σ H => H a = some (.lst xs) ∧ ∀ o, t Dn σ (upd H a (.frz o (.lst xs)))) := by
  refine ⟨fun pins s σ H Dn I hq => ?_⟩
  obtain ⟨h1, h2⟩ := hq
  obtain ⟨o, I2⟩ := I.lock h1 trivial
  exact h.run pins s σ _ Dn I2 (h2 o)
theorem law_step {x y : Str} {st : Stmt} {fa : Addr} {fd : FuncData} {N : List Str} {it n : Nat} {body : List S} (F : FnT g.K x st fa fd) (h : chkLaw P fns gls lamN N y it body st = true) (hC : g.CL = cloOf (okL (sc0 P fns gls lamN)) g.K) (hT : TblOk g P fns prog w mg base n) (hL : LamOk g P fns gls lamN prog w mg base n) (hM : Mg g gls mg)
    (hrun : ∀ ns : List Int, ns.length ≤ 63 → ∃ k, lawRun (calls P n) N.length it body ns 0 = some (.bl true, k)) :
    FnOk prog w g.K mg base L2.CX0 (n + 1) fa fd [y] (spLaw g.K (g.Tb.map (·.1))) := by
  unfold chkLaw at h
  split at h
  · rename_i tn tp lp ap xs hbody
    simp only [Bool.and_eq_true, decide_eq_true_eq] at h
    obtain ⟨⟨⟨h1, h2⟩, h3⟩, h4⟩ := h
    have hlc : Loc (defScope st) tn := by
      rw [Bool.or_eq_true, decide_eq_true_eq, decide_eq_true_eq] at h2
      exact h2
    have S := fscope_by h3
    refine F.ok S (fun vs H Q E q => ?_) (fun cdv A outer s H vs Q E hr q => ?_)
    · obtain ⟨a, ns, rfl, _⟩ := q
      rfl
    · obtain ⟨a, ns, rfl, hS, hO, hl, q⟩ := q
      have E' : EnvOk g (calls P n) n ⟨N, defScope st, fns, gls, none, P.lams, lamN, false⟩ (cxOf L2.CX0 prog w g.K mg base N x (defScope st) fa cdv A outer s H E).nox := by
        refine ⟨rfl, rfl, S.nd, rfl, rfl, hr, ?_, hM.blt, hM.gls, hC, hL, fun z => Bool.noConfusion (show false = true from z), fun _ => rfl⟩
        intro y j m' hy
        exact hT y j m' hy
      obtain ⟨k', hk⟩ := hrun ns hl
      obtain ⟨⟨s1, fl⟩, k1, e1, e2⟩ := bind_some.mp (show ((exs (calls P n) body (lawSt N.length it ns)) >>= (fun p => match p.2 with | .rt d => pure d | .nx => pure .non | _ => no) : M D) 0 = some (.bl true, k') from hk)
      have pss : PSs (cxOf L2.CX0 prog w g.K mg base N x (defScope st) fa cdv A outer s H E) (.Assign [.Name tn tp] (.List [] lp) ap :: xs) _ := PSs.nox (pss_cons (ps_set (i := it) S.nd h1 hlc (pe_lst pa_nil) rfl (.inl rfl)) (sS_ok E' PassesOwn.never ckDeepS body xs h4))
      have core : ∀ H2 : Hp, ScrL g.K H2 a (ns.map V.int) → (∀ p ∈ g.Tb.map (·.1), H2 p = some (.tbl #[])) → ∀ p, H2 p = none → tS g (exs (calls P n) body) { nx := fun _ H' => Q .non H', rt := Q } ((L2.start N [.ref a]).set it (some (.ref p))) (upd H2 p (.lst [])) := by
        intro H2 hsc hO2 p hp
        have hN : 1 ≤ N.length := by have := congrArg List.length S.pre; rw [List.length_take] at this; simp at this; omega
        have w0 : WS p g.Tb (upd H2 p (.lst [])) 0 := ⟨⟨upd_same, Nat.zero_le _⟩, fun q0 hq0 => LamX.TabS.nil (by
          have e0 := hO2 q0.1 (List.mem_map.mpr ⟨q0, hq0, rfl⟩)
          rw [upd_ne (ne_of_none e0 hp)]
          exact e0)⟩
        have hd0 : Dens p g.K (upd H2 p (.lst [])) [.ref a] [D.scr ns] := .cons (.scr (hsc.keep (keeps_new hp))) .nil
        have r0 : SR p g.K g.CL (([D.scr ns]).map Sl.fr ++ List.replicate (N.length - 1) Sl.un) (L2.start N [.ref a]) (upd H2 p (.lst [])) := start_sr (sl := ([D.scr ns]).map Sl.fr) (by simpa using hN) rfl (start_fr hd0) no_ow
        have so : SO g p (upd H2 p (.lst [])) (lawSt N.length it ns) ((L2.start N [.ref a]).set it (some (.ref p))) (upd H2 p (.lst [])) := (⟨r0, Grow.refl _ _, fun i d a e _ => (start_ow (sl := ([D.scr ns]).map Sl.fr) no_ow e).elim⟩ : SO g p (upd H2 p (.lst [])) _ _ _).setFr .town
        refine ⟨p, upd H2 p (.lst []), 0, _, s1, fl, k1, w0, so, e1, fun σ' H' kp w2 r2 => ?_⟩
        cases fl with
        | nx => cases pure_some.mp e2
        | rt d' =>
          cases pure_some.mp e2
          intro v hv
          cases hv
          exact q H'
        | bk => exact absurd e2 (no_some (k := k1))
        | ct => exact absurd e2 (no_some (k := k1))
      rw [hbody]
      by_cases hmu : ∃ zs, H a = some (.lst zs)
      · obtain ⟨zs, hz⟩ := hmu
        have hzs : zs = ns.map V.int ∨ ScrL g.K H a (ns.map V.int) := by
          rcases hS with hS | hS
          · rcases hS with hS | ⟨o, hS⟩
            · rw [hz] at hS; cases hS; exact .inl rfl
            · rw [hz] at hS; cases hS
          · exact .inr (.inr hS)
        rcases hzs with e | hsc
        · subst e
          refine ⟨_, pss_lock (a := a) (xs := ns.map V.int) pss, hz, fun o => ⟨Nat.zero_le _, fun p hp => core _ (.inl ⟨o, upd_same⟩) (fun b hb => ?_) p hp⟩⟩
          have e0 := hO b hb
          rw [upd_ne (fun z => by rw [z, hz] at e0; cases e0)]
          exact e0
        · exact ⟨_, pss, Nat.zero_le _, fun p hp => core H hsc hO p hp⟩
      · have hsc : ScrL g.K H a (ns.map V.int) := by
          rcases hS with hS | hS
          · rcases hS with hS | ⟨o, hS⟩
            · exact absurd ⟨_, hS⟩ hmu
            · exact .inl ⟨o, hS⟩
          · exact .inr hS
        exact ⟨_, pss, Nat.zero_le _, fun p hp => core H hsc hO p hp⟩
  · cases h
/-! ### the facts that the head tells -/
def defName (s : Stmt) : Str := match s with
  | .FunctionDef n _ _ _ _ _ _ _ _ _ => n
  | _ => Str.empty
def dOf (st : Stmt) : He.DefD := ⟨(defName st, none), defName st, defName st, defArgs st, defBody st, defScope st, [], []⟩
def glFa : Str × D → He.Fa
  | (x, .int i) => .int x i
  | (x, .str s) => .str x (strOf s)
  | (x, _) => .free x
theorem app_mid {α : Type} {A B C : List α} {j : Nat} (h : j < B.length) : (A ++ B ++ C)[A.length + j]? = B[j]? := by
  rw [List.getElem?_append_left (by rw [List.length_append]; omega), List.getElem?_append_right (by omega), Nat.add_sub_cancel_left]
theorem app_end {α : Type} {A B C : List α} {j : Nat} : (A ++ B ++ C)[A.length + B.length + j]? = C[j]? := by
  rw [List.getElem?_append_right (by rw [List.length_append]; omega), List.length_append, Nat.add_sub_cancel_left]
theorem mg_facts {K : PySem.W.Frag} {h : Heap} {CL : CloT} {st : CloStays CL} {Tb : List (Addr × Str)} {A : List He.Fa} {fn : List He.DefD} (X : K.In h) (G : h.Ns mainGlobals mg) (c : He.SaysD (A ++ bltN.map He.Fa.free ++ gls.map glFa) fn K) (hg : gls.all (fun q => plainD q.2) = true) : Mg ⟨K, Tb, CL, st⟩ gls mg := by
  refine ⟨fun x hx => ?_, fun k x d hk => ?_⟩
  · obtain ⟨j, hj⟩ := List.getElem?_of_mem hx
    have hlt : j < bltN.length := by
      rcases Nat.lt_or_ge j bltN.length with z | z
      · exact z
      · rw [List.getElem?_eq_none z] at hj; cases hj
    exact He.free_ok X G (c.fact (A.length + j) (by rw [app_mid (by simpa using hlt), List.getElem?_map, hj]; rfl))
  · have h1 : (A ++ bltN.map He.Fa.free ++ gls.map glFa)[A.length + (bltN.map He.Fa.free).length + k]? = some (glFa (x, d)) := by
      rw [app_end, List.getElem?_map, hk]
      rfl
    have h2 : plainD d = true := (List.all_eq_true.mp hg) (x, d) (List.mem_of_getElem? hk)
    cases d with
    | int i =>
      obtain ⟨t, ht⟩ := He.int_ok X G (c.fact _ h1)
      exact ⟨.int i, _, ht, ⟨t, rfl⟩, fun T H => .int i⟩
    | str s =>
      obtain ⟨t, ht⟩ := He.str_ok X G (c.fact _ h1)
      exact ⟨.str (strOf s), _, ht, ⟨t, rfl⟩, fun T H => .str s⟩
    | _ => cases h2
theorem look_all {α : Type} {Pp : Str → α → Prop} : ∀ {l : List (Str × α)}, (∀ q ∈ l, Pp q.1 q.2) → ∀ x a, l.lookup x = some a → Pp x a := fun {l} h x a e => h (x, a) (PySem.mem_of_lookup e)
end
end G

namespace G
open PySem PySem.Spec PyProof.Rows L2

section
variable {P : Pr} {fns : List (Str × Nat × Nat)} {gls : List (Str × D)} {lamN : List (List Str × List Str)} {mg : Str → Option Value}
/-- the tables of the defs that make lambdas -/
def tbs (K : PySem.W.Frag) (tf : List He.Defn) : List (Addr × Str) := tf.map fun p => ((He.cT K p).2, (p.1 ++ ".<locals>.") ++ "<lambda>")
abbrev cfL (K : PySem.W.Frag) (P : Pr) (fns : List (Str × Nat × Nat)) (gls : List (Str × D)) (lamN : List (List Str × List Str)) (tf : List He.Defn) : Cf := ⟨K, tbs K tf, cloOf (okL (sc0 P fns gls lamN)) K, cloOf_stays⟩
/-- the tables stand apart -/
def exT (tf : List He.Defn) (K : PySem.W.Frag) : Bool := decide (tf.map fun p => (He.cT K p).2).Nodup
theorem map_inj {α β : Type} {f : α → β} : ∀ {l : List α}, (l.map f).Nodup → ∀ a ∈ l, ∀ b ∈ l, f a = f b → a = b
  | x :: l, h, a, ha, b, hb, e => by
    rw [List.map_cons, List.nodup_cons] at h
    rcases List.mem_cons.mp ha with h1 | h1
    · rcases List.mem_cons.mp hb with h2 | h2
      · rw [h1, h2]
      · exact absurd (List.mem_map.mpr ⟨b, h2, by rw [← h1]; exact e.symm⟩) h.1
    · rcases List.mem_cons.mp hb with h2 | h2
      · exact absurd (List.mem_map.mpr ⟨a, h1, by rw [← h2]; exact e⟩) h.1
      · exact map_inj h.2 a h1 b h2 e
theorem tabAt_mk {K : PySem.W.Frag} {tf : List He.Defn} {base : Heap} {x : Str} (hx : (x, none) ∈ tf) (nd : exT tf K = true) (TB : ∀ p ∈ tf, LamX.TabB base mg (He.cT K p).1 (He.cT K p).2) : TabAt (cfL K P fns gls lamN tf) mg base x (He.ga K x) := by
  intro oc od fd osl lk c ec
  have e : He.codeOf K (x, none) = c := He.codeOf_eq (p := (x, none)) lk ec
  have t := TB _ hx
  have e1 : (He.cT K (x, none)).1 = c := e
  rw [e1] at t
  refine ⟨_, t, List.mem_map.mpr ⟨_, hx, rfl⟩, fun p hp e2 => ?_⟩
  obtain ⟨q, hq, rfl⟩ := List.mem_map.mp hp
  have e3 : q = (x, none) := map_inj (of_decide_eq_true nd) q hq _ hx e2
  rw [e3]
theorem fnI_mk {prog : Program} {w : World} {base : Heap} {K : PySem.W.Frag} {h : Heap} {tf : List He.Defn} {fa : List He.Fa} {fn : List He.DefD} (X : K.In h) (G : h.Ns mainGlobals mg) (c : He.SaysD fa fn K) (nd : exT tf K = true) (TB : ∀ p ∈ tf, LamX.TabB base mg (He.cT K p).1 (He.cT K p).2) (hM : Mg (cfL K P fns gls lamN tf) gls mg)
    (st : Stmt) (j f i np : Nat) (lam : Bool) (N ps : List Str) (hl : np < 100) (hj : fn[j]? = some (dOf st)) (hf : fa[f]? = some (.glo (defName st))) (hck : chkFn P fns gls lamN lam N ps i np st = true) (hlam : lam = true → (defName st, none) ∈ tf)
    (hb : ∀ (kV doc pm : Value) (an : Option Addr) (cdv ct : Value) (us : List Value), us.length = ps.length → bindArgs (PySem.W.fnOf (defName st) (defName st) (defArgs st) (defBody st) (defScope st) .none kV doc pm an cdv ct) ⟨us, []⟩ = pure (ps.zip us)) :
    FnI (cfL K P fns gls lamN tf) P fns gls lamN prog w mg base (defName st) i np := by
  obtain ⟨fd, F⟩ := c.def_ j hj
  have hm := He.glo_ok X G (c.fact f hf)
  exact FnI.py hl F hm (FunD.bindsN F hb) hck (fun hl => tabAt_mk (hlam hl) nd TB) rfl hM
/-- the law's promise from the facts -/
theorem law_facts {l : PySem.W.OpenLaw} {w : World} {K : PySem.W.Frag} {h : Heap} {f : Addr} {A : List He.Fa} {fn : List He.DefD} {tf : List He.Defn} (X : K.In h) (G : h.Ns mainGlobals mg) (c : He.SaysX (A ++ bltN.map He.Fa.free ++ gls.map glFa) fn [] tf (exT tf) w h K) (hg : gls.all (fun q => plainD q.2) = true) (st : Stmt) (y : Str) (j fi it n : Nat) (N : List Str) (body : List S)
    (hfa : mg (defName st) = some (.ref f)) (hj : fn[j]? = some (dOf st)) (hf : (A ++ bltN.map He.Fa.free ++ gls.map glFa)[fi]? = some (.glo (defName st))) (hck : chkLaw P fns gls lamN N y it body st = true)
    (hb : ∀ (kV doc pm : Value) (an : Option Addr) (cdv ct : Value) (us : List Value), us.length = [y].length → bindArgs (PySem.W.fnOf (defName st) (defName st) (defArgs st) (defBody st) (defScope st) .none kV doc pm an cdv ct) ⟨us, []⟩ = pure ([y].zip us))
    (hF : ∀ base : Heap, (∀ p ∈ tf, LamX.TabB base mg (He.cT K p).1 (He.cT K p).2) → Mg (cfL K P fns gls lamN tf) gls mg → ∀ q ∈ fns, FnI (cfL K P fns gls lamN tf) P fns gls lamN l.prog w mg base q.1 q.2.1 q.2.2) (hrun : ∀ ns : List Int, ns.length ≤ 63 → ∃ k, lawRun (calls P n) N.length it body ns 0 = some (.bl true, k)) :
    LamX.LawAtS l w K L2.CX0 (n + 1) 63 y mg f h := by
  have cd : He.SaysD (A ++ bltN.map He.Fa.free ++ gls.map glFa) fn K := c.t.d
  obtain ⟨fd, F⟩ := cd.def_ j hj
  have e := hfa.symm.trans (He.glo_ok X G (cd.fact fi hf))
  cases e
  have hM : Mg (cfL K P fns gls lamN tf) gls mg := mg_facts X G cd hg
  have mem : ∀ p ∈ tf.map (He.cT K), ∃ q ∈ tf, p = He.cT K q := fun p hp => by
    obtain ⟨q, hq, e⟩ := List.mem_map.mp hp
    exact ⟨q, hq, e.symm⟩
  refine ⟨fd, tf.map (He.cT K), spLaw K ((tbs K tf).map (·.1)), fun p hp => ?_, fun p hp => ?_, fun p hp => ?_, fun s v => FunD.bindsA (ps := [y]) F hb s [v] rfl, fun H a ns hl _ hT hS => ⟨a, ns, rfl, hS, fun b hb' => ?_, hl, fun _ => rfl⟩, fun base _ _ TB => ?_⟩
  · obtain ⟨q, hq, rfl⟩ := mem p hp
    exact c.empty q hq
  · obtain ⟨q, hq, rfl⟩ := mem p hp
    exact c.out q hq
  · obtain ⟨q, hq, rfl⟩ := mem p hp
    exact PySem.W.codeHd_of_K X (c.hd q hq)
  · obtain ⟨u, hu, rfl⟩ := List.mem_map.mp hb'
    obtain ⟨q, hq, rfl⟩ := List.mem_map.mp hu
    exact hT (He.cT K q) (List.mem_map.mpr ⟨q, hq, rfl⟩)
  · have TB' : ∀ p ∈ tf, LamX.TabB base mg (He.cT K p).1 (He.cT K p).2 := fun p hp => TB _ (List.mem_map.mpr ⟨p, hp, rfl⟩)
    have hF' : ∀ x i np, fns.lookup x = some (i, np) → FnI (cfL K P fns gls lamN tf) P fns gls lamN l.prog w mg base x i np := fun x i np e => hF base TB' hM (x, i, np) (PySem.mem_of_lookup e)
    obtain ⟨hT, hL⟩ := tbl_all hF' rfl hM n
    exact law_step (g := cfL K P fns gls lamN tf) F hck rfl hT hL hM hrun
end
end G

set_option maxHeartbeats 0
namespace G
/-- is_whole -/
def p_is_whole : Fd := .py 3 3 [.ret (.and [.isi .int (.v 0), .not (.isi .bool (.v 0)), .chain .le .le (.v 1) (.v 0) (.v 2)])]
/-- are_rising -/
def p_are_rising : Fd := .py 1 3 [.ret (.b1 .all (.lc (.two 1 2) .zp (.slh (.v 0) (.neg (.c (.int 1)))) (.sll (.v 0) (.c (.int 1))) (.c .non) (.c (.bl true)) (.cmp .lt (.v 1) (.v 2)) [1, 2]))]
/-- is_pair -/
def p_is_pair : Fd := .py 2 3 [.ite (.or [.not (.isi .tuple (.v 0)), .cmp .ne (.b1 .len (.v 0)) (.c (.int 2)), .not (.b1 .all (.lc (.one 2) .it (.v 0) (.c .non) (.c .non) (.c (.bl true)) (.call 0 [.v 2, .c (.int 0), .sub (.v 1) (.c (.int 1))]) [2]))]) [.ret (.c (.bl false))] [],
    .ret (.cmp .lt (.ix (.v 0) (.c (.int 0))) (.ix (.v 0) (.c (.int 1))))]
/-- is_table -/
def p_is_table : Fd := .py 1 4 [.ite (.or [.not (.isi .tuple (.v 0)), .cmp .ne (.b1 .len (.v 0)) (.c (.int 2)), .not (.call 0 [.ix (.v 0) (.c (.int 0)), .c (.int 1), .gl 0 ((.int 6))])]) [.ret (.c (.bl false))] [],
    .tgt (.two 1 2) (.v 0),
    .ret (.and [.isi .tuple (.v 2), .b1 .all (.lc (.one 3) .it (.v 2) (.c .non) (.c .non) (.c (.bl true)) (.call 2 [.v 3, .v 1]) [3]), .call 1 [.v 2]])]
/-- is_channel -/
def p_is_channel : Fd := .py 1 3 [.ite (.or [.not (.isi .tuple (.v 0)), .not (.chain .le .le (.c (.int 1)) (.b1 .len (.v 0)) (.gl 0 ((.int 6))))]) [.ret (.c (.bl false))] [],
    .for (.one 1) .it (.v 0) (.c .non) (.c .non) [.ite (.or [.not (.isi .tuple (.v 1)), .cmp .eq (.v 1) (.tup []), .not (.b1 .all (.lc (.one 2) .it (.v 1) (.c .non) (.c .non) (.c (.bl true)) (.call 0 [.v 2, .c (.int 0), .sub (.gl 0 ((.int 6))) (.c (.int 1))]) [2]))]) [.ret (.c (.bl false))] [], .ite (.not (.call 1 [.v 1])) [.ret (.c (.bl false))] []],
    .ret (.c (.bl true))]
/-- mixed -/
def p_mixed : Fd := .py 3 3 [.ret (.or [.cmp .eq (.v 1) (.v 2), .inn false (.tup [.b2 .min (.v 1) (.v 2), .b2 .max (.v 1) (.v 2)]) (.ix (.v 0) (.c (.int 1)))])]
/-- near -/
def p_near : Fd := .py 2 3 [.ret (.b1 .tuple (.lc (.one 2) .r1 (.ix (.v 0) (.c (.int 0))) (.c .non) (.c .non) (.call 5 [.v 0, .v 1, .v 2]) (.v 2) [2]))]
/-- table_by -/
def p_table_by : Fd := .py 2 5 [.own 2 (.lst []),
    .for (.one 3) .r1 (.v 0) (.c .non) (.c .non) [.ext 2 (.lc (.one 4) .r2 (.add (.v 3) (.c (.int 1))) (.v 0) (.c .non) (.callv 1 [.v 3, .v 4]) (.tup [.v 3, .v 4]) [4])],
    .ret (.tup [.v 0, .b1 .tuple (.bv 2)])]
/-- turned -/
def p_turned : Fd := .py 1 1 [.ret (.callL 7 [.ix (.v 0) (.c (.int 0))] 0 [0])]
/-- part -/
def p_part : Fd := .py 2 2 [.ret (.callL 7 [.b1 .len (.v 1)] 1 [0, 1])]
/-- renamed -/
def p_renamed : Fd := .py 2 5 [.own 2 (.lc (.two 3 4) .it (.ix (.v 0) (.c (.int 1))) (.c .non) (.c .non) (.c (.bl true)) (.tup [.b2 .min (.ix (.v 1) (.v 3)) (.ix (.v 1) (.v 4)), .b2 .max (.ix (.v 1) (.v 3)) (.ix (.v 1) (.v 4))]) [3, 4]),
    .fz [2],
    .ret (.tup [.ix (.v 0) (.c (.int 0)), .b1 .tuple (.b1 .sorted (.v 2))])]
/-- words -/
def p_words : Fd := .py 2 7 [.set 2 (.lst [.tup []]),
    .for (.one 3) .r1 (.v 1) (.c .non) (.c .non) [.own 4 (.lst []), .for (.one 5) .it (.v 2) (.c .non) (.c .non) [.ext 4 (.lc (.one 6) .r1 (.v 0) (.c .non) (.c .non) (.c (.bl true)) (.add (.v 5) (.tup [.v 6])) [6])], .fz [4], .set 2 (.v 4)],
    .ret (.b1 .tuple (.v 2))]
/-- mixed_words -/
def p_mixed_words : Fd := .py 3 5 [.ret (.b1 .all (.lc (.two 3 4) .zp (.v 1) (.v 2) (.c .non) (.c (.bl true)) (.call 5 [.v 0, .v 3, .v 4]) [3, 4]))]
/-- power -/
def p_power : Fd := .py 2 3 [.set 2 (.call 11 [.ix (.v 0) (.c (.int 0)), .v 1]),
    .ret (.callL 7 [.b1 .len (.v 2)] 2 [0, 2])]
/-- clash -/
def p_clash : Fd := .py 2 5 [.for (.two 2 3) .en (.v 1) (.c .non) (.c .non) [.for (.one 4) .r2 (.add (.v 2) (.c (.int 1))) (.b1 .len (.v 1)) (.c .non) [.ite (.call 12 [.v 0, .v 3, .ix (.v 1) (.v 4)]) [.ret (.tup [.v 2, .v 4])] []]],
    .ret (.c .non)]
/-- is_code -/
def p_is_code : Fd := .py 2 2 [.ret (.isn false (.call 14 [.v 0, .v 1]))]
/-- addable -/
def p_addable : Fd := .py 3 5 [.ret (.b1 .tuple (.lc (.one 3) .it (.call 11 [.ix (.v 0) (.c (.int 0)), .v 2]) (.c .non) (.c .non) (.not (.b1 .any (.lc (.one 4) .it (.v 1) (.c .non) (.c .non) (.c (.bl true)) (.call 12 [.v 0, .v 3, .v 4]) [4]))) (.v 3) [3]))]
/-- is_full -/
def p_is_full : Fd := .py 3 3 [.ret (.cmp .eq (.call 16 [.v 0, .v 1, .v 2]) (.tup []))]
/-- grown -/
def p_grown : Fd := .py 3 5 [.for (.one 3) .it (.call 11 [.ix (.v 0) (.c (.int 0)), .v 2]) (.c .non) (.c .non) [.ite (.not (.b1 .any (.lc (.one 4) .it (.v 1) (.c .non) (.c .non) (.c (.bl true)) (.call 12 [.v 0, .v 3, .v 4]) [4]))) [.set 1 (.add (.v 1) (.tup [.v 3]))] []],
    .ret (.v 1)]
/-- bin_ones -/
def p_bin_ones : Fd := .py 1 2 [.set 1 (.c (.int 0)),
    .whl (.cmp .gt (.v 0) (.c (.int 0))) [.set 1 (.add (.v 1) (.mod (.v 0) (.c (.int 2)))), .set 0 (.fdv (.v 0) (.c (.int 2)))],
    .ret (.v 1)]
/-- most -/
def p_most : Fd := .py 2 3 [.set 2 (.call 13 [.v 0, .v 1]),
    .ret (.mth 59 (.mk 56 [.v 2]) [.sub (.bit .shl (.c (.int 1)) (.ix (.v 2) (.c (.int 0)))) (.c (.int 1))])]
/-- best_code -/
def p_best_code : Fd := .py 2 5 [.set 2 (.call 13 [.v 0, .v 1]),
    .set 3 (.call 11 [.ix (.v 0) (.c (.int 0)), .v 1]),
    .ret (.b1 .tuple (.lc (.one 4) .it (.mth 60 (.mk 56 [.v 2]) [.sub (.bit .shl (.c (.int 1)) (.ix (.v 2) (.c (.int 0)))) (.c (.int 1))]) (.c .non) (.c .non) (.c (.bl true)) (.ix (.v 3) (.v 4)) [4]))]
/-- choices -/
def p_choices : Fd := .py 1 4 [.set 1 (.lst [.tup []]),
    .for (.one 2) .r1 (.v 0) (.c .non) (.c .non) [.set 1 (.add (.v 1) (.lc (.one 3) .it (.v 1) (.c .non) (.c .non) (.c (.bl true)) (.add (.v 3) (.tup [.v 2])) [3]))],
    .ret (.b1 .sorted (.v 1))]
/-- all_best -/
def p_all_best : Fd := .py 1 4 [.own 1 (.lc (.one 3) .it (.call 22 [.ix (.v 0) (.c (.int 0))]) (.c .non) (.c .non) (.cmp .eq (.ix (.call 9 [.v 0, .v 3]) (.c (.int 1))) (.tup [])) (.v 3) [3]),
    .fz [1],
    .set 2 (.b1 .max (.lc (.one 3) .it (.v 1) (.c .non) (.c .non) (.c (.bl true)) (.b1 .len (.v 3)) [3])),
    .ret (.b1 .tuple (.lc (.one 3) .it (.v 1) (.c .non) (.c .non) (.cmp .eq (.b1 .len (.v 3)) (.v 2)) (.v 3) [3]))]
/-- needed -/
def p_needed : Fd := .py 1 4 [.set 1 (.call 23 [.v 0]),
    .ret (.b1 .tuple (.lc (.one 2) .r1 (.ix (.v 0) (.c (.int 0))) (.c .non) (.c .non) (.b1 .all (.lc (.one 3) .it (.v 1) (.c .non) (.c .non) (.c (.bl true)) (.inn false (.v 2) (.v 3)) [3])) (.v 2) [2]))]
/-- _wall -/
def p__wall : Fd := .py 1 1 [.whl (.c (.bl true)) [.pass]]
/-- is_group -/
def p_is_group : Fd := .py 2 5 [.for (.two 2 3) .en (.v 1) (.c .non) (.c .non) [.ite (.not (.b1 .all (.lc (.one 4) .it (.sll (.v 1) (.add (.v 2) (.c (.int 1)))) (.c .non) (.c .non) (.c (.bl true)) (.call 5 [.v 0, .v 3, .v 4]) [4]))) [.ret (.c (.bl false))] []],
    .ret (.c (.bl true))]
/-- groups -/
def p_groups : Fd := .py 1 6 [.own 1 (.lc (.one 3) .it (.call 22 [.ix (.v 0) (.c (.int 0))]) (.c .non) (.c .non) (.and [.cmp .ne (.v 3) (.tup []), .call 26 [.v 0, .v 3]]) (.v 3) [3]),
    .fz [1],
    .own 2 (.lst []),
    .for (.one 3) .it (.v 1) (.c .non) (.c .non) [.ite (.not (.b1 .any (.lc (.one 4) .it (.v 1) (.c .non) (.c .non) (.c (.bl true)) (.and [.cmp .gt (.b1 .len (.v 4)) (.b1 .len (.v 3)), .b1 .all (.lc (.one 5) .it (.v 3) (.c .non) (.c .non) (.c (.bl true)) (.inn false (.v 5) (.v 4)) [5])]) [4]))) [.app 2 (.v 3)] []],
    .ret (.b1 .tuple (.bv 2))]
/-- partings -/
def p_partings : Fd := .py 2 7 [.ite (.not (.v 1)) [.ret (.lst [.tup []])] [],
    .own 2 (.lst []),
    .for (.one 3) .it (.call 28 [.v 0, .slh (.v 1) (.neg (.c (.int 1)))]) (.c .non) (.c .non) [.set 4 (.ix (.v 1) (.neg (.c (.int 1)))), .for (.two 5 6) .en (.v 3) (.c .non) (.c .non) [.ite (.call 26 [.v 0, .add (.v 6) (.tup [.v 4])]) [.app 2 (.add (.add (.slh (.v 3) (.v 5)) (.tup [.add (.v 6) (.tup [.v 4])])) (.sll (.v 3) (.add (.v 5) (.c (.int 1)))))] []], .app 2 (.add (.v 3) (.tup [.tup [.v 4]]))],
    .fz [2],
    .ret (.v 2)]
/-- least_cover -/
def p_least_cover : Fd := .py 1 3 [.set 1 (.call 28 [.v 0, .cv true .r1 (.ix (.v 0) (.c (.int 0))) (.c .non)]),
    .ret (.ix (.b1 .min (.lc (.one 2) .it (.v 1) (.c .non) (.c .non) (.c (.bl true)) (.tup [.b1 .len (.v 2), .v 2]) [2])) (.c (.int 1)))]
/-- fewest -/
def p_fewest : Fd := .py 1 1 [.ret (.b1 .len (.call 29 [.v 0]))]
/-- is_tight -/
def p_is_tight : Fd := .py 1 1 [.ret (.cmp .eq (.call 20 [.v 0, .c (.int 1)]) (.call 30 [.v 0]))]
/-- is_cover: not yet (owned from Dict) -/
def p_is_cover : Fd := .prim 99 fun _ _ => no
/-- is_word -/
def p_is_word : Fd := .py 3 4 [.ret (.and [.isi .tuple (.v 2), .cmp .eq (.b1 .len (.v 2)) (.v 1), .b1 .all (.lc (.one 3) .it (.v 2) (.c .non) (.c .non) (.c (.bl true)) (.call 0 [.v 3, .c (.int 0), .sub (.ix (.v 0) (.c (.int 0))) (.c (.int 1))]) [3])])]
/-- cover_words -/
def p_cover_words : Fd := .py 2 10 [.set 2 (.lst [.tup [.tup []]]),
    .for (.one 3) .r1 (.v 1) (.c .non) (.c .non) [.own 4 (.lst []), .for (.one 5) .it (.v 2) (.c .non) (.c .non) [.for (.one 6) .it (.call 29 [.v 0]) (.c .non) (.c .non) [.set 7 (.tup []), .for (.one 8) .it (.v 5) (.c .non) (.c .non) [.set 7 (.add (.v 7) (.b1 .tuple (.lc (.one 9) .it (.v 6) (.c .non) (.c .non) (.c (.bl true)) (.add (.v 8) (.tup [.v 9])) [9])))], .app 4 (.v 7)]], .fz [4], .set 2 (.v 4)],
    .ret (.b1 .tuple (.v 2))]
/-- is_shares: not yet (owned from BinOp) -/
def p_is_shares : Fd := .prim 99 fun _ _ => no
/-- least_shares: not yet (owned from Dict) -/
def p_least_shares : Fd := .prim 99 fun _ _ => no
/-- orders -/
def p_orders : Fd := .py 1 4 [.ite (.cmp .eq (.v 0) (.c (.int 0))) [.ret (.lst [.tup []])] [],
    .own 1 (.lst []),
    .for (.one 2) .it (.call 37 [.sub (.v 0) (.c (.int 1))]) (.c .non) (.c .non) [.for (.one 3) .r1 (.v 0) (.c .non) (.c .non) [.app 1 (.add (.add (.slh (.v 2) (.v 3)) (.tup [.sub (.v 0) (.c (.int 1))])) (.sll (.v 2) (.v 3)))]],
    .ret (.b1 .sorted (.bv 1))]
/-- form -/
def p_form : Fd := .py 1 2 [.ret (.b1 .min (.lc (.one 1) .it (.call 37 [.ix (.v 0) (.c (.int 0))]) (.c .non) (.c .non) (.c (.bl true)) (.call 10 [.v 0, .v 1]) [1]))]
/-- renaming -/
def p_renaming : Fd := .py 2 3 [.ite (.or [.cmp .ne (.ix (.v 0) (.c (.int 0))) (.ix (.v 1) (.c (.int 0))), .cmp .ne (.b1 .len (.ix (.v 0) (.c (.int 1)))) (.b1 .len (.ix (.v 1) (.c (.int 1))))]) [.ret (.c .non)] [],
    .for (.one 2) .it (.call 37 [.ix (.v 0) (.c (.int 0))]) (.c .non) (.c .non) [.ite (.cmp .eq (.call 10 [.v 0, .v 2]) (.v 1)) [.ret (.v 2)] []],
    .ret (.c .non)]
/-- alike -/
def p_alike : Fd := .py 2 2 [.ret (.isn true (.call 39 [.v 0, .v 1]))]
/-- turns -/
def p_turns : Fd := .py 1 2 [.ret (.b1 .len (.lc (.one 1) .it (.call 37 [.ix (.v 0) (.c (.int 0))]) (.c .non) (.c .non) (.cmp .eq (.call 10 [.v 0, .v 1]) (.v 0)) (.v 1) [1]))]
/-- all_kinds: not yet (owned from Dict) -/
def p_all_kinds : Fd := .prim 99 fun _ _ => no
/-- beside -/
def p_beside : Fd := .py 2 5 [.set 2 (.b1 .tuple (.lc (.two 3 4) .it (.ix (.v 1) (.c (.int 1))) (.c .non) (.c .non) (.c (.bl true)) (.tup [.add (.v 3) (.ix (.v 0) (.c (.int 0))), .add (.v 4) (.ix (.v 0) (.c (.int 0)))]) [3, 4])),
    .ret (.tup [.add (.ix (.v 0) (.c (.int 0))) (.ix (.v 1) (.c (.int 0))), .add (.ix (.v 0) (.c (.int 1))) (.v 2)])]
/-- times -/
def p_times : Fd := .py 2 3 [.set 2 (.ix (.v 1) (.c (.int 0))),
    .ret (.callL 7 [.mul (.ix (.v 0) (.c (.int 0))) (.v 2)] 4 [0, 1, 2])]
/-- table_of -/
def p_table_of : Fd := .py 1 2 [.ret (.callL 7 [.b1 .len (.v 0)] 5 [0])]
/-- channel_of -/
def p_channel_of : Fd := .py 1 6 [.set 1 (.tup []),
    .for (.one 2) .r1 (.ix (.v 0) (.c (.int 0))) (.c .non) (.c .non) [.set 3 (.add (.lst [.v 2]) (.lc (.two 4 5) .en (.ix (.v 0) (.c (.int 1))) (.c .non) (.c .non) (.inn false (.v 2) (.v 5)) (.add (.ix (.v 0) (.c (.int 0))) (.v 4)) [4, 5])), .set 1 (.add (.v 1) (.tup [.b1 .tuple (.v 3)]))],
    .ret (.v 1)]
/-- may_be_heard -/
def p_may_be_heard : Fd := .py 3 5 [.ret (.b1 .all (.lc (.two 3 4) .zp (.v 1) (.v 2) (.c .non) (.c (.bl true)) (.inn false (.v 4) (.ix (.v 0) (.v 3))) [3, 4]))]
/-- sent -/
def p_sent : Fd := .py 3 5 [.ret (.b1 .tuple (.lc (.two 3 4) .en (.v 1) (.c .non) (.c .non) (.call 47 [.v 0, .v 4, .v 2]) (.v 3) [3, 4]))]
/-- told: not yet (stmt Raise) -/
def p_told : Fd := .prim 99 fun _ _ => no
/-- is_sure -/
def p_is_sure : Fd := .py 2 2 [.ret (.call 15 [.call 45 [.v 0], .v 1])]
/-- heard_all -/
def p_heard_all : Fd := .py 2 7 [.set 2 (.lst [.tup []]),
    .for (.one 3) .it (.v 1) (.c .non) (.c .non) [.own 4 (.lst []), .for (.one 5) .it (.v 2) (.c .non) (.c .non) [.ext 4 (.lc (.one 6) .it (.ix (.v 0) (.v 3)) (.c .non) (.c .non) (.c (.bl true)) (.add (.v 5) (.tup [.v 6])) [6])], .fz [4], .set 2 (.v 4)],
    .ret (.b1 .tuple (.v 2))]
/-- most_heard: not yet (owned from Dict) -/
def p_most_heard : Fd := .prim 99 fun _ _ => no
/-- listed -/
def p_listed : Fd := .py 2 6 [.set 2 (.c (.int 0)),
    .set 3 (.lst [.tup []]),
    .for (.one 4) .r1 (.b1 .len (.v 0)) (.c .non) (.c .non) [.set 3 (.add (.v 3) (.lc (.one 5) .it (.v 3) (.c .non) (.c .non) (.c (.bl true)) (.add (.v 5) (.tup [.v 4])) [5]))],
    .for (.one 5) .it (.v 3) (.c .non) (.c .non) [.ite (.cmp .le (.call 52 [.v 0, .lc (.one 4) .it (.v 5) (.c .non) (.c .non) (.c (.bl true)) (.tup [.v 4]) [4]]) (.v 1)) [.set 2 (.b2 .max (.v 2) (.b1 .len (.v 5)))] []],
    .ret (.v 2)]
/-- written: not yet (call str/1) -/
def p_written : Fd := .prim 99 fun _ _ => no
/-- read: not yet (method .split) -/
def p_read : Fd := .prim 99 fun _ _ => no
def p_Seeker : Fd := .prim 1 (mkG 57)
def p_Seeker___init__ : Fd := .prim 1 (initG 6)
/-- Seeker.signs -/
def p_Seeker_signs : Fd := .py 2 3 [.ret (.lc (.one 2) .r1 (.b1 .len (.bes (.v 0))) (.c .non) (.c .non) (.cmp .eq (.bit .and (.bit .shr (.v 1) (.v 2)) (.c (.int 1))) (.c (.int 1))) (.v 2) [2])]
/-- Seeker.first -/
def p_Seeker_first : Fd := .py 2 5 [.own 2 (.lst []),
    .for (.one 3) .it (.mth 58 (.v 0) [.v 1]) (.c .non) (.c .non) [.ite (.cmp .eq (.bit .and (.bit .shr (.v 1) (.v 3)) (.c (.int 1))) (.c (.int 1))) [.set 4 (.bit .and (.v 1) (.inv (.ix (.bes (.v 0)) (.v 3)))), .ite (.cmp .eq (.add (.mth 59 (.v 0) [.v 4]) (.c (.int 1))) (.mth 59 (.v 0) [.v 1])) [.app 2 (.v 3), .set 1 (.v 4)] [.set 1 (.bit .and (.v 1) (.inv (.bit .shl (.c (.int 1)) (.v 3))))]] []],
    .ret (.b1 .tuple (.bv 2))]
/-- Seeker.many: where nothing is known -/
def skBody : List S := [.set 2 (.b1 .sorted (.lc (.one 5) .it (.mth 58 (.v 0) [.v 1]) (.c .non) (.c .non) (.c (.bl true)) (.tup [.call 19 [.bit .and (.ix (.bes (.v 0)) (.v 5)) (.v 1)], .v 5]) [5])),
    .tgt (.two 4 5) (.ix (.v 2) (.c (.int 0))),
    .set 3 (.add (.c (.int 1)) (.mth 59 (.v 0) [.bit .and (.v 1) (.inv (.ix (.bes (.v 0)) (.v 5)))])),
    .ite (.cmp .gt (.v 4) (.c (.int 2))) [.tgt (.two 7 5) (.ix (.v 2) (.neg (.c (.int 1)))), .set 6 (.bit .and (.v 1) (.inv (.bit .shl (.c (.int 1)) (.v 5)))), .set 3 (.b2 .max (.mth 59 (.v 0) [.v 6]) (.add (.c (.int 1)) (.mth 59 (.v 0) [.bit .and (.v 1) (.inv (.ix (.bes (.v 0)) (.v 5)))])))] []]
def p_Seeker_many : Fd := .prim 2 (manyG 59)
def progFns : List Fd := [p_is_whole, p_are_rising, p_is_pair, p_is_table, p_is_channel, p_mixed, p_near, p_table_by, p_turned, p_part, p_renamed, p_words, p_mixed_words, p_power, p_clash, p_is_code, p_addable, p_is_full, p_grown, p_bin_ones, p_most, p_best_code, p_choices, p_all_best, p_needed, p__wall, p_is_group, p_groups, p_partings, p_least_cover, p_fewest, p_is_tight, p_is_cover, p_is_word, p_cover_words, p_is_shares, p_least_shares, p_orders, p_form, p_renaming, p_alike, p_turns, p_all_kinds, p_beside, p_times, p_table_of, p_channel_of, p_may_be_heard, p_sent, p_told, p_is_sure, p_heard_all, p_most_heard, p_listed, p_written, p_read, p_Seeker, p_Seeker___init__, p_Seeker_signs, p_Seeker_many, p_Seeker_first]
def progLams : List Ld := [⟨2, 1, 3, .not (.call 5 [.v 2, .v 0, .v 1])⟩,
    ⟨2, 2, 4, .call 5 [.v 2, .ix (.v 3) (.v 0), .ix (.v 3) (.v 1)]⟩,
    ⟨2, 2, 4, .call 12 [.v 2, .ix (.v 3) (.v 0), .ix (.v 3) (.v 1)]⟩,
    ⟨2, 0, 2, .c (.bl true)⟩,
    ⟨2, 3, 5, .and [.call 5 [.v 2, .fdv (.v 0) (.v 4), .fdv (.v 1) (.v 4)], .call 5 [.v 3, .mod (.v 0) (.v 4), .mod (.v 1) (.v 4)]]⟩,
    ⟨2, 1, 4, .b1 .any (.lc (.one 3) .it (.ix (.v 2) (.v 0)) (.c .non) (.c .non) (.c (.bl true)) (.inn false (.v 3) (.ix (.v 2) (.v 1))) [3])⟩]
/-- what the statements of the mini language come to, where nothing is known -/
def BodyOk (P : Pr) (iM : Nat) (ss : List S) (n : Nat) : Prop := ∀ (l : List Int) (x : Nat) (k : Nat), okS l x = true → x ≠ 0 → onesN l x < n →
  ∃ st', exs (calls P n) ss ([D.sk l, D.int (x : Int)].map Sl.fr ++ List.replicate 6 Sl.un) k = some ((st', .nx), k) ∧ st'[0]? = some (.fr (.sk l)) ∧ st'[1]? = some (.fr (.int (x : Int))) ∧ st'[3]? = some (.fr (.int (manyV l x : Nat)))
/-- the program and a law -/
def PR (ex : List Fd) : Pr := ⟨progFns ++ ex, progLams⟩
end G
namespace L_k19
open G
def q_law_draw : Fd := .py 3 7 [.tick 1,
    .set 3 (.b1 .len (.v 1)),
    .set 4 (.c (.int 0)),
    .ite (.v 0) [.set 4 (.ix (.v 0) (.mod (.v 3) (.b1 .len (.v 0))))] [],
    .set 5 (.mod (.add (.v 4) (.mul (.c (.int 104729)) (.v 3))) (.c (.int 4294967291))),
    .set 5 (.mod (.mul (.mod (.mul (.v 5) (.v 5)) (.c (.int 4294967279))) (.c (.int 48271))) (.c (.int 4294967291))),
    .set 6 (.mod (.mul (.mod (.mul (.v 5) (.v 5)) (.c (.int 4294967279))) (.c (.int 69621))) (.c (.int 4294967291))),
    .ret (.mod (.add (.mul (.fdv (.v 5) (.c (.int 64))) (.c (.int 67108864))) (.fdv (.v 6) (.c (.int 64)))) (.v 2))]
def q_law_pick : Fd := .py 3 3 [.ret (.ix (.v 2) (.call 61 [.v 0, .v 1, .b1 .len (.v 2)]))]
def q_law_table : Fd := .py 3 8 [.par [(5, false), (6, false)] [.add (.c (.int 1)) (.call 61 [.v 0, .v 1, .v 2]), .tup []],
    .set 3 (.call 62 [.v 0, .v 1, .lst [.c (.int 1), .c (.int 2), .c (.int 3)]]),
    .for (.one 4) .r1 (.v 5) (.c .non) (.c .non) [.for (.one 7) .r2 (.add (.v 4) (.c (.int 1))) (.v 5) (.c .non) [.ite (.cmp .lt (.call 61 [.v 0, .v 1, .c (.int 4)]) (.v 3)) [.set 6 (.add (.v 6) (.tup [.tup [.v 4, .v 7]]))] []]],
    .ret (.tup [.v 5, .v 6])]
def q_law_mixed : Fd := .py 3 5 [.par [(3, true), (4, true)] [.b1 .list (.v 2), .lst []],
    .whl (.bv 3) [.popa 4 3 (.call 61 [.v 0, .v 1, .b1 .len (.bv 3)])],
    .ret (.b1 .tuple (.bv 4))]
def q_law_code : Fd := .py 4 8 [.set 4 (.tup []),
    .for (.one 5) .r1 (.call 61 [.v 0, .v 1, .c (.int 4)]) (.c .non) (.c .non) [.set 6 (.b1 .tuple (.lc (.one 7) .r1 (.v 3) (.c .non) (.c .non) (.c (.bl true)) (.call 61 [.v 0, .v 1, .ix (.v 2) (.c (.int 0))]) [7])), .ite (.call 15 [.v 2, .add (.v 4) (.tup [.v 6])]) [.set 4 (.add (.v 4) (.tup [.v 6]))] []],
    .ret (.v 4)]
def q_law_one_by_one : Fd := .py 3 5 [.set 3 (.v 1),
    .set 4 (.call 16 [.v 0, .v 3, .v 2]),
    .whl (.cmp .ne (.v 4) (.tup [])) [.set 3 (.add (.v 3) (.slh (.v 4) (.c (.int 1)))), .set 4 (.call 16 [.v 0, .v 3, .v 2])],
    .ret (.v 3)]
def lawFns : List Fd := [q_law_draw, q_law_pick, q_law_table, q_law_mixed, q_law_code, q_law_one_by_one]
def lawBody : List S := [.for (.one 2) .r1 (.c (.int 4)) (.c .non) (.c .non) [.set 3 (.call 63 [.v 0, .v 1, .c (.int 5)]), .par [(7, false), (8, false)] [.ix (.v 3) (.c (.int 0)), .add (.c (.int 1)) (.call 61 [.v 0, .v 1, .ite (.cmp .lt (.ix (.v 3) (.c (.int 0))) (.c (.int 4))) (.c (.int 3)) (.c (.int 2))])], .set 4 (.call 65 [.v 0, .v 1, .v 3, .v 8]), .set 5 (.call 18 [.v 3, .v 4, .v 8]), .ite (.or [.cmp .ne (.v 5) (.call 66 [.v 3, .v 4, .v 8]), .not (.call 15 [.v 3, .v 5]), .not (.call 17 [.v 3, .v 5, .v 8])]) [.ret (.c (.bl false))] [], .ite (.or [.cmp .ne (.slh (.v 5) (.b1 .len (.v 4))) (.v 4), .cmp .ne (.b1 .list (.sll (.v 5) (.b1 .len (.v 4)))) (.b1 .sorted (.sll (.v 5) (.b1 .len (.v 4))))]) [.ret (.c (.bl false))] [], .ite (.or [.cmp .ne (.call 18 [.v 3, .v 5, .v 8]) (.v 5), .cmp .gt (.b1 .len (.v 5)) (.call 20 [.v 3, .v 8])]) [.ret (.c (.bl false))] [], .ite (.v 4) [.set 9 (.call 18 [.v 3, .slh (.v 4) (.neg (.c (.int 1))), .v 8]), .ite (.not (.b1 .any (.lc (.one 10) .it (.v 9) (.c .non) (.c .non) (.c (.bl true)) (.call 12 [.v 3, .ix (.v 4) (.neg (.c (.int 1))), .v 10]) [10]))) [.ret (.c (.bl false))] []] [], .set 6 (.call 21 [.v 3, .v 8]), .ite (.or [.cmp .ne (.call 18 [.v 3, .v 6, .v 8]) (.v 6), .not (.call 17 [.v 3, .v 6, .v 8])]) [.ret (.c (.bl false))] [], .ite (.cmp .ne (.call 18 [.tup [.v 7, .tup []], .tup [], .v 8]) (.call 11 [.v 7, .v 8])) [.ret (.c (.bl false))] [], .ite (.cmp .ne (.call 18 [.call 8 [.tup [.v 7, .tup []]], .slh (.v 4) (.c (.int 1)), .v 8]) (.or [.slh (.v 4) (.c (.int 1)), .slh (.call 11 [.v 7, .v 8]) (.c (.int 1))])) [.ret (.c (.bl false))] []],
    .ret (.c (.bl true))]
abbrev PL : Pr := PR lawFns
end L_k19
namespace G
open PySem PySem.Spec PyProof.Rows L2

/-! ### the dict of what is known, told as one thing or as a dict -/
theorem keyIs_of {P : Program} {w : World} {es : List DictEntry} {kvs : List (Key × Value)} (p : Pairs (mixKind P w) es kvs) (hi : ∀ q ∈ kvs, ∃ i, q.1 = Sum.inl i) : ∀ e ∈ es, ∃ i : Int, keyIs (.inl i) e.key = true := by
  induction p with
  | nil => intro e he; cases he
  | @cons e kv es kvs h1 h2 _ ih =>
    intro e' he'
    rcases List.mem_cons.mp he' with rfl | he'
    · obtain ⟨i, hi'⟩ := hi kv List.mem_cons_self
      exact ⟨i, by rw [← hi']; exact h1⟩
    · exact ih (fun q hq => hi q (List.mem_cons_of_mem _ hq)) e' he'
theorem pairs_any {P P' : Program} {w w' : World} {es : List DictEntry} {kvs : List (Key × Value)} (p : Pairs (mixKind P w) es kvs) : Pairs (mixKind P' w') es kvs := by
  induction p with
  | nil => exact .nil
  | cons h1 h2 _ ih => exact .cons h1 h2 ih
theorem kv_keys {kvs : List (Key × V)} {vs : List (Key × Value)} (r : KV kvs vs) : vs.map (·.1) = kvs.map (·.1) := by
  unfold KV at r
  induction r with
  | nil => rfl
  | cons h _ ih => rw [List.map_cons, List.map_cons, ih, h.1]
theorem dk_any {P P' : Program} {w w' : World} {H H' : Hp} {h : Heap} {a : Addr} {kvs : List (Key × V)} (hi : ∀ q ∈ kvs, ∃ i, q.1 = Sum.inl i) (x : ObjOk P w H h a (.dK kvs)) : ObjOk P' w' H' h a (.dK kvs) := by
  obtain ⟨z, y, vs, r, o, es, ep, e, c1, c2, c3, c4, c5⟩ := x
  have hv : ∀ q ∈ vs, ∃ i, q.1 = Sum.inl i := fun q hq => by
    have hm : q.1 ∈ kvs.map (·.1) := by rw [← kv_keys r]; exact List.mem_map.mpr ⟨q, hq, rfl⟩
    obtain ⟨p, hp, ep⟩ := List.mem_map.mp hm
    obtain ⟨i, hi'⟩ := hi p hp
    exact ⟨i, by rw [← ep]; exact hi'⟩
  refine ⟨z, y, vs, r, o, es, ep, e, c1, c2, fun en hen => ?_, pairs_any c4, c5⟩
  obtain ⟨i, hk⟩ := keyIs_of c4 hv en (by simpa using hen)
  obtain ⟨k', hk', hh⟩ := c3 en hen
  have e2 : k' = Sum.inl i := (mixKind P w).inj _ _ _ hk' hk
  subst e2
  exact ⟨Sum.inl i, hk, hh⟩
theorem GoodM.ints {l : List Int} {kvs : List (Key × V)} (G : GoodM l kvs) : ∀ q ∈ kvs, ∃ i, q.1 = Sum.inl i := fun q hq => by
  obtain ⟨x, e, _⟩ := G.all q hq
  exact ⟨_, by rw [e]⟩
theorem nodup_le {α : Type} [DecidableEq α] : ∀ {a b : List α}, a.Nodup → (∀ x ∈ a, x ∈ b) → a.length ≤ b.length
  | [], _, _, _ => Nat.zero_le _
  | x :: a, b, h, hs => by
    rw [List.nodup_cons] at h
    have hx := hs x List.mem_cons_self
    have ih := nodup_le (a := a) (b := b.erase x) h.2 fun y hy => (List.mem_erase_of_ne (fun e => h.1 (by rw [← e]; exact hy))).mpr (hs y (List.mem_cons_of_mem _ hy))
    rw [List.length_erase_of_mem hx] at ih
    have := List.length_pos_of_mem hx
    simp only [List.length_cons]
    omega
theorem GoodM.len {l : List Int} {kvs : List (Key × V)} (G : GoodM l kvs) : kvs.length ≤ (reachS l).length := by
  have h1 : (kvs.map (·.1)).Nodup := G.nd
  have h2 : ∀ k ∈ kvs.map (·.1), k ∈ (reachS l).map fun (x : Nat) => (Sum.inl (x : Int) : Key) := fun k hk => by
    obtain ⟨p, hp, rfl⟩ := List.mem_map.mp hk
    obtain ⟨x, e, hx⟩ := G.all p hp
    exact List.mem_map.mpr ⟨x, hx, by rw [e]⟩
  have h3 := nodup_le h1 h2
  simpa using h3
section
variable {X : Cx} {pins : List (Addr × Obj)} {σ : L2.St} {H : Hp} {s : Shared} {kn : Addr} {l : List Int} {kvs : List (Key × V)}
theorem mem_open (I : L2.Inv X pins σ H s) (h : H kn = some (MemO kn l)) : ∃ kvs, GoodM l kvs ∧ L2.Inv X pins σ (upd H kn (.dK kvs)) s := by
  obtain ⟨⟨P, w, kvs, x, G⟩, ⟨o, e⟩, _⟩ := I.hok kn _ h
  exact ⟨kvs, G, I.write (x := kn) (e := kn) (t' := s.toks) (h' := s.heap) (by rw [h]; exact True.intro) (.inl rfl) (fun b v _ q => q) ⟨o, e⟩ (dk_any G.ints x)⟩
theorem mem_ok {P : Program} {w : World} {H : Hp} {h : Heap} (G : GoodM l kvs) (x : ObjOk P w H h kn (.dK kvs)) : ObjOk P w H h kn (MemO kn l) := by
  have x0 : ObjOk P w (fun _ => none) h kn (.dK kvs) := dk_any G.ints x
  obtain ⟨_, _, vs, _, o, es, ep, e, _⟩ := id x0
  refine ⟨⟨P, w, kvs, x0, G⟩, ⟨o, e⟩, ?_⟩
  rintro h1 h2 ⟨P', w', kvs', x', G'⟩ k
  exact ⟨P', w', kvs', x'.stay (fun b u hb q => by
    rcases hb with rfl | hb
    · exact k _ q
    · cases hb) (fun b z => by cases z) (fun b xs z => by cases z), G'⟩
theorem mem_close (I : L2.Inv X pins σ H s) (h : H kn = some (.dK kvs)) (G : GoodM l kvs) : L2.Inv X pins σ (upd H kn (MemO kn l)) s := by
  have x := I.hok kn _ h
  obtain ⟨_, _, vs, _, o, es, ep, e, _⟩ := id x
  refine I.write (x := kn) (e := kn) (t' := s.toks) (h' := s.heap) (by rw [h]; exact True.intro) (.inl rfl) (fun b v _ q => q) ⟨o, e⟩ ?_
  have y := mem_ok G x
  refine y.stay (fun b u hb q => q) (fun b z => ?_) (fun b xs z => ?_)
  · rw [upd_ne (fun q => by rw [q, h] at z; cases z)]; exact z
  · rw [upd_ne (fun q => by rw [q, h] at z; cases z)]; exact z
end
theorem upd_id {H : Hp} {a : Addr} {o : HO} (h : H a = some o) : upd H a o = H := by
  funext b
  unfold upd
  split
  · rename_i e; rw [e, h]
  · rfl
/-! ### ghost steps -/
section
variable {X : Cx} {sts : List Stmt} {t : TS} {e : Expr} {te : TE}
theorem pss_gh (h : PSs X sts t) : PSs X sts (fun Dn σ H => ∀ pins s, L2.Inv X pins σ H s → ∃ H', L2.Inv X pins σ H' s ∧ t Dn σ H') := ⟨fun pins s σ H Dn I q => by
  obtain ⟨H', I', q'⟩ := q pins s I
  exact h.run pins s σ H' Dn I' q'⟩
theorem pe_gh (h : PE X e te) : PE X e (fun σ H Q => te σ H fun v H1 => ∀ pins s, L2.Inv X pins σ H1 s → ∃ H', L2.Inv X pins σ H' s ∧ Q v H') := ⟨fun pins s σ H Q I q => thn (h.run pins s σ H _ I q) fun u s' z => by
  obtain ⟨v, H1, I1, r, q1⟩ := z
  obtain ⟨H', I', q'⟩ := q1 pins s' I1
  exact ⟨v, H', I', r, q'⟩⟩
end
section
variable {g : Cf} {C : Cs} {X : Cx} {u : TS} {rest : List Stmt}
theorem tS_done {D : Ends} {σ : L2.St} {H : Hp} (h : tS g (fun st => pure (st, .nx)) D σ H) : D.nx σ H := by
  obtain ⟨T, H0, k, st, st', fl, k', w, r, em, q⟩ := h
  cases pure_some.mp em
  exact q σ H (Keeps.refl H) w r
/-- statements of the mini language, then others -/
theorem ss_app {one : S → Stmt → Bool} (h1 : ∀ s x, one s x = true → PS X x (tS g (ex C s))) (hr : PSs X rest u) : ∀ (ss : List S) (xs : List Stmt), chkSs one ss xs = true → PSs X (xs ++ rest) (fun D σ H => tS g (exs C ss) { D with nx := u D } σ H)
  | [], [], _ => by
    rw [exsq_nil]
    exact PSsi hr fun D σ H h => tS_done h
  | [], _ :: _, h => by simp [chkSs] at h
  | .fz is :: ss, xs, h => by
    have ih := ss_app h1 hr ss xs (by simpa [chkSs] using h)
    rw [exsq_fz]
    refine ⟨fun pins s σ H Dn I hq => ?_⟩
    obtain ⟨T, H0, k, st, st', fl, k', w, r, em, q⟩ := hq
    obtain ⟨H1, I1, kp, w1, r1⟩ := fz_step is I w r
    exact ih.run pins s σ H1 Dn I1 ⟨T, H0, k, _, st', fl, k', w1, r1, em, fun σ' H' kp2 w2 r2 => q σ' H' (kp.trans kp2) w2 r2⟩
  | s :: ss, [], h => by
    cases s <;> first
      | (simp [chkSs] at h; done)
      | (rename_i is
         have ih := ss_app h1 hr ss [] (by simpa [chkSs] using h)
         rw [exsq_fz]
         refine ⟨fun pins s σ H Dn I hq => ?_⟩
         obtain ⟨T, H0, k, st, st', fl, k', w, r, em, q⟩ := hq
         obtain ⟨H1, I1, kp, w1, r1⟩ := fz_step is I w r
         exact ih.run pins s σ H1 Dn I1 ⟨T, H0, k, _, st', fl, k', w1, r1, em, fun σ' H' kp2 w2 r2 => q σ' H' (kp.trans kp2) w2 r2⟩)
  | s :: ss, x :: xs, h => by
    by_cases hf : ∃ is, s = .fz is
    · obtain ⟨is, rfl⟩ := hf
      have ih := ss_app h1 hr ss (x :: xs) (by simpa [chkSs] using h)
      rw [exsq_fz]
      refine ⟨fun pins s σ H Dn I hq => ?_⟩
      obtain ⟨T, H0, k, st, st', fl, k', w, r, em, q⟩ := hq
      obtain ⟨H1, I1, kp, w1, r1⟩ := fz_step is I w r
      exact ih.run pins s σ H1 Dn I1 ⟨T, H0, k, _, st', fl, k', w1, r1, em, fun σ' H' kp2 w2 r2 => q σ' H' (kp.trans kp2) w2 r2⟩
    · have h' : (one s x && chkSs one ss xs) = true := by
        cases s <;> first | exact h | exact absurd ⟨_, rfl⟩ hf
      rw [Bool.and_eq_true] at h'
      rw [exsq_cons]
      exact PSsi (pss_cons (h1 s x h'.1) (ss_app h1 hr ss xs h'.2)) fun D σ H h => tS_seq h
end
end G

namespace G
open PySem PySem.Spec PyProof.Rows L2

section
variable {g : Cf} {P : Pr} {fns : List (Str × Nat × Nat)} {gls : List (Str × D)} {lamN : List (List Str × List Str)}
variable {prog : Program} {w : World} {mg : Str → Option Value} {base : Heap}
abbrev MethT (K : PySem.W.Frag) (m : Str) (st : Stmt) (f : Addr) (fd : FuncData) : Prop := FunD K m (("Seeker." : Str) ++ m) (defArgs st) (defBody st) (defScope st) [] [] f fd
abbrev scM (P : Pr) (fns : List (Str × Nat × Nat)) (gls : List (Str × D)) (lamN : List (List Str × List Str)) (N : List Str) (st : Stmt) : Sc := ⟨N, defScope st, fns, gls, none, P.lams, lamN, false⟩
theorem envM {x qual : Str} {st : Stmt} {fa : Addr} {N ps : List Str} {n : Nat} {cdv : Value} {A : Around} {outer : List Env} {s : Shared} {H : Hp} {E : XK} (S : FnScope N ps (defScope st)) (hC : g.CL = cloOf (okL (sc0 P fns gls lamN)) g.K) (hT : TblOk g P fns prog w mg base n) (hL : LamOk g P fns gls lamN prog w mg base n) (hM : Mg g gls mg)
    (hr : Room n (A.deeper (envOfC qual (defScope st) s.heap.objs.size fa cdv))) : EnvOk g (calls P n) n (scM P fns gls lamN N st) (cxOf L2.CX0 prog w g.K mg base N qual (defScope st) fa cdv A outer s H E).nox :=
  ⟨rfl, rfl, S.nd, rfl, rfl, hr, fun y j m' hy => hT y j m' hy, hM.blt, hM.gls, hC, hL, fun z => Bool.noConfusion (show false = true from z), fun _ => rfl⟩
/-- the method st of the mini language is the i-th function -/
def chkMeth (P : Pr) (fns : List (Str × Nat × Nat)) (gls : List (Str × D)) (lamN : List (List Str × List Str)) (N ps : List Str) (i : Nat) (st : Stmt) : Bool := match P.fns[i]? with
  | some (.py np' ns body) => decide (np' = ps.length) && decide (ns = N.length) && decide (ps.length = 2) && fscB N ps (defScope st) && chkS ckDeep (scM P fns gls lamN N st) ckDeepS body (defBody st)
  | _ => false
theorem meth_step {m : Str} {st : Stmt} {fa : Addr} {fd : FuncData} {N ps : List Str} {i n : Nat} (F : MethT g.K m st fa fd) (h : chkMeth P fns gls lamN N ps i st = true) (hC : g.CL = cloOf (okL (sc0 P fns gls lamN)) g.K)
    (hT : TblOk g P fns prog w mg base n) (hL : LamOk g P fns gls lamN prog w mg base n) (hM : Mg g gls mg) : FnOk prog w g.K mg base L2.CX0 (n + 1) fa fd ps (spMe g ((calls P (n + 1)).cl i)) := by
  unfold chkMeth at h
  split at h
  · rename_i np' ns body hP
    simp only [Bool.and_eq_true, decide_eq_true_eq] at h
    obtain ⟨⟨⟨⟨h1, h2⟩, h3⟩, h4⟩, h5⟩ := h
    subst h1 h2
    have S := fscope_by h4
    have hpl : ps.length ≤ N.length := by have := congrArg List.length S.pre; rw [List.length_take] at this; omega
    have em2 : ∀ {ds : List D} {k : Nat} {r : D × Nat}, (calls P (n + 1)).cl i ds k = some r → runF (calls P n) (.py ps.length N.length body) ds k = some r := fun {ds k r} em => by
      have e : (calls P (n + 1)).cl i ds = runF (calls P n) (.py ps.length N.length body) ds := by
        show (match P.fns[i]? with | some fd => runF (calls P n) fd ds | none => no) = _
        rw [hP]
      rw [e] at em
      exact em
    refine F.ok S (fun vs H Q E q => ?_) (fun cdv A outer s H vs Q E hr q => ?_)
    · obtain ⟨T, k, l, ds, d, k', w', hd, em, q⟩ := q
      obtain ⟨hl, _⟩ := if_some (show (if (D.sk l :: ds).length = ps.length then runB (calls P n) N.length body ((D.sk l :: ds).map .fr) else no : M D) k = some (d, k') from em2 em)
      rw [hd.length, hl]
    · have E' := envM (x := m) (N := N) (ps := ps) (E := E) (H := H) (outer := outer) S hC hT hL hM hr
      refine ⟨_, PSs.nox (sS_ok E' PassesOwn.never ckDeepS body (defBody st) h5), ?_⟩
      obtain ⟨T, k, l, ds, d, k', w', hd, em, q⟩ := q
      obtain ⟨hl, em3⟩ := if_some (show (if (D.sk l :: ds).length = ps.length then runB (calls P n) N.length body ((D.sk l :: ds).map .fr) else no : M D) k = some (d, k') from em2 em)
      exact body_run (X := (cxOf L2.CX0 prog w g.K mg base N (("Seeker." : Str) ++ m) (defScope st) fa cdv A outer s H E).nox) (n := n) em3 w' (by rw [List.length_map]; omega) (by rw [List.length_map, hd.length]) (start_fr hd) no_ow q
  · cases h
/-! ### Seeker.many -/
theorem cl_many {iM n : Nat} (hP : P.fns[iM]? = some (.prim 2 (manyG iM))) (a b : D) : (calls P (n + 1)).cl iM [a, b] = manyG iM (calls P n).cl [a, b] := by
  show (match P.fns[iM]? with | some fd => runF (calls P n) fd [a, b] | none => no) = _
  rw [hP]
  rfl
theorem probe_some {iM : Nat} (hP : P.fns[iM]? = some (.prim 2 (manyG iM))) : ∀ {n : Nat} {m : Int} {k : Nat} {r : D × Nat}, (calls P n).cl iM [.int m, .non] k = some r → r.2 = k ∧ m < n
  | 0, m, k, r, h => absurd h (no_some (k := k))
  | n + 1, m, k, r, h => by
    rw [cl_many hP] at h
    have h : (if m ≤ 0 then pure .non else (calls P n).cl iM [.int (m - 1), .non] : M D) k = some r := h
    by_cases hm : m ≤ 0
    · rw [if_pos hm] at h
      cases pure_some.mp h
      exact ⟨rfl, by omega⟩
    · rw [if_neg hm] at h
      obtain ⟨h1, h2⟩ := probe_some hP h
      exact ⟨h1, by omega⟩
theorem probe_ok {iM : Nat} (hP : P.fns[iM]? = some (.prim 2 (manyG iM))) : ∀ {n : Nat} {m : Int} {k : Nat}, m < n → 0 ≤ m → (calls P n).cl iM [.int m, .non] k = some (.non, k)
  | 0, m, k, h, h0 => by omega
  | n + 1, m, k, h, h0 => by
    rw [cl_many hP]
    show (if m ≤ 0 then pure .non else (calls P n).cl iM [.int (m - 1), .non] : M D) k = _
    by_cases hm : m ≤ 0
    · rw [if_pos hm]; rfl
    · rw [if_neg hm]
      exact probe_ok hP (by omega) (by omega)
theorem many_val {iM n : Nat} (hP : P.fns[iM]? = some (.prim 2 (manyG iM))) {l : List Int} {x : Nat} (hx : okS l x = true) (hn : onesN l x + 1 < n) (k : Nat) : (calls P n).cl iM [.sk l, .int (x : Int)] k = some (.int (manyV l x : Nat), k) := by
  cases n with
  | zero => omega
  | succ n =>
    rw [cl_many hP]
    show (do
      let _ ← (calls P n).cl iM [.int (onesN l (x : Int).toNat : Nat), .non]
      if 0 ≤ (x : Int) ∧ okS l (x : Int).toNat = true then pure (.int (manyV l (x : Int).toNat : Nat)) else no : M D) k = _
    rw [Int.toNat_natCast]
    refine bind_some.mpr ⟨_, k, probe_ok hP (by omega) (by omega), ?_⟩
    rw [if_pos ⟨by omega, hx⟩]
    rfl
theorem many_inv {iM n : Nat} (hP : P.fns[iM]? = some (.prim 2 (manyG iM))) {l : List Int} {ds : List D} {k : Nat} {r : D × Nat} (h : (calls P (n + 1)).cl iM (.sk l :: ds) k = some r) : ∃ x : Nat, ds = [.int (x : Int)] ∧ okS l x = true ∧ onesN l x < n ∧ r = (.int (manyV l x : Nat), k) := by
  have h1 : (match P.fns[iM]? with | some fd => runF (calls P n) fd (.sk l :: ds) | none => no : M D) k = some r := h
  rw [hP] at h1
  obtain ⟨hl, h2⟩ := if_some (show (if (D.sk l :: ds).length = 2 then manyG iM (calls P n).cl (.sk l :: ds) else no : M D) k = some r from h1)
  match ds, hl with
  | [d], _ =>
    cases d with
    | int x =>
      obtain ⟨a, k1, e1, e2⟩ := bind_some.mp (show (do
        let _ ← (calls P n).cl iM [.int (onesN l x.toNat : Nat), .non]
        if 0 ≤ x ∧ okS l x.toNat = true then pure (.int (manyV l x.toNat : Nat)) else no : M D) k = some r from h2)
      obtain ⟨p1, p2⟩ := probe_some hP e1
      have p1 : k1 = k := p1
      subst p1
      obtain ⟨p3, e3⟩ := if_some e2
      cases pure_some.mp e3
      obtain ⟨y, rfl⟩ := Int.eq_ofNat_of_zero_le p3.1
      exact ⟨y, rfl, by simpa using p3.2, by simpa using p2, rfl⟩
    | _ => exact absurd h2 (no_some (k := k))
def isNm (x : Str) : Expr → Bool
  | .Name n _ => decide (n = x)
  | _ => false
def isKn : Expr → Bool
  | .Attribute (.Name n _) a _ => decide (n = "self") && decide (a = "known")
  | _ => false
theorem isNm_of {x : Str} {e : Expr} (h : isNm x e = true) : ∃ p, e = .Name x p := by
  cases e <;> first | cases h | (rename_i n p; have e := of_decide_eq_true (show decide (n = x) = true from h); subst e; exact ⟨_, rfl⟩)
theorem isKn_of {e : Expr} (h : isKn e = true) : ∃ p q, e = .Attribute (.Name "self" p) "known" q := by
  unfold isKn at h
  split at h
  · rw [Bool.and_eq_true, decide_eq_true_eq, decide_eq_true_eq] at h
    obtain ⟨h1, h2⟩ := h
    subst h1 h2
    exact ⟨_, _, rfl⟩
  · cases h
def chkStore : Stmt → Bool
  | .Assign [.Subscript a b _] v _ => isKn a && isNm "left" b && isNm "found" v
  | _ => false
theorem chkStore_of {s : Stmt} (h : chkStore s = true) : ∃ p1 p2 p3 p4 p5 p6, s = .Assign [.Subscript (.Attribute (.Name "self" p1) "known" p2) (.Name "left" p3) p4] (.Name "found" p5) p6 := by
  unfold chkStore at h
  split at h
  · simp only [Bool.and_eq_true] at h
    obtain ⟨⟨h1, h2⟩, h3⟩ := h
    obtain ⟨_, _, rfl⟩ := isKn_of h1
    obtain ⟨_, rfl⟩ := isNm_of h2
    obtain ⟨_, rfl⟩ := isNm_of h3
    exact ⟨_, _, _, _, _, _, rfl⟩
  · cases h
def chkMany (P : Pr) (fns : List (Str × Nat × Nat)) (gls : List (Str × D)) (lamN : List (List Str × List Str)) (N : List Str) (ss : List S) (st : Stmt) : Bool :=
  fscB N ["self", "left"] (defScope st) && (scM P fns gls lamN N st).slot 0 "self" && (scM P fns gls lamN N st).slot 1 "left" && (scM P fns gls lamN N st).slot 3 "found" && decide (N.length = 8) && (match defBody st with
    | [.If (.Compare a [.NotIn] [b] _) [b1, b2, b3, b4, sto] [] _, .Return (some (.Subscript c d _)) _] => isNm "left" a && isKn b && isKn c && isNm "left" d && chkStore sto && chkS ckDeep (scM P fns gls lamN N st) (ckDeepS + 1) ss [b1, b2, b3, b4]
    | _ => false)
theorem okS_K {l : List Int} {x : Nat} (h : okS l x = true) : okK l = true ∧ x ∈ reachS l := by
  unfold okS at h
  simp only [Bool.and_eq_true, decide_eq_true_eq] at h
  exact ⟨h.1.1, by simpa using h.2⟩
theorem okK_len {l : List Int} (h : okK l = true) : (reachS l).length < 16777216 := by
  unfold okK at h
  simp only [Bool.and_eq_true, decide_eq_true_eq] at h
  exact h.2
theorem GoodM.put {l : List Int} {kvs : List (Key × V)} {x : Nat} (G : GoodM l kvs) (hx : x ∈ reachS l) : GoodM l (L2.putK kvs (Sum.inl (x : Int)) (.int (manyV l x : Nat))) := by
  unfold L2.putK
  by_cases a : (kvs.any fun kv => decide (kv.1 = (Sum.inl (x : Int) : Key))) = true
  · rw [if_pos a]
    have e : (kvs.map fun kv => if kv.1 = (Sum.inl (x : Int) : Key) then (kv.1, V.int (manyV l x : Nat)) else kv) = kvs := by
      conv => rhs; rw [← List.map_id kvs]
      refine List.map_congr_left fun kv hkv => ?_
      split
      · rename_i e
        obtain ⟨y, ey, _⟩ := G.all kv hkv
        subst ey
        have e2 : (y : Int) = (x : Int) := Sum.inl.inj e
        have e3 : y = x := by omega
        subst e3
        rfl
      · rfl
    rw [e]
    exact G
  · rw [if_neg a]
    have hn : (Sum.inl (x : Int) : Key) ∉ kvs.map (·.1) := fun z => a (by
      obtain ⟨p, hp, e⟩ := List.mem_map.mp z
      exact List.any_eq_true.mpr ⟨p, hp, decide_eq_true e⟩)
    refine ⟨fun p hp => ?_, ?_, ?_⟩
    · rcases List.mem_append.mp hp with hp | hp
      · exact G.all p hp
      · rw [List.mem_singleton] at hp
        exact ⟨x, hp, hx⟩
    · rw [List.map_append, List.nodup_append]
      refine ⟨G.nd, by simp, fun a ha b hb e => ?_⟩
      simp at hb
      exact hn (by rw [← hb, ← e]; exact ha)
    · rw [List.map_append]
      exact List.mem_append_left _ G.z
theorem GoodM.val {l : List Int} {kvs : List (Key × V)} {x : Nat} {v : V} (G : GoodM l kvs) (h : valV kvs (Sum.inl (x : Int)) = some v) : v = .int (manyV l x : Nat) := by
  unfold valV at h
  obtain ⟨p, h1, h2⟩ := Option.map_eq_some_iff.mp h
  have hp := List.mem_of_find?_eq_some h1
  have he := List.find?_some h1
  obtain ⟨y, ey, _⟩ := G.all p hp
  subst ey
  have e2 : (y : Int) = (x : Int) := Sum.inl.inj (of_decide_eq_true he)
  have e3 : y = x := by omega
  subst e3
  exact h2.symm
theorem GoodM.zero {l : List Int} {kvs : List (Key × V)} (G : GoodM l kvs) : valV kvs (Sum.inl (0 : Int)) ≠ none := fun h => by
  obtain ⟨p, hp, e⟩ := List.mem_map.mp G.z
  have q : (kvs.any fun kv => decide (kv.1 = (Sum.inl (0 : Int) : Key))) = true := List.any_eq_true.mpr ⟨p, hp, decide_eq_true e⟩
  rw [valV_any, h] at q
  cases q
theorem slot_var {X : Cx} {c : Sc} {n : Nat} {C : Cs} (E : EnvOk g C n c X) {i : Nat} {x : Str} {p : Pos} (h : c.slot i x = true) : PE X (.Name x p) (tVar i) := by
  obtain ⟨h1, h2, h3, h4⟩ := slot_of h
  exact pe_var (by rw [E.N]; exact h1) (vis_of E h2) h3 h4
theorem fr_at {T : Addr} {K : PySem.W.Frag} {CL : CloT} {st : G.St} {σ : L2.St} {H : Hp} {i : Nat} {d : D} (r : SR T K CL st σ H) (e : st[i]? = some (.fr d)) : ∃ v, σ[i]? = some (some v) ∧ Den T K H v d := by
  have q := r.at' i _ e
  cases o : σ[i]? with
  | none => rw [o] at q; exact q.elim
  | some o2 =>
    cases o2 with
    | none => rw [o] at q; exact q.elim
    | some v => rw [o] at q; exact ⟨v, rfl, q⟩
theorem many_step {fa : Addr} {fd : FuncData} {N : List Str} {st : Stmt} {iM n : Nat} {ss : List S} (S0 : SkCls g.K) (F : MethT g.K "many" st fa fd) (hP : P.fns[iM]? = some (.prim 2 (manyG iM))) (h : chkMany P fns gls lamN N ss st = true) (hB : BodyOk P iM ss n)
    (hC : g.CL = cloOf (okL (sc0 P fns gls lamN)) g.K) (hT : TblOk g P fns prog w mg base n) (hL : LamOk g P fns gls lamN prog w mg base n) (hM : Mg g gls mg) : FnOk prog w g.K mg base L2.CX0 (n + 1) fa fd ["self", "left"] (spMe g ((calls P (n + 1)).cl iM)) := by
  unfold chkMany at h
  simp only [Bool.and_eq_true, decide_eq_true_eq] at h
  obtain ⟨⟨⟨⟨⟨h1, h2⟩, h3⟩, h4⟩, h5⟩, h6⟩ := h
  split at h6
  · rename_i a b c1 b1 b2 b3 b4 sto c2 c d c3 c4 hbody
    simp only [Bool.and_eq_true] at h6
    obtain ⟨⟨⟨⟨⟨g1, g2⟩, g3⟩, g4⟩, g5⟩, g6⟩ := h6
    obtain ⟨pa, rfl⟩ := isNm_of g1
    obtain ⟨pb, pb', rfl⟩ := isKn_of g2
    obtain ⟨pc, pc', rfl⟩ := isKn_of g3
    obtain ⟨pd, rfl⟩ := isNm_of g4
    obtain ⟨e1, e2, e3, e4, e5, e6, rfl⟩ := chkStore_of g5
    have S := fscope_by h1
    refine F.ok S (fun vs H Q E q => ?_) (fun cdv A outer s H vs Q E hr q => ?_)
    · obtain ⟨T, k, l, ds, d, k', w', hd, em, q⟩ := q
      obtain ⟨x, rfl, _⟩ := many_inv hP em
      rw [hd.length]
      rfl
    · obtain ⟨T, k, l, ds, d, k', w', hd, em, q⟩ := q
      obtain ⟨x, rfl, hx, hn, er⟩ := many_inv hP em
      have E' := envM (x := ("many" : Str)) (N := N) (ps := ["self", "left"]) (E := E) (H := H) (outer := outer) S hC hT hL hM hr
      have hu : (cxOf L2.CX0 prog w g.K mg base N (("Seeker." : Str) ++ "many") (defScope st) fa cdv A outer s H E).nox.A.units + 1 < cLine := by have := E'.room.un; omega
      have vself := fun p => slot_var (p := p) E' h2
      have vleft := fun p => slot_var (p := p) E' h3
      have vfound := fun p => slot_var (p := p) E' h4
      rw [hbody]
      have hs1 : ∀ s' x', chkS1 ckDeep (chkS ckDeep (scM P fns gls lamN N st) ckDeepS) (scM P fns gls lamN N st) s' x' = true → PS _ x' (tS g (ex (calls P n) s')) := fun s' x' z => s1_ok E' PassesOwn.never (sS_ok E' PassesOwn.never ckDeepS) z
      have store := ps_dput (pos := e6) (pos' := e4) hu (pe_fld (pos := e2) (f := "known") (vself e1) rfl) (vleft e3) (vfound e5) rfl
      have body := pss_gh (ss_app hs1 (pss_gh (pss_one store)) ss [b1, b2, b3, b4] g6)
      have test := pt_cmp (pos := c1) (pc_dnotin hu (vleft pa) (pe_fld (pos := pb') (f := "known") (vself pb) rfl))
      have back := pss_one (ps_ret (pos := c4) (pe_gh (pe_dget (pos := c3) hu (pe_fld (pos := pc') (f := "known") (vself pc) rfl) (vleft pd) (fun _ _ => rfl))))
      refine ⟨_, PSs.nox (pss_gh (pss_cons (ps_if (pos := c2) test body pss_nil) back)), ?_⟩
      have e1' : d = .int (manyV l x : Nat) := congrArg Prod.fst er
      have e2' : k' = k := congrArg Prod.snd er
      subst e1' e2'
      have hx0 := okS_K hx
      have hlen := okK_len hx0.1
      have hsl : (16777216 : Nat) = sizeLine := line_eq
      have hlk : ∀ (b kn : Addr), ([("beside", V.ref b), ("known", V.ref kn)] : List (Str × V)).lookup ("known" : Str) = some (V.ref kn) := fun b kn => by
        have z1 : (("known" : Str) == ("beside" : Str)) = false := by decide +kernel
        have z2 : (("known" : Str) == ("known" : Str)) = true := by decide +kernel
        show (match ("known" : Str) == ("beside" : Str) with | true => some (V.ref b) | false => match ("known" : Str) == ("known" : Str) with | true => some (V.ref kn) | false => none) = _
        rw [z1, z2]
      have r0 : SR T g.K g.CL ([D.sk l, D.int (x : Int)].map Sl.fr ++ List.replicate (N.length - 2) Sl.un) (L2.start N vs) H := start_sr (sl := [D.sk l, D.int (x : Int)].map Sl.fr) (by simp [h5]) (by rw [hd.length]; rfl) (start_fr hd) no_ow
      rw [h5] at r0
      obtain ⟨v0, hv0, dv0⟩ := fr_at (i := 0) r0 rfl
      obtain ⟨v1, hv1, dv1⟩ := fr_at (i := 1) r0 rfl
      cases dv1
      intro pins s' I
      cases dv0 with
      | @sk a b kn dx o _ q1 q2 q3 q4 =>
      obtain ⟨kvs, G, I1⟩ := mem_open I q3
      refine ⟨_, I1, ?_⟩
      have nak : ∀ o', (upd H kn o') a = some (.ins (skA g.K) dx [("beside", .ref b), ("known", .ref kn)]) := fun o' => by rw [upd_ne (ne_of q1 q3 (by intro z; cases z))]; exact q1
      refine ⟨.int x, hv1, .ref a, hv0, a, skA g.K, dx, _, .ref kn, rfl, nak _, S0.cls, S0.nk, hlk _ _, kn, _, rfl, DGet.k (k := Sum.inl (x : Int)) upd_same, _, rfl, ?_⟩
      cases e : valV kvs (Sum.inl (x : Int) : Key) with
      | some v =>
        refine iteF ?_
        refine ⟨.ref a, hv0, a, skA g.K, dx, _, .ref kn, rfl, nak _, S0.cls, S0.nk, hlk _ _, .int x, hv1, kn, v, rfl, by rw [← e]; exact DGet.k (k := Sum.inl (x : Int)) upd_same, fun pins2 s2 I2 => ⟨_, mem_close I2 upd_same G, ?_⟩⟩
        rw [G.val e, upd_upd, upd_id q3]
        exact q _ H (Grow.refl T H) w' (.int _)
      | none =>
        refine iteT ?_
        intro pins2 s2 I2
        refine ⟨_, mem_close I2 upd_same G, ?_⟩
        rw [upd_upd, upd_id q3]
        obtain ⟨st', em', z0, z1, z3⟩ := hB l x k' hx (fun z => by rw [z] at e; exact G.zero e) hn
        refine ⟨T, H, k', _, st', .nx, k', w', ⟨r0, Grow.refl T H, fun i d a e _ => (start_ow (sl := [D.sk l, D.int (x : Int)].map Sl.fr) no_ow e).elim⟩, em', fun σ' H' kp w2 r2 => ?_⟩
        obtain ⟨u0, hu0, du0⟩ := fr_at r2.sr z0
        obtain ⟨u1, hu1, du1⟩ := fr_at r2.sr z1
        obtain ⟨u3, hu3, du3⟩ := fr_at r2.sr z3
        cases du1
        cases du3
        intro pins3 s3 I3
        cases du0 with
        | @sk a2 b2 kn2 dx2 o2 _ p1 p2 p3 p4 =>
        obtain ⟨kvs2, G2, I4⟩ := mem_open I3 p3
        refine ⟨_, I4, ?_⟩
        have nak2 : ∀ o', (upd H' kn2 o') a2 = some (.ins (skA g.K) dx2 [("beside", .ref b2), ("known", .ref kn2)]) := fun o' => by rw [upd_ne (ne_of p1 p3 (by intro z; cases z))]; exact p1
        refine ⟨.int (manyV l x : Nat), hu3, .ref a2, hu0, a2, skA g.K, dx2, _, .ref kn2, rfl, nak2 _, S0.cls, S0.nk, hlk _ _, .int x, hu1, kn2, _, rfl, DPut.k (k := Sum.inl (x : Int)) upd_same (by have := G2.len; omega), ?_⟩
        rw [upd_upd]
        refine ⟨.ref a2, hu0, a2, skA g.K, dx2, _, .ref kn2, rfl, nak2 _, S0.cls, S0.nk, hlk _ _, .int x, hu1, kn2, .int (manyV l x : Nat), rfl, ?_, fun pins5 s5 I5 => ⟨_, mem_close I5 upd_same (G2.put hx0.2), ?_⟩⟩
        · have z := DGet.k (H := upd H' kn2 (.dK (L2.putK kvs2 (Sum.inl (x : Int)) (.int (manyV l x : Nat))))) (k := (Sum.inl (x : Int) : Key)) upd_same
          rw [valV_put, if_pos rfl] at z
          exact z
        · rw [upd_upd, upd_id p3]
          exact q _ H' r2.gr w2 (.int _)
  · cases h6
end
end G

namespace G
open PySem PySem.Spec PyProof.Rows L2

section
variable {g : Cf} {X : Cx}
/-- a loop, by what holds at each turn -/
theorem tFor_any {ms : G.St → M (List D)} {ti : Nat} {t : TS} {Dn : Ends} {σ : L2.St} {H : Hp} {T : Addr} {k k1 : Nat} {st : G.St} {l : List D} (w : WS T g.Tb H k) (r : SR T g.K g.CL st σ H) (e1 : ms st k = some (l, k1)) (W : Nat → L2.St → Hp → Prop)
    (h0 : ∀ H1, Grow T H H1 → WS T g.Tb H1 k1 → W 0 σ H1) (hw : ∀ i σ H, W i σ H → ∃ k, WS T g.Tb H k) (hg : ∀ i σ H H', W i σ H → Grow T H H' → (∀ k, WS T g.Tb H k → WS T g.Tb H' k) → W i σ H')
    (step : ∀ i d σ' H', l[i]? = some d → W i σ' H' → ∀ x, Den T g.K H' x d → ∀ Nx : L2.St → Hp → Prop, (∀ σ2 H2, Keeps H' H2 → W (i + 1) σ2 H2 → Nx σ2 H2) → t { Dn with nx := Nx, ct := Nx, bk := Dn.nx } (σ'.set ti (some x)) H')
    (done : ∀ σ' H', W l.length σ' H' → Dn.nx σ' H') : tFor (tI g ms) (gName ti) t Dn σ H := by
  refine ⟨T, k, st, l, k1, w, r, e1, fun J H1 g1 w1 gi hl => ?_⟩
  refine ⟨fun i n σ2 H2 => n = l.length - i ∧ i ≤ l.length ∧ Keeps H1 H2 ∧ W i σ2 H2, ⟨l.length, by simp, Nat.zero_le _, Keeps.refl H1, h0 H1 g1 w1⟩, ?_⟩
  rintro i n σ2 H2 ⟨hn, hi, kp2, h2⟩
  obtain ⟨k2, w2⟩ := hw _ _ _ h2
  obtain ⟨stop, go⟩ := gi H2 k2 kp2 w2
  by_cases hil : i = l.length
  · refine .inl ⟨stop i (Nat.le_of_eq hil.symm), ?_⟩
    subst hil
    exact done σ2 H2 h2
  · have hlt : i < l.length := Nat.lt_of_le_of_ne hi hil
    obtain ⟨go1, yl⟩ := go i l[i] (List.getElem?_eq_getElem hlt)
    refine .inr ⟨go1, fun σ' H' => ∃ m', m' < n ∧ (m' = l.length - (i + 1) ∧ i + 1 ≤ l.length ∧ Keeps H1 H' ∧ W (i + 1) σ' H'), fun σ' H' h => h, fun x H3 hy => ?_⟩
    obtain ⟨g3, w3, d3⟩ := yl x H3 hy
    have h3 := hg i σ2 H2 H3 h2 g3 fun k' wk => (((gi H2 k' kp2 wk).2 i l[i] (List.getElem?_eq_getElem hlt)).2 x H3 hy).2.1
    have kp3 := kp2.trans (g3.keeps w2.town)
    exact step i l[i] σ2 H3 (List.getElem?_eq_getElem hlt) h3 x d3 _ fun σ' H' kp4 h4 => ⟨_, by omega, rfl, hlt, kp3.trans kp4, h4⟩
end
section
variable {g : Cf} {P : Pr} {fns : List (Str × Nat × Nat)} {gls : List (Str × D)} {lamN : List (List Str × List Str)}
variable {prog : Program} {w : World} {mg : Str → Option Value} {base : Heap}
def isBe : Expr → Bool
  | .Attribute (.Name n _) a _ => decide (n = "self") && decide (a = "beside")
  | _ => false
theorem isBe_of {e : Expr} (h : isBe e = true) : ∃ p q, e = .Attribute (.Name "self" p) "beside" q := by
  unfold isBe at h
  split at h
  · rw [Bool.and_eq_true, decide_eq_true_eq, decide_eq_true_eq] at h
    obtain ⟨h1, h2⟩ := h
    subst h1 h2
    exact ⟨_, _, rfl⟩
  · cases h
def isI (i : Int) : Expr → Bool
  | .Constant (.int j) _ _ => decide (j = i)
  | _ => false
theorem isI_of {i : Int} {e : Expr} (h : isI i e = true) : ∃ p q, e = .Constant (.int i) p q := by
  unfold isI at h
  split at h
  · have e := of_decide_eq_true h
    subst e
    exact ⟨_, _, rfl⟩
  · cases h
abbrev eT0 : G.E := .ix (.v 1) (.c (.int 0))
abbrev eNear (iN : Nat) : G.E := .call iN [.v 1, .v 2]
def chkInit (P : Pr) (fns : List (Str × Nat × Nat)) (gls : List (Str × D)) (lamN : List (List Str × List Str)) (iN : Nat) (st : Stmt) : Bool :=
  let c := scM P fns gls lamN ["self", "table", "sign", "other"] st
  fscB ["self", "table", "sign", "other"] ["self", "table"] (defScope st) && c.slot 0 "self" && c.slot 2 "sign" && c.slot 3 "other" && (match defBody st with
    | [.Assign [a1] (.BinOp (.List [z1] _) .Mult m1 _) _, .For t1 i1 [.For t2 i2 [.Assign [.Subscript a2 s2 _] (.BinOp (.Subscript a3 s3 _) .BitOr (.BinOp o1 .LShift o2 _) _) _] [] _] [] _, .Assign [k1] (.Dict [some z2] [z3] _) _] =>
      isBe a1 && isI 0 z1 && chk ckDeep c eT0 m1 && chkSrc (chk ckDeep) c .r1 eT0 (.c .non) (.c .non) t1 i1 && chkTg c (.one 2) t1 && chkSrc (chk ckDeep) c .it (eNear iN) (.c .non) (.c .non) t2 i2 && chkTg c (.one 3) t2 &&
        isBe a2 && isNm "sign" s2 && isBe a3 && isNm "sign" s3 && isI 1 o1 && isNm "other" o2 && isKn k1 && isI 0 z2 && isI 0 z3
    | _ => false)
theorem cl_init {iI iN n : Nat} (hP : P.fns[iI]? = some (.prim 1 (initG iN))) {ds : List D} {k : Nat} {r : D × Nat} (h : (calls P (n + 1)).cl iI ds k = some r) : ∃ (m : Nat) (ts : List D) (rs : List Int), ds = [.tup (.int (m : Int) :: ts)] ∧ m ≤ 40 ∧ rowsG (calls P n).cl iN (.tup (.int (m : Int) :: ts)) (List.range m) k = some (rs, r.2) ∧ okK rs = true ∧ r.1 = .sk rs := by
  have h1 : (match P.fns[iI]? with | some fd => runF (calls P n) fd ds | none => no : M D) k = some r := h
  rw [hP] at h1
  obtain ⟨hl, h2⟩ := if_some (show (if ds.length = 1 then initG iN (calls P n).cl ds else no : M D) k = some r from h1)
  match ds, hl with
  | [d], _ =>
    cases d with
    | tup l =>
      cases l with
      | nil => exact absurd h2 (no_some (k := k))
      | cons d0 ts =>
        cases d0 with
        | int m =>
          obtain ⟨hm, h3⟩ := if_some (show (if 0 ≤ m ∧ m ≤ 40 then (do
            let rs ← rowsG (calls P n).cl iN (.tup (.int m :: ts)) (List.range m.toNat)
            if okK rs then pure (.sk rs) else no) else no : M D) k = some r from h2)
          obtain ⟨rs, k1, e1, e2⟩ := bind_some.mp h3
          obtain ⟨hk, e3⟩ := if_some e2
          cases pure_some.mp e3
          obtain ⟨y, rfl⟩ := Int.eq_ofNat_of_zero_le hm.1
          exact ⟨y, ts, rs, rfl, by have := hm.2; omega, by simpa using e1, hk, rfl⟩
        | _ => exact absurd h2 (no_some (k := k))
    | _ => exact absurd h2 (no_some (k := k))
theorem rows_len {cl : Nat → List D → M D} {iN : Nat} {t : D} : ∀ {is : List Nat} {k : Nat} {rs : List Int} {k' : Nat}, rowsG cl iN t is k = some (rs, k') → rs.length = is.length
  | [], k, rs, k', h => by cases pure_some.mp h; rfl
  | i :: is, k, rs, k', h => by
    obtain ⟨r, k1, e1, e2⟩ := bind_some.mp (show (do let r ← rowG cl iN t i; let rs ← rowsG cl iN t is; pure (r :: rs) : M (List Int)) k = some (rs, k') from h)
    obtain ⟨rs', k2, e3, e4⟩ := bind_some.mp e2
    cases pure_some.mp e4
    rw [List.length_cons, List.length_cons, rows_len e3]
theorem row_some {cl : Nat → List D → M D} {iN : Nat} {t : D} {i k : Nat} {r : Int} {k' : Nat} (h : rowG cl iN t i k = some (r, k')) : ∃ ns : List Nat, cl iN [t, .int (i : Int)] k = some (.tup (ns.map fun (j : Nat) => .int j), k') ∧ (∀ j ∈ ns, j ≤ 1000) ∧ r = (orAll (ns.map fun (j : Nat) => (j : Int)) : Nat) := by
  obtain ⟨d, k1, e1, e2⟩ := bind_some.mp (show (do
    let d ← cl iN [t, .int (i : Int)]
    match d with
    | .tup r => do
      let ns ← intsL r
      if ns.all (fun j => decide (0 ≤ j) && decide (j ≤ 1000)) then pure (orAll ns : Nat) else no
    | _ => no : M Int) k = some (r, k') from h)
  cases d with
  | tup l =>
    obtain ⟨ns, k2, e3, e4⟩ := bind_some.mp (show (do
      let ns ← intsL l
      if ns.all (fun j => decide (0 ≤ j) && decide (j ≤ 1000)) then pure (orAll ns : Nat) else no : M Int) k1 = some (r, k') from e2)
    obtain ⟨hn, e5⟩ := if_some e4
    cases pure_some.mp e5
    have key : ∀ {l : List D} {ns : List Int} {k k' : Nat}, intsL l k = some (ns, k') → l = ns.map .int ∧ k' = k := by
      intro l
      induction l with
      | nil => intro ns k k' h; cases pure_some.mp h; exact ⟨rfl, rfl⟩
      | cons d l ih =>
        intro ns k k' h
        cases d with
        | int b =>
          obtain ⟨bs, k2, a1, a2⟩ := bind_some.mp (show (do let bs ← intsL l; pure (b :: bs) : M (List Int)) k = some (ns, k') from h)
          cases pure_some.mp a2
          obtain ⟨i1, i2⟩ := ih a1
          exact ⟨by rw [List.map_cons, i1], i2⟩
        | _ => exact absurd h (no_some (k := k))
    obtain ⟨k3, k4⟩ := key e3
    subst k3 k4
    have hn2 : ∀ j ∈ ns, 0 ≤ j ∧ j ≤ 1000 := by simpa using hn
    refine ⟨ns.map Int.toNat, ?_, fun j hj => ?_, ?_⟩
    · rw [e1, List.map_map]
      congr 3
      refine List.map_congr_left fun j hj => ?_
      show D.int j = D.int ((j.toNat : Nat) : Int)
      rw [Int.toNat_of_nonneg (hn2 j hj).1]
    · obtain ⟨z, hz, rfl⟩ := List.mem_map.mp hj
      have := hn2 z hz
      omega
    · rw [List.map_map]
      have e : ns.map ((fun (j : Nat) => (j : Int)) ∘ Int.toNat) = ns := by
        conv => rhs; rw [← List.map_id ns]
        refine List.map_congr_left fun j hj => ?_
        show ((j.toNat : Nat) : Int) = j
        exact Int.toNat_of_nonneg (hn2 j hj).1
      rw [e]
  | _ => exact absurd e2 (no_some (k := k1))
/-- in the loops of __init__ -/
structure IniAt (g : Cf) (T : Addr) (H1 : Hp) (σ : L2.St) (H : Hp) (me dx b : Addr) (tv : V) (t : D) (xs : List V) : Prop where
  s0 : σ[0]? = some (some (.ref me))
  s1 : σ[1]? = some (some tv)
  tb : Den T g.K H tv t
  len : σ.length = 4
  ob : H me = some (.ins (skA g.K) dx [("beside", .ref b)])
  ls : H b = some (.lst xs)
  bt : b ≠ T
  gr : Grow T H1 H
  fr : H1 me = none ∧ H1 b = none
theorem IniAt.grow {T : Addr} {H1 H H' : Hp} {σ : L2.St} {me dx b : Addr} {tv : V} {t : D} {xs : List V} {k : Nat} (i : IniAt g T H1 σ H me dx b tv t xs) (gr : Grow T H H') (w : WS T g.Tb H k) : IniAt g T H1 σ H' me dx b tv t xs :=
  ⟨i.s0, i.s1, Den.keep (gr.keeps w.town) _ _ i.tb, i.len, gr.keep _ _ i.ob (fun z => by have := i.ob; rw [z, w.town.1] at this; cases this) (fun _ z => nomatch z), gr.keep _ _ i.ls i.bt (fun _ z => nomatch z), i.bt, i.gr.trans gr, i.fr⟩
theorem IniAt.set {T : Addr} {H1 H : Hp} {σ : L2.St} {me dx b : Addr} {tv : V} {t : D} {xs : List V} {j : Nat} {x : Option V} (i : IniAt g T H1 σ H me dx b tv t xs) (h : 2 ≤ j) : IniAt g T H1 (σ.set j x) H me dx b tv t xs :=
  ⟨by rw [List.getElem?_set_ne (by omega)]; exact i.s0, by rw [List.getElem?_set_ne (by omega)]; exact i.s1, i.tb, by rw [List.length_set]; exact i.len, i.ob, i.ls, i.bt, i.gr, i.fr⟩
end
end G

namespace G
open PySem PySem.Spec PyProof.Rows L2

section
variable {g : Cf} {P : Pr} {fns : List (Str × Nat × Nat)} {gls : List (Str × D)} {lamN : List (List Str × List Str)}
variable {prog : Program} {w : World} {mg : Str → Option Value} {base : Heap}
theorem sr_fr {T : Addr} {sl : List Sl} {σ : L2.St} {H : Hp} (hl : sl.length = σ.length) (h : ∀ (i : Nat) (s : Sl), sl[i]? = some s → SlOk T g.K g.CL H s σ[i]?) (no : ∀ d, Sl.ow d ∉ sl) : SR T g.K g.CL sl σ H :=
  ⟨hl, h, fun i j d e a e1 => absurd (List.mem_of_getElem? e1) (no d)⟩
theorem IniAt.sr1 {T : Addr} {H1 H : Hp} {σ : L2.St} {me dx b : Addr} {tv : V} {t : D} {xs : List V} (i : IniAt g T H1 σ H me dx b tv t xs) : SR T g.K g.CL [.un, .fr t, .un, .un] σ H := by
  refine sr_fr i.len.symm (fun j s e => ?_) (fun d z => by simp at z)
  match j, e with
  | 0, e => cases e; exact True.intro
  | 1, e => cases e; rw [i.s1]; exact i.tb
  | 2, e => cases e; exact True.intro
  | 3, e => cases e; exact True.intro
theorem IniAt.sr2 {T : Addr} {H1 H : Hp} {σ : L2.St} {me dx b : Addr} {tv : V} {t : D} {xs : List V} {z : Int} (i : IniAt g T H1 σ H me dx b tv t xs) (h2 : σ[2]? = some (some (.int z))) : SR T g.K g.CL [.un, .fr t, .fr (.int z), .un] σ H := by
  refine sr_fr i.len.symm (fun j s e => ?_) (fun d z => by simp at z)
  match j, e with
  | 0, e => cases e; exact True.intro
  | 1, e => cases e; rw [i.s1]; exact i.tb
  | 2, e => cases e; rw [h2]; exact .int _
  | 3, e => cases e; exact True.intro
theorem orAll_snoc (ns : List Int) (j : Int) : orAll (ns ++ [j]) = orAll ns ||| 2 ^ j.toNat := by
  unfold orAll
  rw [List.foldl_append]
  rfl
theorem bitOr_one {a : Nat} {j : Nat} : Builtin.bitOr (a : Int) (1 * 2 ^ ((j : Int)).toNat) = ((a ||| 2 ^ j : Nat) : Int) := by
  have e : (1 * 2 ^ ((j : Int)).toNat : Int) = ((2 ^ j : Nat) : Int) := by
    rw [Int.one_mul, Int.toNat_natCast]
    simp
  rw [e]
  generalize 2 ^ j = z
  rw [Bits.bitOr_pp (Int.natCast_nonneg _) (Int.natCast_nonneg _), Int.toNat_natCast, Int.toNat_natCast]
theorem WS.updI {T : Addr} {Tb : List (Addr × Str)} {H : Hp} {k : Nat} (w : WS T Tb H k) {p : Addr} {o : HO} {C dx : Addr} {fs : List (Str × V)} (hp : H p = some (.ins C dx fs)) : WS T Tb (upd H p o) k := by
  refine ⟨⟨by rw [upd_ne (fun z => by have := w.town.1; rw [z, hp] at this; cases this)]; exact w.town.1, w.town.2⟩, fun q hq => ?_⟩
  obtain ⟨ps, h1, h2, h3⟩ := w.tabs q hq
  refine ⟨ps, by rw [upd_ne (fun z => by rw [z, hp] at h1; cases h1)]; exact h1, h2, fun pos cv hc => ?_⟩
  obtain ⟨c, e1, e2⟩ := h3 pos cv hc
  exact ⟨c, e1, by rw [upd_ne (fun z => by rw [z, hp] at e2; unfold LamX.CodeO at e2; cases e2)]; exact e2⟩
theorem range_at {m i : Nat} {d : D} (h : (rangeL 0 m 1)[i]? = some d) : i < m ∧ d = .int (i : Int) := by
  unfold rangeL at h
  rw [List.getElem?_map] at h
  obtain ⟨j, h1, h2⟩ := Option.map_eq_some_iff.mp h
  obtain ⟨h3, h4⟩ := List.getElem?_eq_some_iff.mp h1
  rw [List.getElem_range] at h4
  subst h4
  exact ⟨by simpa using h3, by rw [← h2]; congr 1; omega⟩
theorem near_src {C : Cs} {iN : Nat} {st : G.St} {t : D} {i : Int} {kk k2 : Nat} {r : List D} (e1 : st[1]? = some (.fr t)) (e2 : st[2]? = some (.fr (.int i))) (e3 : C.cl iN [t, .int i] kk = some (.tup r, k2)) : srcF C .it (eNear iN) (.c .non) (.c .non) st kk = some (r, k2) := by
  have h : ev C (eNear iN) st kk = some (.tup r, k2) := by
    rw [ev, evs, evs, evs, ev, ev]
    have a1 : getV st 1 kk = some (t, kk) := by unfold getV; rw [e1]; rfl
    have a2 : getV st 2 kk = some (.int i, kk) := by unfold getV; rw [e2]; rfl
    refine bind_some.mpr ⟨[t, .int i], kk, ?_, e3⟩
    refine bind_some.mpr ⟨t, kk, a1, ?_⟩
    refine bind_some.mpr ⟨[.int i], kk, ?_, rfl⟩
    exact bind_some.mpr ⟨.int i, kk, a2, rfl⟩
  unfold srcF
  refine bind_some.mpr ⟨.tup r, k2, h, ?_⟩
  rw [ev]
  rfl
theorem many_zero (l : List Int) : manyV l 0 = 0 := by
  unfold manyV
  have e : bitsL l.length 0 = [] := by unfold bitsL; simp
  rw [e]
  cases l.length <;> rfl
theorem rep_ints (m : Nat) : (List.replicate ((m : Int)).toNat [V.int 0]).flatten = List.replicate m (V.int 0) := by
  rw [Int.toNat_natCast]
  induction m with
  | zero => rfl
  | succ m ih => rw [List.replicate_succ, List.flatten_cons, List.replicate_succ, ih]; rfl
theorem set_mid {α : Type} (a b : List α) (x y : α) : (a ++ x :: b).set a.length y = a ++ y :: b := by
  rw [List.set_append_right _ _ (Nat.le_refl _), Nat.sub_self, List.set_cons_zero]
theorem init_step {fa : Addr} {fd : FuncData} {st : Stmt} {iI iN n : Nat} (S0 : SkCls g.K) (F : MethT g.K "__init__" st fa fd) (hP : P.fns[iI]? = some (.prim 1 (initG iN))) (h : chkInit P fns gls lamN iN st = true)
    (hC : g.CL = cloOf (okL (sc0 P fns gls lamN)) g.K) (hT : TblOk g P fns prog w mg base n) (hL : LamOk g P fns gls lamN prog w mg base n) (hM : Mg g gls mg) : FnOk prog w g.K mg base L2.CX0 (n + 1) fa fd ["self", "table"] (spIni g ((calls P (n + 1)).cl iI)) := by
  unfold chkInit at h
  simp only [Bool.and_eq_true] at h
  obtain ⟨⟨⟨⟨h1, h2⟩, h3⟩, h4⟩, h6⟩ := h
  split at h6
  · rename_i a1 z1 c0 m1 c1 c2 t1 i1 t2 i2 a2 s2 c3 a3 s3 c4 o1 o2 c5 c6 c7 c8 c9 k1 z2 z3 c10 c11 hbody
    simp only [Bool.and_eq_true] at h6
    obtain ⟨⟨⟨⟨⟨⟨⟨⟨⟨⟨⟨⟨⟨⟨⟨g1, g2⟩, g3⟩, g4⟩, g5⟩, g6⟩, g7⟩, g8⟩, g9⟩, g10⟩, g11⟩, g12⟩, g13⟩, g14⟩, g15⟩, g16⟩ := h6
    obtain ⟨p1, p1', rfl⟩ := isBe_of g1
    obtain ⟨p2, p2', rfl⟩ := isI_of g2
    obtain ⟨p3, p3', rfl⟩ := isBe_of g8
    obtain ⟨p4, rfl⟩ := isNm_of g9
    obtain ⟨p5, p5', rfl⟩ := isBe_of g10
    obtain ⟨p6, rfl⟩ := isNm_of g11
    obtain ⟨p7, p7', rfl⟩ := isI_of g12
    obtain ⟨p8, rfl⟩ := isNm_of g13
    obtain ⟨p9, p9', rfl⟩ := isKn_of g14
    obtain ⟨p10, p10', rfl⟩ := isI_of g15
    obtain ⟨p11, p11', rfl⟩ := isI_of g16
    have S := fscope_by h1
    refine F.ok S (fun vs H Q E q => ?_) (fun cdv A outer s H vs Q E hr q => ?_)
    · obtain ⟨T, k, ds, d, k', x, dx, ws, H1, rfl, hd, hx, hdx, ne, rfl, w', em, q⟩ := q
      obtain ⟨m, ts, rs, rfl, _⟩ := cl_init hP em
      rw [List.length_cons, hd.length]
      rfl
    · have E' := envM (x := ("__init__" : Str)) (N := ["self", "table", "sign", "other"]) (ps := ["self", "table"]) (E := E) (H := H) (outer := outer) S hC hT hL hM hr
      have vself := fun p => slot_var (p := p) E' h2
      have vsign := fun p => slot_var (p := p) E' h3
      have voth := fun p => slot_var (p := p) E' h4
      have hm : Snd g (calls P n) n (chk ckDeep) := (snd_both ckDeep).1
      rw [hbody]
      obtain ⟨iA, iB⟩ := src_ok hm E' g4
      obtain ⟨jA, jB⟩ := src_ok hm E' g6
      refine ⟨_, PSs.nox (pss_cons (ps_fld (vself p1) (pe_op op_rep (pe_lst (pa_cons pe_int pa_nil)) (hm _ _ _ _ E' g3)) rfl)
        (pss_cons (ps_for PassesOwn.never E'.calm iA (tg_ok E' g5) (pss_one (ps_for PassesOwn.never E'.calm jA (tg_ok E' g7)
          (pss_one (ps_asg (pe_op op_or (pe_ix ix_list (pe_fld (vself p5) rfl) (vsign p6) (fun _ _ => rfl)) (pe_op op_shl pe_int (voth p8))) (pg_sub (pe_fld (vself p3) rfl) (vsign p4) set_list) rfl rfl rfl)) jB)) iB)
        (pss_gh (pss_cons (ps_fld (vself p9) (pe_disp (pps_cons pe_int pe_int pps_nil) rfl rfl (by simp) (by simp)) rfl) (pss_gh pss_nil))))), ?_⟩
      obtain ⟨T, k, ds, d, k', x, dx, ws, H1, rfl, hd, hx, hdx, ne, rfl, w', em, q⟩ := q
      obtain ⟨m, ts, rs, rfl, hm40, er, hok, ed⟩ := cl_init hP em
      have ed : d = .sk rs := ed
      have er : rowsG (calls P n).cl iN (.tup (.int (m : Int) :: ts)) (List.range m) k = some (rs, k') := er
      subst ed
      cases hd with
      | @cons tv _ _ _ d1 d2 =>
      cases d2
      have hsl : (16777216 : Nat) = sizeLine := line_eq
      have w0 : WS T g.Tb (upd (upd H1 dx (.own x)) x (.ins (skA g.K) dx [])) k := (w'.grow0 hdx).grow0 (by rw [upd_ne (Ne.symm ne)]; exact hx)
      have gr0 : Grow T H1 (upd (upd H1 dx (.own x)) x (.ins (skA g.K) dx [])) := (Grow.new hdx).at hx
      have hxT : x ≠ T := w'.neT hx
      have s00 : (L2.start ["self", "table", "sign", "other"] [V.ref x, tv])[0]? = some (some (.ref x)) := rfl
      have s01 : (L2.start ["self", "table", "sign", "other"] [V.ref x, tv])[1]? = some (some tv) := rfl
      have sl0 : (L2.start ["self", "table", "sign", "other"] [V.ref x, tv]).length = 4 := rfl
      generalize L2.start ["self", "table", "sign", "other"] [V.ref x, tv] = σ0 at s00 s01 sl0 ⊢
      have rows := rows_len er
      rw [List.length_range] at rows
      -- self.beside = [0] * table[0]
      refine ⟨by rw [← hsl]; simp, fun p hp => ?_⟩
      have hpT : p ≠ T := w0.neT hp
      have hpx : p ≠ x := fun z => by rw [z, upd_same] at hp; cases hp
      have hp1 : H1 p = none := gr0.none p hp
      have w1 := w0.grow0 (o := .lst [V.int 0]) hp
      have gr1 : Grow T H1 (upd (upd (upd H1 dx (.own x)) x (.ins (skA g.K) dx [])) p (.lst [V.int 0])) := gr0.at hp1
      have d1' := Den.keep (gr1.keeps w'.town) _ _ d1
      have r1 : SR T g.K g.CL [.un, .fr (.tup (.int (m : Int) :: ts)), .un, .un] σ0 (upd (upd (upd H1 dx (.own x)) x (.ins (skA g.K) dx [])) p (.lst [V.int 0])) := by
        refine sr_fr sl0.symm (fun j s e => ?_) (fun d z => by simp at z)
        match j, e with
        | 0, e => cases e; exact True.intro
        | 1, e => cases e; rw [s01]; exact d1'
        | 2, e => cases e; exact True.intro
        | 3, e => cases e; exact True.intro
      have evT : ∀ (st : G.St) (kk : Nat), st[1]? = some (.fr (.tup (.int (m : Int) :: ts))) → ev (calls P n) eT0 st kk = some (.int (m : Int), kk) := fun st kk e => by
        rw [ev, ev, ev]
        show (getV st 1 >>= fun x => pure (.int 0) >>= fun y => ixD x y : M D) kk = _
        unfold getV
        rw [e]
        rfl
      refine ⟨T, k, _, .int (m : Int), k, w1, r1, evT _ _ rfl, fun v H2 g2 w2 d2 => ?_⟩
      cases d2
      have hp2 : H2 p = some (.lst [V.int 0]) := g2.keep p _ upd_same hpT (fun _ z => nomatch z)
      have hx2 : H2 x = some (.ins (skA g.K) dx []) := g2.keep x _ (by rw [upd_ne (Ne.symm hpx), upd_same]) hxT (fun _ z => nomatch z)
      refine ⟨p, (m : Int), [V.int 0], rfl, rfl, hp2, by omega, by omega, by simp; omega, fun b hb => ?_⟩
      have hbT : b ≠ T := w2.neT hb
      have hbx : b ≠ x := fun z => by rw [z, hx2] at hb; cases hb
      have hb1 : H1 b = none := gr1.none b (g2.none b hb)
      have hput : putF ("beside" : Str) (V.ref b) [] = [(("beside" : Str), V.ref b)] := rfl
      refine ⟨.ref x, s00, x, skA g.K, dx, [], rfl, by rw [upd_ne (Ne.symm hbx)]; exact hx2, S0.cls, S0.nb, by simp, ?_⟩
      rw [rep_ints, hput]
      have w3 : WS T g.Tb (upd (upd H2 b (.lst (List.replicate m (V.int 0)))) x (.ins (skA g.K) dx [("beside", .ref b)])) k := by
        have z := w2.grow0 (o := .lst (List.replicate m (V.int 0))) hb
        have hx3 : (upd H2 b (.lst (List.replicate m (V.int 0)))) x = some (.ins (skA g.K) dx []) := by rw [upd_ne (Ne.symm hbx)]; exact hx2
        exact z.updI hx3
      have gr3 : Grow T H1 (upd (upd H2 b (.lst (List.replicate m (V.int 0)))) x (.ins (skA g.K) dx [("beside", .ref b)])) := ((gr1.trans g2).at hb1).at hx
      have I3 : IniAt g T H1 σ0 (upd (upd H2 b (.lst (List.replicate m (V.int 0)))) x (.ins (skA g.K) dx [("beside", .ref b)])) x dx b tv (.tup (.int (m : Int) :: ts)) (List.replicate m (V.int 0)) :=
        ⟨s00, s01, Den.keep (gr3.keeps w'.town) _ _ d1, sl0, upd_same, by rw [upd_ne hbx, upd_same], hbT, gr3, hx, hb1⟩
      generalize upd (upd H2 b (.lst (List.replicate m (V.int 0)))) x (.ins (skA g.K) dx [("beside", .ref b)]) = H3 at w3 I3
      clear gr3 hp2 hx2 g2 w2 hpx hpT hp hp1 gr1 w1 r1 d1' hbx hb hb1 w0 gr0
      -- the loops
      have src1 : ∀ (st : G.St) (kk : Nat), st[1]? = some (.fr (.tup (.int (m : Int) :: ts))) → srcF (calls P n) .r1 eT0 (.c .non) (.c .non) st kk = some (rangeL 0 m 1, kk) := fun st kk e => by
        unfold srcF
        refine bind_some.mpr ⟨_, kk, evT st kk e, ?_⟩
        rw [ev]
        show (if smallI (m : Int) then pure (rangeL 0 ((m : Int)).toNat 1) else no : M (List D)) kk = _
        rw [if_pos (show smallI (m : Int) = true from absLe_of.mpr (by omega)), Int.toNat_natCast]
        rfl
      refine tFor_any w3 I3.sr1 (src1 _ k rfl) (fun i σ H => ∃ ki rest dn, WS T g.Tb H ki ∧ rowsG (calls P n).cl iN (.tup (.int (m : Int) :: ts)) ((List.range m).drop i) ki = some (rest, k') ∧ rs = dn ++ rest ∧ dn.length = i ∧
        IniAt g T H1 σ H x dx b tv (.tup (.int (m : Int) :: ts)) (dn.map V.int ++ List.replicate (m - i) (V.int 0))) ?_ ?_ ?_ ?_ ?_
      · intro H4 g4 w4
        exact ⟨k, rs, [], w4, er, rfl, rfl, by simpa using I3.grow g4 w3⟩
      · rintro i σ H ⟨ki, rest, dn, z, _⟩
        exact ⟨ki, z⟩
      · rintro i σ H H' ⟨ki, rest, dn, z1, z2, z3, z4, z5⟩ g5 w5
        exact ⟨ki, rest, dn, w5 ki z1, z2, z3, z4, z5.grow g5 z1⟩
      · rintro i d σ H ei ⟨ki, rest, dn, z1, z2, z3, z4, z5⟩ xv dxv Nx hNx
        have hi := range_at ei
        obtain ⟨hlt, rfl⟩ := hi
        cases dxv
        rw [List.drop_eq_getElem_cons (by simpa using hlt)] at z2
        rw [List.getElem_range] at z2
        obtain ⟨rw1, k2, y1, y2⟩ := bind_some.mp (show (do let r ← rowG (calls P n).cl iN (.tup (.int (m : Int) :: ts)) i; let rs ← rowsG (calls P n).cl iN (.tup (.int (m : Int) :: ts)) ((List.range m).drop (i + 1)); pure (r :: rs) : M (List Int)) ki = some (rest, k') from z2)
        obtain ⟨rest', k3, y3, y4⟩ := bind_some.mp y2
        cases pure_some.mp y4
        obtain ⟨ns, n1, n2, n3⟩ := row_some y1
        have I5 := (z5.set (j := 2) (x := some (.int (i : Int))) (by omega))
        have hs2 : (σ.set 2 (some (.int (i : Int))))[2]? = some (some (.int (i : Int))) := by rw [List.getElem?_set_self (by rw [z5.len]; omega)]
        refine tFor_any z1 (I5.sr2 hs2) (near_src rfl rfl n1) (fun j σ' H' => WS T g.Tb H' k2 ∧ Keeps H H' ∧ σ'[2]? = some (some (.int (i : Int))) ∧
          IniAt g T H1 σ' H' x dx b tv (.tup (.int (m : Int) :: ts)) (dn.map V.int ++ V.int (orAll ((ns.take j).map fun (j : Nat) => (j : Int)) : Nat) :: List.replicate (m - (i + 1)) (V.int 0))) ?_ ?_ ?_ ?_ ?_
        · intro H4 g4 w4
          have ez : List.replicate (m - i) (V.int 0) = V.int 0 :: List.replicate (m - (i + 1)) (V.int 0) := by
            rw [show m - i = (m - (i + 1)) + 1 from by omega, List.replicate_succ]
          refine ⟨w4, g4.keeps z1.town, hs2, ?_⟩
          have z := I5.grow g4 z1
          rw [ez] at z
          exact z
        · rintro j σ' H' ⟨q1, _⟩
          exact ⟨_, q1⟩
        · rintro j σ' H' H'' ⟨q1, q2, q3, q4⟩ g5 w5
          exact ⟨w5 _ q1, q2.trans (g5.keeps q1.town), q3, q4.grow g5 q1⟩
        · rintro j d σ' H' ej ⟨q1, q2, q3, q4⟩ xv dxv Ny hNy
          rw [List.getElem?_map] at ej
          obtain ⟨nj, h1, h2⟩ := Option.map_eq_some_iff.mp ej
          subst h2
          cases dxv
          have hnj : nj ≤ 1000 := n2 nj (List.mem_of_getElem? h1)
          have q5 := q4.set (j := 3) (x := some (.int (nj : Int))) (by omega)
          have hs2' : (σ'.set 3 (some (.int (nj : Int))))[2]? = some (some (.int (i : Int))) := by rw [List.getElem?_set_ne (by omega)]; exact q3
          have hs3' : (σ'.set 3 (some (.int (nj : Int))))[3]? = some (some (.int (nj : Int))) := by rw [List.getElem?_set_self (by rw [q4.len]; omega)]
          have hat : L2.atI (dn.map V.int ++ V.int (orAll ((ns.take j).map fun (j : Nat) => (j : Int)) : Nat) :: List.replicate (m - (i + 1)) (V.int 0)) (i : Int) = some (V.int (orAll ((ns.take j).map fun (j : Nat) => (j : Int)) : Nat)) := by
            rw [atI_eq]
            unfold G.atI
            rw [if_pos (by omega), Int.toNat_natCast, List.getElem?_append_right (by rw [List.length_map]; omega), List.length_map, z4, Nat.sub_self]
            rfl
          have hix : L2.ixN (dn.map V.int ++ V.int (orAll ((ns.take j).map fun (j : Nat) => (j : Int)) : Nat) :: List.replicate (m - (i + 1)) (V.int 0)).length (i : Int) = some i := by
            unfold L2.ixN
            rw [if_pos (by omega), if_pos (by simp [z4]; omega), Int.toNat_natCast]
          refine ⟨.ref x, q5.s0, x, skA g.K, dx, _, .ref b, rfl, q5.ob, S0.cls, S0.nb, rfl, .int (i : Int), hs2', b, _, (i : Int), _, rfl, rfl, .inl (.inl q5.ls), hat, .int (nj : Int), hs3', 1, (nj : Int), rfl, rfl, ⟨by omega, by omega, by decide⟩, _, _, rfl, rfl, ?_⟩
          refine ⟨.ref x, q5.s0, x, skA g.K, dx, _, .ref b, rfl, q5.ob, S0.cls, S0.nb, rfl, .int (i : Int), hs2', b, _, (i : Int), i, rfl, rfl, q5.ls, hix, ?_⟩
          have kp : Keeps H' (upd H' b (.lst ((dn.map V.int ++ V.int (orAll ((ns.take j).map fun (j : Nat) => (j : Int)) : Nat) :: List.replicate (m - (i + 1)) (V.int 0)).set i (.int (Builtin.bitOr ((orAll ((ns.take j).map fun (j : Nat) => (j : Int)) : Nat) : Int) (1 * 2 ^ ((nj : Int)).toNat)))))) := keeps_upd q5.ls (fun _ z => nomatch z) (fun _ _ z => nomatch z)
          refine hNy _ _ kp ⟨q1.updL q5.ls q5.bt, q2.trans kp, hs2', q5.s0, q5.s1, Den.keep kp _ _ q5.tb, q5.len, by rw [upd_ne (ne_of q5.ob q5.ls (by intro z; cases z))]; exact q5.ob, ?_, q5.bt, q5.gr.at q5.fr.2, q5.fr⟩
          rw [upd_same]
          show some (HO.lst (List.set _ i (V.int (Builtin.bitOr _ _)))) = _
          rw [bitOr_one]
          congr 2
          have e1 : i = (dn.map V.int).length := by rw [List.length_map, z4]
          rw [e1, set_mid, ← e1]
          congr 3
          rw [List.take_add_one, h1, List.map_append]
          show _ = ((orAll (_ ++ [(nj : Int)]) : Nat) : Int)
          rw [orAll_snoc, Int.toNat_natCast]
        · rintro σ' H' ⟨q1, q2, q3, q4⟩
          refine hNx σ' H' q2 ⟨k2, rest', dn ++ [rw1], q1, y3, by rw [z3, List.append_assoc]; rfl, by rw [List.length_append, z4]; rfl, ?_⟩
          rw [List.length_map, List.take_length] at q4
          rw [List.map_append, List.append_assoc, n3]
          exact q4
      · rintro σ H ⟨ki, rest, dn, z1, z2, z3, z4, z5⟩
        have hlr : (rangeL 0 m 1).length = m := by unfold rangeL; simp
        rw [hlr] at z2 z4 z5
        rw [List.drop_eq_nil_of_le (by simp)] at z2
        cases pure_some.mp z2
        rw [List.append_nil] at z3
        subst z3
        rw [Nat.sub_self, List.replicate_zero, List.append_nil] at z5
        intro pins s I
        obtain ⟨o, I2⟩ := I.lock z5.ls trivial
        refine ⟨_, I2, ?_⟩
        have wl := z1.updL (o := .frz o (.lst (rs.map V.int))) z5.ls z5.bt
        have nxb : x ≠ b := ne_of z5.ob z5.ls (by intro z; cases z)
        have gl : Grow T H1 (upd H b (.frz o (.lst (rs.map V.int)))) := z5.gr.at z5.fr.2
        have oxl : (upd H b (.frz o (.lst (rs.map V.int)))) x = some (.ins (skA g.K) dx [("beside", .ref b)]) := by rw [upd_ne nxb]; exact z5.ob
        have obl : (upd H b (.frz o (.lst (rs.map V.int)))) b = some (.frz o (.lst (rs.map V.int))) := upd_same
        generalize upd H b (.frz o (.lst (rs.map V.int))) = H5 at wl gl oxl obl
        -- self.known = {0: 0}
        intro p hp
        have npx : p ≠ x := fun z => by rw [z, oxl] at hp; cases hp
        have npb : p ≠ b := fun z => by rw [z, obl] at hp; cases hp
        have hp1 : H1 p = none := gl.none p hp
        refine ⟨upd_same, [(Sum.inl (0 : Int), V.int 0)], rfl, by simp, .ref x, z5.s0, x, skA g.K, dx, [("beside", .ref b)], rfl, ?_, S0.cls, S0.nk, by simp, ?_⟩
        · rw [upd_upd, upd_ne (Ne.symm npx)]
          exact oxl
        have hmg : mergeK [] [((Sum.inl (0 : Int) : Key), V.int 0)] = [((Sum.inl (0 : Int) : Key), V.int 0)] := rfl
        have hpf : putF ("known" : Str) (V.ref p) [(("beside" : Str), V.ref b)] = [(("beside" : Str), V.ref b), (("known" : Str), V.ref p)] := by
          have z1 : ¬ ("beside" : Str) = "known" := by decide +kernel
          show (if ("beside" : Str) = "known" then [(("beside" : Str), V.ref p)] else (("beside" : Str), V.ref b) :: putF ("known" : Str) (V.ref p) []) = _
          rw [if_neg z1]
          rfl
        rw [hmg, hpf, upd_upd]
        intro pins6 s6 I6
        have G0 : GoodM rs [((Sum.inl (0 : Int) : Key), V.int 0)] := by
          refine ⟨fun p hp => ?_, by simp, by simp⟩
          rw [List.mem_singleton] at hp
          refine ⟨0, ?_, ?_⟩
          · rw [hp, many_zero]
            rfl
          · unfold reachS
            exact List.mem_cons_self
        refine ⟨_, mem_close I6 (by rw [upd_ne npx, upd_same]) G0, ?_⟩
        have hz : upd (upd (upd H5 p (.dK [(Sum.inl (0 : Int), V.int 0)])) x (.ins (skA g.K) dx [("beside", .ref b), ("known", .ref p)])) p (MemO p rs) = upd (upd H5 p (MemO p rs)) x (.ins (skA g.K) dx [("beside", .ref b), ("known", .ref p)]) := by
          funext a
          unfold upd
          by_cases e1 : a = p
          · subst e1
            rw [if_pos rfl, if_neg npx, if_pos rfl]
          · rw [if_neg e1]
            split
            · rfl
            · rfl
        rw [hz]
        refine q _ ((gl.at hp1).at hx) ((wl.grow0 hp).updI (by rw [upd_ne (Ne.symm npx)]; exact oxl)) (.sk upd_same (by rw [upd_ne (Ne.symm nxb), upd_ne (Ne.symm npb)]; exact obl) (by rw [upd_ne npx, upd_same]) hok)
  · cases h6
end
end G

namespace G
open PySem PySem.Spec PyProof.Rows L2

section
variable {g : Cf} {P : Pr} {fns : List (Str × Nat × Nat)} {gls : List (Str × D)} {lamN : List (List Str × List Str)}
variable {prog : Program} {w : World} {mg : Str → Option Value} {base : Heap}
theorem ent_meth {n : Nat} {C : Cs} {x : Str} {i : Nat} (S : SkCls g.K) (h : ∃ m fa fd ps, x = ("Seeker." : Str) ++ m ∧ m ≠ "beside" ∧ m ≠ "known" ∧ Meth g.K (skA g.K) m fa ∧ FnOk prog w g.K mg base L2.CX0 n fa fd ps (spMe g (C.cl i)) ∧ Binds g.K fd ps []) : EntP g g.K prog w mg base n C x i 101 :=
  ⟨fun z => absurd z (by decide), fun _ => S, fun _ => h, fun z => absurd z (by decide), fun z => absurd z (by decide)⟩
theorem spMe0 {i : Nat} : ∀ vs H Q E, spMe g ((calls P 0).cl i) vs H Q E → False := fun vs H Q E q => by
  obtain ⟨T, k, l, ds, d, k', w', hd, em, q⟩ := q
  exact absurd em (no_some (k := k))
theorem fn0 {fa : Addr} {fd : FuncData} {ps : List Str} {sp : Sp} {n : Nat} (h : ∀ vs H Q E, sp vs H Q E → False) : FnOk prog w g.K mg base L2.CX0 n fa fd ps sp := ⟨fun vs H Q E q => (h _ _ _ _ q).elim, fun A outer s H args us vs Q E _ _ _ _ q => (h _ _ _ _ q).elim⟩
/-- a method of the mini language -/
theorem skI_meth {m qual : Str} {st : Stmt} {fa : Addr} {fd : FuncData} {N ps : List Str} {i : Nat} (S : SkCls g.K) (hq : ("Seeker." : Str) ++ m = qual) (n1 : m ≠ "beside") (n2 : m ≠ "known") (F : FunD g.K m qual (defArgs st) (defBody st) (defScope st) [] [] fa fd) (M : Meth g.K (skA g.K) m fa) (hb : Binds g.K fd ps [])
    (h : chkMeth P fns gls lamN N ps i st = true) (hC : g.CL = cloOf (okL (sc0 P fns gls lamN)) g.K) (hM : Mg g gls mg) : FnI g P fns gls lamN prog w mg base qual i 101 := by
  subst hq
  exact ⟨ent_meth S ⟨m, fa, fd, ps, rfl, n1, n2, M, fn0 spMe0, hb⟩, fun n hT hL => ent_meth S ⟨m, fa, fd, ps, rfl, n1, n2, M, meth_step F h hC hT hL hM, hb⟩⟩
theorem skI_many {qual : Str} {st : Stmt} {fa : Addr} {fd : FuncData} {N : List Str} {iM : Nat} {ss : List S} (S : SkCls g.K) (hq : ("Seeker." : Str) ++ ("many" : Str) = qual) (n1 : ("many" : Str) ≠ "beside") (n2 : ("many" : Str) ≠ "known") (F : FunD g.K "many" qual (defArgs st) (defBody st) (defScope st) [] [] fa fd) (M : Meth g.K (skA g.K) "many" fa) (hb : Binds g.K fd ["self", "left"] [])
    (hP : P.fns[iM]? = some (.prim 2 (manyG iM))) (h : chkMany P fns gls lamN N ss st = true) (hB : ∀ n, BodyOk P iM ss n) (hC : g.CL = cloOf (okL (sc0 P fns gls lamN)) g.K) (hM : Mg g gls mg) : FnI g P fns gls lamN prog w mg base qual iM 101 := by
  subst hq
  exact ⟨ent_meth S ⟨_, fa, fd, _, rfl, n1, n2, M, fn0 spMe0, hb⟩, fun n hT hL => ent_meth S ⟨_, fa, fd, _, rfl, n1, n2, M, many_step S F hP h (hB n) hC hT hL hM, hb⟩⟩
theorem skI_init {x qual : Str} {st : Stmt} {fa : Addr} {fd : FuncData} {iI iN : Nat} (S : SkCls g.K) (hq : ("Seeker." : Str) ++ ("__init__" : Str) = qual) (F : FunD g.K "__init__" qual (defArgs st) (defBody st) (defScope st) [] [] fa fd) (M : Mk g.K (skA g.K) fa) (hb : Binds g.K fd ["self", "table"] [])
    (hP : P.fns[iI]? = some (.prim 1 (initG iN))) (h : chkInit P fns gls lamN iN st = true) (hC : g.CL = cloOf (okL (sc0 P fns gls lamN)) g.K) (hM : Mg g gls mg) : FnI g P fns gls lamN prog w mg base x iI 201 := by
  subst hq
  have key : ∀ {n : Nat}, FnOk prog w g.K mg base L2.CX0 n fa fd ["self", "table"] (spIni g ((calls P n).cl iI)) → EntP g g.K prog w mg base n (calls P n) x iI 201 := fun {n} F' =>
    ⟨fun z => absurd z (by decide), fun _ => S, fun z => absurd z (by decide), fun _ => ⟨fa, fd, _, M, F', hb⟩, fun z => absurd z (by decide)⟩
  exact ⟨key (fn0 fun vs H Q E q => by
    obtain ⟨T, k, ds, d, k', x, dx, ws, H1, _, _, _, _, _, _, _, em, _⟩ := q
    exact absurd em (no_some (k := k))), fun n hT hL => key (init_step S F hP h hC hT hL hM)⟩
theorem skI_cls {x : Str} {iC iI : Nat} (S : SkCls g.K) (hm : mg "Seeker" = some (.ref (skA g.K))) (hP : P.fns[iC]? = some (.prim 1 (mkG iI))) (hl : fns.lookup ("Seeker.__init__" : Str) = some (iI, 201)) : FnI g P fns gls lamN prog w mg base x iC 301 := by
  refine ⟨⟨fun z => absurd z (by decide), fun _ => S, fun z => absurd z (by decide), fun z => absurd z (by decide), fun _ => ⟨hm, fun ds k r e => absurd e (no_some (k := k))⟩⟩, fun n hT hL => ⟨fun z => absurd z (by decide), fun _ => S, fun z => absurd z (by decide), fun z => absurd z (by decide), fun _ => ⟨hm, fun ds k r e => ?_⟩⟩⟩
  have e1 : (match P.fns[iC]? with | some fd => runF (calls P n) fd ds | none => no : M D) k = some r := e
  rw [hP] at e1
  obtain ⟨_, e2⟩ := if_some (show (if ds.length = 1 then mkG iI (calls P n).cl ds else no : M D) k = some r from e1)
  obtain ⟨fa, fd, ps, M, F, hb⟩ := (hT _ _ _ hl).2.2.2.1 rfl
  exact ⟨n, _, fa, fd, ps, rfl, M, F, hb, e2⟩
end
/-! ### what the head tells of the class -/
def dOfM (m qual : Str) (st : Stmt) : He.DefD := ⟨("Seeker", some m), m, qual, defArgs st, defBody st, defScope st, [], []⟩
section
variable {K : PySem.W.Frag} {h : Heap} {mg : Str → Option Value} {fa : List He.Fa} {fn : List He.DefD}
theorem skc_of (c : He.SaysD fa fn K) (i1 i2 i3 : Nat) (h1 : fa[i1]? = some (.cls "Seeker")) (h2 : fa[i2]? = some (.noat "Seeker" "beside")) (h3 : fa[i3]? = some (.noat "Seeker" "known")) : SkCls K :=
  ⟨He.cls_ok (c.fact i1 h1), He.noat_ok (c.fact i2 h2), He.noat_ok (c.fact i3 h3)⟩
end
end G

namespace G
/-! ### running statements -/
theorem kb {α β : Type} (x : M α) (f : α → M β) (k : Nat) : (x >>= f) k = (x k).bind fun p => f p.1 p.2 := rfl
theorem kp {α : Type} (a : α) (k : Nat) : (pure a : M α) k = some (a, k) := rfl
theorem kif {α : Type} (c : Prop) [Decidable c] (a b : M α) (k : Nat) : (if c then a else b) k = if c then a k else b k := by split <;> rfl
theorem tru_bl (b : Bool) (k : Nat) : tru (.bl b) k = some (b, k) := rfl
abbrev Rt := St → Fl → Nat → Prop
/-- the statements run, and Q stands behind them -/
def Run (C : Cs) (ss : List S) (st : St) (k : Nat) (Q : Rt) : Prop := ∃ st' fl k', exs C ss st k = some ((st', fl), k') ∧ Q st' fl k'
/-- what stands behind the first part -/
def Then (C : Cs) (ss : List S) (Q : Rt) : Rt := fun st fl k => match fl with
  | .nx => Run C ss st k Q
  | .rt d => Q st (.rt d) k
  | .bk => Q st .bk k
  | .ct => Q st .ct k
section
variable {C : Cs} {ss : List S} {st st1 : St} {k k1 : Nat} {Q Q' : Rt} {e : E} {d x y : D} {i j : Nat}
theorem Run.nil (h : Q st .nx k) : Run C [] st k Q := ⟨st, .nx, k, by rw [exs]; rfl, h⟩
theorem Run.mono (h : Run C ss st k Q) (hi : ∀ st' fl k', Q st' fl k' → Q' st' fl k') : Run C ss st k Q' := by
  obtain ⟨st', fl, k', e, q⟩ := h
  exact ⟨st', fl, k', e, hi _ _ _ q⟩
theorem exs_step {s : S} {fl : Fl} (h : ex C s st k = some ((st1, fl), k1)) : exs C (s :: ss) st k = (match (generalizing := false) fl with | .nx => exs C ss st1 k1 | fl => some ((st1, fl), k1)) := by
  rw [exs, kb, h]
  cases fl <;> rfl
theorem Run.one {s : S} (h : ex C s st k = some ((st1, .nx), k1)) (r : Run C ss st1 k1 Q) : Run C (s :: ss) st k Q := by
  obtain ⟨st', fl, k', e, q⟩ := r
  exact ⟨st', fl, k', by rw [exs_step h]; exact e, q⟩
theorem Run.stop {s : S} {fl : Fl} (h : ex C s st k = some ((st1, fl), k1)) (hn : fl ≠ .nx) (q : Q st1 fl k1) : Run C (s :: ss) st k Q := ⟨st1, fl, k1, by rw [exs_step h]; cases fl <;> first | rfl | exact absurd rfl hn, q⟩
/-- a statement made of statements -/
theorem Run.sub {s : S} {st0 : St} {k0 : Nat} {tt : List S} (he : ex C s st k = exs C tt st0 k0) (r : Run C tt st0 k0 (Then C ss Q)) : Run C (s :: ss) st k Q := by
  obtain ⟨st', fl, k', e, q⟩ := r
  have h := he.trans e
  cases fl with
  | nx => exact Run.one h q
  | rt d => exact Run.stop h (by intro z; cases z) q
  | bk => exact Run.stop h (by intro z; cases z) q
  | ct => exact Run.stop h (by intro z; cases z) q
theorem Run.set (h : ev C e st k = some (d, k1)) (r : Run C ss (st.set i (.fr d)) k1 Q) : Run C (.set i e :: ss) st k Q := Run.one (by rw [ex, kb, h]; rfl) r
theorem Run.own (h : ev C e st k = some (d, k1)) (r : Run C ss (st.set i (.ow d)) k1 Q) : Run C (.own i e :: ss) st k Q := Run.one (by rw [ex, kb, h]; rfl) r
theorem Run.fz {is : List Nat} (r : Run C ss (fz st is) k Q) : Run C (.fz is :: ss) st k Q := Run.one (by rw [ex]; rfl) r
theorem Run.exp (h : ev C e st k = some (d, k1)) (r : Run C ss st k1 Q) : Run C (.exp e :: ss) st k Q := Run.one (by rw [ex, kb, h]; rfl) r
theorem Run.tgt2 (h : ev C e st k = some (.tup [x, y], k1)) (r : Run C ss ((st.set i (.fr x)).set j (.fr y)) k1 Q) : Run C (.tgt (.two i j) e :: ss) st k Q := Run.one (by rw [ex, kb, h]; rfl) r
theorem Run.par2 {o1 o2 : Bool} {es : List E} (h : evs C es st k = some ([x, y], k1)) (r : Run C ss ((st.set i (slOf o1 x)).set j (slOf o2 y)) k1 Q) : Run C (.par [(i, o1), (j, o2)] es :: ss) st k Q := Run.one (by rw [ex, kb, h]; rfl) r
theorem Run.par3 {o1 o2 o3 : Bool} {l : Nat} {z : D} {es : List E} (h : evs C es st k = some ([x, y, z], k1)) (r : Run C ss (((st.set i (slOf o1 x)).set j (slOf o2 y)).set l (slOf o3 z)) k1 Q) : Run C (.par [(i, o1), (j, o2), (l, o3)] es :: ss) st k Q := Run.one (by rw [ex, kb, h]; rfl) r
theorem Run.app {l : List D} (h : ev C e st k = some (d, k1)) (hg : st[i]? = some (.ow (.lst l))) (hl : l.length < 16777216) (r : Run C ss (st.set i (.ow (.lst (l ++ [d])))) k1 Q) : Run C (.app i e :: ss) st k Q := Run.one (by
  have h2 : getO st i k1 = some (.lst l, k1) := by unfold getO; rw [hg]; rfl
  have h3 : appD (.lst l) d k1 = some (.lst (l ++ [d]), k1) := by show (if l.length < 16777216 then (pure (.lst (l ++ [d])) : M D) else no) k1 = _; rw [if_pos hl]; rfl
  rw [ex, kb, h]
  show ((getO st i) >>= _) k1 = _
  rw [kb, h2]
  show ((appD (.lst l) d) >>= _) k1 = _
  rw [kb, h3]
  rfl) r
theorem Run.ext {l m : List D} (h : ev C e st k = some (.lst m, k1)) (hg : st[i]? = some (.ow (.lst l))) (hl : l.length + m.length ≤ 16777216) (r : Run C ss (st.set i (.ow (.lst (l ++ m)))) k1 Q) : Run C (.ext i e :: ss) st k Q := Run.one (by
  have h2 : getO st i k1 = some (.lst l, k1) := by unfold getO; rw [hg]; rfl
  have h3 : extD (.lst l) (.lst m) k1 = some (.lst (l ++ m), k1) := by show (if l.length + m.length ≤ 16777216 then (pure (.lst (l ++ m)) : M D) else no) k1 = _; rw [if_pos hl]; rfl
  rw [ex, kb, h]
  show ((getO st i) >>= _) k1 = _
  rw [kb, h2]
  show ((extD (.lst l) (.lst m)) >>= _) k1 = _
  rw [kb, h3]
  rfl) r
theorem Run.tick (hg : st[i]? = some (.fr .town)) (hk : k < 16777216) (r : Run C ss st (k + 1) Q) : Run C (.tick i :: ss) st k Q := Run.one (by
  have h2 : getV st i k = some (.town, k) := by unfold getV; rw [hg]; rfl
  have h3 : tickM .town k = some ((), k + 1) := by show (if k < 16777216 then some ((), k + 1) else none) = _; rw [if_pos hk]
  rw [ex, kb, h2]
  show ((tickM .town) >>= _) k = _
  rw [kb, h3]
  rfl) r
/-- list[a].append(list[b].pop(e)) -/
theorem Run.popa {l m : List D} {q : Int} {jj : Nat} (h : ev C e st k = some (.int q, k1)) (hq : smallI q = true) (hj : st[j]? = some (.ow (.lst l))) (hx : ixN l.length q = some jj) (hd : l[jj]? = some d) (hi : st[i]? = some (.ow (.lst m))) (hl : m.length < 16777216)
    (r : Run C ss ((st.set j (.ow (.lst (l.eraseIdx jj)))).set i (.ow (.lst (m ++ [d])))) k1 Q) : Run C (.popa i j e :: ss) st k Q := Run.one (by
  have h2 : getO st j k1 = some (.lst l, k1) := by unfold getO; rw [hj]; rfl
  have h4 : getO st i k1 = some (.lst m, k1) := by unfold getO; rw [hi]; rfl
  have h3 : appD (.lst m) d k1 = some (.lst (m ++ [d]), k1) := by show (if m.length < 16777216 then (pure (.lst (m ++ [d])) : M D) else no) k1 = _; rw [if_pos hl]; rfl
  have h5 : popD (.lst l) (.int q) k1 = some ((d, .lst (l.eraseIdx jj)), k1) := by
    show (if ¬ smallI q = true then no else (match ixN l.length q with | some j => (match l[j]? with | some d => pure (d, .lst (l.eraseIdx j)) | none => no) | none => no) : M (D × D)) k1 = _
    rw [if_neg (fun z => z hq), hx]
    show (match l[jj]? with | some d => pure (d, .lst (l.eraseIdx jj)) | none => no : M (D × D)) k1 = _
    rw [hd]
    rfl
  rw [ex, kb, h]
  show ((getO st j) >>= _) k1 = _
  rw [kb, h2]
  show ((popD (.lst l) (.int q)) >>= _) k1 = _
  rw [kb, h5]
  show ((getO st i) >>= _) k1 = _
  rw [kb, h4]
  show ((appD (.lst m) d) >>= _) k1 = _
  rw [kb, h3]
  rfl) r
theorem Run.iteB {b : Bool} {c : E} {xs ys : List S} (h : ev C c st k = some (d, k1)) (ht : tru d k1 = some (b, k1)) (rt : b = true → Run C xs st k1 (Then C ss Q)) (rf : b = false → Run C ys st k1 (Then C ss Q)) : Run C (.ite c xs ys :: ss) st k Q := by
  cases b with
  | true => exact Run.sub (tt := xs) (by rw [ex, kb, h]; show ((tru d) >>= _) k1 = _; rw [kb, ht]; rfl) (rt rfl)
  | false => exact Run.sub (tt := ys) (by rw [ex, kb, h]; show ((tru d) >>= _) k1 = _; rw [kb, ht]; rfl) (rf rfl)
theorem Run.iteT {c : E} {xs ys : List S} (h : ev C c st k = some (.bl true, k1)) (r : Run C xs st k1 (Then C ss Q)) : Run C (.ite c xs ys :: ss) st k Q := Run.iteB (b := true) h rfl (fun _ => r) (fun z => by cases z)
theorem Run.iteF {c : E} {xs : List S} (h : ev C c st k = some (.bl false, k1)) (r : Run C ss st k1 Q) : Run C (.ite c xs [] :: ss) st k Q := Run.iteB (b := false) h rfl (fun z => by cases z) (fun _ => Run.nil r)
theorem Run.ret (h : ev C e st k = some (d, k1)) (q : Q st (.rt d) k1) : Run C (.ret e :: ss) st k Q := Run.stop (st1 := st) (fl := .rt d) (by rw [ex, kb, h]; rfl) (by intro z; cases z) q
theorem Run.retN (q : Q st (.rt .non) k) : Run C (.retN :: ss) st k Q := Run.stop (st1 := st) (fl := .rt .non) (by rw [ex]; rfl) (by intro z; cases z) q
theorem Run.brk (q : Q st .bk k) : Run C (.brk :: ss) st k Q := Run.stop (st1 := st) (fl := .bk) (by rw [ex]; rfl) (by intro z; cases z) q
theorem Run.cnt (q : Q st .ct k) : Run C (.cnt :: ss) st k Q := Run.stop (st1 := st) (fl := .ct) (by rw [ex]; rfl) (by intro z; cases z) q
theorem Run.pass (r : Run C ss st k Q) : Run C (.pass :: ss) st k Q := Run.one (by rw [ex]; rfl) r
/-! ### loops -/
/-- what one turn leaves -/
def Turn (C : Cs) (ss : List S) (Q : Rt) (I : St → Nat → Prop) : Rt := fun st fl k => match fl with
  | .nx => I st k
  | .ct => I st k
  | .bk => Run C ss st k Q
  | .rt d => Q st (.rt d) k
theorem for_run {α : Type} {c : α → D} {body : D → St → M (St × Fl)} {I : List α → St → Nat → Prop} : ∀ (post pre : List α) (st : St) (k : Nat), I pre st k →
    (∀ p a q st k, pre ++ post = p ++ a :: q → I p st k → ∃ st' fl k', body (c a) st k = some ((st', fl), k') ∧ Turn C ss Q (I (p ++ [a])) st' fl k') → (∀ st k, I (pre ++ post) st k → Run C ss st k Q) →
    ∃ st' fl k', forM' body (post.map c) st k = some ((st', fl), k') ∧ Then C ss Q st' fl k'
  | [], pre, st, k, h0, _, hr => ⟨st, .nx, k, rfl, hr st k (by rw [List.append_nil]; exact h0)⟩
  | a :: post, pre, st, k, h0, hb, hr => by
    obtain ⟨st1, fl, k1, e1, q1⟩ := hb pre a post st k rfl h0
    have e : ∀ r, (body (c a) st k = some r) → forM' body ((a :: post).map c) st k = (match r with | ((st1, .nx), k1) => forM' body (post.map c) st1 k1 | ((st1, .ct), k1) => forM' body (post.map c) st1 k1 | ((st1, .bk), k1) => some ((st1, .nx), k1) | ((st1, .rt d), k1) => some ((st1, .rt d), k1)) := fun r hr => by
      rw [List.map_cons, forM', kb, hr]
      obtain ⟨⟨s, f⟩, k⟩ := r
      cases f <;> rfl
    have hE := e _ e1
    have eq : pre ++ a :: post = (pre ++ [a]) ++ post := by simp
    cases fl with
    | nx =>
      obtain ⟨st2, fl2, k2, e2, q2⟩ := for_run post (pre ++ [a]) st1 k1 q1 (fun p b q st k h hi => hb p b q st k (by rw [eq]; exact h) hi) (fun st k h => hr st k (by rw [eq]; exact h))
      exact ⟨st2, fl2, k2, hE.trans e2, q2⟩
    | ct =>
      obtain ⟨st2, fl2, k2, e2, q2⟩ := for_run post (pre ++ [a]) st1 k1 q1 (fun p b q st k h hi => hb p b q st k (by rw [eq]; exact h) hi) (fun st k h => hr st k (by rw [eq]; exact h))
      exact ⟨st2, fl2, k2, hE.trans e2, q2⟩
    | bk => exact ⟨st1, .nx, k1, hE, q1⟩
    | rt d => exact ⟨st1, .rt d, k1, hE, q1⟩
/-- what is walked -/
def srcE (C : Cs) (sk : Sk) (a b c : E) (st : St) : M (List D) := do let x ← ev C a st; let y ← ev C b st; let z ← ev C c st; srcD sk x y z
theorem Run.forG {α : Type} {t : Tg} {sk : Sk} {a b c : E} {body : List S} (cc : α → D) (l : List α) (I : List α → St → Nat → Prop) (hs : srcE C sk a b c st k = some (l.map cc, k1)) (h0 : I [] st k1)
    (hb : ∀ p x q st k, l = p ++ x :: q → I p st k → ∃ st' fl k', (do let st' ← bindTg t (cc x) st; exs C body st' : M (St × Fl)) k = some ((st', fl), k') ∧ Turn C ss Q (I (p ++ [x])) st' fl k') (hr : ∀ st k, I l st k → Run C ss st k Q) : Run C (.for t sk a b c body :: ss) st k Q := by
  obtain ⟨st', fl, k', e, q⟩ := for_run (C := C) (ss := ss) (Q := Q) (c := cc) (body := fun d st => do let st' ← bindTg t d st; exs C body st') (I := I) l [] st k1 h0 (fun p x q st k h hi => hb p x q st k (by simpa using h) hi) (fun st k h => hr st k (by simpa using h))
  have hx : ex C (.for t sk a b c body) st k = some ((st', fl), k') := by
    rw [ex]
    have : (do let x ← ev C a st; let y ← ev C b st; let z ← ev C c st; let l ← srcD sk x y z; forM' (fun d st => do let st' ← bindTg t d st; exs C body st') l st : M (St × Fl)) = (srcE C sk a b c st >>= fun l => forM' (fun d st => do let st' ← bindTg t d st; exs C body st') l st) := by
      unfold srcE
      simp only [bind_assoc]
    rw [this, kb, hs]
    exact e
  cases fl with
  | nx => exact Run.one hx q
  | rt d => exact Run.stop hx (by intro z; cases z) q
  | bk => exact Run.stop hx (by intro z; cases z) q
  | ct => exact Run.stop hx (by intro z; cases z) q
theorem bt1 {β : Type} {i : Nat} {d : D} {st : St} {F : St → M β} : (bindTg (.one i) d st >>= F) = F (st.set i (.fr d)) := by
  rw [show bindTg (.one i) d st = pure (st.set i (.fr d)) from rfl, pure_bind]
theorem bt2 {β : Type} {i j : Nat} {x y : D} {st : St} {F : St → M β} : (bindTg (.two i j) (.tup [x, y]) st >>= F) = F ((st.set i (.fr x)).set j (.fr y)) := by
  rw [show bindTg (.two i j) (.tup [x, y]) st = pure ((st.set i (.fr x)).set j (.fr y)) from rfl, pure_bind]
/-- for one name -/
theorem Run.for1 {α : Type} {i : Nat} {sk : Sk} {a b c : E} {body : List S} (cc : α → D) (l : List α) (I : List α → St → Nat → Prop) (hs : srcE C sk a b c st k = some (l.map cc, k1)) (h0 : I [] st k1)
    (hb : ∀ p x q st k, l = p ++ x :: q → I p st k → Run C body (st.set i (.fr (cc x))) k (Turn C ss Q (I (p ++ [x])))) (hr : ∀ st k, I l st k → Run C ss st k Q) : Run C (.for (.one i) sk a b c body :: ss) st k Q :=
  Run.forG cc l I hs h0 (fun p x q st k h hi => by
    obtain ⟨st', fl, k', e, r⟩ := hb p x q st k h hi
    exact ⟨st', fl, k', by rw [bt1]; exact e, r⟩) hr
/-- for two names -/
theorem Run.for2 {α : Type} {i j : Nat} {sk : Sk} {a b c : E} {body : List S} (c1 c2 : α → D) (l : List α) (I : List α → St → Nat → Prop) (hs : srcE C sk a b c st k = some (l.map (fun x => .tup [c1 x, c2 x]), k1)) (h0 : I [] st k1)
    (hb : ∀ p x q st k, l = p ++ x :: q → I p st k → Run C body ((st.set i (.fr (c1 x))).set j (.fr (c2 x))) k (Turn C ss Q (I (p ++ [x])))) (hr : ∀ st k, I l st k → Run C ss st k Q) : Run C (.for (.two i j) sk a b c body :: ss) st k Q :=
  Run.forG (fun x => .tup [c1 x, c2 x]) l I hs h0 (fun p x q st k h hi => by
    obtain ⟨st', fl, k', e, r⟩ := hb p x q st k h hi
    exact ⟨st', fl, k', by rw [bt2]; exact e, r⟩) hr
theorem wh_run {c : St → M Bool} {body : St → M (St × Fl)} {I : Nat → St → Nat → Prop} : ∀ (f n : Nat) (st : St) (k : Nat), n < f → I n st k →
    (∀ n st k, I n st k → ∃ b k1, c st k = some (b, k1) ∧ (b = true → ∃ st' fl k', body st k1 = some ((st', fl), k') ∧ Turn C ss Q (fun st k => ∃ m, m < n ∧ I m st k) st' fl k') ∧ (b = false → Run C ss st k1 Q)) →
    ∃ st' fl k', whM c body f st k = some ((st', fl), k') ∧ Then C ss Q st' fl k'
  | 0, n, st, k, h, _, _ => absurd h (Nat.not_lt_zero n)
  | f + 1, n, st, k, h, hi, hs => by
    obtain ⟨b, k1, e1, ht, hf⟩ := hs n st k hi
    have hE : whM c body (f + 1) st k = ((if b then (body st >>= fun p => match p with | (st1, fl) => match fl with | .nx => whM c body f st1 | .ct => whM c body f st1 | .bk => pure (st1, .nx) | .rt d => pure (st1, .rt d)) else pure (st, .nx) : M (St × Fl))) k1 := by
      rw [whM, kb, e1]
      rfl
    cases b with
    | false => exact ⟨st, .nx, k1, hE, hf rfl⟩
    | true =>
      obtain ⟨st1, fl, k2, e2, q2⟩ := ht rfl
      rw [if_pos rfl, kb, e2] at hE
      cases fl with
      | nx =>
        obtain ⟨m, hm, him⟩ := q2
        obtain ⟨s3, f3, k3, e3, q3⟩ := wh_run f m st1 k2 (by omega) him hs
        exact ⟨s3, f3, k3, hE.trans e3, q3⟩
      | ct =>
        obtain ⟨m, hm, him⟩ := q2
        obtain ⟨s3, f3, k3, e3, q3⟩ := wh_run f m st1 k2 (by omega) him hs
        exact ⟨s3, f3, k3, hE.trans e3, q3⟩
      | bk => exact ⟨st1, .nx, k2, hE, q2⟩
      | rt d => exact ⟨st1, .rt d, k2, hE, q2⟩
theorem Run.whl {c : E} {body : List S} (I : Nat → St → Nat → Prop) (n : Nat) (hn : n < 1048576) (h0 : I n st k)
    (hb : ∀ n st k, I n st k → ∃ d b k1, ev C c st k = some (d, k1) ∧ tru d k1 = some (b, k1) ∧ (b = true → Run C body st k1 (Turn C ss Q fun st k => ∃ m, m < n ∧ I m st k)) ∧ (b = false → Run C ss st k1 Q)) : Run C (.whl c body :: ss) st k Q := by
  obtain ⟨st', fl, k', e, q⟩ := wh_run (C := C) (ss := ss) (Q := Q) (c := fun st => do let d ← ev C c st; tru d) (body := fun st => exs C body st) (I := I) fuel n st k hn h0 (fun n st k hi => by
    obtain ⟨d, b, k1, e1, e2, ht, hf⟩ := hb n st k hi
    exact ⟨b, k1, by rw [kb, e1]; exact e2, ht, hf⟩)
  have hx : ex C (.whl c body) st k = some ((st', fl), k') := by rw [ex]; exact e
  cases fl with
  | nx => exact Run.one hx q
  | rt d => exact Run.stop hx (by intro z; cases z) q
  | bk => exact Run.stop hx (by intro z; cases z) q
  | ct => exact Run.stop hx (by intro z; cases z) q
end
/-! ### calls -/
theorem cl_eq {P : Pr} {n i : Nat} {f : Fd} (h : P.fns[i]? = some f) (ds : List D) : (calls P (n + 1)).cl i ds = runF (calls P n) f ds := by
  show (match P.fns[i]? with | some fd => runF (calls P n) fd ds | none => no) = _
  rw [h]
def Rets (Q : D → Nat → Prop) : Rt := fun _ fl k => match fl with
  | .rt d => Q d k
  | .nx => Q .non k
  | _ => False
theorem runB_run {C : Cs} {ns : Nat} {body : List S} {args : List Sl} {k : Nat} {Q : D → Nat → Prop} (r : Run C body (args ++ List.replicate (ns - args.length) .un) k (Rets Q)) : ∃ d k', runB C ns body args k = some (d, k') ∧ Q d k' := by
  obtain ⟨st', fl, k', e, q⟩ := r
  unfold runB
  cases fl with
  | rt d => exact ⟨d, k', by rw [kb, e]; rfl, q⟩
  | nx => exact ⟨.non, k', by rw [kb, e]; rfl, q⟩
  | bk => exact q.elim
  | ct => exact q.elim
theorem call_run {P : Pr} {n f np ns : Nat} {body : List S} {args : List D} {st : St} {k : Nat} {Q : D → Nat → Prop} (h : P.fns[f]? = some (.py np ns body)) (hl : args.length = np) (hst : args.map .fr ++ List.replicate (ns - (args.map Sl.fr).length) .un = st) (r : Run (calls P n) body st k (Rets Q)) :
    ∃ d k', (calls P (n + 1)).cl f args k = some (d, k') ∧ Q d k' := by
  subst hst
  obtain ⟨d, k', e, q⟩ := runB_run r
  refine ⟨d, k', ?_, q⟩
  rw [cl_eq h]
  show (if args.length = np then runB (calls P n) ns body (args.map .fr) else no) k = _
  rw [if_pos hl]
  exact e
/-- just this comes, and nothing is ticked -/
def Just (r : D) (k : Nat) : D → Nat → Prop := fun d k' => d = r ∧ k' = k
theorem call_just {P : Pr} {n f np ns : Nat} {body : List S} {args : List D} {st : St} {k : Nat} {r : D} (h : P.fns[f]? = some (.py np ns body)) (hl : args.length = np) (hst : args.map .fr ++ List.replicate (ns - (args.map Sl.fr).length) .un = st) (q : Run (calls P n) body st k (Rets (Just r k))) :
    (calls P (n + 1)).cl f args k = some (r, k) := by
  obtain ⟨d, k', e, rfl, rfl⟩ := call_run h hl hst q
  exact e
/-- a call with a lambda -/
theorem callx_just {P : Pr} {n f np ns li : Nat} {body : List S} {args cs : List D} {st : St} {k : Nat} {r : D} (h : P.fns[f]? = some (.py np ns body)) (hl : args.length + 1 = np) (hst : args.map Sl.fr ++ [Sl.cl li cs] ++ List.replicate (ns - (args.map Sl.fr ++ [Sl.cl li cs]).length) .un = st) (q : Run (calls P n) body st k (Rets (Just r k))) :
    (calls P (n + 1)).cx f args li cs k = some (r, k) := by
  subst hst
  obtain ⟨d, k', e, rfl, rfl⟩ := runB_run q
  show (match P.fns[f]? with | some fd => runX (calls P n) fd args li cs | none => no) _ = _
  rw [h]
  show (if args.length + 1 = np then runB (calls P n) ns body (args.map .fr ++ [.cl li cs]) else no) _ = _
  rw [if_pos hl]
  exact e
theorem callc_eq {P : Pr} {n li np nc ns : Nat} {body : E} {args cs : List D} {k : Nat} (h : P.lams[li]? = some ⟨np, nc, ns, body⟩) (h1 : args.length = np) (h2 : cs.length = nc) :
    (calls P (n + 1)).cc li cs args k = ev (calls P n) body (args.map .fr ++ (cs.map .fr ++ List.replicate (ns - np - nc) .un)) k := by
  show (match P.lams[li]? with | some ld => runL (calls P n) ld cs args | none => no) k = _
  rw [h]
  show (if args.length = np ∧ cs.length = nc then ev (calls P n) body (args.map .fr ++ (cs.map .fr ++ List.replicate (ns - np - nc) .un)) else no) k = _
  rw [if_pos ⟨h1, h2⟩]
theorem law_run {C : Cs} {n it : Nat} {body : List S} {ns : List Int} (r : Run C body (lawSt n it ns) 0 (Rets fun d _ => d = .bl true)) : ∃ k, lawRun C n it body ns 0 = some (.bl true, k) := by
  obtain ⟨st', fl, k', e, q⟩ := r
  unfold lawRun
  cases fl with
  | rt d =>
    have q : d = .bl true := q
    subst q
    exact ⟨k', by rw [kb, e]; rfl⟩
  | nx => cases (show D.non = .bl true from q)
  | bk => exact q.elim
  | ct => exact q.elim
theorem PR_fn {ex : List Fd} {i : Nat} {f : Fd} (h : progFns[i]? = some f) : (PR ex).fns[i]? = some f := by
  show (progFns ++ ex)[i]? = some f
  rcases Nat.lt_or_ge i progFns.length with z | z
  · rw [List.getElem?_append_left z]; exact h
  · rw [List.getElem?_eq_none z] at h; cases h
theorem PR_ex {ex : List Fd} {i : Nat} {f : Fd} (h : ex[i]? = some f) : (PR ex).fns[progFns.length + i]? = some f := by
  show (progFns ++ ex)[progFns.length + i]? = some f
  rw [List.getElem?_append_right (Nat.le_add_right _ _), Nat.add_sub_cancel_left]
  exact h
/-! ### comprehensions -/
theorem lcM_eq {α : Type} {f : D → M (Option D)} {c : α → D} {o : α → Option D} : ∀ {l : List α}, (∀ a ∈ l, ∀ k, f (c a) k = some (o a, k)) → ∀ k, lcM f (l.map c) k = some (l.filterMap o, k)
  | [], _, _ => rfl
  | x :: xs, h, k => by
    have h1 := h x List.mem_cons_self k
    have h2 := lcM_eq (f := f) (c := c) (o := o) (l := xs) (fun d hd => h d (List.mem_cons_of_mem _ hd)) k
    rw [List.map_cons]
    unfold lcM
    rw [kb, h1]
    show ((lcM f (xs.map c)) >>= _) k = _
    rw [kb, h2]
    cases e : o x <;> simp [e, kp]
theorem fmap_some {α β : Type} {g : α → β} {l : List α} : l.filterMap (fun a => some (g a)) = l.map g := by
  induction l with
  | nil => rfl
  | cons x xs ih => simp [ih]
theorem fmap_if {α β : Type} {p : α → Bool} {f : α → β} {l : List α} : l.filterMap (fun w => if p w = true then some (f w) else none) = (l.filter p).map f := by
  induction l with
  | nil => rfl
  | cons x xs ih =>
    rw [List.filterMap_cons, List.filter_cons]
    by_cases h : p x = true
    · simp [h, ih]
    · simp [h, ih]
section
variable {C : Cs} {st : St} {k k1 : Nat} {sk : Sk} {a b c cond elt : E} {i j : Nat} {own : List Nat}
theorem ev_lcG {α : Type} {t : Tg} (cc : α → D) (l : List α) (o : α → Option D) (hs : srcE C sk a b c st k = some (l.map cc, k1))
    (hb : ∀ x ∈ l, ∀ k, (do let st' ← bindTg t (cc x) (wipe st own); let q ← ev C cond st'; let g ← tru q; if g then do let e ← ev C elt st'; pure (some e) else pure none : M (Option D)) k = some (o x, k)) :
    ev C (.lc t sk a b c cond elt own) st k = some (.lst (l.filterMap o), k1) := by
  rw [ev]
  have : (do let x ← ev C a st; let y ← ev C b st; let z ← ev C c st; let l ← srcD sk x y z; let r ← lcM (fun d => do let st' ← bindTg t d (wipe st own); let q ← ev C cond st'; let g ← tru q; if g then do let e ← ev C elt st'; pure (some e) else pure none) l; pure (.lst r) : M D) =
      (srcE C sk a b c st >>= fun l => do let r ← lcM (fun d => do let st' ← bindTg t d (wipe st own); let q ← ev C cond st'; let g ← tru q; if g then do let e ← ev C elt st'; pure (some e) else pure none) l; pure (.lst r)) := by
    unfold srcE
    simp only [bind_assoc]
  rw [this, kb, hs]
  show ((lcM _ (l.map cc)) >>= _) k1 = _
  rw [kb, lcM_eq hb k1]
  rfl
/-- [f x for x in l] -/
theorem ev_map1 {α : Type} (cc : α → D) (l : List α) (f : α → D) (hs : srcE C sk a b c st k = some (l.map cc, k1)) (he : ∀ x ∈ l, ∀ k, ev C elt ((wipe st own).set i (.fr (cc x))) k = some (f x, k)) :
    ev C (.lc (.one i) sk a b c (.c (.bl true)) elt own) st k = some (.lst (l.map f), k1) := by
  rw [← fmap_some]
  refine ev_lcG cc l _ hs fun x hx k => ?_
  rw [bt1, ev, pure_bind]
  show ((pure true : M Bool) >>= fun g => _) k = _
  rw [pure_bind, if_pos rfl, kb, he x hx k]
  rfl
theorem ev_map2 {α : Type} (c1 c2 : α → D) (l : List α) (f : α → D) (hs : srcE C sk a b c st k = some (l.map (fun x => .tup [c1 x, c2 x]), k1)) (he : ∀ x ∈ l, ∀ k, ev C elt (((wipe st own).set i (.fr (c1 x))).set j (.fr (c2 x))) k = some (f x, k)) :
    ev C (.lc (.two i j) sk a b c (.c (.bl true)) elt own) st k = some (.lst (l.map f), k1) := by
  rw [← fmap_some]
  refine ev_lcG (fun x => .tup [c1 x, c2 x]) l _ hs fun x hx k => ?_
  rw [bt2, ev, pure_bind]
  show ((pure true : M Bool) >>= fun g => _) k = _
  rw [pure_bind, if_pos rfl, kb, he x hx k]
  rfl
/-- [f x for x in l if p x] -/
theorem ev_fil1 {α : Type} (cc : α → D) (l : List α) (p : α → Bool) (f : α → D) (hs : srcE C sk a b c st k = some (l.map cc, k1)) (hc : ∀ x ∈ l, ∀ k, ev C cond ((wipe st own).set i (.fr (cc x))) k = some (.bl (p x), k)) (he : ∀ x ∈ l, p x = true → ∀ k, ev C elt ((wipe st own).set i (.fr (cc x))) k = some (f x, k)) :
    ev C (.lc (.one i) sk a b c cond elt own) st k = some (.lst ((l.filter p).map f), k1) := by
  rw [← fmap_if]
  refine ev_lcG cc l _ hs fun x hx k => ?_
  rw [bt1, kb, hc x hx k]
  show ((pure (p x) : M Bool) >>= fun g => (if g = true then _ else _ : M (Option D))) k = _
  rw [pure_bind]
  by_cases h : p x = true
  · rw [if_pos h, if_pos h, kb, he x hx h k]
    rfl
  · rw [if_neg h, if_neg h]
    rfl
theorem ev_fil2 {α : Type} (c1 c2 : α → D) (l : List α) (p : α → Bool) (f : α → D) (hs : srcE C sk a b c st k = some (l.map (fun x => .tup [c1 x, c2 x]), k1)) (hc : ∀ x ∈ l, ∀ k, ev C cond (((wipe st own).set i (.fr (c1 x))).set j (.fr (c2 x))) k = some (.bl (p x), k)) (he : ∀ x ∈ l, p x = true → ∀ k, ev C elt (((wipe st own).set i (.fr (c1 x))).set j (.fr (c2 x))) k = some (f x, k)) :
    ev C (.lc (.two i j) sk a b c cond elt own) st k = some (.lst ((l.filter p).map f), k1) := by
  rw [← fmap_if]
  refine ev_lcG (fun x => .tup [c1 x, c2 x]) l _ hs fun x hx k => ?_
  rw [bt2, kb, hc x hx k]
  show ((pure (p x) : M Bool) >>= fun g => (if g = true then _ else _ : M (Option D))) k = _
  rw [pure_bind]
  by_cases h : p x = true
  · rw [if_pos h, if_pos h, kb, he x hx h k]
    rfl
  · rw [if_neg h, if_neg h]
    rfl
/-- [draws for x in l]: each turn ticks, what comes has P -/
theorem lcM_tick {α : Type} {f : D → M (Option D)} {c : α → D} {P : α → D → Prop} {t B : Nat} : ∀ {l : List α} {k : Nat}, k + l.length * t ≤ B → (∀ a ∈ l, ∀ k, k + t ≤ B → ∃ d k', f (c a) k = some (some d, k') ∧ k' ≤ k + t ∧ P a d) →
    ∃ ds k', lcM f (l.map c) k = some (ds, k') ∧ k' ≤ k + l.length * t ∧ ds.length = l.length ∧ ∀ (j : Nat) (a : α) (d : D), l[j]? = some a → ds[j]? = some d → P a d
  | [], k, _, _ => ⟨[], k, rfl, by simp, rfl, fun j a d h => by simp at h⟩
  | x :: xs, k, hk, h => by
    rw [List.length_cons, Nat.succ_mul] at hk
    obtain ⟨d, k1, e1, h1, p1⟩ := h x List.mem_cons_self k (by omega)
    obtain ⟨ds, k2, e2, h2, h3, h4⟩ := lcM_tick (f := f) (c := c) (P := P) (l := xs) (k := k1) (by omega) (fun a ha => h a (List.mem_cons_of_mem _ ha))
    refine ⟨d :: ds, k2, ?_, by rw [List.length_cons, Nat.succ_mul]; omega, by simp [h3], fun j a d' z1 z2 => ?_⟩
    · rw [List.map_cons]
      unfold lcM
      rw [kb, e1]
      show ((lcM f (xs.map c)) >>= _) k1 = _
      rw [kb, e2]
      rfl
    · cases j with
      | zero => cases z1; cases z2; exact p1
      | succ j => exact h4 j a d' (by simpa using z1) (by simpa using z2)
theorem ev_mapT {α : Type} {t B : Nat} (cc : α → D) (l : List α) (P : α → D → Prop) (hs : srcE C sk a b c st k = some (l.map cc, k1)) (hB : k1 + l.length * t ≤ B) (he : ∀ x ∈ l, ∀ k, k + t ≤ B → ∃ d k', ev C elt ((wipe st own).set i (.fr (cc x))) k = some (d, k') ∧ k' ≤ k + t ∧ P x d) :
    ∃ ds k', ev C (.lc (.one i) sk a b c (.c (.bl true)) elt own) st k = some (.lst ds, k') ∧ k' ≤ k1 + l.length * t ∧ ds.length = l.length ∧ ∀ (j : Nat) (x : α) (d : D), l[j]? = some x → ds[j]? = some d → P x d := by
  obtain ⟨ds, k', e1, h1, h2, h3⟩ := lcM_tick (f := fun d => (do let st' ← bindTg (.one i) d (wipe st own); let q ← ev C (.c (.bl true)) st'; let g ← tru q; if g then do let e ← ev C elt st'; pure (some e) else pure none : M (Option D))) (c := cc) (P := P) (l := l) (k := k1) hB (fun x hx k hk => by
    obtain ⟨d, k', e2, h4, p⟩ := he x hx k hk
    refine ⟨d, k', ?_, h4, p⟩
    rw [bt1, ev, pure_bind]
    show ((pure true : M Bool) >>= fun g => _) k = _
    rw [pure_bind, if_pos rfl, kb, e2]
    rfl)
  refine ⟨ds, k', ?_, h1, h2, h3⟩
  rw [ev]
  have : (do let x ← ev C a st; let y ← ev C b st; let z ← ev C c st; let l ← srcD sk x y z; let r ← lcM (fun d => do let st' ← bindTg (.one i) d (wipe st own); let q ← ev C (.c (.bl true)) st'; let g ← tru q; if g then do let e ← ev C elt st'; pure (some e) else pure none) l; pure (.lst r) : M D) =
      (srcE C sk a b c st >>= fun l => do let r ← lcM (fun d => do let st' ← bindTg (.one i) d (wipe st own); let q ← ev C (.c (.bl true)) st'; let g ← tru q; if g then do let e ← ev C elt st'; pure (some e) else pure none) l; pure (.lst r)) := by
    unfold srcE
    simp only [bind_assoc]
  rw [this, kb, hs]
  show ((lcM _ (l.map cc)) >>= _) k1 = _
  rw [kb, e1]
  rfl
end
/-! ### one step of an expression -/
section
variable {C : Cs} {st : St} {k k1 k2 k3 : Nat} {a b c : E} {x y z : D} {r : D × Nat}
theorem evc_cmp {o : Cp} (h1 : ev C a st k = some (x, k1)) (h2 : ev C b st k1 = some (y, k2)) (h3 : cmpM o x y k2 = some r) : ev C (.cmp o a b) st k = some r := by
  rw [ev, kb, h1]
  show ((ev C b st) >>= _) k1 = _
  rw [kb, h2]
  exact h3
theorem evc_inn {n : Bool} (h1 : ev C a st k = some (x, k1)) (h2 : ev C b st k1 = some (y, k2)) (h3 : inM n x y k2 = some r) : ev C (.inn n a b) st k = some r := by
  rw [ev, kb, h1]
  show ((ev C b st) >>= _) k1 = _
  rw [kb, h2]
  exact h3
theorem evc_add (h1 : ev C a st k = some (x, k1)) (h2 : ev C b st k1 = some (y, k2)) (h3 : addD x y k2 = some r) : ev C (.add a b) st k = some r := by
  rw [ev, kb, h1]
  show ((ev C b st) >>= _) k1 = _
  rw [kb, h2]
  exact h3
theorem evc_ix (h1 : ev C a st k = some (x, k1)) (h2 : ev C b st k1 = some (y, k2)) (h3 : ixD x y k2 = some r) : ev C (.ix a b) st k = some r := by
  rw [ev, kb, h1]
  show ((ev C b st) >>= _) k1 = _
  rw [kb, h2]
  exact h3
theorem evc_b1 {f : F1} (h1 : ev C a st k = some (x, k1)) (h2 : f1D f x k1 = some r) : ev C (.b1 f a) st k = some r := by
  rw [ev, kb, h1]
  exact h2
theorem evc_isn {n : Bool} (h1 : ev C a st k = some (x, k1)) : ev C (.isn n a) st k = some (isnD n x, k1) := by
  rw [ev, kb, h1]
  rfl
theorem evc_not {v : Bool} (h1 : ev C a st k = some (x, k1)) (h2 : tru x k1 = some (v, k2)) : ev C (.not a) st k = some (.bl (!v), k2) := by
  rw [ev, kb, h1]
  show ((tru x) >>= _) k1 = _
  rw [kb, h2]
  rfl
/-- x or y: x fails -/
theorem evc_orF {es : List E} (h1 : ev C a st k = some (.bl false, k1)) (h2 : ev C (.or (b :: es)) st k1 = some r) : ev C (.or (a :: b :: es)) st k = some r := by
  rw [ev, evOr, kb, h1]
  · show ((tru (.bl false)) >>= _) k1 = _
    rw [kb, tru_bl]
    rw [ev] at h2
    exact h2
  · intro h; cases h
theorem evc_or1 (h1 : ev C a st k = some r) : ev C (.or [a]) st k = some r := by
  rw [ev, evOr]
  exact h1
theorem evc_andT {es : List E} (h1 : ev C a st k = some (.bl true, k1)) (h2 : ev C (.and (b :: es)) st k1 = some r) : ev C (.and (a :: b :: es)) st k = some r := by
  rw [ev, evAnd, kb, h1]
  · show ((tru (.bl true)) >>= _) k1 = _
    rw [kb, tru_bl]
    rw [ev] at h2
    exact h2
  · intro h; cases h
theorem evc_andF {es : List E} (h1 : ev C a st k = some (.bl false, k1)) : ev C (.and (a :: b :: es)) st k = some (.bl false, k1) := by
  rw [ev, evAnd, kb, h1]
  · rfl
  · intro h; cases h
theorem evc_and1 (h1 : ev C a st k = some r) : ev C (.and [a]) st k = some r := by
  rw [ev, evAnd]
  exact h1
theorem evc_call {f : Nat} {es : List E} {ds : List D} (h1 : evs C es st k = some (ds, k1)) (h2 : C.cl f ds k1 = some r) : ev C (.call f es) st k = some r := by
  rw [ev, kb, h1]
  exact h2
theorem evs_nil : evs C [] st k = some ([], k) := by
  rw [evs]
  rfl
theorem evs_cons {es : List E} {ds : List D} (h1 : ev C a st k = some (x, k1)) (h2 : evs C es st k1 = some (ds, k2)) : evs C (a :: es) st k = some (x :: ds, k2) := by
  rw [evs, kb, h1]
  show ((evs C es st) >>= _) k1 = _
  rw [kb, h2]
  rfl
end
/-! ### sources -/
section
variable {C : Cs} {st : St} {k k1 k2 : Nat} {a b c : E}
theorem rangeL_eq (m : Nat) : rangeL 0 m 1 = (List.range m).map fun (i : Nat) => .int i := by
  unfold rangeL
  congr 1
  funext i
  simp
theorem rangeL2_eq (a n : Nat) : rangeL a n 1 = (List.range' a n).map fun (i : Nat) => .int i := by
  unfold rangeL
  rw [List.range'_eq_map_range, List.map_map]
  congr 1
  funext i
  show D.int ((a : Int) + (i : Int) * 1) = D.int (((a + i : Nat) : Int))
  congr 1
  omega
theorem smallI_nat {m : Nat} (h : m ≤ 8388608) : smallI (m : Int) = true := absLe_of.mpr h
theorem src_r1 {n : Nat} (h : ev C a st k = some (.int (n : Nat), k1)) (hn : n ≤ 8388608) : srcE C .r1 a (.c .non) (.c .non) st k = some ((List.range n).map (fun (i : Nat) => .int i), k1) := by
  unfold srcE
  rw [kb, h, ev]
  show (if smallI (n : Int) = true then (pure (rangeL 0 (n : Int).toNat 1) : M (List D)) else no) k1 = _
  rw [if_pos (smallI_nat hn), ← rangeL_eq]
  rfl
theorem src_r2 {m n : Nat} (h : ev C a st k = some (.int (m : Nat), k1)) (h' : ev C b st k1 = some (.int (n : Nat), k2)) (hm : m ≤ 8388608) (hn : n ≤ 8388608) : srcE C .r2 a b (.c .non) st k = some ((List.range' m (n - m)).map (fun (i : Nat) => .int i), k2) := by
  unfold srcE
  rw [kb, h]
  show ((ev C b st) >>= _) k1 = _
  rw [kb, h', ev]
  show (if (smallI (m : Int) && smallI (n : Int)) = true then (pure (rangeL m ((n : Int) - (m : Int)).toNat 1) : M (List D)) else no) k2 = _
  have e : ((n : Int) - (m : Int)).toNat = n - m := by omega
  rw [smallI_nat hm, smallI_nat hn, e, ← rangeL2_eq]
  rfl
theorem src_tup {l : List D} (h : ev C a st k = some (.tup l, k1)) : srcE C .it a (.c .non) (.c .non) st k = some (l, k1) := by
  unfold srcE
  rw [kb, h, ev]
  rfl
theorem src_lst {l : List D} (h : ev C a st k = some (.lst l, k1)) : srcE C .it a (.c .non) (.c .non) st k = some (l, k1) := by
  unfold srcE
  rw [kb, h, ev]
  rfl
theorem src_enT {l : List D} (h : ev C a st k = some (.tup l, k1)) : srcE C .en a (.c .non) (.c .non) st k = some (l.zipIdx.map (fun p => .tup [.int p.2, p.1]), k1) := by
  unfold srcE
  rw [kb, h, ev]
  rfl
theorem src_zpT {l m : List D} (h : ev C a st k = some (.tup l, k1)) (h' : ev C b st k1 = some (.tup m, k2)) : srcE C .zp a b (.c .non) st k = some (List.zipWith (fun a b => .tup [a, b]) l m, k2) := by
  unfold srcE
  rw [kb, h]
  show ((ev C b st) >>= _) k1 = _
  rw [kb, h', ev]
  rfl
end
end G

namespace G
/-! ### plain values as data -/
mutual
theorem okd_mono : ∀ (n : Nat) (d : D), okd n d = true → okd (n + 1) d = true
  | _, .non, _ => rfl
  | _, .bl _, _ => rfl
  | _, .int _, _ => rfl
  | n, .str s, h => by cases n <;> exact h
  | 0, .tup _, h => by simp [okd] at h
  | n + 1, .tup l, h => by
    show okds (n + 1) l = true
    exact okds_mono n l (show okds n l = true from h)
  | 0, .lst _, h => by simp [okd] at h
  | n + 1, .lst l, h => by
    show okds (n + 1) l = true
    exact okds_mono n l (show okds n l = true from h)
  | 0, .dic _ _, h => by simp [okd] at h
  | n + 1, .dic _ _, h => by simp [okd] at h
  | 0, .town, h => by simp [okd] at h
  | n + 1, .town, h => by simp [okd] at h
  | 0, .scr _, h => by simp [okd] at h
  | 0, .sk _, h => by simp [okd] at h
  | n + 1, .scr _, h => by simp [okd] at h
theorem okds_mono : ∀ (n : Nat) (l : List D), okds n l = true → okds (n + 1) l = true
  | _, [], _ => rfl
  | n, x :: xs, h => by
    simp only [okds, Bool.and_eq_true] at h ⊢
    exact ⟨okd_mono n x h.1, okds_mono n xs h.2⟩
end
theorem okd_le {n m : Nat} {d : D} (h : okd n d = true) (hm : n ≤ m) : okd m d = true := by
  induction m with
  | zero => rw [show n = 0 by omega] at h; exact h
  | succ m ih =>
    by_cases e : n = m + 1
    · rw [← e]; exact h
    · exact okd_mono m d (ih (by omega))
theorem okds_all {n : Nat} : ∀ {l : List D}, okds n l = true ↔ ∀ d ∈ l, okd n d = true
  | [] => by simp [okds]
  | x :: xs => by simp [okds, okds_all (l := xs)]
/-- a type of plain values: they stand as data, equal just if equal, all of one kind, in an order -/
class Enc (α : Type) [DecidableEq α] where
  enc : α → D
  dep : Nat
  ok : ∀ a, okd dep (enc a) = true
  eq : ∀ a b, eqv (enc a) (enc b) = decide (a = b)
  like : ∀ a b, like (enc a) (enc b) = true
  nn : ∀ a, enc a ≠ .non
  ltb : α → α → Bool
  lt : ∀ a b, lt (enc a) (enc b) = ltb a b
abbrev enc {α : Type} [DecidableEq α] [Enc α] (a : α) : D := Enc.enc a
instance : Enc Nat where
  enc n := .int n
  dep := 0
  ok _ := rfl
  eq a b := by
    show ((a : Int) == b) = _
    by_cases h : a = b <;> simp [h]
    omega
  like _ _ := rfl
  nn _ z := nomatch z
  ltb a b := decide (a < b)
  lt a b := by
    show decide ((a : Int) < b) = _
    by_cases h : a < b <;> simp [h] <;> omega
instance : Enc Bool where
  enc b := .bl b
  dep := 0
  ok _ := rfl
  eq a b := by cases a <;> cases b <;> rfl
  like _ _ := rfl
  nn _ z := nomatch z
  ltb a b := !a && b
  lt a b := rfl
section
variable {α β : Type} [DecidableEq α] [DecidableEq β] [Enc α] [Enc β]
theorem enc_ok {n : Nat} (a : α) (h : Enc.dep α ≤ n) : okd n (enc a) = true := okd_le (Enc.ok a) h
theorem encs_ok {n : Nat} (l : List α) (h : Enc.dep α ≤ n) : okds n (l.map enc) = true := okds_all.mpr fun d hd => by
  obtain ⟨a, _, rfl⟩ := List.mem_map.mp hd
  exact enc_ok a h
theorem encs_eq : ∀ (l m : List α), eqvs (l.map enc) (m.map enc) = decide (l = m)
  | [], [] => rfl
  | [], _ :: _ => rfl
  | _ :: _, [] => rfl
  | a :: l, b :: m => by
    show (eqv (enc a) (enc b) && eqvs (l.map enc) (m.map enc)) = _
    rw [Enc.eq, encs_eq l m]
    by_cases h1 : a = b <;> by_cases h2 : l = m <;> simp [h1, h2]
theorem encs_like : ∀ (l m : List α), likes (l.map enc) (m.map enc) = true
  | [], _ => by simp [likes]
  | _ :: _, [] => by simp [likes]
  | a :: l, b :: m => by
    show (G.like (enc a) (enc b) && likes (l.map enc) (m.map enc)) = true
    rw [Enc.like, encs_like l m]
    rfl
def ltbs {α : Type} [DecidableEq α] [Enc α] : List α → List α → Bool
  | [], [] => false
  | [], _ :: _ => true
  | _ :: _, [] => false
  | a :: l, b :: m => if a = b then ltbs l m else Enc.ltb a b
theorem encs_lt : ∀ (l m : List α), lts (l.map enc) (m.map enc) = ltbs l m
  | [], [] => rfl
  | [], _ :: _ => rfl
  | _ :: _, [] => rfl
  | a :: l, b :: m => by
    show (if eqv (enc a) (enc b) = true then lts (l.map enc) (m.map enc) else G.lt (enc a) (enc b)) = (if a = b then ltbs l m else Enc.ltb a b)
    rw [Enc.eq, Enc.lt, encs_lt l m]
    by_cases h : a = b <;> simp [h]
instance : Enc (List α) where
  enc l := .tup (l.map enc)
  dep := Enc.dep α + 1
  ok l := encs_ok l (Nat.le_refl _)
  eq l m := encs_eq l m
  like l m := encs_like l m
  nn _ z := nomatch z
  ltb l m := ltbs l m
  lt l m := encs_lt l m
instance : Enc (α × β) where
  enc p := .tup [enc p.1, enc p.2]
  dep := max (Enc.dep α) (Enc.dep β) + 1
  ok p := by
    show (okd (max (Enc.dep α) (Enc.dep β)) (enc p.1) && (okd (max (Enc.dep α) (Enc.dep β)) (enc p.2) && true)) = true
    rw [enc_ok p.1 (Nat.le_max_left _ _), enc_ok p.2 (Nat.le_max_right _ _)]
    rfl
  eq p q := by
    show (eqv (enc p.1) (enc q.1) && (eqv (enc p.2) (enc q.2) && true)) = _
    rw [Enc.eq, Enc.eq]
    rcases p with ⟨a, b⟩
    rcases q with ⟨c, d⟩
    by_cases h1 : a = c <;> by_cases h2 : b = d <;> simp [h1, h2]
  like p q := by
    show (G.like (enc p.1) (enc q.1) && (G.like (enc p.2) (enc q.2) && true)) = true
    rw [Enc.like, Enc.like]
    rfl
  nn _ z := nomatch z
  ltb p q := if p.1 = q.1 then (if p.2 = q.2 then false else Enc.ltb p.2 q.2) else Enc.ltb p.1 q.1
  lt p q := by
    show (if eqv (enc p.1) (enc q.1) = true then (if eqv (enc p.2) (enc q.2) = true then false else G.lt (enc p.2) (enc q.2)) else G.lt (enc p.1) (enc q.1)) = _
    rw [Enc.eq, Enc.eq, Enc.lt, Enc.lt]
    by_cases h1 : p.1 = q.1 <;> by_cases h2 : p.2 = q.2 <;> simp [h1, h2]
/-! ### what the operations do -/
variable {k : Nat}
theorem dec_eq {p : Prop} (i j : Decidable p) : @decide p i = @decide p j := by
  cases i <;> cases j <;> first | rfl | contradiction
theorem cmp_eq (a b : α) [i : Decidable (a = b)] (h : Enc.dep α ≤ 40) : cmpM .eq (enc a) (enc b) k = some (.bl (decide (a = b)), k) := by
  show ((if (okd 40 (enc a) && okd 40 (enc b)) = true then (pure (eqv (enc a) (enc b)) : M Bool) else no) >>= fun r => (pure (.bl r) : M D)) k = _
  rw [enc_ok a h, enc_ok b h, Enc.eq, dec_eq i]
  rfl
theorem cmp_ne (a b : α) [i : Decidable (a = b)] (h : Enc.dep α ≤ 40) : cmpM .ne (enc a) (enc b) k = some (.bl (decide (a ≠ b)), k) := by
  show ((if (okd 40 (enc a) && okd 40 (enc b)) = true then (pure (!eqv (enc a) (enc b)) : M Bool) else no) >>= fun r => (pure (.bl r) : M D)) k = _
  rw [enc_ok a h, enc_ok b h, Enc.eq]
  by_cases e : a = b <;> simp [e] <;> rfl
/-- lists -/
theorem cmp_eqL (l m : List α) [i : Decidable (l = m)] (h : Enc.dep α ≤ 39) : cmpM .eq (.lst (l.map enc)) (.lst (m.map enc)) k = some (.bl (decide (l = m)), k) := by
  show ((if (okds 39 (l.map enc) && okds 39 (m.map enc)) = true then (pure (eqvs (l.map enc) (m.map enc)) : M Bool) else no) >>= fun r => (pure (.bl r) : M D)) k = _
  rw [encs_ok l h, encs_ok m h, encs_eq, dec_eq i]
  rfl
theorem cmp_neL (l m : List α) [i : Decidable (l = m)] (h : Enc.dep α ≤ 39) : cmpM .ne (.lst (l.map enc)) (.lst (m.map enc)) k = some (.bl (decide (l ≠ m)), k) := by
  show ((if (okds 39 (l.map enc) && okds 39 (m.map enc)) = true then (pure (!eqvs (l.map enc) (m.map enc)) : M Bool) else no) >>= fun r => (pure (.bl r) : M D)) k = _
  rw [encs_ok l h, encs_ok m h, encs_eq]
  by_cases e : l = m <;> simp [e] <;> rfl
theorem has_any {l : List D} {x : D} : has l x = l.any fun y => eqv y x := by
  induction l with
  | nil => rfl
  | cons y ys ih => show (eqv y x || has ys x) = _; rw [ih]; rfl
theorem has_enc (l : List α) (a : α) : has (l.map enc) (enc a) = decide (a ∈ l) := by
  rw [has_any, List.any_map]
  induction l with
  | nil => simp
  | cons p ps ih =>
    rw [List.any_cons, ih]
    show (eqv (enc p) (enc a) || _) = _
    rw [Enc.eq]
    by_cases h1 : p = a <;> by_cases h2 : a ∈ ps <;> simp [h1, h2]
    exact fun z => h1 z.symm
theorem inn_tup (n : Bool) (a : α) (l : List α) (h : Enc.dep α ≤ 40) : inM n (enc a) (.tup (l.map enc)) k = some (.bl (xor n (decide (a ∈ l))), k) := by
  show ((if (okd 40 (enc a) && okds 40 (l.map enc)) = true then (pure (has (l.map enc) (enc a)) : M Bool) else no) >>= fun r => (pure (.bl (xor n r)) : M D)) k = _
  rw [enc_ok a h, encs_ok l h, has_enc]
  rfl
theorem inn_lst (n : Bool) (a : α) (l : List α) (h : Enc.dep α ≤ 40) : inM n (enc a) (.lst (l.map enc)) k = some (.bl (xor n (decide (a ∈ l))), k) := by
  show ((if (okd 40 (enc a) && okds 40 (l.map enc)) = true then (pure (has (l.map enc) (enc a)) : M Bool) else no) >>= fun r => (pure (.bl (xor n r)) : M D)) k = _
  rw [enc_ok a h, encs_ok l h, has_enc]
  rfl
theorem in_tup (a : α) (l : List α) [i : Decidable (a ∈ l)] (h : Enc.dep α ≤ 40) : inM false (enc a) (.tup (l.map enc)) k = some (.bl (decide (a ∈ l)), k) := by rw [inn_tup false a l h, Bool.false_xor, dec_eq i]
theorem ni_tup (a : α) (l : List α) [i : Decidable (a ∈ l)] (h : Enc.dep α ≤ 40) : inM true (enc a) (.tup (l.map enc)) k = some (.bl (!decide (a ∈ l)), k) := by rw [inn_tup true a l h, Bool.true_xor, dec_eq i]
theorem in_lst (a : α) (l : List α) [i : Decidable (a ∈ l)] (h : Enc.dep α ≤ 40) : inM false (enc a) (.lst (l.map enc)) k = some (.bl (decide (a ∈ l)), k) := by rw [inn_lst false a l h, Bool.false_xor, dec_eq i]
theorem ni_lst (a : α) (l : List α) [i : Decidable (a ∈ l)] (h : Enc.dep α ≤ 40) : inM true (enc a) (.lst (l.map enc)) k = some (.bl (!decide (a ∈ l)), k) := by rw [inn_lst true a l h, Bool.true_xor, dec_eq i]
end
/-! ### built-ins of lists of truths -/
theorem boolsL_eq {α : Type} {f : α → Bool} : ∀ {l : List α} (k : Nat), boolsL (l.map fun a => D.bl (f a)) k = some (l.map f, k)
  | [], _ => rfl
  | x :: xs, k => by
    show ((boolsL (xs.map fun a => D.bl (f a))) >>= fun bs => pure (f x :: bs)) k = _
    rw [kb, boolsL_eq k]
    rfl
theorem all_eq {α : Type} {f : α → Bool} (l : List α) (k : Nat) : f1D .all (.lst (l.map fun a => D.bl (f a))) k = some (.bl (l.all f), k) := by
  show ((boolsL (l.map fun a => D.bl (f a))) >>= fun bs => (pure (D.bl (bs.all id)) : M D)) k = _
  rw [kb, boolsL_eq k]
  show some (D.bl ((l.map f).all id), k) = _
  rw [List.all_map]
  rfl
theorem any_eq {α : Type} {f : α → Bool} (l : List α) (k : Nat) : f1D .any (.lst (l.map fun a => D.bl (f a))) k = some (.bl (l.any f), k) := by
  show ((boolsL (l.map fun a => D.bl (f a))) >>= fun bs => (pure (D.bl (bs.any id)) : M D)) k = _
  rw [kb, boolsL_eq k]
  show some (D.bl ((l.map f).any id), k) = _
  rw [List.any_map]
  rfl
/-! ### rows by place -/
theorem ix_tup {l : List D} {i : Nat} {d : D} {k : Nat} (h : l[i]? = some d) : ixD (.tup l) (.int (i : Nat)) k = some (d, k) := by
  show (opt (if (0 : Int) ≤ (i : Int) then l[(i : Int).toNat]? else _) : M D) k = _
  rw [if_pos (by omega)]
  show (opt l[i]? : M D) k = _
  rw [h]
  rfl
theorem ix_lst {l : List D} {i : Nat} {d : D} {k : Nat} (h : l[i]? = some d) : ixD (.lst l) (.int (i : Nat)) k = some (d, k) := by
  show (opt (if (0 : Int) ≤ (i : Int) then l[(i : Int).toNat]? else _) : M D) k = _
  rw [if_pos (by omega)]
  show (opt l[i]? : M D) k = _
  rw [h]
  rfl
theorem ix_enc {α : Type} [DecidableEq α] [Enc α] {l : List α} {i : Nat} {a : α} {k : Nat} (h : l[i]? = some a) : ixD (.tup (l.map enc)) (.int (i : Nat)) k = some (enc a, k) := ix_tup (by rw [List.getElem?_map, h]; rfl)
theorem ix_encL {α : Type} [DecidableEq α] [Enc α] {l : List α} {i : Nat} {a : α} {k : Nat} (h : l[i]? = some a) : ixD (.lst (l.map enc)) (.int (i : Nat)) k = some (enc a, k) := ix_lst (by rw [List.getElem?_map, h]; rfl)
theorem add_tup {a b : List D} {k : Nat} (h : a.length + b.length ≤ 16777216) : addD (.tup a) (.tup b) k = some (.tup (a ++ b), k) := by
  show (if a.length + b.length ≤ 16777216 then (pure (.tup (a ++ b)) : M D) else no) k = _
  rw [if_pos h]
  rfl
theorem add_lst {a b : List D} {k : Nat} (h : a.length + b.length ≤ 16777216) : addD (.lst a) (.lst b) k = some (.lst (a ++ b), k) := by
  show (if a.length + b.length ≤ 16777216 then (pure (.lst (a ++ b)) : M D) else no) k = _
  rw [if_pos h]
  rfl
theorem add_nat (a b : Nat) (k : Nat) : addD (.int a) (.int b) k = some (.int ((a + b : Nat) : Int), k) := rfl
theorem add1 (a : Nat) (k : Nat) : addD (.int a) (.int 1) k = some (.int ((a + 1 : Nat) : Int), k) := rfl
theorem mul_nat {a b : Nat} {k : Nat} (h : a ≤ 18446744073709551615) : mulD (.int a) (.int b) k = some (.int ((a * b : Nat) : Int), k) := by
  show (if (absLe (a : Int) 18446744073709551615 || absLe (b : Int) 18446744073709551615) = true then (pure (.int ((a : Int) * (b : Int))) : M D) else no) k = _
  rw [if_pos (by rw [Bool.or_eq_true]; exact .inl (absLe_of.mpr h))]
  show some (D.int ((a : Int) * (b : Int)), k) = _
  rw [Int.natCast_mul]
theorem fdv_nat {a b : Nat} {k : Nat} (h0 : 0 < b) (h : b ≤ 1073741823) : fdvD (.int a) (.int b) k = some (.int ((a / b : Nat) : Int), k) := by
  show (if 0 < (b : Int) ∧ absLe (b : Int) 1073741823 = true then (pure (.int ((a : Int) / (b : Int))) : M D) else no) k = _
  rw [if_pos ⟨by omega, absLe_of.mpr h⟩]
  rfl
theorem mod_nat {a b : Nat} {k : Nat} (h0 : 0 < b) : modD (.int a) (.int b) k = some (.int ((a % b : Nat) : Int), k) := by
  show (if 0 < (b : Int) then (pure (.int ((a : Int) % (b : Int))) : M D) else no) k = _
  rw [if_pos (by omega)]
  rfl
theorem lt_nat (a b : Nat) (k : Nat) : cmpM .lt (.int a) (.int b) k = some (.bl (decide (a < b)), k) := by
  show some (D.bl (decide ((a : Int) < b)), k) = _
  by_cases h : a < b <;> simp [h] <;> omega
theorem le_nat (a b : Nat) (k : Nat) : cmpM .le (.int a) (.int b) k = some (.bl (decide (a ≤ b)), k) := by
  show some (D.bl (decide ((a : Int) ≤ b)), k) = _
  by_cases h : a ≤ b <;> simp [h] <;> omega
theorem gt_nat (a b : Nat) (k : Nat) : cmpM .gt (.int a) (.int b) k = some (.bl (decide (b < a)), k) := by
  show some (D.bl (decide ((b : Int) < a)), k) = _
  by_cases h : b < a <;> simp [h] <;> omega
theorem ge_nat (a b : Nat) (k : Nat) : cmpM .ge (.int a) (.int b) k = some (.bl (decide (b ≤ a)), k) := by
  show some (D.bl (decide ((b : Int) ≤ a)), k) = _
  by_cases h : b ≤ a <;> simp [h] <;> omega
theorem eq_nat (a b : Nat) (k : Nat) : cmpM .eq (.int a) (.int b) k = some (.bl (decide (a = b)), k) := cmp_eq (α := Nat) a b (by decide)
theorem ne_nat (a b : Nat) (k : Nat) : cmpM .ne (.int a) (.int b) k = some (.bl (decide (a ≠ b)), k) := cmp_ne (α := Nat) a b (by decide)
theorem len_tup (l : List D) (k : Nat) : f1D .len (.tup l) k = some (.int (l.length : Nat), k) := rfl
theorem len_lst (l : List D) (k : Nat) : f1D .len (.lst l) k = some (.int (l.length : Nat), k) := rfl
theorem tuple_lst (l : List D) (k : Nat) : f1D .tuple (.lst l) k = some (.tup l, k) := rfl
theorem list_tup (l : List D) (k : Nat) : f1D .list (.tup l) k = some (.lst l, k) := rfl
theorem min_nat (a b : Nat) (k : Nat) : f2D .min (.int a) (.int b) k = some (.int ((min a b : Nat) : Int), k) := by
  show some (D.int (if (b : Int) < a then (b : Int) else a), k) = _
  have e : (if (b : Int) < a then (b : Int) else a) = ((min a b : Nat) : Int) := by split <;> omega
  rw [e]
theorem max_nat (a b : Nat) (k : Nat) : f2D .max (.int a) (.int b) k = some (.int ((max a b : Nat) : Int), k) := by
  show some (D.int (if (a : Int) < b then (b : Int) else a), k) = _
  have e : (if (a : Int) < b then (b : Int) else a) = ((max a b : Nat) : Int) := by split <;> omega
  rw [e]
end G

namespace G
variable {lf : List Fd} {n m k : Nat} {ps : List (Nat × Nat)}
/-! ### tables -/
abbrev tE (m : Nat) (ps : List (Nat × Nat)) : D := enc (m, ps)
abbrev wE (w : List Nat) : D := enc w
def mixB (ps : List (Nat × Nat)) (a b : Nat) : Bool := decide (a = b) || decide ((min a b, max a b) ∈ ps)
theorem t0 (q : Nat) : ixD (tE m ps) (.int 0) q = some (.int m, q) := rfl
theorem t1 (q : Nat) : ixD (tE m ps) (.int 1) q = some (.tup (ps.map enc), q) := rfl
theorem call_mixed (a b : Nat) : (calls (PR lf) (n + 1)).cl 5 [tE m ps, .int a, .int b] k = some (.bl (mixB ps a b), k) := by
  refine call_just (st := [_, _, _]) (PR_fn (f := .py 3 3 _) rfl) rfl rfl (Run.ret ?_ ⟨rfl, rfl⟩)
  have h2 : ∀ q, inM false (.tup [.int ((min a b : Nat) : Int), .int ((max a b : Nat) : Int)]) (.tup (ps.map enc)) q = some (.bl (decide ((min a b, max a b) ∈ ps)), q) := fun q => in_tup (min a b, max a b) ps (by decide)
  simp only [ev, evs, evAnd, evOr, kb, kp, getV, getB, List.getElem?_cons_succ, List.getElem?_cons_zero, Option.bind_some, List.set_cons_succ, List.set_cons_zero, tru_bl, if_true, if_false, Bool.false_eq_true, Bool.not_true, Bool.not_false, eq_nat, tru_bl, t1, min_nat, max_nat, h2]
  unfold mixB
  by_cases h : a = b <;> simp [h, kp]
  simp only [ev, evs, evAnd, evOr, kb, kp, getV, getB, List.getElem?_cons_succ, List.getElem?_cons_zero, Option.bind_some, List.set_cons_succ, List.set_cons_zero, tru_bl, if_true, if_false, Bool.false_eq_true, Bool.not_true, Bool.not_false, t1, min_nat, max_nat, h2]
/-- a table by what may be mistaken -/
def pairsOf (m : Nat) (A : Nat → Nat → Bool) : List (Nat × Nat) := (List.range m).flatMap fun i => ((List.range' (i + 1) (m - (i + 1))).filter (A i)).map fun j => (i, j)
theorem mem_pairsOf {A : Nat → Nat → Bool} {p : Nat × Nat} : p ∈ pairsOf m A ↔ p.1 < p.2 ∧ p.2 < m ∧ A p.1 p.2 = true := by
  unfold pairsOf
  simp only [List.mem_flatMap, List.mem_range, List.mem_map, List.mem_filter, List.mem_range'_1]
  constructor
  · rintro ⟨i, hi, j, ⟨⟨h1, h2⟩, h3⟩, rfl⟩
    exact ⟨by show i < j; omega, by show j < m; omega, h3⟩
  · rintro ⟨h1, h2, h3⟩
    exact ⟨p.1, by omega, p.2, ⟨⟨by omega, by omega⟩, h3⟩, rfl⟩
theorem sum_le {l : List Nat} {c : Nat} (h : ∀ x ∈ l, x ≤ c) : l.sum ≤ l.length * c := by
  induction l with
  | nil => simp
  | cons x xs ih =>
    have := ih fun y hy => h y (List.mem_cons_of_mem _ hy)
    have := h x List.mem_cons_self
    rw [List.sum_cons, List.length_cons, Nat.succ_mul]
    omega
theorem pairsOf_len (m : Nat) (A : Nat → Nat → Bool) (l : List Nat) : ((l.flatMap fun i => ((List.range' (i + 1) (m - (i + 1))).filter (A i)).map fun j => (i, j))).length ≤ l.length * m := by
  rw [List.length_flatMap]
  refine Nat.le_trans (sum_le (c := m) fun x hx => ?_) (by simp)
  obtain ⟨i, _, rfl⟩ := List.mem_map.mp hx
  rw [List.length_map]
  refine Nat.le_trans (List.length_filter_le _ _) ?_
  rw [List.length_range']
  omega
theorem call_table_by (A : Nat → Nat → Bool) (hm : m ≤ 2000) (li : Nat) (cs : List D) (hA : ∀ i j q, i < j → j < m → (calls (PR lf) n).cc li cs [.int (i : Nat), .int (j : Nat)] q = some (.bl (A i j), q)) :
    (calls (PR lf) (n + 1)).cx 7 [.int m] li cs k = some (tE m (pairsOf m A), k) := by
  refine callx_just (st := [.fr (.int m), .cl li cs, .un, .un, .un]) (PR_fn (f := .py 2 5 _) rfl) rfl rfl ?_
  refine Run.own (d := .lst []) (k1 := k) (by simp only [ev, evs, evAnd, evOr, kb, kp, getV, getB, List.getElem?_cons_succ, List.getElem?_cons_zero, Option.bind_some, List.set_cons_succ, List.set_cons_zero, tru_bl, if_true, if_false, Bool.false_eq_true, Bool.not_true, Bool.not_false]) ?_
  refine Run.for1 (k1 := k) (fun (i : Nat) => .int i) (List.range m) (fun pre st q => q = k ∧ ∃ a3, st = [.fr (.int m), .cl li cs, .ow (.lst ((pre.flatMap fun i => ((List.range' (i + 1) (m - (i + 1))).filter (A i)).map fun j => (i, j)).map enc)), a3, .un])
    (src_r1 (by simp only [ev, evs, evAnd, evOr, kb, kp, getV, getB, List.getElem?_cons_succ, List.getElem?_cons_zero, Option.bind_some, List.set_cons_succ, List.set_cons_zero, tru_bl, if_true, if_false, Bool.false_eq_true, Bool.not_true, Bool.not_false]) (by omega)) ⟨rfl, _, rfl⟩ (fun pre i post st q hp hi => ?_) (fun st q hi => ?_)
  · obtain ⟨rfl, a3, rfl⟩ := hi
    have him : i < m := by
      have : i ∈ List.range m := by rw [hp]; simp
      simpa using this
    have hpl : pre.length < m := by
      have := congrArg List.length hp
      simp at this
      omega
    refine Run.ext (m := (((List.range' (i + 1) (m - (i + 1))).filter (A i)).map fun j => (i, j)).map enc) (k1 := q) ?_ rfl ?_ ?_
    · have hs : srcE (calls (PR lf) n) .r2 (.add (.v 3) (.c (.int 1))) (.v 0) (.c .non) [.fr (.int m), .cl li cs, .ow (.lst ((pre.flatMap fun i => ((List.range' (i + 1) (m - (i + 1))).filter (A i)).map fun j => (i, j)).map enc)), .fr (.int i), .un] q = some ((List.range' (i + 1) (m - (i + 1))).map (fun (i : Nat) => .int i), q) :=
        src_r2 (k1 := q) (by simp only [ev, evs, evAnd, evOr, kb, kp, getV, getB, List.getElem?_cons_succ, List.getElem?_cons_zero, Option.bind_some, List.set_cons_succ, List.set_cons_zero, tru_bl, if_true, if_false, Bool.false_eq_true, Bool.not_true, Bool.not_false, add1]) (by simp only [ev, evs, evAnd, evOr, kb, kp, getV, getB, List.getElem?_cons_succ, List.getElem?_cons_zero, Option.bind_some, List.set_cons_succ, List.set_cons_zero, tru_bl, if_true, if_false, Bool.false_eq_true, Bool.not_true, Bool.not_false]) (by omega) (by omega)
      have hf := ev_fil1 (cond := .callv 1 [.v 3, .v 4]) (elt := .tup [.v 3, .v 4]) (i := 4) (own := [4]) (fun (i : Nat) => .int i) (List.range' (i + 1) (m - (i + 1))) (A i) (fun j => enc (i, j)) hs (fun j hj q => ?_) (fun j hj _ q => ?_)
      · rw [List.map_map]
        exact hf
      · have hj2 := List.mem_range'_1.mp hj
        simp only [ev, evs, evAnd, evOr, kb, kp, getV, getB, List.getElem?_cons_succ, List.getElem?_cons_zero, Option.bind_some, List.set_cons_succ, List.set_cons_zero, tru_bl, if_true, if_false, Bool.false_eq_true, Bool.not_true, Bool.not_false, wipe, getC, hA i j _ (show i < j by omega) (show j < m by omega)]
      · simp only [ev, evs, evAnd, evOr, kb, kp, getV, getB, List.getElem?_cons_succ, List.getElem?_cons_zero, Option.bind_some, List.set_cons_succ, List.set_cons_zero, tru_bl, if_true, if_false, Bool.false_eq_true, Bool.not_true, Bool.not_false, wipe]
        rfl
    · have h1 := pairsOf_len m A pre
      have h2 : (((List.range' (i + 1) (m - (i + 1))).filter (A i)).map fun j => (i, j)).length ≤ m := by
        rw [List.length_map]
        refine Nat.le_trans (List.length_filter_le _ _) ?_
        rw [List.length_range']
        omega
      have h3 : pre.length * m ≤ 2000 * 2000 := Nat.mul_le_mul (by omega) hm
      rw [List.length_map, List.length_map]
      omega
    · refine Run.nil ⟨rfl, .fr (.int i), ?_⟩
      simp [List.flatMap_append]
  · obtain ⟨rfl, a3, rfl⟩ := hi
    refine Run.ret (d := tE m (pairsOf m A)) (k1 := q) ?_ ⟨rfl, rfl⟩
    simp only [ev, evs, evAnd, evOr, kb, kp, getV, getB, List.getElem?_cons_succ, List.getElem?_cons_zero, Option.bind_some, List.set_cons_succ, List.set_cons_zero, tru_bl, if_true, if_false, Bool.false_eq_true, Bool.not_true, Bool.not_false, tuple_lst]
    rfl
end G

namespace G
variable {lf : List Fd} {n m k : Nat} {ps : List (Nat × Nat)}
/-! ### lambdas of the program -/
theorem lam_eq {li np nc ns : Nat} {body : E} {args cs : List D} {st : St} (h : progLams[li]? = some ⟨np, nc, ns, body⟩) (h1 : args.length = np) (h2 : cs.length = nc) (hst : args.map .fr ++ (cs.map .fr ++ List.replicate (ns - np - nc) .un) = st) :
    (calls (PR lf) (n + 1)).cc li cs args k = ev (calls (PR lf) n) body st k := by
  subst hst
  exact callc_eq h h1 h2
theorem pairsOf_congr {A B : Nat → Nat → Bool} (h : ∀ i j, i < j → j < m → A i j = B i j) : pairsOf m A = pairsOf m B := by
  unfold pairsOf
  have : ∀ l : List Nat, (l.flatMap fun i => ((List.range' (i + 1) (m - (i + 1))).filter (A i)).map fun j => (i, j)) = (l.flatMap fun i => ((List.range' (i + 1) (m - (i + 1))).filter (B i)).map fun j => (i, j)) := fun l => by
    congr 1
    funext i
    congr 1
    apply List.filter_congr
    intro j hj
    have := List.mem_range'_1.mp hj
    exact h i j (by omega) (by omega)
  exact this _
theorem call_turned (hm : m ≤ 2000) : (calls (PR lf) (n + 4)).cl 8 [tE m ps] k = some (tE m (pairsOf m fun i j => !mixB ps i j), k) := by
  refine call_just (st := [_]) (PR_fn (f := .py 1 1 _) rfl) rfl rfl (Run.ret ?_ ⟨rfl, rfl⟩)
  have h := fun q => call_table_by (lf := lf) (n := n + 2) (k := q) (fun i j => !mixB ps i j) hm 0 [tE m ps] (fun i j q _ _ => by
    rw [lam_eq (st := [_, _, _]) (np := 2) (nc := 1) (ns := 3) rfl rfl rfl rfl]
    simp only [ev, evs, evAnd, evOr, kb, kp, getV, getB, List.getElem?_cons_succ, List.getElem?_cons_zero, Option.bind_some, List.set_cons_succ, List.set_cons_zero, tru_bl, if_true, if_false, Bool.false_eq_true, Bool.not_true, Bool.not_false, call_mixed, tru_bl])
  simp only [ev, evs, evAnd, evOr, kb, kp, getV, getB, List.getElem?_cons_succ, List.getElem?_cons_zero, Option.bind_some, List.set_cons_succ, List.set_cons_zero, tru_bl, if_true, if_false, Bool.false_eq_true, Bool.not_true, Bool.not_false, caps, t0, h]
theorem call_part (signs : List Nat) (hm : signs.length ≤ 2000) : (calls (PR lf) (n + 4)).cl 9 [tE m ps, wE signs] k = some (tE signs.length (pairsOf signs.length fun i j => mixB ps (signs.getD i 0) (signs.getD j 0)), k) := by
  refine call_just (st := [_, _]) (PR_fn (f := .py 2 2 _) rfl) rfl rfl (Run.ret ?_ ⟨rfl, rfl⟩)
  have hl : ∀ q, f1D .len (wE signs) q = some (.int (signs.length : Nat), q) := fun q => by
    show some (D.int ((signs.map enc).length : Nat), q) = _
    rw [List.length_map]
  have h := fun q => call_table_by (lf := lf) (n := n + 2) (k := q) (fun i j => mixB ps (signs.getD i 0) (signs.getD j 0)) hm 1 [tE m ps, wE signs] (fun i j q hij hj => by
    rw [lam_eq (st := [_, _, _, _]) (np := 2) (nc := 2) (ns := 4) rfl rfl rfl rfl]
    have e : ∀ i q, i < signs.length → ixD (wE signs) (.int (i : Nat)) q = some (.int (signs.getD i 0 : Nat), q) := fun i q hi => ix_enc (by rw [List.getD_eq_getElem?_getD, List.getElem?_eq_getElem hi]; rfl)
    simp only [ev, evs, evAnd, evOr, kb, kp, getV, getB, List.getElem?_cons_succ, List.getElem?_cons_zero, Option.bind_some, List.set_cons_succ, List.set_cons_zero, tru_bl, if_true, if_false, Bool.false_eq_true, Bool.not_true, Bool.not_false, call_mixed, e i _ (show i < signs.length by omega), e j _ hj])
  simp only [ev, evs, evAnd, evOr, kb, kp, getV, getB, List.getElem?_cons_succ, List.getElem?_cons_zero, Option.bind_some, List.set_cons_succ, List.set_cons_zero, tru_bl, if_true, if_false, Bool.false_eq_true, Bool.not_true, Bool.not_false, caps, hl, h]
/-! ### words -/
def wordsN (m : Nat) : Nat → List (List Nat)
  | 0 => [[]]
  | L + 1 => (wordsN m L).flatMap fun w => (List.range m).map fun s => w ++ [s]
theorem wordsN_len (m : Nat) : ∀ L, (wordsN m L).length = m ^ L
  | 0 => rfl
  | L + 1 => by
    show ((wordsN m L).flatMap _).length = _
    rw [List.length_flatMap]
    simp [wordsN_len m L, Nat.pow_succ, List.map_const', List.sum_replicate_nat]
theorem wordsN_mem {m : Nat} : ∀ {L : Nat} {w : List Nat}, w ∈ wordsN m L ↔ w.length = L ∧ ∀ s ∈ w, s < m
  | 0, w => by
    simp only [wordsN, List.mem_singleton]
    exact ⟨fun h => by subst h; simp, fun h => List.length_eq_zero_iff.mp h.1⟩
  | L + 1, w => by
    simp only [wordsN, List.mem_flatMap, List.mem_map, List.mem_range]
    constructor
    · rintro ⟨v, hv, s, hs, rfl⟩
      obtain ⟨h1, h2⟩ := wordsN_mem.mp hv
      refine ⟨by simp [h1], fun t ht => ?_⟩
      rcases List.mem_append.mp ht with h | h
      · exact h2 t h
      · rw [List.mem_singleton.mp h]; exact hs
    · rintro ⟨h1, h2⟩
      have hne : w ≠ [] := fun z => by rw [z] at h1; simp at h1
      refine ⟨w.dropLast, wordsN_mem.mpr ⟨by simp [h1], fun s hs => h2 s (List.dropLast_subset w hs)⟩, w.getLast hne, h2 _ (List.getLast_mem hne), List.dropLast_concat_getLast hne⟩
theorem call_words (hm : m ≤ 10000) {L : Nat} (hL : L ≤ 10000) (hw : ∀ i ≤ L, m ^ i ≤ 100000) : (calls (PR lf) (n + 1)).cl 11 [.int m, .int L] k = some (enc (wordsN m L), k) := by
  refine call_just (st := [.fr (.int m), .fr (.int L), .un, .un, .un, .un, .un]) (PR_fn (f := .py 2 7 _) rfl) rfl rfl ?_
  refine Run.set (d := .lst [.tup []]) (k1 := k) (by simp only [ev, evs, evAnd, evOr, kb, kp, getV, getB, List.getElem?_cons_succ, List.getElem?_cons_zero, Option.bind_some, List.set_cons_succ, List.set_cons_zero, tru_bl, if_true, if_false, Bool.false_eq_true, Bool.not_true, Bool.not_false]) ?_
  refine Run.for1 (k1 := k) (fun (i : Nat) => .int i) (List.range L) (fun pre st q => q = k ∧ ∃ a3 a4 a5, st = [.fr (.int m), .fr (.int L), .fr (.lst ((wordsN m pre.length).map enc)), a3, a4, a5, .un])
    (src_r1 (by simp only [ev, evs, evAnd, evOr, kb, kp, getV, getB, List.getElem?_cons_succ, List.getElem?_cons_zero, Option.bind_some, List.set_cons_succ, List.set_cons_zero, tru_bl, if_true, if_false, Bool.false_eq_true, Bool.not_true, Bool.not_false]) (by omega)) ⟨rfl, _, _, _, rfl⟩ (fun pre i post st q hp hi => ?_) (fun st q hi => ?_)
  · obtain ⟨rfl, a3, a4, a5, rfl⟩ := hi
    have hpl : pre.length < L := by
      have := congrArg List.length hp
      simp at this
      omega
    refine Run.own (d := .lst []) (k1 := q) (by simp only [ev, evs, evAnd, evOr, kb, kp, getV, getB, List.getElem?_cons_succ, List.getElem?_cons_zero, Option.bind_some, List.set_cons_succ, List.set_cons_zero, tru_bl, if_true, if_false, Bool.false_eq_true, Bool.not_true, Bool.not_false]) ?_
    refine Run.for1 (k1 := q) enc (wordsN m pre.length) (fun pr st r => r = q ∧ ∃ a5, st = [.fr (.int m), .fr (.int L), .fr (.lst ((wordsN m pre.length).map enc)), .fr (.int i), .ow (.lst ((pr.flatMap fun w => (List.range m).map fun s => w ++ [s]).map enc)), a5, .un])
      (src_lst (by simp only [ev, evs, evAnd, evOr, kb, kp, getV, getB, List.getElem?_cons_succ, List.getElem?_cons_zero, Option.bind_some, List.set_cons_succ, List.set_cons_zero, tru_bl, if_true, if_false, Bool.false_eq_true, Bool.not_true, Bool.not_false])) ⟨rfl, a5, rfl⟩ (fun pr w post st r hp2 hi => ?_) (fun st r hi => ?_)
    · obtain ⟨rfl, a5, rfl⟩ := hi
      have hwl : w.length = pre.length := (wordsN_mem.mp (by rw [hp2]; simp : w ∈ wordsN m pre.length)).1
      refine Run.ext (m := ((List.range m).map fun s => w ++ [s]).map enc) (k1 := r) ?_ rfl ?_ ?_
      · have h := ev_map1 (elt := .add (.v 5) (.tup [.v 6])) (i := 6) (own := [6]) (C := calls (PR lf) n) (st := [.fr (.int m), .fr (.int L), .fr (.lst ((wordsN m pre.length).map enc)), .fr (.int i), .ow (.lst ((pr.flatMap fun w => (List.range m).map fun s => w ++ [s]).map enc)), .fr (enc w), .un]) (fun (i : Nat) => .int i) (List.range m) (fun s => enc (w ++ [s])) (src_r1 (k := r) (k1 := r) (a := .v 0) (by simp only [ev, evs, evAnd, evOr, kb, kp, getV, getB, List.getElem?_cons_succ, List.getElem?_cons_zero, Option.bind_some, List.set_cons_succ, List.set_cons_zero, tru_bl, if_true, if_false, Bool.false_eq_true, Bool.not_true, Bool.not_false]) (by omega)) (fun s hs q => ?_)
        · rw [List.map_map]
          exact h
        · have e : addD (enc w) (.tup [.int (s : Nat)]) q = some (enc (w ++ [s]), q) := by
            rw [show enc (w ++ [s]) = .tup (w.map enc ++ [.int (s : Nat)]) by show D.tup ((w ++ [s]).map enc) = _; rw [List.map_append]; rfl]
            exact add_tup (by rw [List.length_map, hwl]; simp; omega)
          simp only [ev, evs, evAnd, evOr, kb, kp, getV, getB, List.getElem?_cons_succ, List.getElem?_cons_zero, Option.bind_some, List.set_cons_succ, List.set_cons_zero, tru_bl, if_true, if_false, Bool.false_eq_true, Bool.not_true, Bool.not_false, wipe, e]
      · have h1 := wordsN_len m (pre.length + 1)
        have h2 := hw (pre.length + 1) (by omega)
        have h3 : ((pr ++ [w]).flatMap fun w => (List.range m).map fun s => w ++ [s]).length ≤ (wordsN m (pre.length + 1)).length := by
          show _ ≤ ((wordsN m pre.length).flatMap _).length
          rw [hp2, show pr ++ w :: post = (pr ++ [w]) ++ post by simp, List.flatMap_append (xs := pr ++ [w]), List.length_append]
          omega
        simp only [List.flatMap_append, List.length_append, List.length_map, List.flatMap_cons, List.flatMap_nil, List.append_nil, List.length_range] at h3 ⊢
        omega
      · refine Run.nil ⟨rfl, .fr (enc w), ?_⟩
        simp [List.flatMap_append]
    · obtain ⟨rfl, a5, rfl⟩ := hi
      refine Run.fz (Run.set (d := .lst ((wordsN m (pre.length + 1)).map enc)) (k1 := r) (by simp only [ev, evs, evAnd, evOr, kb, kp, getV, getB, List.getElem?_cons_succ, List.getElem?_cons_zero, Option.bind_some, List.set_cons_succ, List.set_cons_zero, tru_bl, if_true, if_false, Bool.false_eq_true, Bool.not_true, Bool.not_false, fz, frz1]; rfl) (Run.nil ?_))
      refine ⟨rfl, .fr (.int i), .fr (.lst ((wordsN m (pre.length + 1)).map enc)), a5, ?_⟩
      simp [fz, frz1]
      rfl
  · obtain ⟨rfl, a3, a4, a5, rfl⟩ := hi
    refine Run.ret (d := enc (wordsN m L)) (k1 := q) ?_ ⟨rfl, rfl⟩
    simp only [ev, evs, evAnd, evOr, kb, kp, getV, getB, List.getElem?_cons_succ, List.getElem?_cons_zero, Option.bind_some, List.set_cons_succ, List.set_cons_zero, tru_bl, if_true, if_false, Bool.false_eq_true, Bool.not_true, Bool.not_false, tuple_lst, List.length_range]
    rfl
def mwB (ps : List (Nat × Nat)) (u v : List Nat) : Bool := (u.zip v).all fun p => mixB ps p.1 p.2
theorem zipW_enc {α β : Type} (f : α → D) (g : β → D) : ∀ (u : List α) (v : List β), List.zipWith (fun a b => D.tup [a, b]) (u.map f) (v.map g) = (u.zip v).map fun p => .tup [f p.1, g p.2]
  | [], _ => rfl
  | _ :: _, [] => rfl
  | a :: u, b :: v => by
    show _ :: List.zipWith _ _ _ = _
    rw [zipW_enc f g u v]
    rfl
theorem call_mixed_words (u v : List Nat) : (calls (PR lf) (n + 2)).cl 12 [tE m ps, wE u, wE v] k = some (.bl (mwB ps u v), k) := by
  refine call_just (st := [_, _, _, _, _]) (PR_fn (f := .py 3 5 _) rfl) rfl rfl (Run.ret ?_ ⟨rfl, rfl⟩)
  have hs := src_zpT (C := calls (PR lf) (n + 1)) (a := .v 1) (b := .v 2) (st := [.fr (tE m ps), .fr (wE u), .fr (wE v), .un, .un]) (k := k) (k1 := k) (k2 := k) (l := u.map enc) (m := v.map enc) (by simp only [ev, evs, evAnd, evOr, kb, kp, getV, getB, List.getElem?_cons_succ, List.getElem?_cons_zero, Option.bind_some, List.set_cons_succ, List.set_cons_zero, tru_bl, if_true, if_false, Bool.false_eq_true, Bool.not_true, Bool.not_false]; rfl) (by simp only [ev, evs, evAnd, evOr, kb, kp, getV, getB, List.getElem?_cons_succ, List.getElem?_cons_zero, Option.bind_some, List.set_cons_succ, List.set_cons_zero, tru_bl, if_true, if_false, Bool.false_eq_true, Bool.not_true, Bool.not_false]; rfl)
  rw [zipW_enc] at hs
  have h := ev_map2 (i := 3) (j := 4) (own := [3, 4]) (elt := .call 5 [.v 0, .v 3, .v 4]) (fun (p : Nat × Nat) => enc p.1) (fun p => enc p.2) (u.zip v) (fun p => .bl (mixB ps p.1 p.2)) hs (fun p hp q => by
    simp only [ev, evs, evAnd, evOr, kb, kp, getV, getB, List.getElem?_cons_succ, List.getElem?_cons_zero, Option.bind_some, List.set_cons_succ, List.set_cons_zero, tru_bl, if_true, if_false, Bool.false_eq_true, Bool.not_true, Bool.not_false, wipe]
    exact call_mixed p.1 p.2)
  rw [ev, kb, h]
  exact all_eq (u.zip v) k
theorem call_power {L : Nat} (hm : m ≤ 10000) (hL : L ≤ 10000) (hw : ∀ i ≤ L, m ^ i ≤ 2000) : (calls (PR lf) (n + 5)).cl 13 [tE m ps, .int L] k = some (tE (m ^ L) (pairsOf (m ^ L) fun i j => mwB ps ((wordsN m L).getD i []) ((wordsN m L).getD j [])), k) := by
  refine call_just (st := [_, _, _]) (PR_fn (f := .py 2 3 _) rfl) rfl rfl ?_
  have hW : ∀ q, (calls (PR lf) (n + 4)).cl 11 [.int m, .int L] q = some (enc (wordsN m L), q) := fun q => call_words hm hL fun i hi => Nat.le_trans (hw i hi) (by decide)
  refine Run.set (d := enc (wordsN m L)) (k1 := k) (by simp only [ev, evs, evAnd, evOr, kb, kp, getV, getB, List.getElem?_cons_succ, List.getElem?_cons_zero, Option.bind_some, List.set_cons_succ, List.set_cons_zero, tru_bl, if_true, if_false, Bool.false_eq_true, Bool.not_true, Bool.not_false, t0, hW]) (Run.ret ?_ ⟨rfl, rfl⟩)
  have hl : ∀ q, f1D .len (enc (wordsN m L)) q = some (.int ((m ^ L : Nat) : Int), q) := fun q => by
    show some (D.int (((wordsN m L).map enc).length : Nat), q) = _
    rw [List.length_map, wordsN_len]
  have h := fun q => call_table_by (lf := lf) (n := n + 3) (k := q) (fun i j => mwB ps ((wordsN m L).getD i []) ((wordsN m L).getD j [])) (hw L (Nat.le_refl L)) 2 [tE m ps, enc (wordsN m L)] (fun i j q hij hj => by
    rw [lam_eq (st := [_, _, _, _]) (np := 2) (nc := 2) (ns := 4) rfl rfl rfl rfl]
    have e : ∀ i q, i < m ^ L → ixD (enc (wordsN m L)) (.int (i : Nat)) q = some (wE ((wordsN m L).getD i []), q) := fun i q hi => ix_enc (by rw [List.getD_eq_getElem?_getD, List.getElem?_eq_getElem (by rw [wordsN_len]; exact hi)]; rfl)
    simp only [ev, evs, evAnd, evOr, kb, kp, getV, getB, List.getElem?_cons_succ, List.getElem?_cons_zero, Option.bind_some, List.set_cons_succ, List.set_cons_zero, tru_bl, if_true, if_false, Bool.false_eq_true, Bool.not_true, Bool.not_false, call_mixed_words, e i _ (show i < m ^ L by omega), e j _ hj])
  simp only [ev, evs, evAnd, evOr, kb, kp, getV, getB, List.getElem?_cons_succ, List.getElem?_cons_zero, Option.bind_some, List.set_cons_succ, List.set_cons_zero, tru_bl, if_true, if_false, Bool.false_eq_true, Bool.not_true, Bool.not_false, caps, hl, h]
end G

namespace G
variable {lf : List Fd} {n m k : Nat} {ps : List (Nat × Nat)}
/-! ### the first place -/
theorem findSome_split {α β : Type} {f : α → Option β} {l p q : List α} {a : α} {b : β} (h : l = p ++ a :: q) (h1 : ∀ x ∈ p, f x = none) (h2 : f a = some b) : l.findSome? f = some b := by
  subst h
  rw [List.findSome?_append, List.findSome?_eq_none_iff.mpr h1]
  simp [h2]
theorem findSome_none {α β : Type} {f : α → Option β} {l : List α} (h : ∀ x ∈ l, f x = none) : l.findSome? f = none := List.findSome?_eq_none_iff.mpr h
/-- the least pair of places of words that may be mistaken -/
def clashIn (ps : List (Nat × Nat)) (l : List (List Nat)) (i : Nat) : Option (Nat × Nat) := (List.range' (i + 1) (l.length - (i + 1))).findSome? fun j => if mwB ps (l.getD i []) (l.getD j []) then some (i, j) else none
def clashN (ps : List (Nat × Nat)) (l : List (List Nat)) : Option (Nat × Nat) := (List.range l.length).findSome? (clashIn ps l)
def optD {α : Type} [DecidableEq α] [Enc α] : Option α → D
  | none => .non
  | some a => enc a
theorem getD_at {α : Type} {l : List α} {i : Nat} {a d : α} (h : l[i]? = some a) : l.getD i d = a := by rw [List.getD_eq_getElem?_getD, h]; rfl
theorem ixw {l : List (List Nat)} {i : Nat} {q : Nat} (h : i < l.length) : ixD (enc l) (.int (i : Nat)) q = some (wE (l.getD i []), q) := ix_enc (by rw [List.getD_eq_getElem?_getD, List.getElem?_eq_getElem h]; rfl)
theorem lenE {α : Type} [DecidableEq α] [Enc α] (l : List α) (q : Nat) : f1D .len (enc l) q = some (.int (l.length : Nat), q) := by
  show some (D.int ((l.map enc).length : Nat), q) = _
  rw [List.length_map]
theorem zipIdx_at {α : Type} {l p q : List α} {a : α} (h : l = p ++ a :: q) : l[p.length]? = some a := by subst h; simp
theorem call_clash (l : List (List Nat)) (hl : l.length ≤ 100000) : (calls (PR lf) (n + 3)).cl 14 [tE m ps, enc l] k = some (optD (clashN ps l), k) := by
  refine call_just (st := [.fr (tE m ps), .fr (enc l), .un, .un, .un]) (PR_fn (f := .py 2 5 _) rfl) rfl rfl ?_
  have hs := src_enT (C := calls (PR lf) (n + 2)) (a := .v 1) (st := [.fr (tE m ps), .fr (enc l), .un, .un, .un]) (k := k) (k1 := k) (l := l.map enc) (by simp only [ev, evs, evAnd, evOr, kb, kp, getV, getB, List.getElem?_cons_succ, List.getElem?_cons_zero, Option.bind_some, List.set_cons_succ, List.set_cons_zero, tru_bl, if_true, if_false, Bool.false_eq_true, Bool.not_true, Bool.not_false]; rfl)
  have he : (l.map enc).zipIdx.map (fun p => D.tup [.int (p.2 : Nat), p.1]) = (List.range l.length).map fun i => D.tup [.int (i : Nat), enc (l.getD i [])] := by
    apply List.ext_getElem?
    intro i
    rw [List.getElem?_map, List.getElem?_zipIdx, List.getElem?_map, List.getElem?_map]
    by_cases hi : i < l.length
    · rw [List.getElem?_eq_getElem hi, List.getElem?_range hi]
      simp [List.getD_eq_getElem?_getD, hi]
    · rw [List.getElem?_eq_none (by omega), List.getElem?_eq_none (by simpa using hi)]
      rfl
  rw [he] at hs
  refine Run.for2 (k1 := k) (fun (i : Nat) => .int i) (fun i => enc (l.getD i [])) (List.range l.length) (fun pre st q => q = k ∧ (∀ i ∈ pre, clashIn ps l i = none) ∧ ∃ a2 a3 a4, st = [.fr (tE m ps), .fr (enc l), a2, a3, a4]) hs ⟨rfl, by simp, _, _, _, rfl⟩ (fun pre i post st q hp hi => ?_) (fun st q hi => ?_)
  · obtain ⟨rfl, hn, a2, a3, a4, rfl⟩ := hi
    have hil : i < l.length := by
      have : i ∈ List.range l.length := by rw [hp]; simp
      simpa using this
    refine Run.for1 (k1 := q) (fun (i : Nat) => .int i) (List.range' (i + 1) (l.length - (i + 1))) (fun pr st r => r = q ∧ (∀ j ∈ pr, mwB ps (l.getD i []) (l.getD j []) = false) ∧ ∃ a4, st = [.fr (tE m ps), .fr (enc l), .fr (.int i), .fr (enc (l.getD i [])), a4])
      (src_r2 (k1 := q) (by simp only [ev, evs, evAnd, evOr, kb, kp, getV, getB, List.getElem?_cons_succ, List.getElem?_cons_zero, Option.bind_some, List.set_cons_succ, List.set_cons_zero, tru_bl, if_true, if_false, Bool.false_eq_true, Bool.not_true, Bool.not_false, add1]) (by simp only [ev, evs, evAnd, evOr, kb, kp, getV, getB, List.getElem?_cons_succ, List.getElem?_cons_zero, Option.bind_some, List.set_cons_succ, List.set_cons_zero, tru_bl, if_true, if_false, Bool.false_eq_true, Bool.not_true, Bool.not_false, lenE]) (by omega) (by omega)) ⟨rfl, by simp, _, rfl⟩ (fun pr j post2 st r hp2 hi => ?_) (fun st r hi => ?_)
    · obtain ⟨rfl, hn2, a4, rfl⟩ := hi
      have hj : i + 1 ≤ j ∧ j < l.length := by
        have : j ∈ List.range' (i + 1) (l.length - (i + 1)) := by rw [hp2]; simp
        have := List.mem_range'_1.mp this
        omega
      refine Run.iteB (b := mwB ps (l.getD i []) (l.getD j [])) (k1 := r) (by simp only [ev, evs, evAnd, evOr, kb, kp, getV, getB, List.getElem?_cons_succ, List.getElem?_cons_zero, Option.bind_some, List.set_cons_succ, List.set_cons_zero, tru_bl, if_true, if_false, Bool.false_eq_true, Bool.not_true, Bool.not_false, ixw hj.2, call_mixed_words]; rfl) rfl (fun hb => ?_) (fun hb => ?_)
      · refine Run.ret (d := enc (i, j)) (k1 := r) (by simp only [ev, evs, evAnd, evOr, kb, kp, getV, getB, List.getElem?_cons_succ, List.getElem?_cons_zero, Option.bind_some, List.set_cons_succ, List.set_cons_zero, tru_bl, if_true, if_false, Bool.false_eq_true, Bool.not_true, Bool.not_false]; rfl) ⟨?_, rfl⟩
        have h1 : clashIn ps l i = some (i, j) := findSome_split hp2 (fun x hx => by rw [hn2 x hx]; rfl) (by rw [hb]; rfl)
        have h2 : clashN ps l = some (i, j) := findSome_split hp hn h1
        rw [h2]
        rfl
      · refine Run.nil (Run.nil ⟨rfl, fun x hx => ?_, _, rfl⟩)
        rcases List.mem_append.mp hx with h | h
        · exact hn2 x h
        · rw [List.mem_singleton.mp h]; exact hb
    · obtain ⟨rfl, hn2, a4, rfl⟩ := hi
      refine Run.nil ⟨rfl, fun x hx => ?_, _, _, _, rfl⟩
      rcases List.mem_append.mp hx with h | h
      · exact hn x h
      · rw [List.mem_singleton.mp h]
        exact findSome_none fun j hj => by rw [hn2 j hj]; rfl
  · obtain ⟨rfl, hn, a2, a3, a4, rfl⟩ := hi
    refine Run.ret (d := .non) (k1 := q) (by simp only [ev, evs, evAnd, evOr, kb, kp, getV, getB, List.getElem?_cons_succ, List.getElem?_cons_zero, Option.bind_some, List.set_cons_succ, List.set_cons_zero, tru_bl, if_true, if_false, Bool.false_eq_true, Bool.not_true, Bool.not_false]) ⟨?_, rfl⟩
    have h2 : clashN ps l = none := findSome_none hn
    rw [h2]
    rfl
theorem call_is_code (l : List (List Nat)) (hl : l.length ≤ 100000) : (calls (PR lf) (n + 4)).cl 15 [tE m ps, enc l] k = some (.bl (clashN ps l).isNone, k) := by
  refine call_just (st := [_, _]) (PR_fn (f := .py 2 2 _) rfl) rfl rfl (Run.ret ?_ ⟨rfl, rfl⟩)
  simp only [ev, evs, evAnd, evOr, kb, kp, getV, getB, List.getElem?_cons_succ, List.getElem?_cons_zero, Option.bind_some, List.set_cons_succ, List.set_cons_zero, tru_bl, if_true, if_false, Bool.false_eq_true, Bool.not_true, Bool.not_false, call_clash l hl]
  cases clashN ps l <;> rfl
def freeB (ps : List (Nat × Nat)) (some : List (List Nat)) (w : List Nat) : Bool := !(some.any fun o => mwB ps w o)
theorem call_addable (hm : m ≤ 10000) {L : Nat} (hL : L ≤ 10000) (hw : ∀ i ≤ L, m ^ i ≤ 100000) (some : List (List Nat)) : (calls (PR lf) (n + 3)).cl 16 [tE m ps, enc some, .int L] k = .some (enc ((wordsN m L).filter (freeB ps some)), k) := by
  refine call_just (st := [.fr (tE m ps), .fr (enc some), .fr (.int L), .un, .un]) (PR_fn (f := .py 3 5 _) rfl) rfl rfl (Run.ret ?_ ⟨rfl, rfl⟩)
  have h := ev_fil1 (C := calls (PR lf) (n + 2)) (i := 3) (own := [3]) (cond := .not (.b1 .any (.lc (.one 4) .it (.v 1) (.c .non) (.c .non) (.c (.bl true)) (.call 12 [.v 0, .v 3, .v 4]) [4]))) (elt := .v 3) (st := [.fr (tE m ps), .fr (enc some), .fr (.int L), .un, .un]) (k := k) enc (wordsN m L) (freeB ps some) enc
    (src_tup (a := .call 11 [.ix (.v 0) (.c (.int 0)), .v 2]) (k1 := k) (by simp only [ev, evs, evAnd, evOr, kb, kp, getV, getB, List.getElem?_cons_succ, List.getElem?_cons_zero, Option.bind_some, List.set_cons_succ, List.set_cons_zero, tru_bl, if_true, if_false, Bool.false_eq_true, Bool.not_true, Bool.not_false, t0, call_words hm hL hw]; rfl)) (fun w hw q => ?_) (fun w hw _ q => by simp only [ev, evs, evAnd, evOr, kb, kp, getV, getB, List.getElem?_cons_succ, List.getElem?_cons_zero, Option.bind_some, List.set_cons_succ, List.set_cons_zero, tru_bl, if_true, if_false, Bool.false_eq_true, Bool.not_true, Bool.not_false, wipe])
  · rw [ev, kb, h]
    rfl
  · have h2 := ev_map1 (C := calls (PR lf) (n + 2)) (i := 4) (own := [4]) (elt := .call 12 [.v 0, .v 3, .v 4]) (st := [.fr (tE m ps), .fr (enc some), .fr (.int L), .fr (enc w), .un]) (k := q) enc some (fun o => .bl (mwB ps w o)) (src_tup (a := .v 1) (k1 := q) (by simp only [ev, evs, evAnd, evOr, kb, kp, getV, getB, List.getElem?_cons_succ, List.getElem?_cons_zero, Option.bind_some, List.set_cons_succ, List.set_cons_zero, tru_bl, if_true, if_false, Bool.false_eq_true, Bool.not_true, Bool.not_false]; rfl)) (fun o ho q => by simp only [ev, evs, evAnd, evOr, kb, kp, getV, getB, List.getElem?_cons_succ, List.getElem?_cons_zero, Option.bind_some, List.set_cons_succ, List.set_cons_zero, tru_bl, if_true, if_false, Bool.false_eq_true, Bool.not_true, Bool.not_false, wipe, call_mixed_words])
    show ev _ _ [.fr (tE m ps), .fr (enc some), .fr (.int L), .fr (enc w), .un] q = _
    rw [ev, kb, ev, kb, h2]
    show ((f1D .any (.lst (some.map fun o => D.bl (mwB ps w o)))) q).bind _ = _
    rw [any_eq]
    rfl
theorem call_is_full (hm : m ≤ 10000) {L : Nat} (hL : L ≤ 10000) (hw : ∀ i ≤ L, m ^ i ≤ 100000) (some : List (List Nat)) : (calls (PR lf) (n + 4)).cl 17 [tE m ps, enc some, .int L] k = .some (.bl (decide ((wordsN m L).filter (freeB ps some) = [])), k) := by
  refine call_just (st := [_, _, _]) (PR_fn (f := .py 3 3 _) rfl) rfl rfl (Run.ret ?_ ⟨rfl, rfl⟩)
  simp only [ev, evs, evAnd, evOr, kb, kp, getV, getB, List.getElem?_cons_succ, List.getElem?_cons_zero, Option.bind_some, List.set_cons_succ, List.set_cons_zero, tru_bl, if_true, if_false, Bool.false_eq_true, Bool.not_true, Bool.not_false, call_addable hm hL hw some]
  exact cmp_eq ((wordsN m L).filter (freeB ps some)) [] (by decide)
/-! ### near, renamed -/
theorem call_near (a : Nat) (hm : m ≤ 8388608) : (calls (PR lf) (n + 2)).cl 6 [tE m ps, .int a] k = some (wE ((List.range m).filter (mixB ps a)), k) := by
  refine call_just (st := [_, _, _]) (PR_fn (f := .py 2 3 _) rfl) rfl rfl (Run.ret ?_ ⟨rfl, rfl⟩)
  have h := ev_fil1 (C := calls (PR lf) (n + 1)) (i := 2) (own := [2]) (cond := .call 5 [.v 0, .v 1, .v 2]) (elt := .v 2) (st := [.fr (tE m ps), .fr (.int a), .un]) (k := k) (fun (i : Nat) => .int i) (List.range m) (mixB ps a) enc
    (src_r1 (a := .ix (.v 0) (.c (.int 0))) (k1 := k) (by simp only [ev, evs, evAnd, evOr, kb, kp, getV, getB, List.getElem?_cons_succ, List.getElem?_cons_zero, Option.bind_some, List.set_cons_succ, List.set_cons_zero, tru_bl, if_true, if_false, Bool.false_eq_true, Bool.not_true, Bool.not_false, t0]) hm) (fun w hw q => by simp only [ev, evs, evAnd, evOr, kb, kp, getV, getB, List.getElem?_cons_succ, List.getElem?_cons_zero, Option.bind_some, List.set_cons_succ, List.set_cons_zero, tru_bl, if_true, if_false, Bool.false_eq_true, Bool.not_true, Bool.not_false, wipe, call_mixed]) (fun w hw _ q => by simp only [ev, evs, evAnd, evOr, kb, kp, getV, getB, List.getElem?_cons_succ, List.getElem?_cons_zero, Option.bind_some, List.set_cons_succ, List.set_cons_zero, tru_bl, if_true, if_false, Bool.false_eq_true, Bool.not_true, Bool.not_false, wipe]; rfl)
  rw [ev, kb, h]
  rfl
end G

namespace G
/-! ### rows that rise -/
theorem sorted_ext {α : Type} {R : α → α → Prop} (irr : ∀ a, ¬ R a a) (asy : ∀ a b, R a b → ¬ R b a) : ∀ {l m : List α}, l.Pairwise R → m.Pairwise R → (∀ x, x ∈ l ↔ x ∈ m) → l = m
  | [], [], _, _, _ => rfl
  | [], b :: m, _, _, h => absurd ((h b).mpr List.mem_cons_self) (by simp)
  | a :: l, [], _, _, h => absurd ((h a).mp List.mem_cons_self) (by simp)
  | a :: l, b :: m, hl, hm, h => by
    rw [List.pairwise_cons] at hl hm
    have hab : a = b := by
      rcases List.mem_cons.mp ((h a).mp List.mem_cons_self) with e | e
      · exact e
      · rcases List.mem_cons.mp ((h b).mpr List.mem_cons_self) with e' | e'
        · exact e'.symm
        · exact absurd (hl.1 b e') (asy _ _ (hm.1 a e))
    subst hab
    rw [sorted_ext irr asy hl.2 hm.2 fun x => ?_]
    constructor
    · intro hx
      rcases List.mem_cons.mp ((h x).mp (List.mem_cons_of_mem _ hx)) with e | e
      · rw [e] at hx; exact absurd (hl.1 a hx) (irr a)
      · exact e
    · intro hx
      rcases List.mem_cons.mp ((h x).mpr (List.mem_cons_of_mem _ hx)) with e | e
      · rw [e] at hx; exact absurd (hm.1 a hx) (irr a)
      · exact e
def plt (p q : Nat × Nat) : Prop := p.1 < q.1 ∨ (p.1 = q.1 ∧ p.2 < q.2)
theorem plt_irr (a : Nat × Nat) : ¬ plt a a := by unfold plt; omega
theorem plt_asy (a b : Nat × Nat) : plt a b → ¬ plt b a := by unfold plt; omega
/-- a table's pairs -/
structure Tab (m : Nat) (ps : List (Nat × Nat)) : Prop where
  lt : ∀ p ∈ ps, p.1 < p.2
  top : ∀ p ∈ ps, p.2 < m
  so : ps.Pairwise plt
theorem Tab.ext {m : Nat} {ps qs : List (Nat × Nat)} (h1 : Tab m ps) (h2 : Tab m qs) (h : ∀ a b, a < b → b < m → ((a, b) ∈ ps ↔ (a, b) ∈ qs)) : ps = qs :=
  sorted_ext plt_irr plt_asy h1.so h2.so fun p => ⟨fun hp => (h p.1 p.2 (h1.lt p hp) (h1.top p hp)).mp hp, fun hp => (h p.1 p.2 (h2.lt p hp) (h2.top p hp)).mpr hp⟩
theorem tab_nil {m : Nat} : Tab m [] := ⟨by simp, by simp, List.Pairwise.nil⟩
theorem tab_pairsOf (m : Nat) (A : Nat → Nat → Bool) : Tab m (pairsOf m A) := by
  refine ⟨fun p hp => (mem_pairsOf.mp hp).1, fun p hp => (mem_pairsOf.mp hp).2.1, ?_⟩
  unfold pairsOf
  rw [List.pairwise_flatMap]
  refine ⟨fun i hi => ?_, ?_⟩
  · rw [List.pairwise_map]
    refine List.Pairwise.filter _ ?_
    exact (List.pairwise_lt_range' (s := i + 1) (n := m - (i + 1))).imp fun h => Or.inr ⟨rfl, h⟩
  · refine (List.pairwise_lt_range (n := m)).imp fun {a b} h => ?_
    intro x hx y hy
    obtain ⟨_, _, rfl⟩ := List.mem_map.mp hx
    obtain ⟨_, _, rfl⟩ := List.mem_map.mp hy
    exact .inl h
theorem Tab.eq_pairsOf {m : Nat} {ps : List (Nat × Nat)} {A : Nat → Nat → Bool} (h : Tab m ps) (e : ∀ a b, a < b → b < m → ((a, b) ∈ ps ↔ A a b = true)) : ps = pairsOf m A :=
  h.ext (tab_pairsOf m A) fun a b h1 h2 => (e a b h1 h2).trans (by rw [mem_pairsOf]; exact ⟨fun z => ⟨h1, h2, z⟩, fun z => z.2.2⟩)
theorem mixB_self (ps : List (Nat × Nat)) (a : Nat) : mixB ps a a = true := by simp [mixB]
theorem mixB_comm (ps : List (Nat × Nat)) (a b : Nat) : mixB ps a b = mixB ps b a := by
  unfold mixB
  have e : decide (a = b) = decide (b = a) := by
    by_cases h : a = b
    · simp [h]
    · simp [h]
      exact fun z => h z.symm
  rw [e, Nat.min_comm a b, Nat.max_comm a b]
theorem mixB_lt {ps : List (Nat × Nat)} {a b : Nat} (h : a < b) : mixB ps a b = decide ((a, b) ∈ ps) := by
  unfold mixB
  rw [Nat.min_eq_left (by omega), Nat.max_eq_right (by omega)]
  simp [show a ≠ b by omega]
theorem mixB_pairsOf {m : Nat} {A : Nat → Nat → Bool} {a b : Nat} (h : a < b) (hb : b < m) : mixB (pairsOf m A) a b = A a b := by
  rw [mixB_lt h, Bool.eq_iff_iff, decide_eq_true_eq, mem_pairsOf]
  exact ⟨fun z => z.2.2, fun z => ⟨h, hb, z⟩⟩
/-! ### draws -/
def IsDraw (P : Pr) (d : Nat) : Prop := ∀ (n : Nat) (ns : List Int) (many k : Nat), 0 < many → k < 16777215 → ∃ r : Nat, r < many ∧ (calls P (n + 1)).cl d [.scr ns, .town, .int (many : Nat)] k = some (.int (r : Nat), k + 1)
def drawA : List S := [.tick 1, .set 3 (.b1 .len (.v 1)), .set 4 (.c (.int 0)), .ite (.v 0) [.set 4 (.ix (.v 0) (.mod (.v 3) (.b1 .len (.v 0))))] []]
def drawB1 : List S := [.set 5 (.mod (.add (.v 4) (.mul (.c (.int 104729)) (.v 3))) (.c (.int 4294967291))), .set 5 (.mod (.mul (.mod (.mul (.v 5) (.v 5)) (.c (.int 4294967279))) (.c (.int 48271))) (.c (.int 4294967291))), .ret (.mod (.fdv (.v 5) (.c (.int 64))) (.v 2))]
def drawB2 : List S := [.set 5 (.mod (.add (.v 4) (.mul (.c (.int 104729)) (.v 3))) (.c (.int 4294967291))), .set 5 (.mod (.mul (.mod (.mul (.v 5) (.v 5)) (.c (.int 4294967279))) (.c (.int 48271))) (.c (.int 4294967291))),
    .set 6 (.mod (.mul (.mod (.mul (.v 5) (.v 5)) (.c (.int 4294967279))) (.c (.int 69621))) (.c (.int 4294967291))), .ret (.mod (.add (.mul (.fdv (.v 5) (.c (.int 64))) (.c (.int 67108864))) (.fdv (.v 6) (.c (.int 64)))) (.v 2))]
def draw1 : Fd := .py 3 6 (drawA ++ drawB1)
def draw2 : Fd := .py 3 7 (drawA ++ drawB2)
theorem modI {x : Int} {m : Int} (h : 0 < m) (k : Nat) : modD (.int x) (.int m) k = some (.int (x % m), k) := by
  show (if 0 < m then (pure (.int (x % m)) : M D) else no) k = _
  rw [if_pos h]
  rfl
theorem mulI {x y : Int} (h : absLe x 18446744073709551615 = true ∨ absLe y 18446744073709551615 = true) (k : Nat) : mulD (.int x) (.int y) k = some (.int (x * y), k) := by
  show (if (absLe x 18446744073709551615 || absLe y 18446744073709551615) = true then (pure (.int (x * y)) : M D) else no) k = _
  rw [if_pos (by rw [Bool.or_eq_true]; exact h)]
  rfl
theorem fdvI {x y : Int} (h : 0 < y) (h2 : absLe y 1073741823 = true) (k : Nat) : fdvD (.int x) (.int y) k = some (.int (x / y), k) := by
  show (if 0 < y ∧ absLe y 1073741823 = true then (pure (.int (x / y)) : M D) else no) k = _
  rw [if_pos ⟨h, h2⟩]
  rfl
theorem addI (x y : Int) (k : Nat) : addD (.int x) (.int y) k = some (.int (x + y), k) := rfl
/-- the head of a draw -/
theorem drawA_run {C : Cs} {ns : List Int} {many k : Nat} {a5 : List Sl} {ss : List S} {Q : Rt} (hk : k < 16777215) (r : ∀ c : Int, Run C ss (.fr (.scr ns) :: .fr .town :: .fr (.int (many : Nat)) :: .fr (.int ((k + 1 : Nat) : Int)) :: .fr (.int c) :: a5) (k + 1) Q) {a3 a4 : Sl} :
    Run C (drawA ++ ss) (.fr (.scr ns) :: .fr .town :: .fr (.int (many : Nat)) :: a3 :: a4 :: a5) k Q := by
  unfold drawA
  refine Run.tick rfl (by omega) ?_
  have hl : ∀ j, f1D .len .town j = some (.int (j : Nat), j) := fun j => rfl
  refine Run.set (d := .int ((k + 1 : Nat) : Int)) (k1 := k + 1) (by simp only [ev, evs, evAnd, evOr, kb, kp, getV, getB, List.getElem?_cons_succ, List.getElem?_cons_zero, Option.bind_some, List.set_cons_succ, List.set_cons_zero, tru_bl, if_true, if_false, Bool.false_eq_true, Bool.not_true, Bool.not_false, hl]) ?_
  refine Run.set (d := .int 0) (k1 := k + 1) (by simp only [ev, evs, evAnd, evOr, kb, kp, getV, getB, List.getElem?_cons_succ, List.getElem?_cons_zero, Option.bind_some, List.set_cons_succ, List.set_cons_zero, tru_bl, if_true, if_false, Bool.false_eq_true, Bool.not_true, Bool.not_false]) ?_
  simp only [List.set_cons_succ, List.set_cons_zero, List.getElem?_cons_succ, List.getElem?_cons_zero]
  cases ns with
  | nil => exact Run.iteB (b := false) (d := .scr []) (k1 := k + 1) (by simp only [ev, evs, evAnd, evOr, kb, kp, getV, getB, List.getElem?_cons_succ, List.getElem?_cons_zero, Option.bind_some, List.set_cons_succ, List.set_cons_zero, tru_bl, if_true, if_false, Bool.false_eq_true, Bool.not_true, Bool.not_false]) rfl (fun z => by cases z) (fun _ => Run.nil (r 0))
  | cons a l =>
    refine Run.iteB (b := true) (d := .scr (a :: l)) (k1 := k + 1) (by simp only [ev, evs, evAnd, evOr, kb, kp, getV, getB, List.getElem?_cons_succ, List.getElem?_cons_zero, Option.bind_some, List.set_cons_succ, List.set_cons_zero, tru_bl, if_true, if_false, Bool.false_eq_true, Bool.not_true, Bool.not_false]) rfl (fun _ => ?_) (fun z => by cases z)
    have hp : (0 : Int) < ((a :: l).length : Nat) := by rw [List.length_cons]; omega
    have hl2 : ∀ j, f1D .len (.scr (a :: l)) j = some (.int ((a :: l).length : Nat), j) := fun j => rfl
    have hm0 := Int.emod_nonneg ((k + 1 : Nat) : Int) (show (((a :: l).length : Nat) : Int) ≠ 0 by omega)
    have hm1 := Int.emod_lt_of_pos ((k + 1 : Nat) : Int) hp
    have hix : ∃ c, ∀ j, ixD (.scr (a :: l)) (.int (((k + 1 : Nat) : Int) % ((a :: l).length : Nat))) j = some (.int c, j) := by
      refine ⟨(a :: l)[(((k + 1 : Nat) : Int) % ((a :: l).length : Nat)).toNat]'(by omega), fun j => ?_⟩
      show (opt ((if 0 ≤ (((k + 1 : Nat) : Int) % ((a :: l).length : Nat)) then (a :: l)[(((k + 1 : Nat) : Int) % ((a :: l).length : Nat)).toNat]? else _ : Option Int).map .int) : M D) j = _
      rw [if_pos hm0, List.getElem?_eq_getElem (by omega)]
      rfl
    obtain ⟨c, hc⟩ := hix
    refine Run.set (d := .int c) (k1 := k + 1) (by simp only [ev, evs, evAnd, evOr, kb, kp, getV, getB, List.getElem?_cons_succ, List.getElem?_cons_zero, Option.bind_some, List.set_cons_succ, List.set_cons_zero, tru_bl, if_true, if_false, Bool.false_eq_true, Bool.not_true, Bool.not_false, hl2, modI hp, hc]) ?_
    exact Run.nil (r c)
theorem emod_abs {x m : Int} (h : 0 < m) (b : Nat) (hb : m ≤ b) : absLe (x % m) b = true := by
  have h1 := Int.emod_nonneg x (show m ≠ 0 by omega)
  have h2 := Int.emod_lt_of_pos x h
  exact absLe_of.mpr (by omega)
theorem ret_mod {C : Cs} {st : St} {k many : Nat} {e : E} {x : Int} {ss : List S} (hm : 0 < many) (h : ev C e st k = some (.int x, k)) (h2 : ev C (.v 2) st k = some (.int (many : Nat), k)) : Run C (.ret (.mod e (.v 2)) :: ss) st k (Rets fun d k' => ∃ r : Nat, r < many ∧ d = .int (r : Nat) ∧ k' = k) := by
  have h0 := Int.emod_nonneg x (show (many : Int) ≠ 0 by omega)
  have h1 := Int.emod_lt_of_pos x (show (0 : Int) < many by omega)
  refine Run.ret (d := .int (x % (many : Nat))) (k1 := k) ?_ ⟨(x % (many : Nat)).toNat, by omega, by congr 1; omega, rfl⟩
  rw [ev, kb, h]
  show ((ev C (.v 2) st) >>= _) k = _
  rw [kb, h2]
  exact modI (by omega) k
theorem isDraw1 {P : Pr} {d : Nat} (h : P.fns[d]? = some draw1) : IsDraw P d := by
  intro n ns many k hm hk
  obtain ⟨d', k', e, r, hr, rfl, rfl⟩ := call_run (args := [.scr ns, .town, .int (many : Nat)]) (st := [.fr (.scr ns), .fr .town, .fr (.int (many : Nat)), .un, .un, .un]) (k := k) (Q := fun d k' => ∃ r : Nat, r < many ∧ d = .int (r : Nat) ∧ k' = k + 1) h rfl rfl (drawA_run hk fun c => by
    have m1 : (0 : Int) < 4294967291 := by decide
    have m2 : (0 : Int) < 4294967279 := by decide
    unfold drawB1
    refine Run.set (d := .int ((c + 104729 * ((k + 1 : Nat) : Int)) % 4294967291)) (k1 := k + 1) (by simp only [ev, evs, evAnd, evOr, kb, kp, getV, getB, List.getElem?_cons_succ, List.getElem?_cons_zero, Option.bind_some, List.set_cons_succ, List.set_cons_zero, tru_bl, if_true, if_false, Bool.false_eq_true, Bool.not_true, Bool.not_false, mulI (.inl (show absLe 104729 18446744073709551615 = true by decide)), addI, modI m1]) ?_
    refine Run.set (k1 := k + 1) (by simp only [ev, evs, evAnd, evOr, kb, kp, getV, getB, List.getElem?_cons_succ, List.getElem?_cons_zero, Option.bind_some, List.set_cons_succ, List.set_cons_zero, tru_bl, if_true, if_false, Bool.false_eq_true, Bool.not_true, Bool.not_false, mulI (.inl (emod_abs (x := c + 104729 * ((k + 1 : Nat) : Int)) m1 18446744073709551615 (by decide))), modI m2, mulI (.inr (show absLe 48271 18446744073709551615 = true by decide)), modI m1]; rfl) ?_
    exact ret_mod hm (by simp only [ev, evs, evAnd, evOr, kb, kp, getV, getB, List.getElem?_cons_succ, List.getElem?_cons_zero, Option.bind_some, List.set_cons_succ, List.set_cons_zero, tru_bl, if_true, if_false, Bool.false_eq_true, Bool.not_true, Bool.not_false, fdvI (show (0 : Int) < 64 by decide) (show absLe 64 1073741823 = true by decide)]; rfl) (by simp only [ev, evs, evAnd, evOr, kb, kp, getV, getB, List.getElem?_cons_succ, List.getElem?_cons_zero, Option.bind_some, List.set_cons_succ, List.set_cons_zero, tru_bl, if_true, if_false, Bool.false_eq_true, Bool.not_true, Bool.not_false]))
  exact ⟨r, hr, e⟩
theorem isDraw2 {P : Pr} {d : Nat} (h : P.fns[d]? = some draw2) : IsDraw P d := by
  intro n ns many k hm hk
  obtain ⟨d', k', e, r, hr, rfl, rfl⟩ := call_run (args := [.scr ns, .town, .int (many : Nat)]) (st := [.fr (.scr ns), .fr .town, .fr (.int (many : Nat)), .un, .un, .un, .un]) (k := k) (Q := fun d k' => ∃ r : Nat, r < many ∧ d = .int (r : Nat) ∧ k' = k + 1) h rfl rfl (drawA_run hk fun c => by
    have m1 : (0 : Int) < 4294967291 := by decide
    have m2 : (0 : Int) < 4294967279 := by decide
    have q1 : (0 : Int) < 64 := by decide
    have q2 : absLe 64 1073741823 = true := by decide
    unfold drawB2
    refine Run.set (d := .int ((c + 104729 * ((k + 1 : Nat) : Int)) % 4294967291)) (k1 := k + 1) (by simp only [ev, evs, evAnd, evOr, kb, kp, getV, getB, List.getElem?_cons_succ, List.getElem?_cons_zero, Option.bind_some, List.set_cons_succ, List.set_cons_zero, tru_bl, if_true, if_false, Bool.false_eq_true, Bool.not_true, Bool.not_false, mulI (.inl (show absLe 104729 18446744073709551615 = true by decide)), addI, modI m1]) ?_
    refine Run.set (k1 := k + 1) (by simp only [ev, evs, evAnd, evOr, kb, kp, getV, getB, List.getElem?_cons_succ, List.getElem?_cons_zero, Option.bind_some, List.set_cons_succ, List.set_cons_zero, tru_bl, if_true, if_false, Bool.false_eq_true, Bool.not_true, Bool.not_false, mulI (.inl (emod_abs (x := c + 104729 * ((k + 1 : Nat) : Int)) m1 18446744073709551615 (by decide))), modI m2, mulI (.inr (show absLe 48271 18446744073709551615 = true by decide)), modI m1]; rfl) ?_
    generalize ((c + 104729 * ((k + 1 : Nat) : Int)) % 4294967291 * ((c + 104729 * ((k + 1 : Nat) : Int)) % 4294967291) % 4294967279 * 48271) = y
    refine Run.set (k1 := k + 1) (by simp only [ev, evs, evAnd, evOr, kb, kp, getV, getB, List.getElem?_cons_succ, List.getElem?_cons_zero, Option.bind_some, List.set_cons_succ, List.set_cons_zero, tru_bl, if_true, if_false, Bool.false_eq_true, Bool.not_true, Bool.not_false, mulI (.inl (emod_abs (x := y) m1 18446744073709551615 (by decide))), modI m2, mulI (.inr (show absLe 69621 18446744073709551615 = true by decide)), modI m1]; rfl) ?_
    exact ret_mod hm (by simp only [ev, evs, evAnd, evOr, kb, kp, getV, getB, List.getElem?_cons_succ, List.getElem?_cons_zero, Option.bind_some, List.set_cons_succ, List.set_cons_zero, tru_bl, if_true, if_false, Bool.false_eq_true, Bool.not_true, Bool.not_false, fdvI q1 q2, mulI (.inr (show absLe 67108864 18446744073709551615 = true by decide)), addI]; rfl) (by simp only [ev, evs, evAnd, evOr, kb, kp, getV, getB, List.getElem?_cons_succ, List.getElem?_cons_zero, Option.bind_some, List.set_cons_succ, List.set_cons_zero, tru_bl, if_true, if_false, Bool.false_eq_true, Bool.not_true, Bool.not_false]))
  exact ⟨r, hr, e⟩
def pickF (d : Nat) : Fd := .py 3 3 [.ret (.ix (.v 2) (.call d [.v 0, .v 1, .b1 .len (.v 2)]))]
theorem pick_lst {P : Pr} {d p n k : Nat} (hd : IsDraw P d) (h : P.fns[p]? = some (pickF d)) (ns : List Int) (l : List D) (hl : l ≠ []) (hk : k < 16777215) : ∃ x ∈ l, (calls P (n + 2)).cl p [.scr ns, .town, .lst l] k = some (x, k + 1) := by
  obtain ⟨r, hr, e⟩ := hd n ns l.length k (List.length_pos_iff.mpr hl) hk
  obtain ⟨d', k', e2, hx, rfl⟩ := call_run (n := n + 1) (args := [.scr ns, .town, .lst l]) (st := [_, _, _]) (k := k) (Q := fun d' k' => d' = l[r] ∧ k' = k + 1) h rfl rfl (Run.ret (d := l[r]) (k1 := k + 1) (by simp only [ev, evs, evAnd, evOr, kb, kp, getV, getB, List.getElem?_cons_succ, List.getElem?_cons_zero, Option.bind_some, List.set_cons_succ, List.set_cons_zero, tru_bl, if_true, if_false, Bool.false_eq_true, Bool.not_true, Bool.not_false, len_lst, e]; exact ix_lst (List.getElem?_eq_getElem hr)) ⟨rfl, rfl⟩)
  exact ⟨l[r], List.getElem_mem hr, by rw [e2, hx]⟩
theorem pick_tup {P : Pr} {d p n k : Nat} (hd : IsDraw P d) (h : P.fns[p]? = some (pickF d)) (ns : List Int) (l : List D) (hl : l ≠ []) (hk : k < 16777215) : ∃ x ∈ l, (calls P (n + 2)).cl p [.scr ns, .town, .tup l] k = some (x, k + 1) := by
  obtain ⟨r, hr, e⟩ := hd n ns l.length k (List.length_pos_iff.mpr hl) hk
  obtain ⟨d', k', e2, hx, rfl⟩ := call_run (n := n + 1) (args := [.scr ns, .town, .tup l]) (st := [_, _, _]) (k := k) (Q := fun d' k' => d' = l[r] ∧ k' = k + 1) h rfl rfl (Run.ret (d := l[r]) (k1 := k + 1) (by simp only [ev, evs, evAnd, evOr, kb, kp, getV, getB, List.getElem?_cons_succ, List.getElem?_cons_zero, Option.bind_some, List.set_cons_succ, List.set_cons_zero, tru_bl, if_true, if_false, Bool.false_eq_true, Bool.not_true, Bool.not_false, len_tup, e]; exact ix_tup (List.getElem?_eq_getElem hr)) ⟨rfl, rfl⟩)
  exact ⟨l[r], List.getElem_mem hr, by rw [e2, hx]⟩
end G

namespace G
/-! ### tables that are drawn -/
def pairIn (c : E) (i j a : Nat) : List S := [.ite c [.set a (.add (.v a) (.tup [.tup [.v i, .v j]]))] []]
theorem Tab.snoc {m : Nat} {ps : List (Nat × Nat)} {i j : Nat} (h : Tab m ps) (hij : i < j) (hj : j < m) (hb : ∀ p ∈ ps, plt p (i, j)) : Tab m (ps ++ [(i, j)]) := by
  refine ⟨fun p hp => ?_, fun p hp => ?_, ?_⟩
  · rcases List.mem_append.mp hp with q | q
    · exact h.lt p q
    · rw [List.mem_singleton.mp q]; exact hij
  · rcases List.mem_append.mp hp with q | q
    · exact h.top p q
    · rw [List.mem_singleton.mp q]; exact hj
  · rw [List.pairwise_append]
    exact ⟨h.so, List.pairwise_singleton _ _, fun p hp q hq => by rw [List.mem_singleton.mp hq]; exact hb p hp⟩
theorem Tab.len {m : Nat} {ps : List (Nat × Nat)} (h : Tab m ps) : ps.length ≤ m * m := by
  have e := h.eq_pairsOf (A := fun a b => decide ((a, b) ∈ ps)) (fun a b _ _ => by simp)
  rw [e]
  have := pairsOf_len m (fun a b => decide ((a, b) ∈ ps)) (List.range m)
  rw [List.length_range] at this
  exact this
/-- the two loops of a drawn table: st i j c the slots of the turns, the condition's outcome -/
theorem pairs_run {C : Cs} {m k B : Nat} {ss : List S} {Q : Rt} {c : E} {iM iP i j : Nat} {F : List (Nat × Nat) → Sl → Sl → St} {st0 : St}
    (hm6 : m ≤ 100) (hB : k + m * m ≤ B)
    (hc : ∀ ps x y q, q < B → ∃ b : Bool, ev C c (F ps x y) q = some (.bl b, q + 1))
    (hM : ∀ ps x y q, ev C (.v iM) (F ps x y) q = some (.int (m : Nat), q)) (hI : ∀ ps a y q, ev C (.v i) (F ps (.fr (.int (a : Nat))) y) q = some (.int (a : Nat), q)) (hJ : ∀ ps (a b q : Nat), ev C (.tup [.tup [.v i, .v j]]) (F ps (.fr (.int a)) (.fr (.int b))) q = some (.tup [enc (a, b)], q))
    (hP : ∀ ps x y q, ev C (.v iP) (F ps x y) q = some (.tup (ps.map enc), q)) (si : ∀ ps x y d, (F ps x y).set i (.fr d) = F ps (.fr d) y) (sj : ∀ ps x y d, (F ps x y).set j (.fr d) = F ps x (.fr d)) (sp : ∀ ps x y (qs : List (Nat × Nat)), (F ps x y).set iP (.fr (.tup (qs.map enc))) = F qs x y)
    (h0 : ∃ x y, st0 = F [] x y) (r : ∀ ps x y k', Tab m ps → k' ≤ k + m * m → Run C ss (F ps x y) k' Q) :
    Run C (.for (.one i) .r1 (.v iM) (.c .non) (.c .non) [.for (.one j) .r2 (.add (.v i) (.c (.int 1))) (.v iM) (.c .non) (pairIn c i j iP)] :: ss) st0 k Q := by
  obtain ⟨x0, y0, rfl⟩ := h0
  refine Run.for1 (k1 := k) (fun (i : Nat) => .int i) (List.range m) (fun pre st q => q ≤ k + pre.length * m ∧ ∃ ps x y, Tab m ps ∧ (∀ p ∈ ps, p.1 < pre.length) ∧ st = F ps x y)
    (src_r1 (hM _ _ _ _) (by omega)) ⟨by omega, [], x0, y0, tab_nil, by simp, rfl⟩ (fun pre a post st q hp hi => ?_) (fun st q hi => ?_)
  · obtain ⟨hq, ps, x, y, ht, hb, rfl⟩ := hi
    have hpl : pre.length < m := by
      have := congrArg List.length hp
      simp at this
      omega
    have ha : a = pre.length := by
      have h1 := zipIdx_at hp
      rw [List.getElem?_range hpl] at h1
      exact (Option.some.inj h1).symm
    subst ha
    have hmul : pre.length * m + m ≤ m * m := by rw [← Nat.succ_mul]; exact Nat.mul_le_mul_right m hpl
    rw [si]
    refine Run.for1 (k1 := q) (fun (i : Nat) => .int i) (List.range' (pre.length + 1) (m - (pre.length + 1))) (fun pr st r => r ≤ q + pr.length ∧ ∃ ps y, Tab m ps ∧ (∀ p ∈ ps, p.1 < pre.length ∨ (p.1 = pre.length ∧ p.2 < pre.length + 1 + pr.length)) ∧ st = F ps (.fr (.int (pre.length : Nat))) y)
      (src_r2 (k1 := q) (by rw [ev, kb, hI]; rfl) (hM _ _ _ _) (by omega) (by omega)) ⟨by omega, ps, y, ht, fun p hp => .inl (hb p hp), rfl⟩ (fun pr b post2 st r hp2 hi => ?_) (fun st r hi => ?_)
    · obtain ⟨hr, ps, y, ht, hb, rfl⟩ := hi
      have hprl : pr.length < m - (pre.length + 1) := by
        have := congrArg List.length hp2
        simp at this
        omega
      have hbe : b = pre.length + 1 + pr.length := by
        have h1 := zipIdx_at hp2
        rw [List.getElem?_range'] at h1
        · have := Option.some.inj h1
          omega
        · exact hprl
      subst hbe
      rw [sj]
      obtain ⟨bb, e⟩ := hc ps (.fr (.int (pre.length : Nat))) (.fr (.int (pre.length + 1 + pr.length : Nat))) r (by omega)
      refine Run.iteB e (tru_bl bb (r + 1)) (fun _ => ?_) (fun _ => ?_)
      · refine Run.set (d := .tup ((ps ++ [(pre.length, pre.length + 1 + pr.length)]).map enc)) (k1 := r + 1) ?_ ?_
        · have hl := ht.len
          have hl2 : m * m ≤ 100 * 100 := Nat.mul_le_mul hm6 hm6
          rw [ev, kb, hP]
          show ((ev C (.tup [.tup [.v i, .v j]]) _) >>= _) (r + 1) = _
          rw [kb, hJ, List.map_append]
          exact add_tup (by rw [List.length_map]; simp; omega)
        · rw [sp]
          refine Run.nil (Run.nil ⟨by rw [List.length_append, List.length_singleton]; omega, _, _, ht.snoc (by omega) (by omega) (fun p hp => ?_), fun p hp => ?_, rfl⟩)
          · rcases hb p hp with h | h
            · exact .inl h
            · exact .inr h
          · rcases List.mem_append.mp hp with h | h
            · rcases hb p h with h | h
              · exact .inl h
              · exact .inr ⟨h.1, by rw [List.length_append, List.length_singleton]; omega⟩
            · rw [List.mem_singleton.mp h]
              exact .inr ⟨rfl, by rw [List.length_append, List.length_singleton]; show pre.length + 1 + pr.length < _; omega⟩
      · refine Run.nil (Run.nil ⟨by rw [List.length_append, List.length_singleton]; omega, _, _, ht, fun p hp => ?_, rfl⟩)
        rcases hb p hp with h | h
        · exact .inl h
        · exact .inr ⟨h.1, by rw [List.length_append, List.length_singleton]; omega⟩
    · obtain ⟨hr, ps, y, ht, hb, rfl⟩ := hi
      rw [List.length_range'] at hr
      refine Run.nil ⟨by rw [List.length_append, List.length_singleton, Nat.succ_mul]; omega, ps, _, _, ht, fun p hp => ?_, rfl⟩
      rw [List.length_append, List.length_singleton]
      rcases hb p hp with h | h <;> omega
  · obtain ⟨hq, ps, x, y, ht, hb, rfl⟩ := hi
    rw [List.length_range] at hq
    exact r ps x y q ht hq
/-- the first kind of tables -/
def table1 (d : Nat) : Fd := .py 3 9 [.set 3 (.add (.c (.int 1)) (.call d [.v 0, .v 1, .v 2])), .set 4 (.call d [.v 0, .v 1, .c (.int 4)]), .set 5 (.tup []),
    .for (.one 6) .r1 (.v 3) (.c .non) (.c .non) [.for (.one 7) .r2 (.add (.v 6) (.c (.int 1))) (.v 3) (.c .non) (pairIn (.cmp .le (.call d [.v 0, .v 1, .c (.int 4)]) (.v 4)) 6 7 5)],
    .ite (.and [.cmp .gt (.v 3) (.c (.int 2)), .cmp .eq (.call d [.v 0, .v 1, .c (.int 4)]) (.c (.int 0))]) [.set 5 (.b1 .tuple (.b1 .sorted (.add (.lc (.one 8) .r1 (.sub (.v 3) (.c (.int 1))) (.c .non) (.c .non) (.c (.bl true)) (.tup [.v 8, .add (.v 8) (.c (.int 1))]) [8]) (.lst [.tup [.c (.int 0), .sub (.v 3) (.c (.int 1))]]))))] [],
    .ret (.tup [.v 3, .v 5])]
/-- the second kind -/
def table2 (d p : Nat) : Fd := .py 3 8 [.par [(5, false), (6, false)] [.add (.c (.int 1)) (.call d [.v 0, .v 1, .v 2]), .tup []], .set 3 (.call p [.v 0, .v 1, .lst [.c (.int 1), .c (.int 2), .c (.int 3)]]),
    .for (.one 4) .r1 (.v 5) (.c .non) (.c .non) [.for (.one 7) .r2 (.add (.v 4) (.c (.int 1))) (.v 5) (.c .non) (pairIn (.cmp .lt (.call d [.v 0, .v 1, .c (.int 4)]) (.v 3)) 4 7 6)], .ret (.tup [.v 5, .v 6])]
theorem call_table2 {P : Pr} {d p t n k top : Nat} (hd : IsDraw P d) (hp : P.fns[p]? = some (pickF d)) (h : P.fns[t]? = some (table2 d p)) (ns : List Int) (h0 : 0 < top) (h6 : top ≤ 6) (hk : k + 50 < 16777215) :
    ∃ m ps k', 0 < m ∧ m ≤ top ∧ Tab m ps ∧ k' ≤ k + 40 ∧ (calls P (n + 3)).cl t [.scr ns, .town, .int (top : Nat)] k = some (tE m ps, k') := by
  obtain ⟨r, hr, e1⟩ := hd (n + 1) ns top k h0 (by omega)
  obtain ⟨x, hx, e2⟩ := pick_lst (n := n) (k := k + 1) hd hp ns [.int 1, .int 2, .int 3] (by simp) (by omega)
  have hxx : ∃ o : Nat, x = .int (o : Nat) := by
    simp only [List.mem_cons, List.not_mem_nil, or_false] at hx
    rcases hx with rfl | rfl | rfl
    · exact ⟨1, rfl⟩
    · exact ⟨2, rfl⟩
    · exact ⟨3, rfl⟩
  obtain ⟨o, rfl⟩ := hxx
  have hmm : (r + 1) * (r + 1) ≤ 6 * 6 := Nat.mul_le_mul (by omega) (by omega)
  have e0 : addD (.int 1) (.int (r : Nat)) (k + 1) = some (.int ((r + 1 : Nat) : Int), k + 1) := by
    rw [show (D.int ((r + 1 : Nat) : Int)) = D.int ((1 : Int) + (r : Nat)) by congr 1; omega]
    rfl
  obtain ⟨d', k', e, m, ps, m1, m2, ht, hk', rfl⟩ := call_run (n := n + 2) (args := [.scr ns, .town, .int (top : Nat)]) (st := [.fr (.scr ns), .fr .town, .fr (.int (top : Nat)), .un, .un, .un, .un, .un]) (k := k) (Q := fun d' k' => ∃ m ps, 0 < m ∧ m ≤ top ∧ Tab m ps ∧ k' ≤ k + 40 ∧ d' = tE m ps) h rfl rfl (by
    refine Run.par2 (x := .int ((r + 1 : Nat) : Int)) (y := .tup []) (k1 := k + 1) (by simp only [ev, evs, evAnd, evOr, kb, kp, getV, getB, List.getElem?_cons_succ, List.getElem?_cons_zero, Option.bind_some, List.set_cons_succ, List.set_cons_zero, tru_bl, if_true, if_false, Bool.false_eq_true, Bool.not_true, Bool.not_false, e1, e0]) ?_
    refine Run.set (d := .int (o : Nat)) (k1 := k + 2) (by simp only [ev, evs, evAnd, evOr, kb, kp, getV, getB, List.getElem?_cons_succ, List.getElem?_cons_zero, Option.bind_some, List.set_cons_succ, List.set_cons_zero, tru_bl, if_true, if_false, Bool.false_eq_true, Bool.not_true, Bool.not_false, slOf, Bool.false_eq_true, if_false, e2]) ?_
    simp only [List.set_cons_succ, List.set_cons_zero, List.getElem?_cons_succ, List.getElem?_cons_zero, slOf, Bool.false_eq_true, if_false]
    refine pairs_run (m := r + 1) (B := k + 2 + 40) (F := fun ps x y => [.fr (.scr ns), .fr .town, .fr (.int (top : Nat)), .fr (.int (o : Nat)), x, .fr (.int ((r + 1 : Nat) : Int)), .fr (.tup (ps.map enc)), y]) (by omega) (by omega) (fun ps x y q hq => ?_) (fun ps x y q => by simp only [ev, evs, evAnd, evOr, kb, kp, getV, getB, List.getElem?_cons_succ, List.getElem?_cons_zero, Option.bind_some, List.set_cons_succ, List.set_cons_zero, tru_bl, if_true, if_false, Bool.false_eq_true, Bool.not_true, Bool.not_false]) (fun ps a y q => by simp only [ev, evs, evAnd, evOr, kb, kp, getV, getB, List.getElem?_cons_succ, List.getElem?_cons_zero, Option.bind_some, List.set_cons_succ, List.set_cons_zero, tru_bl, if_true, if_false, Bool.false_eq_true, Bool.not_true, Bool.not_false]) (fun ps a b q => by simp only [ev, evs, evAnd, evOr, kb, kp, getV, getB, List.getElem?_cons_succ, List.getElem?_cons_zero, Option.bind_some, List.set_cons_succ, List.set_cons_zero, tru_bl, if_true, if_false, Bool.false_eq_true, Bool.not_true, Bool.not_false]; rfl) (fun ps x y q => by simp only [ev, evs, evAnd, evOr, kb, kp, getV, getB, List.getElem?_cons_succ, List.getElem?_cons_zero, Option.bind_some, List.set_cons_succ, List.set_cons_zero, tru_bl, if_true, if_false, Bool.false_eq_true, Bool.not_true, Bool.not_false]) (fun ps x y d => rfl) (fun ps x y d => rfl) (fun ps x y qs => rfl) ⟨.un, .un, rfl⟩ (fun ps x y k' ht hk' => ?_)
    · obtain ⟨b, hb, e3⟩ := hd (n + 1) ns 4 q (by decide) (by omega)
      have e3' : (calls P (n + 2)).cl d [.scr ns, .town, .int 4] q = some (.int (b : Nat), q + 1) := e3
      exact ⟨decide (b < o), by simp only [ev, evs, evAnd, evOr, kb, kp, getV, getB, List.getElem?_cons_succ, List.getElem?_cons_zero, Option.bind_some, List.set_cons_succ, List.set_cons_zero, tru_bl, if_true, if_false, Bool.false_eq_true, Bool.not_true, Bool.not_false, e3', lt_nat]⟩
    · exact Run.ret (d := tE (r + 1) ps) (k1 := k') (by simp only [ev, evs, evAnd, evOr, kb, kp, getV, getB, List.getElem?_cons_succ, List.getElem?_cons_zero, Option.bind_some, List.set_cons_succ, List.set_cons_zero, tru_bl, if_true, if_false, Bool.false_eq_true, Bool.not_true, Bool.not_false]; rfl) ⟨r + 1, ps, by omega, by omega, ht, by omega, rfl⟩)
  exact ⟨m, ps, k', m1, m2, ht, hk', e⟩
/-- a row in some order -/
def shufF (d : Nat) : Fd := .py 3 5 [.par [(3, true), (4, true)] [.b1 .list (.v 2), .lst []], .whl (.bv 3) [.popa 4 3 (.call d [.v 0, .v 1, .b1 .len (.bv 3)])], .ret (.b1 .tuple (.bv 4))]
theorem perm_eraseIdx {α : Type} {x : α} : ∀ {l : List α} {i : Nat}, l[i]? = some x → (x :: l.eraseIdx i).Perm l
  | [], _, h => by simp at h
  | a :: l, 0, h => by cases h; exact List.Perm.refl _
  | a :: l, i + 1, h => by
    rw [List.eraseIdx_cons_succ]
    exact (List.Perm.swap a x _).trans (List.Perm.cons a (perm_eraseIdx (by simpa using h)))
theorem perm_erase {l : List D} {i : Nat} {x : D} (h : l[i]? = some x) (f : List D) : (f ++ [x] ++ l.eraseIdx i).Perm (f ++ l) := by
  rw [List.append_assoc]
  refine List.Perm.append_left f ?_
  exact perm_eraseIdx h
theorem call_shuf {P : Pr} {d t n k : Nat} (hd : IsDraw P d) (h : P.fns[t]? = some (shufF d)) (ns : List Int) (row : D) (l : List D) (hrow : ∀ q, f1D .list row q = some (.lst l, q)) (hl : l.length ≤ 10000) (hk : k + l.length < 16777215) :
    ∃ l' k', l'.Perm l ∧ k' ≤ k + l.length ∧ (calls P (n + 2)).cl t [.scr ns, .town, row] k = some (.tup l', k') := by
  obtain ⟨d', k', e, l', hl', hk', rfl⟩ := call_run (n := n + 1) (args := [.scr ns, .town, row]) (st := [.fr (.scr ns), .fr .town, .fr row, .un, .un]) (k := k) (Q := fun d' k' => ∃ l', l'.Perm l ∧ k' ≤ k + l.length ∧ d' = .tup l') h rfl rfl (by
    refine Run.par2 (x := .lst l) (y := .lst []) (k1 := k) (by simp only [ev, evs, evAnd, evOr, kb, kp, getV, getB, List.getElem?_cons_succ, List.getElem?_cons_zero, Option.bind_some, List.set_cons_succ, List.set_cons_zero, tru_bl, if_true, if_false, Bool.false_eq_true, Bool.not_true, Bool.not_false, hrow]) ?_
    simp only [List.set_cons_succ, List.set_cons_zero, List.getElem?_cons_succ, List.getElem?_cons_zero, slOf, if_true]
    refine Run.whl (fun c st q => ∃ lf fd, (fd ++ lf).Perm l ∧ lf.length = c ∧ q + c ≤ k + l.length ∧ st = [.fr (.scr ns), .fr .town, .fr row, .ow (.lst lf), .ow (.lst fd)]) l.length (by omega) ⟨l, [], by simp, rfl, by omega, rfl⟩ (fun c st q hi => ?_)
    obtain ⟨lf, fd, hp, hc, hq, rfl⟩ := hi
    refine ⟨.lst lf, !lf.isEmpty, q, by simp only [ev, evs, evAnd, evOr, kb, kp, getV, getB, List.getElem?_cons_succ, List.getElem?_cons_zero, Option.bind_some, List.set_cons_succ, List.set_cons_zero, tru_bl, if_true, if_false, Bool.false_eq_true, Bool.not_true, Bool.not_false], rfl, fun hb => ?_, fun hb => ?_⟩
    · have hne : lf ≠ [] := fun z => by rw [z] at hb; cases hb
      have hpos := List.length_pos_iff.mpr hne
      have hlen := hp.length_eq
      rw [List.length_append] at hlen
      obtain ⟨r, hr, e1⟩ := hd n ns lf.length q hpos (by omega)
      have hx : lf[r]? = some lf[r] := List.getElem?_eq_getElem hr
      refine Run.popa (q := (r : Nat)) (jj := r) (l := lf) (m := fd) (d := lf[r]) (k1 := q + 1) (by simp only [ev, evs, evAnd, evOr, kb, kp, getV, getB, List.getElem?_cons_succ, List.getElem?_cons_zero, Option.bind_some, List.set_cons_succ, List.set_cons_zero, tru_bl, if_true, if_false, Bool.false_eq_true, Bool.not_true, Bool.not_false, len_lst, e1]) (smallI_nat (by omega)) rfl ?_ hx rfl (by omega) ?_
      · unfold ixN
        rw [if_pos (by omega), if_pos (by omega)]
        rfl
      · refine Run.nil ⟨lf.length - 1, by omega, lf.eraseIdx r, fd ++ [lf[r]], (perm_erase hx fd).trans hp, ?_, by omega, rfl⟩
        rw [List.length_eraseIdx]
        simp [hr]
    · have hne : lf = [] := by
        cases lf with
        | nil => rfl
        | cons _ _ => cases hb
      subst hne
      rw [List.append_nil] at hp
      exact Run.ret (d := .tup fd) (k1 := q) (by simp only [ev, evs, evAnd, evOr, kb, kp, getV, getB, List.getElem?_cons_succ, List.getElem?_cons_zero, Option.bind_some, List.set_cons_succ, List.set_cons_zero, tru_bl, if_true, if_false, Bool.false_eq_true, Bool.not_true, Bool.not_false, tuple_lst]) ⟨fd, hp, by omega, rfl⟩)
  exact ⟨l', k', hl', hk', e⟩
theorem perm_map_aux {α β : Type} {f : α → β} {x y : List β} (h : x.Perm y) : ∀ l : List α, y = l.map f → ∃ l' : List α, l'.Perm l ∧ x = l'.map f := by
  induction h with
  | nil =>
    intro l e
    cases l with
    | nil => exact ⟨[], List.Perm.refl _, rfl⟩
    | cons _ _ => cases e
  | cons a _ ih =>
    intro l e
    cases l with
    | nil => cases e
    | cons b l =>
      rw [List.map_cons] at e
      obtain ⟨e1, e2⟩ := List.cons.inj e
      obtain ⟨l', h1, h2⟩ := ih l e2
      exact ⟨b :: l', List.Perm.cons b h1, by rw [List.map_cons, e1, h2]⟩
  | swap a b m =>
    intro l e
    cases l with
    | nil => cases e
    | cons p l =>
      cases l with
      | nil => cases e
      | cons q l =>
        rw [List.map_cons, List.map_cons] at e
        obtain ⟨e1, e2⟩ := List.cons.inj e
        obtain ⟨e3, e4⟩ := List.cons.inj e2
        exact ⟨q :: p :: l, List.Perm.swap p q l, by rw [List.map_cons, List.map_cons, e1, e3, e4]⟩
  | trans _ _ ih1 ih2 =>
    intro l e
    obtain ⟨l1, h1, h2⟩ := ih2 l e
    obtain ⟨l2, h3, h4⟩ := ih1 l1 h2
    exact ⟨l2, h3.trans h1, h4⟩
theorem perm_map {α β : Type} {f : α → β} {x : List β} {l : List α} (h : x.Perm (l.map f)) : ∃ l' : List α, l'.Perm l ∧ x = l'.map f := perm_map_aux h l rfl
/-- a row in some order, typed -/
theorem call_shufE {α : Type} {P : Pr} {d t n k : Nat} (hd : IsDraw P d) (h : P.fns[t]? = some (shufF d)) (ns : List Int) (row : D) (f : α → D) (l : List α) (hrow : ∀ q, f1D .list row q = some (.lst (l.map f), q)) (hl : l.length ≤ 10000) (hk : k + l.length < 16777215) :
    ∃ (l' : List α) (k' : Nat), l'.Perm l ∧ k' ≤ k + l.length ∧ (calls P (n + 2)).cl t [.scr ns, .town, row] k = some (.tup (l'.map f), k') := by
  obtain ⟨x, k', h1, h2, h3⟩ := call_shuf (n := n) (k := k) hd h ns row (l.map f) hrow (by rw [List.length_map]; exact hl) (by rw [List.length_map]; exact hk)
  obtain ⟨l', h4, rfl⟩ := perm_map h1
  rw [List.length_map] at h2
  exact ⟨l', k', h4, h2, h3⟩
end G

namespace G
/-! ### slices, options -/
theorem cutIx_nat (n d i : Nat) : cutIx n d (some (i : Nat)) = min i n := by
  show (if (0 : Int) ≤ (i : Int) then min (i : Int).toNat n else ((i : Int) + (n : Int)).toNat) = _
  rw [if_pos (by omega)]
  rfl
theorem cut_hi {α : Type} (l : List α) (i : Nat) : cut l none (some (i : Nat)) = l.take i := by
  unfold cut
  rw [cutIx_nat]
  show (l.drop 0).take (min i l.length - 0) = _
  rw [List.drop_zero, Nat.sub_zero, List.take_eq_take_iff]
  omega
theorem cut_lo {α : Type} (l : List α) (i : Nat) : cut l (some (i : Nat)) none = l.drop i := by
  unfold cut
  rw [cutIx_nat]
  show (l.drop (min i l.length)).take (l.length - min i l.length) = _
  rw [List.take_of_length_le (by rw [List.length_drop]; omega)]
  by_cases h : i ≤ l.length
  · rw [Nat.min_eq_left h]
  · rw [Nat.min_eq_right (by omega), List.drop_length, List.drop_eq_nil_of_le (by omega)]
theorem slh_tup (l : List D) (i q : Nat) : slhD (.tup l) (.int (i : Nat)) q = some (.tup (l.take i), q) := by
  show some (D.tup (cut l none (some (i : Int))), q) = _
  rw [cut_hi]
theorem sll_tup (l : List D) (i q : Nat) : sllD (.tup l) (.int (i : Nat)) q = some (.tup (l.drop i), q) := by
  show some (D.tup (cut l (some (i : Int)) none), q) = _
  rw [cut_lo]
section
variable {α : Type} [DecidableEq α] [Enc α]
theorem slh_enc (l : List α) (i q : Nat) : slhD (enc l) (.int (i : Nat)) q = some (enc (l.take i), q) := by
  rw [show enc l = .tup (l.map enc) from rfl, slh_tup, ← List.map_take] <;> rfl
theorem sll_enc (l : List α) (i q : Nat) : sllD (enc l) (.int (i : Nat)) q = some (enc (l.drop i), q) := by
  rw [show enc l = .tup (l.map enc) from rfl, sll_tup, ← List.map_drop] <;> rfl
theorem add_enc (l m : List α) (q : Nat) (h : l.length + m.length ≤ 16777216) : addD (enc l) (enc m) q = some (enc (l ++ m), q) := by
  rw [show enc (l ++ m) = .tup (l.map enc ++ m.map enc) by show D.tup ((l ++ m).map enc) = _; rw [List.map_append]]
  exact add_tup (by rw [List.length_map, List.length_map]; exact h)
theorem eqv_non {d : D} (h : d ≠ .non) : eqv .non d = false ∧ eqv d .non = false := by
  cases d with
  | non => exact absurd rfl h
  | _ => exact ⟨by simp [eqv], by simp [eqv]⟩
theorem opt_ok (o : Option α) (h : Enc.dep α ≤ 40) : okd 40 (optD o) = true := by
  cases o with
  | none => rfl
  | some a => exact enc_ok a h
theorem opt_eq (o p : Option α) : eqv (optD o) (optD p) = decide (o = p) := by
  cases o with
  | none =>
    cases p with
    | none => rfl
    | some b => rw [show optD (some b) = enc b from rfl]; simp [optD, (eqv_non (Enc.nn b)).1]
  | some a =>
    cases p with
    | none => rw [show optD (some a) = enc a from rfl]; simp [optD, (eqv_non (Enc.nn a)).2]
    | some b => show eqv (enc a) (enc b) = _; rw [Enc.eq]; simp
theorem cmp_neO (o p : Option α) (k : Nat) (h : Enc.dep α ≤ 40) : cmpM .ne (optD o) (optD p) k = some (.bl (!decide (o = p)), k) := by
  show ((if (okd 40 (optD o) && okd 40 (optD p)) = true then (pure (!eqv (optD o) (optD p)) : M Bool) else no) >>= fun r => (pure (.bl r) : M D)) k = _
  rw [opt_ok o h, opt_ok p h, opt_eq]
  rfl
theorem cmp_ne' (a b : α) (k : Nat) (h : Enc.dep α ≤ 40) : cmpM .ne (enc a) (enc b) k = some (.bl (!decide (a = b)), k) := by
  rw [cmp_ne a b h]
  simp
end
theorem ne_self {α : Type} [DecidableEq α] [Enc α] (a : α) (k : Nat) (h : Enc.dep α ≤ 40) : cmpM .ne (enc a) (enc a) k = some (.bl false, k) := by
  rw [cmp_ne' a a k h]
  simp
theorem neO_self {α : Type} [DecidableEq α] [Enc α] (o : Option α) (k : Nat) (h : Enc.dep α ≤ 40) : cmpM .ne (optD o) (optD o) k = some (.bl false, k) := by
  rw [cmp_neO o o k h]
  simp
theorem neB_self (a : Bool) (k : Nat) : cmpM .ne (.bl a) (.bl a) k = some (.bl false, k) := by cases a <;> rfl
theorem neI_self (a : Int) (k : Nat) : cmpM .ne (.int a) (.int a) k = some (.bl false, k) := by
  show some (D.bl (!(a == a)), k) = _
  simp
/-- what draws leave -/
theorem row_of {α : Type} {Pr : α → Prop} {f : α → D} : ∀ {ds : List D}, (∀ d ∈ ds, ∃ a, Pr a ∧ d = f a) → ∃ w : List α, ds = w.map f ∧ ∀ a ∈ w, Pr a
  | [], _ => ⟨[], rfl, by simp⟩
  | d :: ds, h => by
    obtain ⟨a, ha, e⟩ := h d List.mem_cons_self
    obtain ⟨w, h1, h2⟩ := row_of fun d' hd => h d' (List.mem_cons_of_mem _ hd)
    refine ⟨a :: w, by rw [e, h1]; rfl, fun b hb => ?_⟩
    rcases List.mem_cons.mp hb with e | e
    · rw [e]; exact ha
    · exact h2 b e
theorem ev_mapT' {C : Cs} {st : St} {k k1 : Nat} {sk : Sk} {a b c elt : E} {i : Nat} {own : List Nat} {α β : Type} {t B : Nat} (cc : α → D) (l : List α) (f : β → D) (Pr : β → Prop) (hs : srcE C sk a b c st k = some (l.map cc, k1)) (hB : k1 + l.length * t ≤ B)
    (he : ∀ x ∈ l, ∀ k, k + t ≤ B → ∃ y k', ev C elt ((wipe st own).set i (.fr (cc x))) k = some (f y, k') ∧ k' ≤ k + t ∧ Pr y) :
    ∃ (w : List β) (k' : Nat), ev C (.lc (.one i) sk a b c (.c (.bl true)) elt own) st k = some (.lst (w.map f), k') ∧ k' ≤ k1 + l.length * t ∧ w.length = l.length ∧ ∀ y ∈ w, Pr y := by
  obtain ⟨ds, k', e, h1, h2, h3⟩ := ev_mapT (B := B) cc l (fun _ d => ∃ y, Pr y ∧ d = f y) hs hB fun x hx k hk => by
    obtain ⟨y, k', e, h, p⟩ := he x hx k hk
    exact ⟨f y, k', e, h, y, p, rfl⟩
  obtain ⟨w, e1, e2⟩ := row_of (Pr := Pr) (f := f) (ds := ds) fun d hd => by
    obtain ⟨j, hj⟩ := List.mem_iff_getElem?.mp hd
    have hlt : j < ds.length := by
      rcases Nat.lt_or_ge j ds.length with z | z
      · exact z
      · rw [List.getElem?_eq_none z] at hj; cases hj
    exact h3 j l[j] d (List.getElem?_eq_getElem (by omega)) hj
  subst e1
  exact ⟨w, k', e, h1, by simpa using h2, e2⟩
theorem cmp_neB (a b : Bool) (k : Nat) : cmpM .ne (.bl a) (.bl b) k = some (.bl (a != b), k) := by cases a <;> cases b <;> rfl
theorem cmp_eqB (a b : Bool) (k : Nat) : cmpM .eq (.bl a) (.bl b) k = some (.bl (a == b), k) := by cases a <;> cases b <;> rfl
theorem isnF (d : D) (b : Bool) (h : isnD false d = .bl b) : isnD false d = .bl b := h
theorem isn_opt {α : Type} [DecidableEq α] [Enc α] (o : Option α) : isnD false (optD o) = .bl o.isNone ∧ isnD true (optD o) = .bl o.isSome := by
  cases o with
  | none => exact ⟨rfl, rfl⟩
  | some a =>
    have h : ∀ d : D, d ≠ .non → isnD false d = .bl false ∧ isnD true d = .bl true := fun d h => by
      cases d with
      | non => exact absurd rfl h
      | _ => exact ⟨rfl, rfl⟩
    exact h _ (Enc.nn a)
/-! ### codes -/
variable {ps : List (Nat × Nat)}
theorem mixB_comm' (a b : Nat) : mixB ps a b = mixB ps b a := by
  unfold mixB
  have e : decide (a = b) = decide (b = a) := by
    by_cases h : a = b
    · simp [h]
    · simp [h]
      exact fun z => h z.symm
  rw [e, Nat.min_comm a b, Nat.max_comm a b]
theorem mwB_comm : ∀ (u v : List Nat), mwB ps u v = mwB ps v u
  | [], v => by cases v <;> rfl
  | _ :: _, [] => rfl
  | a :: u, b :: v => by
    show (mixB ps a b && mwB ps u v) = (mixB ps b a && mwB ps v u)
    rw [mixB_comm', mwB_comm u v]
theorem mwB_self : ∀ u : List Nat, mwB ps u u = true
  | [] => rfl
  | a :: u => by
    show (mixB ps a a && mwB ps u u) = true
    rw [mwB_self u]
    simp [mixB]
/-- told apart, each from each -/
def apart (ps : List (Nat × Nat)) (l : List (List Nat)) : Prop := l.Pairwise fun u v => mwB ps u v = false
theorem getD_lt {α : Type} {l : List α} {i : Nat} {d : α} (h : i < l.length) : l.getD i d = l[i] := by
  rw [List.getD_eq_getElem?_getD, List.getElem?_eq_getElem h]
  rfl
theorem clash_none {l : List (List Nat)} : clashN ps l = none ↔ apart ps l := by
  unfold clashN clashIn apart
  rw [List.findSome?_eq_none_iff, List.pairwise_iff_getElem]
  constructor
  · intro h i j hi hj hij
    have h1 := h i (by simpa using hi)
    rw [List.findSome?_eq_none_iff] at h1
    have h2 := h1 j (List.mem_range'_1.mpr ⟨by omega, by omega⟩)
    rw [getD_lt hi, getD_lt hj] at h2
    cases e : mwB ps l[i] l[j] with
    | false => rfl
    | true => rw [e] at h2; cases h2
  · intro h i hi
    rw [List.findSome?_eq_none_iff]
    intro j hj
    have hi' : i < l.length := by simpa using hi
    have hj' := List.mem_range'_1.mp hj
    have hj2 : j < l.length := by omega
    rw [getD_lt hi', getD_lt hj2, h i j hi' hj2 (by omega)]
    rfl
theorem apart_perm {l m : List (List Nat)} (h : l.Perm m) (a : apart ps l) : apart ps m := (h.pairwise_iff fun {u v} e => by rw [mwB_comm]; exact e).mp a
theorem apart_snoc {l : List (List Nat)} {w : List Nat} : apart ps (l ++ [w]) ↔ apart ps l ∧ freeB ps l w = true := by
  unfold apart freeB
  rw [List.pairwise_append]
  simp only [List.mem_singleton, List.pairwise_singleton, true_and, Bool.not_eq_true', List.any_eq_false]
  constructor
  · rintro ⟨h1, h2⟩
    exact ⟨h1, fun o ho => by rw [mwB_comm, h2 o ho w rfl]; simp⟩
  · rintro ⟨h1, h2⟩
    refine ⟨h1, fun o ho x hx => ?_⟩
    rw [hx, mwB_comm]
    simpa using h2 o ho
theorem freeB_mem {l m : List (List Nat)} {w : List Nat} (h : ∀ x, x ∈ l ↔ x ∈ m) : freeB ps l w = freeB ps m w := by
  unfold freeB
  rw [Bool.eq_iff_iff]
  simp only [Bool.not_eq_true', List.any_eq_false]
  exact ⟨fun z x hx => z x ((h x).mpr hx), fun z x hx => z x ((h x).mp hx)⟩
/-- a word of the code said again -/
theorem clash_twice {l : List (List Nat)} (h : apart ps l) {i : Nat} (hi : i < l.length) : clashN ps (l ++ [l[i]]) = some (i, l.length) := by
  have hlen : (l ++ [l[i]]).length = l.length + 1 := by simp
  have hin : ∀ j, j < l.length → (l ++ [l[i]]).getD j [] = l[j]! := fun j hj => by
    rw [List.getD_eq_getElem?_getD, List.getElem?_append_left hj, List.getElem?_eq_getElem hj, List.getElem!_eq_getElem?_getD, List.getElem?_eq_getElem hj]
    rfl
  have hend : (l ++ [l[i]]).getD l.length [] = l[i] := by
    rw [List.getD_eq_getElem?_getD, List.getElem?_append_right (Nat.le_refl _)]
    simp
  have hap := List.pairwise_iff_getElem.mp h
  have hb : ∀ j, (hj : j < l.length) → l[j]! = l[j] := fun j hj => by rw [List.getElem!_eq_getElem?_getD, List.getElem?_eq_getElem hj]; rfl
  have hsplit : List.range (l.length + 1) = List.range i ++ i :: List.range' (i + 1) (l.length - i) := by
    rw [List.range_eq_range', List.range_eq_range', show l.length + 1 = i + (1 + (l.length - i)) by omega, ← List.range'_append, ← List.range'_append (m := 1)]
    simp [List.range'_succ]
  unfold clashN
  rw [hlen]
  refine findSome_split (a := i) hsplit (fun x hx => ?_) ?_
  · have hx' : x < i := by simpa using hx
    unfold clashIn
    refine findSome_none fun j hj => ?_
    have hj' := List.mem_range'_1.mp hj
    rw [hlen] at hj'
    rw [hin x (by omega), hb x (by omega)]
    by_cases hjl : j < l.length
    · rw [hin j hjl, hb j hjl, hap x j (by omega) hjl (by omega)]
      rfl
    · rw [show j = l.length by omega, hend, hap x i (by omega) hi hx']
      rfl
  · unfold clashIn
    rw [hlen]
    refine findSome_split (p := List.range' (i + 1) (l.length - (i + 1))) (q := []) (a := l.length) ?_ (fun j hj => ?_) ?_
    · rw [show l.length + 1 - (i + 1) = (l.length - (i + 1)) + 1 by omega, ← List.range'_append (m := l.length - (i + 1)) (n := 1)]
      simp
      omega
    · have hj' := List.mem_range'_1.mp hj
      rw [hin i hi, hb i hi, hin j (by omega), hb j (by omega), hap i j hi (by omega) (by omega)]
      rfl
    · rw [hin i hi, hb i hi, hend, mwB_self]
      rfl
end G

namespace G
/-! ### rows in order -/
section
variable {α : Type} [DecidableEq α] [Enc α]
def sortE (l : List α) : List α := l.mergeSort fun a b => !Enc.ltb b a
theorem sortL_enc (l : List α) : sortL (l.map enc) = (sortE l).map enc := by
  unfold sortL sortE
  exact (List.map_mergeSort fun a _ b _ => by show (!Enc.ltb b a) = !G.lt (enc b) (enc a); rw [Enc.lt]).symm
theorem sortable_enc {l : List α} (h : Enc.dep α ≤ 40) (h2 : ((l.map enc).all isTup1 || (l.map enc).all fun x => !isTup0 x && !isNon x) = true) : sortable (l.map enc) = true := by
  have h3 : ((l.map enc).all isTup0 || (l.map enc).all fun x => !isTup0 x && !isNon x) = true := by
    rcases Bool.or_eq_true_iff.mp h2 with z | z
    · rw [Bool.or_eq_true]
      refine .inl (List.all_eq_true.mpr fun d hd => ?_)
      have := List.all_eq_true.mp z d hd
      cases d with
      | tup l => rfl
      | _ => cases this
    · rw [z, Bool.or_true]
  unfold sortable alikes
  rw [show okds deep (l.map enc) = true from encs_ok l h, h3]
  rw [Bool.true_and, Bool.and_true, List.all_eq_true]
  intro x hx
  rw [List.all_eq_true]
  intro y hy
  obtain ⟨a, _, rfl⟩ := List.mem_map.mp hx
  obtain ⟨b, _, rfl⟩ := List.mem_map.mp hy
  exact Enc.like a b
/-- rows of rows, empty ones among them -/
theorem sorted_rows (l : List (List α)) (h : Enc.dep α + 1 ≤ 40) (q : Nat) : f1D .sorted (.lst (l.map enc)) q = some (.lst ((sortE l).map enc), q) := by
  show (if sortable (l.map enc) = true then (pure (.lst (sortL (l.map enc))) : M D) else no) q = _
  have h3 : sortable (l.map enc) = true := by
    unfold sortable alikes
    rw [show okds deep (l.map enc) = true from encs_ok l h]
    have t0 : (l.map enc).all isTup0 = true := List.all_eq_true.mpr fun d hd => by
      obtain ⟨a, _, rfl⟩ := List.mem_map.mp hd
      rfl
    rw [t0, Bool.true_and, Bool.true_or, Bool.and_true, List.all_eq_true]
    intro x hx
    rw [List.all_eq_true]
    intro y hy
    obtain ⟨a, _, rfl⟩ := List.mem_map.mp hx
    obtain ⟨b, _, rfl⟩ := List.mem_map.mp hy
    exact Enc.like a b
  rw [if_pos h3, sortL_enc]
  rfl
theorem sorted_enc {l : List α} (h : Enc.dep α ≤ 40) (h2 : ((l.map enc).all isTup1 || (l.map enc).all fun x => !isTup0 x && !isNon x) = true) (q : Nat) : f1D .sorted (.lst (l.map enc)) q = some (.lst ((sortE l).map enc), q) := by
  show (if sortable (l.map enc) = true then (pure (.lst (sortL (l.map enc))) : M D) else no) q = _
  rw [if_pos (sortable_enc h h2), sortL_enc]
  rfl
theorem sortedT_enc {l : List α} (h : Enc.dep α ≤ 40) (h2 : ((l.map enc).all isTup1 || (l.map enc).all fun x => !isTup0 x && !isNon x) = true) (q : Nat) : f1D .sorted (enc l) q = some (.lst ((sortE l).map enc), q) := by
  show (if (sortable (l.map enc) || (okds deep (l.map enc) && decide ((l.map enc).length ≤ 1))) = true then (pure (.lst (sortL (l.map enc))) : M D) else no) q = _
  rw [sortable_enc h h2, Bool.true_or, if_pos rfl, sortL_enc]
  rfl
theorem sortT_one {l : List α} (h : Enc.dep α ≤ 40) (h2 : l.length ≤ 1) (q : Nat) : f1D .sorted (enc l) q = some (.lst (l.map enc), q) := by
  show (if (sortable (l.map enc) || (okds deep (l.map enc) && decide ((l.map enc).length ≤ 1))) = true then (pure (.lst (sortL (l.map enc))) : M D) else no) q = _
  rw [show okds deep (l.map enc) = true from encs_ok l h, List.length_map, decide_eq_true h2, Bool.true_and, Bool.or_true, if_pos rfl]
  have e : sortL (l.map enc) = l.map enc := by
    unfold sortL
    match l, h2 with
    | [], _ => simp
    | [a], _ => simp
  rw [e]
  rfl
theorem sortE_perm (l : List α) : (sortE l).Perm l := List.mergeSort_perm l _
end
theorem tup1_pairs (l : List (Nat × Nat)) : ((l.map enc).all isTup1 || (l.map enc).all fun x => !isTup0 x && !isNon x) = true := by
  rw [Bool.or_eq_true]
  refine .inl (List.all_eq_true.mpr fun d hd => ?_)
  obtain ⟨a, _, rfl⟩ := List.mem_map.mp hd
  rfl
theorem tup1_nats (l : List Nat) : ((l.map enc).all isTup1 || (l.map enc).all fun x => !isTup0 x && !isNon x) = true := by
  rw [Bool.or_eq_true]
  refine .inr (List.all_eq_true.mpr fun d hd => ?_)
  obtain ⟨a, _, rfl⟩ := List.mem_map.mp hd
  rfl
theorem ltb_iff (p q : Nat × Nat) : Enc.ltb p q = true ↔ plt p q := by
  show (if p.1 = q.1 then (if p.2 = q.2 then false else decide (p.2 < q.2)) else decide (p.1 < q.1)) = true ↔ _
  unfold plt
  split
  · split
    · simp; omega
    · simp; omega
  · simp; omega
theorem sortP_so {l : List (Nat × Nat)} (nd : l.Nodup) : (sortE l).Pairwise plt := by
  have h1 : (sortE l).Pairwise fun a b => (!Enc.ltb b a) = true := List.pairwise_mergeSort (fun a b c x y => by
    rw [Bool.not_eq_true', ← Bool.not_eq_true, ltb_iff] at x y ⊢
    unfold plt at x y ⊢
    omega) (fun a b => by
    rw [Bool.or_eq_true, Bool.not_eq_true', Bool.not_eq_true', ← Bool.not_eq_true, ← Bool.not_eq_true, ltb_iff, ltb_iff]
    unfold plt
    omega) l
  have h2 : (sortE l).Nodup := (sortE_perm l).nodup_iff.mpr nd
  refine (h1.and h2).imp fun {a b} h => ?_
  obtain ⟨x, y⟩ := h
  rw [Bool.not_eq_true', ← Bool.not_eq_true, ltb_iff] at x
  have z : a.1 = b.1 → a.2 = b.2 → False := fun e1 e2 => y (Prod.ext e1 e2)
  unfold plt at x ⊢
  by_cases e1 : a.1 = b.1 <;> by_cases e2 : a.2 = b.2 <;> first | exact absurd e2 (fun e => z e1 e) | omega
theorem tab_sort {m : Nat} {l : List (Nat × Nat)} (nd : l.Nodup) (h1 : ∀ p ∈ l, p.1 < p.2) (h2 : ∀ p ∈ l, p.2 < m) : Tab m (sortE l) :=
  ⟨fun p hp => h1 p ((sortE_perm l).mem_iff.mp hp), fun p hp => h2 p ((sortE_perm l).mem_iff.mp hp), sortP_so nd⟩
/-! ### the first kind of tables -/
def ringN (m : Nat) : List (Nat × Nat) := ((List.range (m - 1)).map fun i => (i, i + 1)) ++ [(0, m - 1)]
theorem ring_tab {m : Nat} (hm : 2 < m) : Tab m (sortE (ringN m)) := by
  refine tab_sort ?_ (fun p hp => ?_) (fun p hp => ?_)
  · unfold ringN
    rw [List.nodup_append]
    refine ⟨?_, by simp, ?_⟩
    · unfold List.Nodup
      rw [List.pairwise_map]
      exact List.pairwise_lt_range.imp fun h e => by injection e; omega
    · intro a ha b hb e
      rw [List.mem_singleton] at hb
      obtain ⟨i, hi, rfl⟩ := List.mem_map.mp ha
      rw [hb] at e
      injection e with e1 e2
      omega
  · unfold ringN at hp
    rcases List.mem_append.mp hp with z | z
    · obtain ⟨i, hi, rfl⟩ := List.mem_map.mp z
      show i < i + 1
      omega
    · rw [List.mem_singleton.mp z]
      show 0 < m - 1
      omega
  · unfold ringN at hp
    rcases List.mem_append.mp hp with z | z
    · obtain ⟨i, hi, rfl⟩ := List.mem_map.mp z
      have : i < m - 1 := by simpa using hi
      show i + 1 < m
      omega
    · rw [List.mem_singleton.mp z]
      show m - 1 < m
      omega
theorem sub1 {a : Nat} (h : 0 < a) (k : Nat) : subD (.int a) (.int 1) k = some (.int ((a - 1 : Nat) : Int), k) := by
  show some (D.int ((a : Int) - 1), k) = _
  rw [show (a : Int) - 1 = ((a - 1 : Nat) : Int) by omega]
theorem call_table1 {P : Pr} {d t n k top : Nat} (hd : IsDraw P d) (h : P.fns[t]? = some (table1 d)) (ns : List Int) (h0 : 0 < top) (h6 : top ≤ 6) (hk : k + 60 < 16777215) :
    ∃ m ps k', 0 < m ∧ m ≤ top ∧ Tab m ps ∧ k' ≤ k + 40 ∧ (calls P (n + 2)).cl t [.scr ns, .town, .int (top : Nat)] k = some (tE m ps, k') := by
  obtain ⟨r, hr, e1⟩ := hd n ns top k h0 (by omega)
  obtain ⟨dn, hdn, e2⟩ := hd n ns 4 (k + 1) (by decide) (by omega)
  have e2' : (calls P (n + 1)).cl d [.scr ns, .town, .int 4] (k + 1) = some (.int (dn : Nat), k + 2) := e2
  have hmm : (r + 1) * (r + 1) ≤ 6 * 6 := Nat.mul_le_mul (by omega) (by omega)
  have e0 : addD (.int 1) (.int (r : Nat)) (k + 1) = some (.int ((r + 1 : Nat) : Int), k + 1) := by
    rw [show (D.int ((r + 1 : Nat) : Int)) = D.int ((1 : Int) + (r : Nat)) by congr 1; omega]
    rfl
  obtain ⟨d', k', e, m, ps, m1, m2, ht, hk', rfl⟩ := call_run (n := n + 1) (args := [.scr ns, .town, .int (top : Nat)]) (st := [.fr (.scr ns), .fr .town, .fr (.int (top : Nat)), .un, .un, .un, .un, .un, .un]) (k := k) (Q := fun d' k' => ∃ m ps, 0 < m ∧ m ≤ top ∧ Tab m ps ∧ k' ≤ k + 40 ∧ d' = tE m ps) h rfl rfl (by
    refine Run.set (d := .int ((r + 1 : Nat) : Int)) (k1 := k + 1) (by simp only [ev, evs, evAnd, evOr, kb, kp, getV, getB, List.getElem?_cons_succ, List.getElem?_cons_zero, Option.bind_some, List.set_cons_succ, List.set_cons_zero, tru_bl, if_true, if_false, Bool.false_eq_true, Bool.not_true, Bool.not_false, e1, e0]) ?_
    refine Run.set (d := .int (dn : Nat)) (k1 := k + 2) (by simp only [ev, evs, evAnd, evOr, kb, kp, getV, getB, List.getElem?_cons_succ, List.getElem?_cons_zero, Option.bind_some, List.set_cons_succ, List.set_cons_zero, tru_bl, if_true, if_false, Bool.false_eq_true, Bool.not_true, Bool.not_false, e2']) ?_
    refine Run.set (d := .tup []) (k1 := k + 2) (by simp only [ev, evs, evAnd, evOr, kb, kp, getV, getB, List.getElem?_cons_succ, List.getElem?_cons_zero, Option.bind_some, List.set_cons_succ, List.set_cons_zero, tru_bl, if_true, if_false, Bool.false_eq_true, Bool.not_true, Bool.not_false]) ?_
    simp only [List.set_cons_succ, List.set_cons_zero, List.getElem?_cons_succ, List.getElem?_cons_zero]
    refine pairs_run (m := r + 1) (B := k + 2 + 40) (F := fun ps x y => [.fr (.scr ns), .fr .town, .fr (.int (top : Nat)), .fr (.int ((r + 1 : Nat) : Int)), .fr (.int (dn : Nat)), .fr (.tup (ps.map enc)), x, y, .un]) (by omega) (by omega) (fun ps x y q hq => ?_) (fun ps x y q => by simp only [ev, evs, evAnd, evOr, kb, kp, getV, getB, List.getElem?_cons_succ, List.getElem?_cons_zero, Option.bind_some, List.set_cons_succ, List.set_cons_zero, tru_bl, if_true, if_false, Bool.false_eq_true, Bool.not_true, Bool.not_false]) (fun ps a y q => by simp only [ev, evs, evAnd, evOr, kb, kp, getV, getB, List.getElem?_cons_succ, List.getElem?_cons_zero, Option.bind_some, List.set_cons_succ, List.set_cons_zero, tru_bl, if_true, if_false, Bool.false_eq_true, Bool.not_true, Bool.not_false]) (fun ps a b q => by simp only [ev, evs, evAnd, evOr, kb, kp, getV, getB, List.getElem?_cons_succ, List.getElem?_cons_zero, Option.bind_some, List.set_cons_succ, List.set_cons_zero, tru_bl, if_true, if_false, Bool.false_eq_true, Bool.not_true, Bool.not_false]; rfl) (fun ps x y q => by simp only [ev, evs, evAnd, evOr, kb, kp, getV, getB, List.getElem?_cons_succ, List.getElem?_cons_zero, Option.bind_some, List.set_cons_succ, List.set_cons_zero, tru_bl, if_true, if_false, Bool.false_eq_true, Bool.not_true, Bool.not_false]) (fun ps x y d => rfl) (fun ps x y d => rfl) (fun ps x y qs => rfl) ⟨.un, .un, rfl⟩ (fun ps x y k' ht hk' => ?_)
    · obtain ⟨b, hb, e3⟩ := hd n ns 4 q (by decide) (by omega)
      have e3' : (calls P (n + 1)).cl d [.scr ns, .town, .int 4] q = some (.int (b : Nat), q + 1) := e3
      exact ⟨decide (b ≤ dn), by simp only [ev, evs, evAnd, evOr, kb, kp, getV, getB, List.getElem?_cons_succ, List.getElem?_cons_zero, Option.bind_some, List.set_cons_succ, List.set_cons_zero, tru_bl, if_true, if_false, Bool.false_eq_true, Bool.not_true, Bool.not_false, e3', le_nat]⟩
    · have hret : ∀ qs q, Tab (r + 1) qs → q ≤ k + 40 → Run (calls P (n + 1)) [.ret (.tup [.v 3, .v 5])] [.fr (.scr ns), .fr .town, .fr (.int (top : Nat)), .fr (.int ((r + 1 : Nat) : Int)), .fr (.int (dn : Nat)), .fr (.tup (qs.map enc)), x, y, .un] q (Rets fun d' k' => ∃ m ps, 0 < m ∧ m ≤ top ∧ Tab m ps ∧ k' ≤ k + 40 ∧ d' = tE m ps) := fun qs q hq hq2 =>
        Run.ret (d := tE (r + 1) qs) (k1 := q) (by simp only [ev, evs, evAnd, evOr, kb, kp, getV, getB, List.getElem?_cons_succ, List.getElem?_cons_zero, Option.bind_some, List.set_cons_succ, List.set_cons_zero, tru_bl, if_true, if_false, Bool.false_eq_true, Bool.not_true, Bool.not_false]; rfl) ⟨r + 1, qs, by omega, by omega, hq, hq2, rfl⟩
      have g2 : ∀ q, cmpM .gt (.int ((r + 1 : Nat) : Int)) (.int 2) q = some (.bl (decide (2 < r + 1)), q) := fun q => gt_nat (r + 1) 2 q
      by_cases hm : 2 < r + 1
      · obtain ⟨b, hb, e3⟩ := hd n ns 4 k' (by decide) (by omega)
        have e3' : (calls P (n + 1)).cl d [.scr ns, .town, .int 4] k' = some (.int (b : Nat), k' + 1) := e3
        have eb : ∀ q, cmpM .eq (.int (b : Nat)) (.int 0) q = some (.bl (decide (b = 0)), q) := fun q => eq_nat b 0 q
        refine Run.iteB (b := decide (b = 0)) (d := .bl (decide (b = 0))) (k1 := k' + 1) (by simp only [ev, evs, evAnd, evOr, kb, kp, getV, getB, List.getElem?_cons_succ, List.getElem?_cons_zero, Option.bind_some, List.set_cons_succ, List.set_cons_zero, tru_bl, if_true, if_false, Bool.false_eq_true, Bool.not_true, Bool.not_false, g2, decide_eq_true hm, e3', eb]) rfl (fun _ => ?_) (fun _ => Run.nil (hret ps _ ht (by omega)))
        have h1 := ev_map1 (C := calls P (n + 1)) (i := 8) (own := [8]) (elt := .tup [.v 8, .add (.v 8) (.c (.int 1))]) (a := .sub (.v 3) (.c (.int 1))) (st := [.fr (.scr ns), .fr .town, .fr (.int (top : Nat)), .fr (.int ((r + 1 : Nat) : Int)), .fr (.int (dn : Nat)), .fr (.tup (ps.map enc)), x, y, .un]) (k := k' + 1) (k1 := k' + 1) (fun (i : Nat) => .int i) (List.range (r + 1 - 1)) (fun i => enc (i, i + 1))
          (src_r1 (by simp only [ev, evs, evAnd, evOr, kb, kp, getV, getB, List.getElem?_cons_succ, List.getElem?_cons_zero, Option.bind_some, List.set_cons_succ, List.set_cons_zero, tru_bl, if_true, if_false, Bool.false_eq_true, Bool.not_true, Bool.not_false, sub1 (show 0 < r + 1 by omega)]) (by omega)) (fun i hi q => by simp only [ev, evs, evAnd, evOr, kb, kp, getV, getB, List.getElem?_cons_succ, List.getElem?_cons_zero, Option.bind_some, List.set_cons_succ, List.set_cons_zero, tru_bl, if_true, if_false, Bool.false_eq_true, Bool.not_true, Bool.not_false, wipe, add1]; rfl)
        have h2 : ev (calls P (n + 1)) (.lst [.tup [.c (.int 0), .sub (.v 3) (.c (.int 1))]]) [.fr (.scr ns), .fr .town, .fr (.int (top : Nat)), .fr (.int ((r + 1 : Nat) : Int)), .fr (.int (dn : Nat)), .fr (.tup (ps.map enc)), x, y, .un] (k' + 1) = some (.lst [enc (0, r + 1 - 1)], k' + 1) := by
          simp only [ev, evs, evAnd, evOr, kb, kp, getV, getB, List.getElem?_cons_succ, List.getElem?_cons_zero, Option.bind_some, List.set_cons_succ, List.set_cons_zero, tru_bl, if_true, if_false, Bool.false_eq_true, Bool.not_true, Bool.not_false, sub1 (show 0 < r + 1 by omega)]
          rfl
        have h3 : addD (.lst ((List.range (r + 1 - 1)).map fun i => enc (i, i + 1))) (.lst [enc (0, r + 1 - 1)]) (k' + 1) = some (.lst ((ringN (r + 1)).map enc), k' + 1) := by
          rw [add_lst (by simp; omega)]
          unfold ringN
          rw [List.map_append, List.map_map]
          rfl
        refine Run.set (d := .tup ((sortE (ringN (r + 1))).map enc)) (k1 := k' + 1) (evc_b1 (evc_b1 (evc_add h1 h2 h3) (sorted_enc (by decide) (tup1_pairs _) _)) (tuple_lst _ _)) ?_
        exact Run.nil (hret _ _ (ring_tab hm) (by omega))
      · exact Run.iteF (k1 := k') (by simp only [ev, evs, evAnd, evOr, kb, kp, getV, getB, List.getElem?_cons_succ, List.getElem?_cons_zero, Option.bind_some, List.set_cons_succ, List.set_cons_zero, tru_bl, if_true, if_false, Bool.false_eq_true, Bool.not_true, Bool.not_false, g2, decide_eq_false hm]) (hret ps _ ht (by omega)))
  exact ⟨m, ps, k', m1, m2, ht, hk', e⟩
end G

namespace G
variable {P : Pr} {n m k : Nat} {ps : List (Nat × Nat)}
/-! ### functions by hand that several laws share -/
def nearF : Fd := .py 3 3 [.ret (.or [.cmp .eq (.v 1) (.v 2), .inn false (.tup [.v 1, .v 2]) (.ix (.v 0) (.c (.int 1))), .inn false (.tup [.v 2, .v 1]) (.ix (.v 0) (.c (.int 1)))])]
theorem mixB_near {a b : Nat} (hps : ∀ p ∈ ps, p.1 < p.2) : (decide (a = b) || (decide ((a, b) ∈ ps) || decide ((b, a) ∈ ps))) = mixB ps a b := by
  unfold mixB
  by_cases h : a = b
  · simp [h]
  · rcases Nat.lt_or_ge a b with z | z
    · have h1 : min a b = a := by omega
      have h2 : max a b = b := by omega
      have h3 : (b, a) ∉ ps := fun q => by have := hps _ q; simp at this; omega
      simp [h, h1, h2, h3]
    · have h1 : min a b = b := by omega
      have h2 : max a b = a := by omega
      have h3 : (a, b) ∉ ps := fun q => by have := hps _ q; simp at this; omega
      simp [h, h1, h2, h3]
theorem call_hnear {f : Nat} (h : P.fns[f]? = some nearF) (hps : ∀ p ∈ ps, p.1 < p.2) (a b : Nat) : (calls P (n + 1)).cl f [tE m ps, .int a, .int b] k = some (.bl (mixB ps a b), k) := by
  refine call_just (st := [_, _, _]) h rfl rfl (Run.ret ?_ ⟨rfl, rfl⟩)
  rw [← mixB_near hps]
  have i1 : ∀ q, inM false (.tup [.int a, .int b]) (.tup (ps.map enc)) q = some (.bl (decide ((a, b) ∈ ps)), q) := fun q => in_tup (a, b) ps (by decide)
  have i2 : ∀ q, inM false (.tup [.int b, .int a]) (.tup (ps.map enc)) q = some (.bl (decide ((b, a) ∈ ps)), q) := fun q => in_tup (b, a) ps (by decide)
  have t1 : ∀ q, ixD (tE m ps) (.int 1) q = some (.tup (ps.map enc), q) := fun q => rfl
  by_cases h1 : a = b
  · simp only [ev, evs, evAnd, evOr, kb, kp, getV, getB, List.getElem?_cons_succ, List.getElem?_cons_zero, Option.bind_some, List.set_cons_succ, List.set_cons_zero, tru_bl, if_true, if_false, Bool.false_eq_true, Bool.not_true, Bool.not_false, eq_nat, decide_eq_true h1, Bool.true_or]
  · by_cases h2 : (a, b) ∈ ps
    · simp only [ev, evs, evAnd, evOr, kb, kp, getV, getB, List.getElem?_cons_succ, List.getElem?_cons_zero, Option.bind_some, List.set_cons_succ, List.set_cons_zero, tru_bl, if_true, if_false, Bool.false_eq_true, Bool.not_true, Bool.not_false, eq_nat, decide_eq_false h1, i1, t1, decide_eq_true h2, Bool.true_or, Bool.false_or]
    · simp only [ev, evs, evAnd, evOr, kb, kp, getV, getB, List.getElem?_cons_succ, List.getElem?_cons_zero, Option.bind_some, List.set_cons_succ, List.set_cons_zero, tru_bl, if_true, if_false, Bool.false_eq_true, Bool.not_true, Bool.not_false, eq_nat, decide_eq_false h1, i1, i2, t1, decide_eq_false h2, Bool.false_or]
def lmixF (f : Nat) : Fd := .py 3 4 [.ret (.inn true (.c (.bl false)) (.lc (.one 3) .r1 (.b1 .len (.v 1)) (.c .non) (.c .non) (.c (.bl true)) (.call f [.v 0, .ix (.v 1) (.v 3), .ix (.v 2) (.v 3)]) [3]))]
theorem zip_range : ∀ (u v : List Nat), u.length = v.length → (List.range u.length).map (fun i => mixB ps (u.getD i 0) (v.getD i 0)) = (u.zip v).map fun p => mixB ps p.1 p.2 := by
  intro u v h
  apply List.ext_getElem
  · simp [h]
  · intro i h1 h2
    have hu : i < u.length := by simpa using h1
    have hv : i < v.length := h ▸ hu
    simp [hu, hv]
theorem call_lmix {f g : Nat} (hf : P.fns[f]? = some nearF) (hg : P.fns[g]? = some (lmixF f)) (hps : ∀ p ∈ ps, p.1 < p.2) (u v : List Nat) (h : u.length = v.length) (hu : u.length ≤ 1000) : (calls P (n + 2)).cl g [tE m ps, wE u, wE v] k = some (.bl (mwB ps u v), k) := by
  refine call_just (st := [.fr (tE m ps), .fr (wE u), .fr (wE v), .un]) hg rfl rfl (Run.ret ?_ ⟨rfl, rfl⟩)
  have h1 := ev_map1 (C := calls P (n + 1)) (st := [.fr (tE m ps), .fr (wE u), .fr (wE v), .un]) (i := 3) (own := [3]) (elt := .call f [.v 0, .ix (.v 1) (.v 3), .ix (.v 2) (.v 3)]) (a := .b1 .len (.v 1)) (k := k) (k1 := k) (fun (i : Nat) => .int i) (List.range u.length) (fun i => .bl (mixB ps (u.getD i 0) (v.getD i 0)))
    (src_r1 (by simp only [ev, evs, evAnd, evOr, kb, kp, getV, getB, List.getElem?_cons_succ, List.getElem?_cons_zero, Option.bind_some, List.set_cons_succ, List.set_cons_zero, tru_bl, if_true, if_false, Bool.false_eq_true, Bool.not_true, Bool.not_false]; exact lenE u k) (by omega)) (fun i hi q => by
      have hi' : i < u.length := by simpa using hi
      have g1 : ∀ q, ixD (wE u) (.int (i : Nat)) q = some (.int (u.getD i 0 : Nat), q) := fun q => ix_enc (by rw [List.getD_eq_getElem?_getD, List.getElem?_eq_getElem hi']; rfl)
      have g2 : ∀ q, ixD (wE v) (.int (i : Nat)) q = some (.int (v.getD i 0 : Nat), q) := fun q => ix_enc (by rw [List.getD_eq_getElem?_getD, List.getElem?_eq_getElem (h ▸ hi')]; rfl)
      simp only [ev, evs, evAnd, evOr, kb, kp, getV, getB, List.getElem?_cons_succ, List.getElem?_cons_zero, Option.bind_some, List.set_cons_succ, List.set_cons_zero, tru_bl, if_true, if_false, Bool.false_eq_true, Bool.not_true, Bool.not_false, wipe, g1, g2, call_hnear hf hps])
  have e1 : ((List.range u.length).map fun i => D.bl (mixB ps (u.getD i 0) (v.getD i 0))) = ((u.zip v).map fun p => mixB ps p.1 p.2).map enc := by
    rw [← zip_range u v h, List.map_map]
    rfl
  rw [e1] at h1
  refine evc_inn (x := .bl false) (by simp only [ev, evs, evAnd, evOr, kb, kp, getV, getB, List.getElem?_cons_succ, List.getElem?_cons_zero, Option.bind_some, List.set_cons_succ, List.set_cons_zero, tru_bl, if_true, if_false, Bool.false_eq_true, Bool.not_true, Bool.not_false]) h1 ?_
  rw [show D.bl false = enc false from rfl, ni_lst _ _ (by decide)]
  congr 3
  unfold mwB
  rw [Bool.eq_iff_iff]
  simp only [Bool.not_eq_true', decide_eq_false_iff_not, List.mem_map, List.all_eq_true, not_exists, not_and, Bool.not_eq_false]
/-! ### words by their numbers -/
def digW (m : Nat) : Nat → Nat → List Nat
  | 0, _ => []
  | L + 1, N => digW m L (N / m) ++ [N % m]
theorem digW_front (m : Nat) : ∀ (L N : Nat), digW m (L + 1) N = (N / m ^ L % m) :: digW m L N
  | 0, N => by simp [digW]
  | L + 1, N => by
    show digW m (L + 1) (N / m) ++ [N % m] = _
    rw [digW_front m L (N / m)]
    show (N / m / m ^ L % m) :: (digW m L (N / m) ++ [N % m]) = (N / m ^ (L + 1) % m) :: (digW m L (N / m) ++ [N % m])
    rw [Nat.div_div_eq_div_mul, Nat.pow_succ, Nat.mul_comm (m ^ L) m]
theorem range_mul {α : Type} (a b : Nat) (f : Nat → α) : (List.range (a * b)).map f = (List.range a).flatMap fun i => (List.range b).map fun j => f (i * b + j) := by
  induction a with
  | zero => simp
  | succ a ih =>
    rw [Nat.succ_mul, List.range_add, List.map_append, ih, List.range_succ, List.flatMap_append]
    simp
theorem wordsN_dig {m : Nat} (hm : 0 < m) : ∀ L, wordsN m L = (List.range (m ^ L)).map (digW m L)
  | 0 => rfl
  | L + 1 => by
    show (wordsN m L).flatMap _ = _
    rw [Nat.pow_succ, range_mul, wordsN_dig hm L, List.flatMap_map]
    congr 1
    funext i
    apply List.map_congr_left
    intro j hj
    have hj' : j < m := by simpa using hj
    show _ = digW m L ((i * m + j) / m) ++ [(i * m + j) % m]
    rw [Nat.mul_comm i m, Nat.mul_add_div hm, Nat.div_eq_of_lt hj', Nat.add_zero, Nat.mul_add_mod, Nat.mod_eq_of_lt hj']
theorem digW_len (m : Nat) : ∀ L N, (digW m L N).length = L
  | 0, _ => rfl
  | L + 1, N => by
    show (digW m L _ ++ [_]).length = _
    rw [List.length_append, digW_len m L]
    rfl
def lwordsF : Fd := .py 2 7 [.own 2 (.lst []), .set 3 (.c (.int 1)), .for (.one 4) .r1 (.v 1) (.c .non) (.c .non) [.set 3 (.mul (.v 3) (.v 0))],
    .for (.one 5) .r1 (.v 3) (.c .non) (.c .non) [.set 6 (.tup []), .for (.one 4) .r1 (.v 1) (.c .non) (.c .non) [.set 6 (.add (.tup [.mod (.v 5) (.v 0)]) (.v 6)), .set 5 (.fdv (.v 5) (.v 0))], .app 2 (.v 6)], .fz [2], .ret (.v 2)]
theorem call_lwords {f : Nat} (h : P.fns[f]? = some lwordsF) (hm : 0 < m) (hm2 : m ≤ 100000) {L : Nat} (hL : L ≤ 1000) (hp : ∀ i ≤ L, m ^ i ≤ 1000000) : (calls P (n + 1)).cl f [.int m, .int L] k = some (.lst ((wordsN m L).map enc), k) := by
  refine call_just (st := [.fr (.int m), .fr (.int L), .un, .un, .un, .un, .un]) h rfl rfl ?_
  refine Run.own (d := .lst []) (k1 := k) (by simp only [ev, evs, evAnd, evOr, kb, kp, getV, getB, List.getElem?_cons_succ, List.getElem?_cons_zero, Option.bind_some, List.set_cons_succ, List.set_cons_zero, tru_bl, if_true, if_false, Bool.false_eq_true, Bool.not_true, Bool.not_false]) ?_
  refine Run.set (d := .int 1) (k1 := k) (by simp only [ev, evs, evAnd, evOr, kb, kp, getV, getB, List.getElem?_cons_succ, List.getElem?_cons_zero, Option.bind_some, List.set_cons_succ, List.set_cons_zero, tru_bl, if_true, if_false, Bool.false_eq_true, Bool.not_true, Bool.not_false]) ?_
  simp only [List.set_cons_succ, List.set_cons_zero, List.getElem?_cons_succ, List.getElem?_cons_zero]
  refine Run.for1 (k1 := k) (fun (i : Nat) => .int i) (List.range L) (fun pre st q => q = k ∧ ∃ a4, st = [.fr (.int m), .fr (.int L), .ow (.lst []), .fr (.int ((m ^ pre.length : Nat) : Int)), a4, .un, .un])
    (src_r1 (by simp only [ev, evs, evAnd, evOr, kb, kp, getV, getB, List.getElem?_cons_succ, List.getElem?_cons_zero, Option.bind_some, List.set_cons_succ, List.set_cons_zero, tru_bl, if_true, if_false, Bool.false_eq_true, Bool.not_true, Bool.not_false]) (by omega)) ⟨rfl, _, rfl⟩ (fun pre i post st q hpp hi => ?_) (fun st q hi => ?_)
  · obtain ⟨rfl, a4, rfl⟩ := hi
    have hpl : pre.length < L := by
      have := congrArg List.length hpp
      simp at this
      omega
    have e : mulD (.int ((m ^ pre.length : Nat) : Int)) (.int m) q = some (.int ((m ^ (pre.length + 1) : Nat) : Int), q) := by
      rw [mul_nat (Nat.le_trans (hp pre.length (by omega)) (by decide)), Nat.pow_succ]
    refine Run.set (d := .int ((m ^ (pre.length + 1) : Nat) : Int)) (k1 := q) (by simp only [ev, evs, evAnd, evOr, kb, kp, getV, getB, List.getElem?_cons_succ, List.getElem?_cons_zero, Option.bind_some, List.set_cons_succ, List.set_cons_zero, tru_bl, if_true, if_false, Bool.false_eq_true, Bool.not_true, Bool.not_false, e]) (Run.nil ⟨rfl, .fr (.int i), ?_⟩)
    rw [List.length_append, List.length_singleton]
    rfl
  · obtain ⟨rfl, a4, rfl⟩ := hi
    rw [List.length_range]
    have hN := hp L (Nat.le_refl L)
    refine Run.for1 (k1 := q) (fun (i : Nat) => .int i) (List.range (m ^ L)) (fun pre st r => r = q ∧ ∃ a4 a5 a6, st = [.fr (.int m), .fr (.int L), .ow (.lst ((pre.map (digW m L)).map enc)), .fr (.int ((m ^ L : Nat) : Int)), a4, a5, a6])
      (src_r1 (by simp only [ev, evs, evAnd, evOr, kb, kp, getV, getB, List.getElem?_cons_succ, List.getElem?_cons_zero, Option.bind_some, List.set_cons_succ, List.set_cons_zero, tru_bl, if_true, if_false, Bool.false_eq_true, Bool.not_true, Bool.not_false]) (by omega)) ⟨rfl, _, _, _, rfl⟩ (fun pre N post st r hpp hi => ?_) (fun st r hi => ?_)
    · obtain ⟨rfl, a4, a5, a6, rfl⟩ := hi
      have hpl : pre.length < m ^ L := by
        have := congrArg List.length hpp
        simp at this
        omega
      refine Run.set (d := .tup []) (k1 := r) (by simp only [ev, evs, evAnd, evOr, kb, kp, getV, getB, List.getElem?_cons_succ, List.getElem?_cons_zero, Option.bind_some, List.set_cons_succ, List.set_cons_zero, tru_bl, if_true, if_false, Bool.false_eq_true, Bool.not_true, Bool.not_false]) ?_
      simp only [List.set_cons_succ, List.set_cons_zero, List.getElem?_cons_succ, List.getElem?_cons_zero]
      refine Run.for1 (k1 := r) (fun (i : Nat) => .int i) (List.range L) (fun pr st s => s = r ∧ ∃ a4, st = [.fr (.int m), .fr (.int L), .ow (.lst ((pre.map (digW m L)).map enc)), .fr (.int ((m ^ L : Nat) : Int)), a4, .fr (.int ((N / m ^ pr.length : Nat) : Int)), .fr (wE (digW m pr.length N))])
        (src_r1 (by simp only [ev, evs, evAnd, evOr, kb, kp, getV, getB, List.getElem?_cons_succ, List.getElem?_cons_zero, Option.bind_some, List.set_cons_succ, List.set_cons_zero, tru_bl, if_true, if_false, Bool.false_eq_true, Bool.not_true, Bool.not_false]) (by omega)) ⟨rfl, a4, by simp [digW]; rfl⟩ (fun pr i post2 st s hp2 hi => ?_) (fun st s hi => ?_)
      · obtain ⟨rfl, a4, rfl⟩ := hi
        have hprl : pr.length < L := by
          have := congrArg List.length hp2
          simp at this
          omega
        have e1 : modD (.int ((N / m ^ pr.length : Nat) : Int)) (.int m) s = some (.int ((N / m ^ pr.length % m : Nat) : Int), s) := mod_nat hm
        have e2 : fdvD (.int ((N / m ^ pr.length : Nat) : Int)) (.int m) s = some (.int ((N / m ^ (pr.length + 1) : Nat) : Int), s) := by
          rw [fdv_nat hm (by omega), Nat.div_div_eq_div_mul, Nat.pow_succ]
        have e3 : addD (.tup [.int ((N / m ^ pr.length % m : Nat) : Int)]) (wE (digW m pr.length N)) s = some (wE (digW m (pr.length + 1) N), s) := by
          rw [digW_front]
          exact add_enc [N / m ^ pr.length % m] (digW m pr.length N) s (by rw [digW_len]; simp; omega)
        refine Run.set (d := wE (digW m (pr.length + 1) N)) (k1 := s) (by simp only [ev, evs, evAnd, evOr, kb, kp, getV, getB, List.getElem?_cons_succ, List.getElem?_cons_zero, Option.bind_some, List.set_cons_succ, List.set_cons_zero, tru_bl, if_true, if_false, Bool.false_eq_true, Bool.not_true, Bool.not_false, e1, e3]) ?_
        refine Run.set (d := .int ((N / m ^ (pr.length + 1) : Nat) : Int)) (k1 := s) (by simp only [ev, evs, evAnd, evOr, kb, kp, getV, getB, List.getElem?_cons_succ, List.getElem?_cons_zero, Option.bind_some, List.set_cons_succ, List.set_cons_zero, tru_bl, if_true, if_false, Bool.false_eq_true, Bool.not_true, Bool.not_false, e2]) (Run.nil ⟨rfl, .fr (.int i), ?_⟩)
        rw [List.length_append, List.length_singleton]
        rfl
      · obtain ⟨rfl, a4, rfl⟩ := hi
        rw [List.length_range]
        refine Run.app (d := wE (digW m L N)) (k1 := s) (by simp only [ev, evs, evAnd, evOr, kb, kp, getV, getB, List.getElem?_cons_succ, List.getElem?_cons_zero, Option.bind_some, List.set_cons_succ, List.set_cons_zero, tru_bl, if_true, if_false, Bool.false_eq_true, Bool.not_true, Bool.not_false]) rfl (by simp; omega) (Run.nil ⟨rfl, a4, .fr (.int ((N / m ^ L : Nat) : Int)), .fr (wE (digW m L N)), ?_⟩)
        rw [List.map_append, List.map_append]
        rfl
    · obtain ⟨rfl, a4, a5, a6, rfl⟩ := hi
      rw [← wordsN_dig hm]
      refine Run.fz (Run.ret (d := .lst ((wordsN m L).map enc)) (k1 := r) ?_ ⟨rfl, rfl⟩)
      simp only [fz, frz1, ev, evs, evAnd, evOr, kb, kp, getV, getB, List.getElem?_cons_succ, List.getElem?_cons_zero, Option.bind_some, List.set_cons_succ, List.set_cons_zero, tru_bl, if_true, if_false, Bool.false_eq_true, Bool.not_true, Bool.not_false]
def longF (d : Nat) : Fd := .py 4 7 [.set 4 (.call d [.v 0, .v 1, .c (.int 4)]), .set 5 (.c (.int 1)), .for (.one 6) .r1 (.v 4) (.c .non) (.c .non) [.set 5 (.mul (.v 5) (.v 2))],
    .whl (.cmp .gt (.v 5) (.v 3)) [.set 5 (.fdv (.v 5) (.v 2)), .set 4 (.sub (.v 4) (.c (.int 1)))], .ret (.v 4)]
theorem call_long {d f : Nat} (hd : IsDraw P d) (h : P.fns[f]? = some (longF d)) (ns : List Int) (hm : 0 < m) (hm6 : m ≤ 1000) (top : Nat) (ht : 0 < top) (hk : k + 10 < 16777215) : ∃ L : Nat, L ≤ 3 ∧ m ^ L ≤ top ∧ (calls P (n + 2)).cl f [.scr ns, .town, .int m, .int top] k = some (.int L, k + 1) := by
  obtain ⟨r, hr, e1⟩ := hd n ns 4 k (by decide) (by omega)
  have e1' : (calls P (n + 1)).cl d [.scr ns, .town, .int 4] k = some (.int (r : Nat), k + 1) := e1
  have hp : ∀ i ≤ 3, m ^ i ≤ 18446744073709551615 := fun i hi => Nat.le_trans (Nat.pow_le_pow_left hm6 i) (Nat.le_trans (Nat.pow_le_pow_right (by omega) hi) (by decide))
  obtain ⟨d', k', e, L, h1, h2, rfl, rfl⟩ := call_run (n := n + 1) (args := [.scr ns, .town, .int m, .int top]) (st := [.fr (.scr ns), .fr .town, .fr (.int m), .fr (.int top), .un, .un, .un]) (k := k) (Q := fun d' k' => ∃ L : Nat, L ≤ 3 ∧ m ^ L ≤ top ∧ d' = .int L ∧ k' = k + 1) h rfl rfl (by
    refine Run.set (d := .int r) (k1 := k + 1) (by simp only [ev, evs, evAnd, evOr, kb, kp, getV, getB, List.getElem?_cons_succ, List.getElem?_cons_zero, Option.bind_some, List.set_cons_succ, List.set_cons_zero, tru_bl, if_true, if_false, Bool.false_eq_true, Bool.not_true, Bool.not_false, e1']) ?_
    refine Run.set (d := .int 1) (k1 := k + 1) (by simp only [ev, evs, evAnd, evOr, kb, kp, getV, getB, List.getElem?_cons_succ, List.getElem?_cons_zero, Option.bind_some, List.set_cons_succ, List.set_cons_zero, tru_bl, if_true, if_false, Bool.false_eq_true, Bool.not_true, Bool.not_false]) ?_
    simp only [List.set_cons_succ, List.set_cons_zero, List.getElem?_cons_succ, List.getElem?_cons_zero]
    refine Run.for1 (k1 := k + 1) (fun (i : Nat) => .int i) (List.range r) (fun pre st q => q = k + 1 ∧ ∃ a6, st = [.fr (.scr ns), .fr .town, .fr (.int m), .fr (.int top), .fr (.int r), .fr (.int ((m ^ pre.length : Nat) : Int)), a6])
      (src_r1 (by simp only [ev, evs, evAnd, evOr, kb, kp, getV, getB, List.getElem?_cons_succ, List.getElem?_cons_zero, Option.bind_some, List.set_cons_succ, List.set_cons_zero, tru_bl, if_true, if_false, Bool.false_eq_true, Bool.not_true, Bool.not_false]) (by omega)) ⟨rfl, _, rfl⟩ (fun pre i post st q hpp hi => ?_) (fun st q hi => ?_)
    · obtain ⟨rfl, a6, rfl⟩ := hi
      have hpl : pre.length < r := by
        have := congrArg List.length hpp
        simp at this
        omega
      have e : ∀ q, mulD (.int ((m ^ pre.length : Nat) : Int)) (.int m) q = some (.int ((m ^ (pre.length + 1) : Nat) : Int), q) := fun q => by
        rw [mul_nat (hp pre.length (by omega)), Nat.pow_succ]
      refine Run.set (d := .int ((m ^ (pre.length + 1) : Nat) : Int)) (k1 := k + 1) (by simp only [ev, evs, evAnd, evOr, kb, kp, getV, getB, List.getElem?_cons_succ, List.getElem?_cons_zero, Option.bind_some, List.set_cons_succ, List.set_cons_zero, tru_bl, if_true, if_false, Bool.false_eq_true, Bool.not_true, Bool.not_false, e]) (Run.nil ⟨rfl, .fr (.int i), ?_⟩)
      rw [List.length_append, List.length_singleton]
      rfl
    · obtain ⟨rfl, a6, rfl⟩ := hi
      rw [List.length_range]
      refine Run.whl (fun c st q => c ≤ 3 ∧ q = k + 1 ∧ st = [.fr (.scr ns), .fr .town, .fr (.int m), .fr (.int top), .fr (.int c), .fr (.int ((m ^ c : Nat) : Int)), a6]) r (by omega) ⟨by omega, rfl, rfl⟩ (fun c st q hi => ?_)
      obtain ⟨hc, rfl, rfl⟩ := hi
      refine ⟨.bl (decide (top < m ^ c)), decide (top < m ^ c), k + 1, by simp only [ev, evs, evAnd, evOr, kb, kp, getV, getB, List.getElem?_cons_succ, List.getElem?_cons_zero, Option.bind_some, List.set_cons_succ, List.set_cons_zero, tru_bl, if_true, if_false, Bool.false_eq_true, Bool.not_true, Bool.not_false, gt_nat], rfl, fun hb => ?_, fun hb => ?_⟩
      · rw [decide_eq_true_eq] at hb
        have hc0 : 0 < c := by
          rcases Nat.eq_zero_or_pos c with z | z
          · rw [z] at hb; simp at hb; omega
          · exact z
        obtain ⟨c, rfl⟩ : ∃ c', c = c' + 1 := ⟨c - 1, by omega⟩
        have e2 : ∀ q, fdvD (.int ((m ^ (c + 1) : Nat) : Int)) (.int m) q = some (.int ((m ^ c : Nat) : Int), q) := fun q => by
          rw [fdv_nat hm (by omega), Nat.pow_succ, Nat.mul_div_cancel _ hm]
        have e3 : ∀ q, subD (.int ((c + 1 : Nat) : Int)) (.int 1) q = some (.int (c : Nat), q) := fun q => by rw [sub1 (by omega)]; rfl
        refine Run.set (d := .int ((m ^ c : Nat) : Int)) (k1 := k + 1) (by simp only [ev, evs, evAnd, evOr, kb, kp, getV, getB, List.getElem?_cons_succ, List.getElem?_cons_zero, Option.bind_some, List.set_cons_succ, List.set_cons_zero, tru_bl, if_true, if_false, Bool.false_eq_true, Bool.not_true, Bool.not_false, e2]) ?_
        refine Run.set (d := .int c) (k1 := k + 1) (by simp only [ev, evs, evAnd, evOr, kb, kp, getV, getB, List.getElem?_cons_succ, List.getElem?_cons_zero, Option.bind_some, List.set_cons_succ, List.set_cons_zero, tru_bl, if_true, if_false, Bool.false_eq_true, Bool.not_true, Bool.not_false, e3]) (Run.nil ⟨c, by omega, by omega, rfl, rfl⟩)
      · rw [decide_eq_false_iff_not] at hb
        exact Run.ret (d := .int c) (k1 := k + 1) (by simp only [ev, evs, evAnd, evOr, kb, kp, getV, getB, List.getElem?_cons_succ, List.getElem?_cons_zero, Option.bind_some, List.set_cons_succ, List.set_cons_zero, tru_bl, if_true, if_false, Bool.false_eq_true, Bool.not_true, Bool.not_false]) ⟨c, hc, by omega, rfl, rfl⟩)
  exact ⟨L, h1, h2, e⟩
/-! ### the same twice -/
def sameF (s : Nat) : Fd := .py 2 4 [.ite (.isn false (.v 1)) [.ret (.isn false (.v 0))] [],
    .ite (.isi .bool (.v 1)) [.ret (.and [.isi .bool (.v 0), .cmp .eq (.v 0) (.v 1)])] [],
    .ite (.isi .tuple (.v 1)) [.ite (.or [.not (.isi .tuple (.v 0)), .cmp .ne (.b1 .len (.v 0)) (.b1 .len (.v 1))]) [.ret (.c (.bl false))] [], .ret (.b1 .all (.lc (.two 2 3) .zp (.v 0) (.v 1) (.c .non) (.c (.bl true)) (.call s [.v 2, .v 3]) [2, 3]))] [],
    .ite (.isi .str (.v 1)) [.ret (.and [.isi .str (.v 0), .cmp .eq (.v 0) (.v 1)])] [],
    .ret (.and [.isi .int (.v 0), .not (.isi .bool (.v 0)), .cmp .eq (.v 0) (.v 1)])]
/-- ints, truths, None and rows of such -/
def plain : Nat → D → Bool
  | _, .int _ => true
  | _, .bl _ => true
  | _, .non => true
  | t + 1, .tup l => l.all (plain t)
  | _, _ => false
theorem zip_self : ∀ l : List D, List.zipWith (fun a b => D.tup [a, b]) l l = l.map fun d => D.tup [d, d]
  | [] => rfl
  | d :: l => by
    show _ :: List.zipWith _ l l = _
    rw [zip_self l]
    rfl
theorem call_same {s : Nat} (hs : P.fns[s]? = some (sameF s)) : ∀ (t n : Nat) (d : D) (k : Nat), plain t d = true → (calls P (n + t + 1)).cl s [d, d] k = some (.bl true, k) := by
  intro t
  induction t with
  | zero =>
    intro n d k h
    refine call_just (st := [.fr d, .fr d, .un, .un]) hs rfl rfl ?_
    cases d with
    | non => exact Run.iteT (k1 := k) (by simp only [ev, evs, evAnd, evOr, kb, kp, getV, getB, List.getElem?_cons_succ, List.getElem?_cons_zero, Option.bind_some, List.set_cons_succ, List.set_cons_zero, tru_bl, if_true, if_false, Bool.false_eq_true, Bool.not_true, Bool.not_false, isnD]) (Run.ret (d := .bl true) (k1 := k) (by simp only [ev, evs, evAnd, evOr, kb, kp, getV, getB, List.getElem?_cons_succ, List.getElem?_cons_zero, Option.bind_some, List.set_cons_succ, List.set_cons_zero, tru_bl, if_true, if_false, Bool.false_eq_true, Bool.not_true, Bool.not_false]; rfl) ⟨rfl, rfl⟩)
    | int i =>
      have e : ∀ q, cmpM .eq (.int i) (.int i) q = some (.bl true, q) := fun q => by show some (D.bl (i == i), q) = _; simp
      refine Run.iteF (k1 := k) (by simp only [ev, evs, evAnd, evOr, kb, kp, getV, getB, List.getElem?_cons_succ, List.getElem?_cons_zero, Option.bind_some, List.set_cons_succ, List.set_cons_zero, tru_bl, if_true, if_false, Bool.false_eq_true, Bool.not_true, Bool.not_false]; rfl) ?_
      refine Run.iteF (k1 := k) (by simp only [ev, evs, evAnd, evOr, kb, kp, getV, getB, List.getElem?_cons_succ, List.getElem?_cons_zero, Option.bind_some, List.set_cons_succ, List.set_cons_zero, tru_bl, if_true, if_false, Bool.false_eq_true, Bool.not_true, Bool.not_false]; rfl) ?_
      refine Run.iteF (k1 := k) (by simp only [ev, evs, evAnd, evOr, kb, kp, getV, getB, List.getElem?_cons_succ, List.getElem?_cons_zero, Option.bind_some, List.set_cons_succ, List.set_cons_zero, tru_bl, if_true, if_false, Bool.false_eq_true, Bool.not_true, Bool.not_false]; rfl) ?_
      refine Run.iteF (k1 := k) (by simp only [ev, evs, evAnd, evOr, kb, kp, getV, getB, List.getElem?_cons_succ, List.getElem?_cons_zero, Option.bind_some, List.set_cons_succ, List.set_cons_zero, tru_bl, if_true, if_false, Bool.false_eq_true, Bool.not_true, Bool.not_false]; rfl) ?_
      exact Run.ret (d := .bl true) (k1 := k) (by simp only [ev, evs, evAnd, evOr, kb, kp, getV, getB, List.getElem?_cons_succ, List.getElem?_cons_zero, Option.bind_some, List.set_cons_succ, List.set_cons_zero, tru_bl, if_true, if_false, Bool.false_eq_true, Bool.not_true, Bool.not_false, isTy, e]) ⟨rfl, rfl⟩
    | bl b =>
      have e : ∀ q, cmpM .eq (.bl b) (.bl b) q = some (.bl true, q) := fun q => by rw [cmp_eqB]; simp
      refine Run.iteF (k1 := k) (by simp only [ev, evs, evAnd, evOr, kb, kp, getV, getB, List.getElem?_cons_succ, List.getElem?_cons_zero, Option.bind_some, List.set_cons_succ, List.set_cons_zero, tru_bl, if_true, if_false, Bool.false_eq_true, Bool.not_true, Bool.not_false]; rfl) ?_
      exact Run.iteT (k1 := k) (by simp only [ev, evs, evAnd, evOr, kb, kp, getV, getB, List.getElem?_cons_succ, List.getElem?_cons_zero, Option.bind_some, List.set_cons_succ, List.set_cons_zero, tru_bl, if_true, if_false, Bool.false_eq_true, Bool.not_true, Bool.not_false]; rfl) (Run.ret (d := .bl true) (k1 := k) (by simp only [ev, evs, evAnd, evOr, kb, kp, getV, getB, List.getElem?_cons_succ, List.getElem?_cons_zero, Option.bind_some, List.set_cons_succ, List.set_cons_zero, tru_bl, if_true, if_false, Bool.false_eq_true, Bool.not_true, Bool.not_false, isTy, e]) ⟨rfl, rfl⟩)
    | _ => cases h
  | succ t ih =>
    intro n d k h
    cases d with
    | tup l =>
      refine call_just (n := n + (t + 1)) (st := [.fr (.tup l), .fr (.tup l), .un, .un]) hs rfl rfl ?_
      refine Run.iteF (k1 := k) (by simp only [ev, evs, evAnd, evOr, kb, kp, getV, getB, List.getElem?_cons_succ, List.getElem?_cons_zero, Option.bind_some, List.set_cons_succ, List.set_cons_zero, tru_bl, if_true, if_false, Bool.false_eq_true, Bool.not_true, Bool.not_false]; rfl) ?_
      refine Run.iteF (k1 := k) (by simp only [ev, evs, evAnd, evOr, kb, kp, getV, getB, List.getElem?_cons_succ, List.getElem?_cons_zero, Option.bind_some, List.set_cons_succ, List.set_cons_zero, tru_bl, if_true, if_false, Bool.false_eq_true, Bool.not_true, Bool.not_false]; rfl) ?_
      refine Run.iteT (k1 := k) (by simp only [ev, evs, evAnd, evOr, kb, kp, getV, getB, List.getElem?_cons_succ, List.getElem?_cons_zero, Option.bind_some, List.set_cons_succ, List.set_cons_zero, tru_bl, if_true, if_false, Bool.false_eq_true, Bool.not_true, Bool.not_false]; rfl) ?_
      refine Run.iteF (k1 := k) (by simp only [ev, evs, evAnd, evOr, kb, kp, getV, getB, List.getElem?_cons_succ, List.getElem?_cons_zero, Option.bind_some, List.set_cons_succ, List.set_cons_zero, tru_bl, if_true, if_false, Bool.false_eq_true, Bool.not_true, Bool.not_false, isTy, len_tup, neI_self]) ?_
      have hz := src_zpT (C := calls P (n + (t + 1))) (a := .v 0) (b := .v 1) (st := [.fr (.tup l), .fr (.tup l), .un, .un]) (k := k) (k1 := k) (k2 := k) (l := l) (m := l) (by simp only [ev, evs, evAnd, evOr, kb, kp, getV, getB, List.getElem?_cons_succ, List.getElem?_cons_zero, Option.bind_some, List.set_cons_succ, List.set_cons_zero, tru_bl, if_true, if_false, Bool.false_eq_true, Bool.not_true, Bool.not_false]) (by simp only [ev, evs, evAnd, evOr, kb, kp, getV, getB, List.getElem?_cons_succ, List.getElem?_cons_zero, Option.bind_some, List.set_cons_succ, List.set_cons_zero, tru_bl, if_true, if_false, Bool.false_eq_true, Bool.not_true, Bool.not_false])
      rw [zip_self] at hz
      have h1 := ev_map2 (i := 2) (j := 3) (own := [2, 3]) (elt := .call s [.v 2, .v 3]) (fun d : D => d) (fun d => d) l (fun _ => .bl true) hz (fun x hx q => by
        have e := ih n x q (List.all_eq_true.mp h x hx)
        simp only [ev, evs, evAnd, evOr, kb, kp, getV, getB, List.getElem?_cons_succ, List.getElem?_cons_zero, Option.bind_some, List.set_cons_succ, List.set_cons_zero, tru_bl, if_true, if_false, Bool.false_eq_true, Bool.not_true, Bool.not_false, wipe]
        exact e)
      refine Run.ret (d := .bl true) (k1 := k) (evc_b1 h1 ?_) ⟨rfl, rfl⟩
      have := all_eq (f := fun _ : D => true) l k
      rw [this]
      simp
    | int i =>
      have := ih (n + 1) (.int i) k (by cases t <;> rfl)
      rw [show n + (t + 1) + 1 = n + 1 + t + 1 by omega]
      exact this
    | bl b =>
      have := ih (n + 1) (.bl b) k (by cases t <;> rfl)
      rw [show n + (t + 1) + 1 = n + 1 + t + 1 by omega]
      exact this
    | non =>
      have := ih (n + 1) .non k (by cases t <;> rfl)
      rw [show n + (t + 1) + 1 = n + 1 + t + 1 by omega]
      exact this
    | _ => cases h
end G

namespace G
/-! ### loops that walk back; pairs by two loops -/
theorem src_r3 {C : Cs} {st : St} {k k1 k2 k3 : Nat} {a b c : E} {lo hi : Nat} (h : ev C a st k = some (.int ((hi : Int) - 1), k1)) (h' : ev C b st k1 = some (.int ((lo : Int) - 1), k2)) (h'' : ev C c st k2 = some (.int (-1), k3)) (h1 : lo ≤ 8388608) (h2 : hi ≤ 8388608) :
    srcE C .r3 a b c st k = some (((List.range' lo (hi - lo)).reverse).map (fun (i : Nat) => .int i), k3) := by
  unfold srcE
  rw [kb, h]
  show ((ev C b st) >>= _) k1 = _
  rw [kb, h']
  show ((ev C c st) >>= _) k2 = _
  rw [kb, h'']
  have e1 : smallI ((hi : Int) - 1) = true := absLe_of.mpr (by omega)
  have e2 : smallI ((lo : Int) - 1) = true := absLe_of.mpr (by omega)
  show (if (smallI ((hi : Int) - 1) && smallI ((lo : Int) - 1) && smallI (-1) && decide ((-1 : Int) ≠ 0)) = true then (pure (rangeL ((hi : Int) - 1) (rangeN ((hi : Int) - 1) ((lo : Int) - 1) (-1)) (-1)) : M (List D)) else no) k3 = _
  rw [e1, e2, if_pos (by decide)]
  have e3 : rangeN ((hi : Int) - 1) ((lo : Int) - 1) (-1) = hi - lo := by
    unfold rangeN
    rw [if_neg (by decide)]
    show (((hi : Int) - 1 - ((lo : Int) - 1) + (- -1) - 1) / (- -1)).toNat = _
    rw [show (- (-1 : Int)) = 1 by decide, Int.ediv_one]
    omega
  rw [e3]
  show some (_, k3) = _
  congr 2
  unfold rangeL
  apply List.ext_getElem
  · simp
  · intro i h1 h2
    have hi' : i < hi - lo := by simpa using h1
    simp
    omega
/-- the law's pairs by two loops: st = F ps x y, x the first name's slot, y the second one's -/
theorem twoloops {C : Cs} {N k : Nat} {ss : List S} {Q : Rt} {c eN : E} {iP i j : Nat} {A : Nat → Nat → Bool} {F : List (Nat × Nat) → Sl → Sl → St} {st0 : St} (hN : N ≤ 2000)
    (hc : ∀ ps a b q, a < b → b < N → ev C c (F ps (.fr (.int (a : Nat))) (.fr (.int (b : Nat)))) q = some (.bl (A a b), q))
    (hL : ∀ ps x y q, ev C eN (F ps x y) q = some (.int (N : Nat), q)) (hI : ∀ ps a y q, ev C (.v i) (F ps (.fr (.int (a : Nat))) y) q = some (.int (a : Nat), q)) (hJ : ∀ ps (a b q : Nat), ev C (.tup [.tup [.v i, .v j]]) (F ps (.fr (.int a)) (.fr (.int b))) q = some (.tup [enc (a, b)], q))
    (hP : ∀ ps x y q, ev C (.v iP) (F ps x y) q = some (.tup (ps.map enc), q)) (si : ∀ ps x y d, (F ps x y).set i (.fr d) = F ps (.fr d) y) (sj : ∀ ps x y d, (F ps x y).set j (.fr d) = F ps x (.fr d)) (sp : ∀ ps x y (qs : List (Nat × Nat)), (F ps x y).set iP (.fr (.tup (qs.map enc))) = F qs x y)
    (h0 : ∃ x y, st0 = F [] x y) (hr : ∀ x y, Run C ss (F (pairsOf N A) x y) k Q) :
    Run C (.for (.one i) .r1 eN (.c .non) (.c .non) [.for (.one j) .r2 (.add (.v i) (.c (.int 1))) eN (.c .non) (pairIn c i j iP)] :: ss) st0 k Q := by
  obtain ⟨x0, y0, rfl⟩ := h0
  refine Run.for1 (k1 := k) (fun (i : Nat) => .int i) (List.range N) (fun pre st q => q = k ∧ ∃ x y, st = F (pre.flatMap fun i => ((List.range' (i + 1) (N - (i + 1))).filter (A i)).map fun j => (i, j)) x y)
    (src_r1 (hL _ _ _ _) (by omega)) ⟨rfl, x0, y0, rfl⟩ (fun pre a post st q hp hi => ?_) (fun st q hi => ?_)
  · obtain ⟨rfl, x, y, rfl⟩ := hi
    have hpl : pre.length < N := by
      have := congrArg List.length hp
      simp at this
      omega
    rw [si]
    have hlen := pairsOf_len N A pre
    have h3 : pre.length * N ≤ 2000 * 2000 := Nat.mul_le_mul (by omega) hN
    refine Run.for1 (k1 := q) (fun (i : Nat) => .int i) (List.range' (a + 1) (N - (a + 1))) (fun pr st r => r = q ∧ ∃ y, st = F ((pre.flatMap fun i => ((List.range' (i + 1) (N - (i + 1))).filter (A i)).map fun j => (i, j)) ++ (pr.filter (A a)).map fun j => (a, j)) (.fr (.int (a : Nat))) y)
      (src_r2 (k1 := q) (by rw [ev, kb, hI]; rfl) (hL _ _ _ _) (by have : a ∈ List.range N := by rw [hp]; simp
                                                                   have := List.mem_range.mp this
                                                                   omega) (by omega)) ⟨rfl, y, by simp⟩ (fun pr b post2 st s hp2 hi => ?_) (fun st s hi => ?_)
    · obtain ⟨rfl, y, rfl⟩ := hi
      have hb : a + 1 ≤ b ∧ b < N := by
        have : b ∈ List.range' (a + 1) (N - (a + 1)) := by rw [hp2]; simp
        have := List.mem_range'_1.mp this
        omega
      have hprl : pr.length < N := by
        have := congrArg List.length hp2
        simp at this
        omega
      rw [sj]
      refine Run.iteB (hc _ a b s (by omega) hb.2) (tru_bl _ _) (fun hA => ?_) (fun hA => ?_)
      · refine Run.set (d := .tup (((pre.flatMap fun i => ((List.range' (i + 1) (N - (i + 1))).filter (A i)).map fun j => (i, j)) ++ ((pr ++ [b]).filter (A a)).map fun j => (a, j)).map enc)) (k1 := s) ?_ ?_
        · rw [ev, kb, hP]
          show ((ev C (.tup [.tup [.v i, .v j]]) _) >>= _) s = _
          have el : ∀ X : List (Nat × Nat), X ++ ((pr ++ [b]).filter (A a)).map (fun j => (a, j)) = (X ++ (pr.filter (A a)).map fun j => (a, j)) ++ [(a, b)] := fun X => by
            rw [List.filter_append, List.filter_cons, if_pos hA]
            simp
          rw [kb, hJ, el, List.map_append (l₂ := [(a, b)])]
          refine add_tup ?_
          have := List.length_filter_le (A a) pr
          rw [List.length_map, List.length_append, List.length_map]
          simp only [List.length_cons, List.length_nil]
          omega
        · rw [sp]
          exact Run.nil (Run.nil ⟨rfl, _, rfl⟩)
      · refine Run.nil (Run.nil ⟨rfl, .fr (.int (b : Nat)), ?_⟩)
        rw [List.filter_append, List.filter_cons, if_neg (by rw [hA]; simp)]
        simp
    · obtain ⟨rfl, y, rfl⟩ := hi
      refine Run.nil ⟨rfl, .fr (.int (a : Nat)), y, ?_⟩
      simp [List.flatMap_append]
  · obtain ⟨rfl, x, y, rfl⟩ := hi
    exact hr x y
end G

namespace G
variable {lf : List Fd} {n m k : Nat} {ps : List (Nat × Nat)}
/-! ### renamed, times -/
def nm (names : List Nat) (a : Nat) : Nat := names.getD a 0
def renL (names : List Nat) (ps : List (Nat × Nat)) : List (Nat × Nat) := ps.map fun p => (min (nm names p.1) (nm names p.2), max (nm names p.1) (nm names p.2))
theorem ixn {names : List Nat} {i q : Nat} (h : i < names.length) : ixD (wE names) (.int (i : Nat)) q = some (.int (nm names i : Nat), q) := ix_enc (by unfold nm; rw [List.getD_eq_getElem?_getD, List.getElem?_eq_getElem h]; rfl)
theorem call_renamed (names : List Nat) (h : ∀ p ∈ ps, p.1 < names.length ∧ p.2 < names.length) : (calls (PR lf) (n + 1)).cl 10 [tE m ps, wE names] k = some (tE m (sortE (renL names ps)), k) := by
  refine call_just (st := [.fr (tE m ps), .fr (wE names), .un, .un, .un]) (PR_fn (f := .py 2 5 _) rfl) rfl rfl ?_
  have h1 := ev_map2 (C := calls (PR lf) n) (st := [.fr (tE m ps), .fr (wE names), .un, .un, .un]) (k := k) (k1 := k) (i := 3) (j := 4) (own := [3, 4]) (a := .ix (.v 0) (.c (.int 1))) (elt := .tup [.b2 .min (.ix (.v 1) (.v 3)) (.ix (.v 1) (.v 4)), .b2 .max (.ix (.v 1) (.v 3)) (.ix (.v 1) (.v 4))])
    (fun p : Nat × Nat => enc p.1) (fun p => enc p.2) ps (fun p => enc ((min (nm names p.1) (nm names p.2), max (nm names p.1) (nm names p.2)) : Nat × Nat)) (src_tup (l := ps.map enc) (by simp only [ev, evs, evAnd, evOr, kb, kp, getV, getB, List.getElem?_cons_succ, List.getElem?_cons_zero, Option.bind_some, List.set_cons_succ, List.set_cons_zero, tru_bl, if_true, if_false, Bool.false_eq_true, Bool.not_true, Bool.not_false, t1])) (fun p hp q => by
      have e1 : ∀ q, ixD (wE names) (enc p.1) q = some (.int (nm names p.1 : Nat), q) := fun q => ixn (h p hp).1
      have e2 : ∀ q, ixD (wE names) (enc p.2) q = some (.int (nm names p.2 : Nat), q) := fun q => ixn (h p hp).2
      simp only [ev, evs, evAnd, evOr, kb, kp, getV, getB, List.getElem?_cons_succ, List.getElem?_cons_zero, Option.bind_some, List.set_cons_succ, List.set_cons_zero, tru_bl, if_true, if_false, Bool.false_eq_true, Bool.not_true, Bool.not_false, wipe, e1, e2, min_nat, max_nat]
      rfl)
  refine Run.own h1 (Run.fz (Run.ret (d := tE m (sortE (renL names ps))) (k1 := k) ?_ ⟨rfl, rfl⟩))
  have e0 : (ps.map fun p => enc ((min (nm names p.1) (nm names p.2), max (nm names p.1) (nm names p.2)) : Nat × Nat)) = (renL names ps).map enc := by unfold renL; rw [List.map_map]; rfl
  have e3 : ∀ q, f1D .sorted (.lst ((renL names ps).map enc)) q = some (.lst ((sortE (renL names ps)).map enc), q) := fun q => sorted_enc (by decide) (tup1_pairs _) q
  rw [e0]
  simp only [fz, frz1, ev, evs, evAnd, evOr, kb, kp, getV, getB, List.getElem?_cons_succ, List.getElem?_cons_zero, Option.bind_some, List.set_cons_succ, List.set_cons_zero, tru_bl, if_true, if_false, Bool.false_eq_true, Bool.not_true, Bool.not_false, t0, e3, tuple_lst]
  rfl
theorem nm_inj {names : List Nat} (hp : names.Perm (List.range m)) {a b : Nat} (ha : a < m) (hb : b < m) (h : nm names a = nm names b) : a = b := by
  have hl : names.length = m := by rw [hp.length_eq, List.length_range]
  have nd : names.Nodup := hp.nodup_iff.mpr List.nodup_range
  unfold nm at h
  rw [getD_lt (by omega), getD_lt (by omega)] at h
  have pw := List.pairwise_iff_getElem.mp nd
  rcases Nat.lt_trichotomy a b with z | z | z
  · exact absurd h (pw a b (by omega) (by omega) z)
  · exact z
  · exact absurd h.symm (pw b a (by omega) (by omega) z)
theorem nm_lt {names : List Nat} (hp : names.Perm (List.range m)) {a : Nat} (ha : a < m) : nm names a < m := by
  have hl : names.length = m := by rw [hp.length_eq, List.length_range]
  unfold nm
  rw [getD_lt (by omega)]
  exact List.mem_range.mp (hp.mem_iff.mp (List.getElem_mem _))
theorem nm_sur {names : List Nat} (hp : names.Perm (List.range m)) {a : Nat} (ha : a < m) : ∃ b, b < m ∧ nm names b = a := by
  have hl : names.length = m := by rw [hp.length_eq, List.length_range]
  obtain ⟨i, hi, e⟩ := List.mem_iff_getElem.mp (hp.mem_iff.mpr (List.mem_range.mpr ha))
  exact ⟨i, by omega, by unfold nm; rw [getD_lt hi]; exact e⟩
theorem renL_mem {names : List Nat} (hp : names.Perm (List.range m)) (ht : Tab m ps) {a b : Nat} (ha : a < m) (hb : b < m) : (min (nm names a) (nm names b), max (nm names a) (nm names b)) ∈ renL names ps ↔ (min a b, max a b) ∈ ps := by
  unfold renL
  rw [List.mem_map]
  constructor
  · rintro ⟨p, hpp, e⟩
    have h1 := ht.lt p hpp
    have h2 := ht.top p hpp
    injection e with e1 e2
    have h3 : (nm names p.1 = nm names a ∧ nm names p.2 = nm names b) ∨ (nm names p.1 = nm names b ∧ nm names p.2 = nm names a) := by omega
    have e : p = (min a b, max a b) := by
      rcases h3 with ⟨x, y⟩ | ⟨x, y⟩
      · have x' := nm_inj hp (by omega) ha x
        have y' := nm_inj hp (by omega) hb y
        exact Prod.ext (by show p.1 = min a b; omega) (by show p.2 = max a b; omega)
      · have x' := nm_inj hp (by omega) hb x
        have y' := nm_inj hp (by omega) ha y
        exact Prod.ext (by show p.1 = min a b; omega) (by show p.2 = max a b; omega)
    rw [← e]
    exact hpp
  · intro h
    refine ⟨_, h, ?_⟩
    rcases Nat.le_total a b with z | z
    · rw [Nat.min_eq_left z, Nat.max_eq_right z]
    · rw [Nat.min_eq_right z, Nat.max_eq_left z, Nat.min_comm, Nat.max_comm]
theorem renL_tab {names : List Nat} (hp : names.Perm (List.range m)) (ht : Tab m ps) : Tab m (sortE (renL names ps)) := by
  refine tab_sort ?_ (fun p hpp => ?_) (fun p hpp => ?_)
  · unfold renL List.Nodup
    rw [List.pairwise_map]
    refine (List.Pairwise.and_mem.mp ht.so).imp fun {p q} h e => ?_
    obtain ⟨hpm, hqm, h⟩ := h
    have a1 := ht.lt p hpm
    have a2 := ht.top p hpm
    have b1 := ht.lt q hqm
    have b2 := ht.top q hqm
    injection e with e1 e2
    have h3 : (nm names p.1 = nm names q.1 ∧ nm names p.2 = nm names q.2) ∨ (nm names p.1 = nm names q.2 ∧ nm names p.2 = nm names q.1) := by omega
    rcases h3 with ⟨x, y⟩ | ⟨x, y⟩
    · have x' := nm_inj hp (by omega) (by omega) x
      have y' := nm_inj hp (by omega) (by omega) y
      rcases h with h | h <;> omega
    · have x' := nm_inj hp (by omega) (by omega) x
      have y' := nm_inj hp (by omega) (by omega) y
      omega
  · obtain ⟨q, hq, rfl⟩ := List.mem_map.mp hpp
    have a1 := ht.lt q hq
    have a2 := ht.top q hq
    have : nm names q.1 ≠ nm names q.2 := fun e => by have := nm_inj hp (by omega) (by omega) e; omega
    show min _ _ < max _ _
    omega
  · obtain ⟨q, hq, rfl⟩ := List.mem_map.mp hpp
    have a1 := ht.lt q hq
    have a2 := ht.top q hq
    have := nm_lt (a := q.1) hp (by omega)
    have := nm_lt (a := q.2) hp (by omega)
    show max _ _ < m
    omega
theorem mixB_ren {names : List Nat} (hp : names.Perm (List.range m)) (ht : Tab m ps) {a b : Nat} (ha : a < m) (hb : b < m) : mixB (sortE (renL names ps)) (nm names a) (nm names b) = mixB ps a b := by
  unfold mixB
  rw [Bool.eq_iff_iff]
  simp only [Bool.or_eq_true, decide_eq_true_eq, (sortE_perm (renL names ps)).mem_iff, renL_mem hp ht ha hb]
  exact ⟨fun z => z.imp (nm_inj hp ha hb) id, fun z => z.imp (fun e => by rw [e]) id⟩
theorem call_times {m2 : Nat} {qs : List (Nat × Nat)} (hm : m * m2 ≤ 2000) (h0 : 0 < m2) (h2 : m2 ≤ 100000) : (calls (PR lf) (n + 4)).cl 44 [tE m ps, tE m2 qs] k = some (tE (m * m2) (pairsOf (m * m2) fun i j => mixB ps (i / m2) (j / m2) && mixB qs (i % m2) (j % m2)), k) := by
  refine call_just (st := [_, _, _]) (PR_fn (f := .py 2 3 _) rfl) rfl rfl ?_
  refine Run.set (d := .int m2) (k1 := k) (by simp only [ev, evs, evAnd, evOr, kb, kp, getV, getB, List.getElem?_cons_succ, List.getElem?_cons_zero, Option.bind_some, List.set_cons_succ, List.set_cons_zero, tru_bl, if_true, if_false, Bool.false_eq_true, Bool.not_true, Bool.not_false, t0]) (Run.ret ?_ ⟨rfl, rfl⟩)
  have h := fun q => call_table_by (lf := lf) (n := n + 2) (k := q) (fun i j => mixB ps (i / m2) (j / m2) && mixB qs (i % m2) (j % m2)) hm 4 [tE m ps, tE m2 qs, .int m2] (fun i j q hij hj => by
    rw [lam_eq (st := [_, _, _, _, _]) (np := 2) (nc := 3) (ns := 5) rfl rfl rfl rfl]
    have d1 : ∀ a q, fdvD (.int (a : Nat)) (.int m2) q = some (.int ((a / m2 : Nat) : Int), q) := fun a q => fdv_nat h0 (by omega)
    have d2 : ∀ a q, modD (.int (a : Nat)) (.int m2) q = some (.int ((a % m2 : Nat) : Int), q) := fun a q => mod_nat h0
    cases e : mixB ps (i / m2) (j / m2) with
    | false => simp only [ev, evs, evAnd, evOr, kb, kp, getV, getB, List.getElem?_cons_succ, List.getElem?_cons_zero, Option.bind_some, List.set_cons_succ, List.set_cons_zero, tru_bl, if_true, if_false, Bool.false_eq_true, Bool.not_true, Bool.not_false, d1, d2, call_mixed, e, Bool.false_and]
    | true => simp only [ev, evs, evAnd, evOr, kb, kp, getV, getB, List.getElem?_cons_succ, List.getElem?_cons_zero, Option.bind_some, List.set_cons_succ, List.set_cons_zero, tru_bl, if_true, if_false, Bool.false_eq_true, Bool.not_true, Bool.not_false, d1, d2, call_mixed, e, Bool.true_and])
  have hmul : ∀ q, mulD (.int m) (.int m2) q = some (.int ((m * m2 : Nat) : Int), q) := fun q => by
    show (if (absLe (m : Int) 18446744073709551615 || absLe (m2 : Int) 18446744073709551615) = true then (pure (.int ((m : Int) * (m2 : Int))) : M D) else no) q = _
    rw [if_pos (by rw [Bool.or_eq_true]; exact .inr (absLe_of.mpr (by omega)))]
    show some (D.int ((m : Int) * (m2 : Int)), q) = _
    rw [Int.natCast_mul]
  simp only [ev, evs, evAnd, evOr, kb, kp, getV, getB, List.getElem?_cons_succ, List.getElem?_cons_zero, Option.bind_some, List.set_cons_succ, List.set_cons_zero, tru_bl, if_true, if_false, Bool.false_eq_true, Bool.not_true, Bool.not_false, caps, t0, hmul, h]
end G

namespace G
variable {lf : List Fd} {n m k : Nat} {ps : List (Nat × Nat)}
/-! ### the powers -/
theorem wordsN_at (hm : 0 < m) {L i : Nat} (hi : i < m ^ L) : (wordsN m L).getD i [] = digW m L i := by
  rw [getD_lt (by rw [wordsN_len]; exact hi)]
  simp only [wordsN_dig hm L]
  rw [List.getElem_map, List.getElem_range]
def powA (m : Nat) (ps : List (Nat × Nat)) (L i j : Nat) : Bool := mwB ps (digW m L i) (digW m L j)
theorem pow_pairs (hm : 0 < m) (L : Nat) : (pairsOf (m ^ L) fun i j => mwB ps ((wordsN m L).getD i []) ((wordsN m L).getD j [])) = pairsOf (m ^ L) (powA m ps L) :=
  pairsOf_congr fun i j hij hj => by
    unfold powA
    rw [wordsN_at hm (by omega), wordsN_at hm hj]
theorem mw_app (u1 u2 v1 v2 : List Nat) (h : u1.length = v1.length) : mwB ps (u1 ++ u2) (v1 ++ v2) = (mwB ps u1 v1 && mwB ps u2 v2) := by
  unfold mwB
  rw [List.zip_append h, List.all_append]
theorem mw_one (a b : Nat) : mwB ps [a] [b] = mixB ps a b := by
  show (mixB ps a b && true) = _
  rw [Bool.and_true]
theorem powA_back (L i j : Nat) : powA m ps (L + 1) i j = (powA m ps L (i / m) (j / m) && mixB ps (i % m) (j % m)) := by
  unfold powA
  show mwB ps (digW m L (i / m) ++ [i % m]) (digW m L (j / m) ++ [j % m]) = _
  rw [mw_app _ _ _ _ (by rw [digW_len, digW_len]), mw_one]
theorem digW_mod (m : Nat) : ∀ L N, digW m L (N % m ^ L) = digW m L N
  | 0, _ => rfl
  | L + 1, N => by
    show digW m L (N % m ^ (L + 1) / m) ++ [N % m ^ (L + 1) % m] = digW m L (N / m) ++ [N % m]
    have e1 : N % m ^ (L + 1) / m = N / m % m ^ L := by
      rw [Nat.pow_succ, Nat.mul_comm, Nat.mod_mul_right_div_self]
    have e2 : N % m ^ (L + 1) % m = N % m := Nat.mod_mod_of_dvd _ ⟨m ^ L, by rw [Nat.pow_succ, Nat.mul_comm]⟩
    rw [e1, e2, digW_mod m L]
theorem powA_front (L i j : Nat) : powA m ps (L + 1) i j = (mixB ps (i / m ^ L % m) (j / m ^ L % m) && powA m ps L (i % m ^ L) (j % m ^ L)) := by
  unfold powA
  rw [digW_front, digW_front, digW_mod, digW_mod]
  rfl
theorem powA_comm (L i j : Nat) : powA m ps L i j = powA m ps L j i := mwB_comm _ _
theorem powA_self (L i : Nat) : powA m ps L i i = true := mwB_self _
theorem mixB_of {N : Nat} {A : Nat → Nat → Bool} (hc : ∀ i j, A i j = A j i) (hs : ∀ i, A i i = true) {a b : Nat} (ha : a < N) (hb : b < N) : mixB (pairsOf N A) a b = A a b := by
  rcases Nat.lt_trichotomy a b with z | z | z
  · exact mixB_pairsOf z hb
  · rw [z, mixB_self, hs]
  · rw [mixB_comm, mixB_pairsOf z ha, hc]
/-- the power is the table times the power one shorter -/
theorem pow_times (hm : 0 < m) (L : Nat) : (pairsOf (m ^ (L + 1)) (powA m ps (L + 1))) = pairsOf (m * m ^ L) fun i j => mixB ps (i / m ^ L) (j / m ^ L) && mixB (pairsOf (m ^ L) (powA m ps L)) (i % m ^ L) (j % m ^ L) := by
  have hp : 0 < m ^ L := Nat.pow_pos hm
  have e : m ^ (L + 1) = m * m ^ L := by rw [Nat.pow_succ, Nat.mul_comm]
  rw [e]
  refine pairsOf_congr fun i j hij hj => ?_
  have h1 : ∀ i, i < m * m ^ L → i / m ^ L < m := fun i hi => by rw [Nat.div_lt_iff_lt_mul hp]; exact hi
  rw [powA_front, Nat.mod_eq_of_lt (h1 i (by omega)), Nat.mod_eq_of_lt (h1 j hj), mixB_of (fun i j => powA_comm L i j) (powA_self L) (Nat.mod_lt _ hp) (Nat.mod_lt _ hp)]
theorem powA_one {i j : Nat} (hi : i < m) (hj : j < m) : powA m ps 1 i j = mixB ps i j := by
  rw [powA_back]
  show (true && _) = _
  rw [Bool.true_and, Nat.mod_eq_of_lt hi, Nat.mod_eq_of_lt hj]
theorem pow_one' (ht : Tab m ps) : pairsOf (m ^ 1) (powA m ps 1) = ps := by
  rw [Nat.pow_one]
  refine (ht.eq_pairsOf fun a b hab hb => ?_).symm
  rw [powA_one (by omega) hb, mixB_lt hab, decide_eq_true_eq]
/-! ### how many -/
def sm : Nat → (Nat → Nat) → Nat
  | 0, _ => 0
  | n + 1, f => sm n f + f n
theorem sm_congr {f g : Nat → Nat} : ∀ {n : Nat}, (∀ i, i < n → f i = g i) → sm n f = sm n g
  | 0, _ => rfl
  | n + 1, h => by
    show sm n f + f n = sm n g + g n
    rw [sm_congr fun i hi => h i (by omega), h n (by omega)]
theorem sm_add (f g : Nat → Nat) : ∀ n, sm n (fun i => f i + g i) = sm n f + sm n g
  | 0 => rfl
  | n + 1 => by
    show sm n (fun i => f i + g i) + (f n + g n) = sm n f + f n + (sm n g + g n)
    rw [sm_add f g n]
    omega
theorem sm_mul (c : Nat) (f : Nat → Nat) : ∀ n, sm n (fun i => c * f i) = c * sm n f
  | 0 => rfl
  | n + 1 => by
    show sm n (fun i => c * f i) + c * f n = c * (sm n f + f n)
    rw [sm_mul c f n, Nat.mul_add]
theorem sm_mulR (c : Nat) (f : Nat → Nat) (n : Nat) : sm n (fun i => f i * c) = sm n f * c := by
  rw [Nat.mul_comm, ← sm_mul]
  exact sm_congr fun i _ => Nat.mul_comm _ _
theorem sm_const (c : Nat) : ∀ n, sm n (fun _ => c) = n * c
  | 0 => by rw [Nat.zero_mul]; rfl
  | n + 1 => by
    show sm n (fun _ => c) + c = _
    rw [sm_const c n, Nat.succ_mul]
theorem sm_split (f : Nat → Nat) (a : Nat) : ∀ b, sm (a + b) f = sm a f + sm b fun t => f (a + t)
  | 0 => rfl
  | b + 1 => by
    show sm (a + b) f + f (a + b) = sm a f + (sm b (fun t => f (a + t)) + f (a + b))
    rw [sm_split f a b]
    omega
theorem sm_swap (F : Nat → Nat → Nat) (m : Nat) : ∀ n, sm n (fun i => sm m fun j => F i j) = sm m fun j => sm n fun i => F i j
  | 0 => by
    show 0 = sm m fun _ => 0
    rw [sm_const, Nat.mul_zero]
  | n + 1 => by
    show sm n (fun i => sm m fun j => F i j) + sm m (fun j => F n j) = sm m fun j => sm n (fun i => F i j) + F n j
    rw [sm_swap F m n, sm_add]
theorem sm_prod (f : Nat → Nat) (b : Nat) : ∀ a, sm (a * b) f = sm a fun q => sm b fun r => f (q * b + r)
  | 0 => by rw [Nat.zero_mul]; rfl
  | a + 1 => by
    show _ = sm a (fun q => sm b fun r => f (q * b + r)) + sm b fun r => f (a * b + r)
    rw [Nat.succ_mul, sm_split, sm_prod f b a]
def ind (b : Bool) : Nat := if b then 1 else 0
theorem len_filter (p : Nat → Bool) : ∀ n, ((List.range n).filter p).length = sm n fun i => ind (p i)
  | 0 => rfl
  | n + 1 => by
    show _ = sm n (fun i => ind (p i)) + ind (p n)
    rw [List.range_succ, List.filter_append, List.length_append, len_filter p n]
    congr 1
    cases h : p n <;> simp [h, ind]
theorem len_filter' (p : Nat → Bool) (a : Nat) : ∀ n, ((List.range' a n).filter p).length = sm n fun i => ind (p (a + i))
  | 0 => rfl
  | n + 1 => by
    show _ = sm n (fun i => ind (p (a + i))) + ind (p (a + n))
    rw [List.range'_1_concat, List.filter_append, List.length_append, len_filter' p a n]
    congr 1
    cases h : p (a + n) <;> simp [h, ind]
theorem sum_range (f : Nat → Nat) : ∀ n, ((List.range n).map f).sum = sm n f
  | 0 => rfl
  | n + 1 => by
    show _ = sm n f + f n
    rw [List.range_succ, List.map_append, List.sum_append, sum_range f n]
    simp
theorem len_pairsOf (N : Nat) (A : Nat → Nat → Bool) : (pairsOf N A).length = sm N fun i => sm N fun j => ind (decide (i < j) && A i j) := by
  unfold pairsOf
  rw [List.length_flatMap, sum_range]
  refine sm_congr fun i hi => ?_
  rw [List.length_map, len_filter']
  have e : N = (i + 1) + (N - (i + 1)) := by omega
  conv => rhs; rw [e, sm_split]
  rw [show sm (i + 1) (fun j => ind (decide (i < j) && A i j)) = sm (i + 1) (fun _ => 0) from sm_congr fun j hj => by rw [decide_eq_false (by omega)]; rfl, sm_const, Nat.mul_zero, Nat.zero_add]
  exact sm_congr fun t _ => by rw [decide_eq_true (by omega), Bool.true_and]
theorem sm_one {n i : Nat} (hi : i < n) : sm n (fun j => ind (decide (i = j))) = 1 := by
  have e : n = i + (1 + (n - i - 1)) := by omega
  rw [e, sm_split, sm_split]
  rw [show sm i (fun j => ind (decide (i = j))) = sm i (fun _ => 0) from sm_congr fun j hj => by rw [decide_eq_false (by omega)]; rfl, sm_const]
  rw [show sm (n - i - 1) (fun t => ind (decide (i = i + (1 + t)))) = sm (n - i - 1) (fun _ => 0) from sm_congr fun j hj => by rw [decide_eq_false (by omega)]; rfl, sm_const]
  show i * 0 + ((0 + ind (decide (i = i + 0))) + (n - i - 1) * 0) = 1
  simp [ind]
/-- neighbours are twice the pairs, and each sign itself -/
theorem cnt_pairs {N : Nat} {A : Nat → Nat → Bool} (hc : ∀ i j, A i j = A j i) (hs : ∀ i, A i i = true) : (sm N fun i => sm N fun j => ind (A i j)) = 2 * (pairsOf N A).length + N := by
  have e : ∀ i j, ind (A i j) = ind (decide (i < j) && A i j) + (ind (decide (j < i) && A j i) + ind (decide (i = j))) := fun i j => by
    rcases Nat.lt_trichotomy i j with z | z | z
    · rw [decide_eq_true z, decide_eq_false (show ¬ j < i by omega), decide_eq_false (show ¬ i = j by omega)]
      simp [ind]
    · subst z
      rw [hs]
      simp [ind]
    · rw [decide_eq_true z, decide_eq_false (show ¬ i < j by omega), decide_eq_false (show ¬ i = j by omega), hc i j]
      simp [ind]
  rw [show (sm N fun i => sm N fun j => ind (A i j)) = sm N fun i => (sm N fun j => ind (decide (i < j) && A i j)) + ((sm N fun j => ind (decide (j < i) && A j i)) + sm N fun j => ind (decide (i = j))) from sm_congr fun i _ => by
    rw [sm_congr fun j _ => e i j, sm_add, sm_add]]
  rw [sm_add, sm_add, sm_swap (fun i j => ind (decide (j < i) && A j i)), ← len_pairsOf]
  rw [show (sm N fun i => sm N fun j => ind (decide (i = j))) = sm N (fun _ => 1) from sm_congr fun i hi => sm_one hi, sm_const]
  omega
theorem ind_and (a b : Bool) : ind (a && b) = ind a * ind b := by cases a <;> cases b <;> rfl
/-- neighbours of words -/
theorem cnt_pow (hm : 0 < m) : ∀ L, (sm (m ^ L) fun i => sm (m ^ L) fun j => ind (powA m ps L i j)) = (sm m fun i => sm m fun j => ind (mixB ps i j)) ^ L
  | 0 => rfl
  | L + 1 => by
    rw [Nat.pow_succ, Nat.pow_succ, ← cnt_pow hm L, sm_prod]
    have dv : ∀ q r, r < m → (q * m + r) / m = q ∧ (q * m + r) % m = r := fun q r hr => by
      rw [Nat.mul_comm q m, Nat.mul_add_div hm, Nat.div_eq_of_lt hr, Nat.mul_add_mod, Nat.mod_eq_of_lt hr]
      exact ⟨rfl, rfl⟩
    have e : ∀ q r, r < m → (sm (m ^ L * m) fun j => ind (powA m ps (L + 1) (q * m + r) j)) = (sm (m ^ L) fun q' => ind (powA m ps L q q')) * sm m fun r' => ind (mixB ps r r') := fun q r hr => by
      rw [sm_prod, ← sm_mulR]
      refine sm_congr fun q' _ => ?_
      rw [← sm_mul]
      refine sm_congr fun r' hr' => ?_
      rw [powA_back, (dv q r hr).1, (dv q r hr).2, (dv q' r' hr').1, (dv q' r' hr').2, ind_and]
    rw [sm_congr fun q _ => sm_congr fun r hr => e q r hr]
    rw [sm_congr fun q _ => sm_mul _ _ _, sm_mulR]
/-- words in order -/
theorem ltbs_snoc : ∀ (u v : List Nat) (a b : Nat), u.length = v.length → ltbs (u ++ [a]) (v ++ [b]) = (ltbs u v || (decide (u = v) && decide (a < b)))
  | [], [], a, b, _ => by
    show (if a = b then ltbs [] [] else Enc.ltb a b) = _
    by_cases h : a = b
    · rw [if_pos h, decide_eq_false (show ¬ a < b by omega)]; rfl
    · rw [if_neg h]
      show decide (a < b) = (false || (true && decide (a < b)))
      simp
  | [], _ :: _, _, _, h => by simp at h
  | _ :: _, [], _, _, h => by simp at h
  | x :: u, y :: v, a, b, h => by
    show (if x = y then ltbs (u ++ [a]) (v ++ [b]) else Enc.ltb x y) = ((if x = y then ltbs u v else Enc.ltb x y) || (decide (x :: u = y :: v) && decide (a < b)))
    by_cases e : x = y
    · subst e
      rw [if_pos rfl, if_pos rfl, ltbs_snoc u v a b (by simpa using h)]
      simp
    · rw [if_neg e, if_neg e]
      simp [e]
theorem wordsN_so : ∀ L, (wordsN m L).Pairwise fun u v => ltbs u v = true
  | 0 => List.pairwise_singleton _ _
  | L + 1 => by
    show List.Pairwise _ ((wordsN m L).flatMap fun w => (List.range m).map fun s => w ++ [s])
    rw [List.pairwise_flatMap]
    refine ⟨fun w _ => ?_, ?_⟩
    · rw [List.pairwise_map]
      refine List.pairwise_lt_range.imp fun {a b} h => ?_
      rw [ltbs_snoc _ _ _ _ rfl, decide_eq_true h]
      simp
    · refine (List.Pairwise.and_mem.mp (wordsN_so L)).imp fun {u v} h => ?_
      obtain ⟨hu, hv, h⟩ := h
      intro x hx y hy
      obtain ⟨a, _, rfl⟩ := List.mem_map.mp hx
      obtain ⟨b, _, rfl⟩ := List.mem_map.mp hy
      rw [ltbs_snoc _ _ _ _ ((wordsN_mem.mp hu).1.trans (wordsN_mem.mp hv).1.symm), h]
      rfl
theorem ltbs_asy : ∀ (u v : List Nat), ltbs u v = true → ltbs v u = false
  | [], [], _ => rfl
  | [], _ :: _, _ => rfl
  | _ :: _, [], h => by cases h
  | a :: u, b :: v, h => by
    have h : (if a = b then ltbs u v else decide (a < b)) = true := h
    show (if b = a then ltbs v u else decide (b < a)) = false
    by_cases e : a = b
    · rw [if_pos e] at h
      rw [if_pos e.symm]
      exact ltbs_asy u v h
    · rw [if_neg e] at h
      rw [if_neg (fun z => e z.symm)]
      have := of_decide_eq_true h
      exact decide_eq_false (by omega)
theorem sort_words (L : Nat) : sortE (wordsN m L) = wordsN m L := by
  unfold sortE
  refine List.mergeSort_of_pairwise ((wordsN_so L).imp fun {u v} h => ?_)
  show (!ltbs v u) = true
  rw [ltbs_asy u v h]
  rfl
theorem sorted_words (hm : 0 < m) (L q : Nat) : f1D .sorted (enc (wordsN m L)) q = some (.lst ((wordsN m L).map enc), q) := by
  cases L with
  | zero => exact sortT_one (l := ([[]] : List (List Nat))) (by decide) (Nat.le_refl 1) q
  | succ L =>
    rw [sortedT_enc (by decide) ?_ q, sort_words]
    rw [Bool.or_eq_true]
    refine .inl (List.all_eq_true.mpr fun d hd => ?_)
    obtain ⟨w, hw, rfl⟩ := List.mem_map.mp hd
    have hl := (wordsN_mem.mp hw).1
    cases w with
    | nil => simp at hl
    | cons a w => rfl
end G

namespace G
/-! ### orders -/
class Lin (α : Type) [DecidableEq α] [Enc α] : Prop where
  irr : ∀ a : α, Enc.ltb a a = false
  trans : ∀ a b c : α, Enc.ltb a b = true → Enc.ltb b c = true → Enc.ltb a c = true
  conn : ∀ a b : α, a ≠ b → Enc.ltb a b = true ∨ Enc.ltb b a = true
theorem Lin.asy {α : Type} [DecidableEq α] [Enc α] [Lin α] {a b : α} (h : Enc.ltb a b = true) : Enc.ltb b a = false := by
  cases e : Enc.ltb b a with
  | false => rfl
  | true =>
    have := Lin.trans _ _ _ h e
    rw [Lin.irr] at this
    cases this
instance : Lin Nat where
  irr a := by show decide (a < a) = false; simp
  trans a b c h1 h2 := by
    have h1 : decide (a < b) = true := h1
    have h2 : decide (b < c) = true := h2
    show decide (a < c) = true
    simp at *
    omega
  conn a b h := by
    show decide (a < b) = true ∨ decide (b < a) = true
    simp
    omega
section
variable {α β : Type} [DecidableEq α] [DecidableEq β] [Enc α] [Enc β]
theorem ltbs_cons (a b : α) (l m : List α) : ltbs (a :: l) (b :: m) = if a = b then ltbs l m else Enc.ltb a b := rfl
theorem ltbs_trans [Lin α] : ∀ l m r : List α, ltbs l m = true → ltbs m r = true → ltbs l r = true
  | [], [], _, h, _ => by cases h
  | _ :: _, [], _, h, _ => by cases h
  | [], _ :: _, [], _, h => by cases h
  | [], _ :: _, _ :: _, _, _ => rfl
  | _ :: _, _ :: _, [], _, h => by cases h
  | a :: l, b :: m, c :: r, h1, h2 => by
    rw [ltbs_cons] at h1 h2 ⊢
    by_cases e1 : a = b
    · rw [if_pos e1] at h1
      subst e1
      by_cases e2 : a = c
      · rw [if_pos e2] at h2 ⊢
        exact ltbs_trans l m r h1 h2
      · rw [if_neg e2] at h2 ⊢
        exact h2
    · rw [if_neg e1] at h1
      by_cases e2 : b = c
      · subst e2
        rw [if_neg e1]
        exact h1
      · rw [if_neg e2] at h2
        have h3 := Lin.trans _ _ _ h1 h2
        have e3 : a ≠ c := fun e => by rw [e, Lin.irr] at h3; cases h3
        rw [if_neg e3]
        exact h3
theorem ltbs_conn [Lin α] : ∀ l m : List α, l ≠ m → ltbs l m = true ∨ ltbs m l = true
  | [], [], h => absurd rfl h
  | [], _ :: _, _ => .inl rfl
  | _ :: _, [], _ => .inr rfl
  | a :: l, b :: m, h => by
    rw [ltbs_cons, ltbs_cons]
    by_cases e : a = b
    · rw [if_pos e, if_pos e.symm]
      exact ltbs_conn l m fun z => h (by rw [e, z])
    · rw [if_neg e, if_neg fun z => e z.symm]
      exact Lin.conn a b e
theorem ltbs_irr [Lin α] : ∀ l : List α, ltbs l l = false
  | [] => rfl
  | a :: l => by rw [ltbs_cons, if_pos rfl]; exact ltbs_irr l
instance [Lin α] : Lin (List α) where
  irr := ltbs_irr
  trans := ltbs_trans
  conn := ltbs_conn
theorem ltb_prod (p q : α × β) : Enc.ltb p q = if p.1 = q.1 then (if p.2 = q.2 then false else Enc.ltb p.2 q.2) else Enc.ltb p.1 q.1 := rfl
instance [Lin α] [Lin β] : Lin (α × β) where
  irr p := by rw [ltb_prod, if_pos rfl, if_pos rfl]
  trans p q r h1 h2 := by
    obtain ⟨a, a'⟩ := p
    obtain ⟨b, b'⟩ := q
    obtain ⟨c, c'⟩ := r
    rw [ltb_prod] at h1 h2 ⊢
    simp only at h1 h2 ⊢
    by_cases e1 : a = b
    · rw [if_pos e1] at h1
      subst e1
      by_cases e2 : a = c
      · rw [if_pos e2] at h2 ⊢
        by_cases e3 : a' = b'
        · rw [if_pos e3] at h1; cases h1
        · rw [if_neg e3] at h1
          by_cases e4 : b' = c'
          · rw [if_pos e4] at h2; cases h2
          · rw [if_neg e4] at h2
            have h3 := Lin.trans _ _ _ h1 h2
            have e5 : a' ≠ c' := fun e => by rw [e, Lin.irr] at h3; cases h3
            rw [if_neg e5]
            exact h3
      · rw [if_neg e2] at h2 ⊢
        exact h2
    · rw [if_neg e1] at h1
      by_cases e2 : b = c
      · subst e2
        rw [if_neg e1]
        exact h1
      · rw [if_neg e2] at h2
        have h3 := Lin.trans _ _ _ h1 h2
        have e3 : a ≠ c := fun e => by rw [e, Lin.irr] at h3; cases h3
        rw [if_neg e3]
        exact h3
  conn p q h := by
    obtain ⟨a, a'⟩ := p
    obtain ⟨b, b'⟩ := q
    rw [ltb_prod, ltb_prod]
    simp only
    by_cases e : a = b
    · subst e
      have e' : a' ≠ b' := fun z => h (by rw [z])
      rw [if_pos rfl, if_pos rfl, if_neg e', if_neg fun z => e' z.symm]
      exact Lin.conn _ _ e'
    · rw [if_neg e, if_neg fun z => e z.symm]
      exact Lin.conn _ _ e
/-! ### the least -/
def minE : α → List α → α
  | b, [] => b
  | b, x :: xs => minE (if Enc.ltb x b = true then x else b) xs
def minX (l : List α) (d : α) : α := match l with
  | [] => d
  | b :: l => minE b l
theorem minL_enc : ∀ (l : List α) (b : α), minL (enc b) (l.map enc) = enc (minE b l)
  | [], b => rfl
  | x :: xs, b => by
    show minL (if G.lt (enc x) (enc b) = true then enc x else enc b) (xs.map enc) = _
    rw [Enc.lt]
    have : (if Enc.ltb x b = true then enc x else enc b) = enc (if Enc.ltb x b = true then x else b) := by split <;> rfl
    rw [this, minL_enc xs]
    rfl
theorem min_enc (l : List α) (d : α) (hl : l ≠ []) (h : Enc.dep α ≤ 40) (q : Nat) : f1D .min (.lst (l.map enc)) q = some (enc (minX l d), q) := by
  cases l with
  | nil => exact absurd rfl hl
  | cons b l =>
    have hm : minable (enc b :: l.map enc) = true := by
      have e : enc b :: l.map enc = (b :: l).map enc := rfl
      rw [e]
      unfold minable alikes
      rw [show okds deep ((b :: l).map enc) = true from encs_ok _ h, Bool.true_and, Bool.and_eq_true]
      refine ⟨List.all_eq_true.mpr fun x hx => List.all_eq_true.mpr fun y hy => ?_, List.all_eq_true.mpr fun x hx => ?_⟩
      · obtain ⟨a, _, rfl⟩ := List.mem_map.mp hx
        obtain ⟨c, _, rfl⟩ := List.mem_map.mp hy
        exact Enc.like a c
      · obtain ⟨a, _, rfl⟩ := List.mem_map.mp hx
        have := Enc.nn a
        show (!isNon (enc a)) = true
        cases e : enc a with
        | non => exact absurd e this
        | _ => rfl
    show (if minable (enc b :: l.map enc) = true then (pure (minL (enc b) (l.map enc)) : M D) else no) q = _
    rw [if_pos hm, minL_enc]
    rfl
theorem minE_spec [Lin α] : ∀ (l : List α) (b : α), (minE b l ∈ b :: l) ∧ ∀ y ∈ b :: l, Enc.ltb y (minE b l) = false
  | [], b => ⟨List.mem_cons_self, fun y hy => by rw [List.mem_singleton.mp hy]; exact Lin.irr b⟩
  | x :: xs, b => by
    obtain ⟨h1, h2⟩ := minE_spec xs (if Enc.ltb x b = true then x else b)
    show (minE (if Enc.ltb x b = true then x else b) xs ∈ b :: x :: xs) ∧ ∀ y ∈ b :: x :: xs, Enc.ltb y (minE (if Enc.ltb x b = true then x else b) xs) = false
    generalize hc : (if Enc.ltb x b = true then x else b) = c at h1 h2 ⊢
    have hcb : (c = x ∧ Enc.ltb x b = true) ∨ (c = b ∧ Enc.ltb x b = false) := by
      by_cases e : Enc.ltb x b = true
      · rw [if_pos e] at hc; exact .inl ⟨hc.symm, e⟩
      · rw [if_neg e] at hc; exact .inr ⟨hc.symm, by simpa using e⟩
    have h3 := h2 c List.mem_cons_self
    -- what is below the least is below c
    have low : ∀ z, Enc.ltb z (minE c xs) = true → Enc.ltb z c = true := fun z hz => by
      by_cases e : minE c xs = c
      · rw [e] at hz; exact hz
      · rcases Lin.conn _ _ e with h | h
        · exact Lin.trans _ _ _ hz h
        · rw [h3] at h; cases h
    refine ⟨?_, fun y hy => ?_⟩
    · rcases List.mem_cons.mp h1 with e | e
      · rw [e]
        rcases hcb with ⟨e, _⟩ | ⟨e, _⟩ <;> rw [e] <;> simp
      · exact List.mem_cons_of_mem _ (List.mem_cons_of_mem _ e)
    · rcases List.mem_cons.mp hy with e | hy
      · cases hz : Enc.ltb y (minE c xs) with
        | false => rfl
        | true =>
          have := low y hz
          rw [e] at this
          rcases hcb with ⟨e1, e2⟩ | ⟨e1, _⟩
          · rw [e1, Lin.asy e2] at this; cases this
          · rw [e1, Lin.irr] at this; cases this
      · rcases List.mem_cons.mp hy with e | hy
        · cases hz : Enc.ltb y (minE c xs) with
          | false => rfl
          | true =>
            have := low y hz
            rw [e] at this
            rcases hcb with ⟨e1, _⟩ | ⟨e1, e2⟩
            · rw [e1, Lin.irr] at this; cases this
            · rw [e1, e2] at this; cases this
        · exact h2 y (List.mem_cons_of_mem _ hy)
theorem minX_spec [Lin α] {l : List α} (d : α) (hl : l ≠ []) : minX l d ∈ l ∧ ∀ y ∈ l, Enc.ltb y (minX l d) = false := by
  cases l with
  | nil => exact absurd rfl hl
  | cons b l => exact minE_spec l b
theorem minX_eq [Lin α] {l m : List α} {d e : α} (hl : l ≠ []) (h : ∀ x, x ∈ l ↔ x ∈ m) : minX l d = minX m e := by
  have hm : m ≠ [] := fun z => by
    obtain ⟨x, hx⟩ := List.exists_mem_of_ne_nil l hl
    have := (h x).mp hx
    rw [z] at this
    cases this
  obtain ⟨a1, a2⟩ := minX_spec d hl
  obtain ⟨b1, b2⟩ := minX_spec e hm
  by_cases q : minX l d = minX m e
  · exact q
  · rcases Lin.conn _ _ q with z | z
    · rw [b2 _ ((h _).mp a1)] at z; cases z
    · rw [a2 _ ((h _).mpr b1)] at z; cases z
theorem minX_head [Lin α] {a : α} {l : List α} (d : α) (h : (a :: l).Pairwise fun x y => Enc.ltb x y = true) : minX (a :: l) d = a := by
  obtain ⟨h1, h2⟩ := minX_spec (l := a :: l) d (by simp)
  rcases List.mem_cons.mp h1 with e | e
  · exact e
  · have := (List.pairwise_cons.mp h).1 _ e
    rw [h2 a List.mem_cons_self] at this
    cases this
theorem sortE_so [Lin α] {l : List α} (nd : l.Nodup) : (sortE l).Pairwise fun x y => Enc.ltb x y = true := by
  have h1 : (sortE l).Pairwise fun a b => (!Enc.ltb b a) = true := List.pairwise_mergeSort (fun a b c x y => by
    rw [Bool.not_eq_true'] at x y ⊢
    cases e : Enc.ltb c a with
    | false => rfl
    | true =>
      by_cases q : a = b
      · rw [q] at e; rw [e] at y; cases y
      · rcases Lin.conn _ _ q with z | z
        · have := Lin.trans _ _ _ e z
          rw [y] at this; cases this
        · rw [x] at z; cases z) (fun a b => by
    rw [Bool.or_eq_true, Bool.not_eq_true', Bool.not_eq_true']
    cases e : Enc.ltb b a with
    | false => exact .inl rfl
    | true => exact .inr (Lin.asy e)) l
  have h2 : (sortE l).Nodup := (sortE_perm l).nodup_iff.mpr nd
  refine (h1.and h2).imp fun {a b} h => ?_
  obtain ⟨x, y⟩ := h
  rw [Bool.not_eq_true'] at x
  rcases Lin.conn _ _ y with z | z
  · exact z
  · rw [x] at z; cases z
end
/-! ### all orders -/
def ranksN (m : Nat) : List (List Nat) := (wordsN m m).filter fun w => decide w.Nodup
theorem ranks_mem {m : Nat} {w : List Nat} : w ∈ ranksN m ↔ w.length = m ∧ (∀ s ∈ w, s < m) ∧ w.Nodup := by
  unfold ranksN
  rw [List.mem_filter, wordsN_mem, decide_eq_true_eq]
  exact ⟨fun h => ⟨h.1.1, h.1.2, h.2⟩, fun h => ⟨⟨h.1, h.2.1⟩, h.2.2⟩⟩
theorem ranks_so (m : Nat) : (ranksN m).Pairwise fun u v => Enc.ltb u v = true := List.Pairwise.filter _ (wordsN_so m)
theorem nodup_len : ∀ (m : Nat) (l : List Nat), l.Nodup → (∀ s ∈ l, s < m) → l.length ≤ m
  | 0, l, _, h => by
    cases l with
    | nil => simp
    | cons a l => exact absurd (h a List.mem_cons_self) (by omega)
  | m + 1, l, nd, h => by
    by_cases e : m ∈ l
    · have h1 := nodup_len m (l.erase m) (nd.erase m) fun s hs => by
        have h2 := (nd.mem_erase_iff).mp hs
        have := h s h2.2
        have := h2.1
        omega
      rw [List.length_erase_of_mem e] at h1
      omega
    · have := nodup_len m l nd fun s hs => by
        have := h s hs
        have : s ≠ m := fun z => e (z ▸ hs)
        omega
      omega
theorem ranks_perm {m : Nat} {w : List Nat} (h : w ∈ ranksN m) : w.Perm (List.range m) := by
  obtain ⟨h1, h2, h3⟩ := ranks_mem.mp h
  refine (List.perm_ext_iff_of_nodup h3 List.nodup_range).mpr fun a => ⟨fun ha => List.mem_range.mpr (h2 a ha), fun ha => ?_⟩
  have ha := List.mem_range.mp ha
  by_cases e : a ∈ w
  · exact e
  · have := nodup_len m (a :: w) (List.nodup_cons.mpr ⟨e, h3⟩) fun s hs => by
      rcases List.mem_cons.mp hs with z | z
      · rw [z]; exact ha
      · exact h2 s z
    rw [List.length_cons] at this
    omega
theorem range_ranks (m : Nat) : List.range m ∈ ranksN m := ranks_mem.mpr ⟨List.length_range, fun s hs => List.mem_range.mp hs, List.nodup_range⟩
theorem ranks_ne (m : Nat) : ranksN m ≠ [] := fun z => by have := range_ranks m; rw [z] at this; cases this
theorem ranks_len (m : Nat) : (ranksN m).length ≤ m ^ m := by
  rw [← wordsN_len m m]
  exact List.length_filter_le _ _
def insN (r : List Nat) (a x : Nat) : List Nat := r.take a ++ [x] ++ r.drop a
def foundN (m : Nat) : List (List Nat) := (ranksN m).flatMap fun r => (List.range (m + 1)).map fun a => insN r a m
theorem ins_perm (r : List Nat) (a x : Nat) : (insN r a x).Perm (x :: r) := by
  unfold insN
  rw [List.append_assoc]
  refine List.perm_middle.trans ?_
  show (x :: (List.take a r ++ List.drop a r)).Perm (x :: r)
  rw [List.take_append_drop]
theorem found_mem {m : Nat} {w : List Nat} : w ∈ foundN m ↔ w ∈ ranksN (m + 1) := by
  unfold foundN
  simp only [List.mem_flatMap, List.mem_map, List.mem_range]
  constructor
  · rintro ⟨r, hr, a, ha, rfl⟩
    obtain ⟨h1, h2, h3⟩ := ranks_mem.mp hr
    have hp := ins_perm r a m
    refine ranks_mem.mpr ⟨by rw [hp.length_eq, List.length_cons, h1], fun s hs => ?_, hp.nodup_iff.mpr (List.nodup_cons.mpr ⟨fun z => by have := h2 m z; omega, h3⟩)⟩
    rcases List.mem_cons.mp (hp.mem_iff.mp hs) with z | z
    · omega
    · have := h2 s z; omega
  · intro hw
    obtain ⟨h1, h2, h3⟩ := ranks_mem.mp hw
    have hm : m ∈ w := (ranks_perm hw).mem_iff.mpr (List.mem_range.mpr (by omega))
    obtain ⟨s, t, rfl⟩ := List.append_of_mem hm
    have hp : (s ++ m :: t).Perm (m :: (s ++ t)) := List.perm_middle
    have hnd := List.nodup_cons.mp (hp.nodup_iff.mp h3)
    refine ⟨s ++ t, ranks_mem.mpr ⟨?_, fun x hx => ?_, hnd.2⟩, s.length, ?_, ?_⟩
    · have := hp.length_eq
      rw [List.length_cons] at this
      omega
    · have := h2 x (hp.mem_iff.mpr (List.mem_cons_of_mem _ hx))
      have : x ≠ m := fun z => hnd.1 (z ▸ hx)
      omega
    · rw [List.length_append, List.length_cons] at h1
      omega
    · unfold insN
      rw [List.take_left, List.drop_left, List.append_assoc]
      rfl
theorem found_nodup (m : Nat) : (foundN m).Nodup := by
  unfold foundN List.Nodup
  rw [List.pairwise_flatMap]
  refine ⟨fun r hr => ?_, ?_⟩
  · obtain ⟨h1, h2, h3⟩ := ranks_mem.mp hr
    rw [List.pairwise_map]
    refine (List.Pairwise.and_mem.mp List.pairwise_lt_range).imp fun {a b} h e => ?_
    obtain ⟨ha, hb, h⟩ := h
    have hb := List.mem_range.mp hb
    have e1 : (insN r a m)[a]? = some m := by
      unfold insN
      rw [List.append_assoc, List.getElem?_append_right (by rw [List.length_take]; omega), List.length_take, show a - min a r.length = 0 by omega]
      rfl
    have e2 : (insN r b m)[a]? = r[a]? := by
      unfold insN
      rw [List.append_assoc, List.getElem?_append_left (by rw [List.length_take]; omega), List.getElem?_take_of_lt h]
    rw [e, e2] at e1
    have := h2 m (List.mem_of_getElem? e1)
    omega
  · have nd : (ranksN m).Nodup := (ranks_so m).imp fun {a b} h e => by rw [e, Lin.irr] at h; cases h
    refine (List.Pairwise.and_mem.mp nd).imp fun {r r'} h => ?_
    obtain ⟨hr, hr', h⟩ := h
    intro x hx y hy e
    obtain ⟨a, _, rfl⟩ := List.mem_map.mp hx
    obtain ⟨b, _, rfl⟩ := List.mem_map.mp hy
    have key : ∀ r a, r ∈ ranksN m → (insN r a m).filter (fun s => decide (s ≠ m)) = r := fun r a hr => by
      obtain ⟨h1, h2, h3⟩ := ranks_mem.mp hr
      unfold insN
      rw [List.filter_append, List.filter_append]
      have e1 : ∀ l : List Nat, (∀ s ∈ l, s ∈ r) → l.filter (fun s => decide (s ≠ m)) = l := fun l hl => List.filter_eq_self.mpr fun s hs => decide_eq_true (by have := h2 s (hl s hs); omega)
      rw [e1 _ fun s hs => List.mem_of_mem_take hs, e1 _ fun s hs => List.mem_of_mem_drop hs]
      simp
    exact h (by rw [← key r a hr, e, key r' b hr'])
theorem sort_found (m : Nat) : sortE (foundN m) = ranksN (m + 1) :=
  sorted_ext (R := fun u v : List Nat => Enc.ltb u v = true) (fun a h => by rw [Lin.irr] at h; cases h) (fun a b h h2 => by rw [Lin.asy h] at h2; cases h2) (sortE_so (found_nodup m)) (ranks_so (m + 1)) fun x => by rw [(sortE_perm _).mem_iff, found_mem]
/-- words without a sign twice -/
def onceN (m t : Nat) : List (List Nat) := (wordsN m t).filter fun w => decide w.Nodup
theorem flat_if {α β : Type} {p : α → Bool} {f g : α → List β} (h : ∀ a, f a = if p a = true then g a else []) : ∀ l : List α, l.flatMap f = (l.filter p).flatMap g
  | [] => rfl
  | a :: l => by
    rw [List.flatMap_cons, List.filter_cons, flat_if h l, h]
    by_cases e : p a = true
    · rw [if_pos e, if_pos e, List.flatMap_cons]
    · rw [if_neg e, if_neg e]; rfl
theorem once_succ (m t : Nat) : onceN m (t + 1) = (onceN m t).flatMap fun w => ((List.range m).filter fun s => !decide (s ∈ w)).map fun s => w ++ [s] := by
  unfold onceN
  show ((wordsN m t).flatMap fun w => (List.range m).map fun s => w ++ [s]).filter _ = _
  rw [List.filter_flatMap]
  refine flat_if (fun w => ?_) _
  rw [List.filter_map]
  by_cases e : w.Nodup
  · rw [if_pos (decide_eq_true e)]
    congr 1
    apply List.filter_congr
    intro s _
    show decide (w ++ [s]).Nodup = _
    rw [Bool.eq_iff_iff, decide_eq_true_eq]
    simp [List.nodup_append, e]
    exact ⟨fun z q => z s q rfl, fun z a ha q => z (q ▸ ha)⟩
  · rw [if_neg (by simpa using e)]
    rw [List.filter_eq_nil_iff.mpr fun s _ => ?_]
    · rfl
    · show ¬ decide (w ++ [s]).Nodup = true
      rw [decide_eq_true_eq]
      exact fun z => e (List.nodup_append.mp z).1
end G

namespace G
/-! ### the most that go together -/
def IsInd (adj : Nat → Nat → Bool) (S : Nat → Prop) (c : List Nat) : Prop := c.Nodup ∧ (∀ x ∈ c, S x) ∧ ∀ x ∈ c, ∀ y ∈ c, x ≠ y → adj x y = false
def MaxI (adj : Nat → Nat → Bool) (S : Nat → Prop) (a : Nat) : Prop := (∃ c, IsInd adj S c ∧ c.length = a) ∧ ∀ c, IsInd adj S c → c.length ≤ a
section
variable {adj : Nat → Nat → Bool} {S S' : Nat → Prop} {a b : Nat} {c : List Nat}
theorem MaxI.eq (h : MaxI adj S a) (h' : MaxI adj S b) : a = b := by
  obtain ⟨⟨c, c1, c2⟩, c3⟩ := h
  obtain ⟨⟨d, d1, d2⟩, d3⟩ := h'
  have := c3 d d1
  have := d3 c c1
  omega
theorem IsInd.sub (h : IsInd adj S c) (hs : ∀ x ∈ c, S' x) : IsInd adj S' c := ⟨h.1, hs, h.2.2⟩
theorem IsInd.erase (h : IsInd adj S c) (v : Nat) : IsInd adj (fun x => S x ∧ x ≠ v) (c.erase v) := by
  refine ⟨h.1.erase v, fun x hx => ?_, fun x hx y hy => h.2.2 x (List.mem_of_mem_erase hx) y (List.mem_of_mem_erase hy)⟩
  have := (List.Nodup.mem_erase_iff h.1).mp hx
  exact ⟨h.2.1 x this.2, this.1⟩
theorem IsInd.filter (h : IsInd adj S c) (p : Nat → Bool) : IsInd adj (fun x => S x ∧ p x = true) (c.filter p) :=
  ⟨h.1.filter p, fun x hx => ⟨h.2.1 x (List.mem_filter.mp hx).1, (List.mem_filter.mp hx).2⟩, fun x hx y hy => h.2.2 x (List.mem_filter.mp hx).1 y (List.mem_filter.mp hy).1⟩
theorem IsInd.cons {v : Nat} (h : IsInd adj S c) (hv : ∀ x, S x → x ≠ v ∧ adj v x = false ∧ adj x v = false) : IsInd adj (fun x => x = v ∨ S x) (v :: c) := by
  refine ⟨List.nodup_cons.mpr ⟨fun z => (hv v (h.2.1 v z)).1 rfl, h.1⟩, fun x hx => ?_, fun x hx y hy ne => ?_⟩
  · rcases List.mem_cons.mp hx with z | z
    · exact .inl z
    · exact .inr (h.2.1 x z)
  · rcases List.mem_cons.mp hx with z | z <;> rcases List.mem_cons.mp hy with q | q
    · exact absurd (z.trans q.symm) ne
    · rw [z]; exact (hv y (h.2.1 y q)).2.1
    · rw [q]; exact (hv x (h.2.1 x z)).2.2
    · exact h.2.2 x z y q ne
theorem MaxI.congr (h : MaxI adj S a) (hs : ∀ x, S x ↔ S' x) : MaxI adj S' a := by
  have e : S = S' := funext fun x => propext (hs x)
  rw [← e]; exact h
/-- one is taken or not -/
theorem MaxI.branch {v : Nat} (hv : S v) (sym : ∀ x y, S x → S y → adj x y = adj y x) (h1 : MaxI adj (fun x => S x ∧ x ≠ v) a) (h2 : MaxI adj (fun x => (S x ∧ x ≠ v) ∧ adj v x = false) b) : MaxI adj S (max a (1 + b)) := by
  refine ⟨?_, fun c hc => ?_⟩
  · obtain ⟨⟨c, c1, c2⟩, _⟩ := h1
    obtain ⟨⟨d, d1, d2⟩, _⟩ := h2
    rcases Nat.le_total (1 + b) a with z | z
    · exact ⟨c, c1.sub fun x hx => (c1.2.1 x hx).1, by omega⟩
    · refine ⟨v :: d, (d1.cons (v := v) fun x hx => ⟨hx.1.2, hx.2, by rw [sym x v hx.1.1 hv]; exact hx.2⟩).sub fun x hx => ?_, by simp; omega⟩
      rcases List.mem_cons.mp hx with z | z
      · rw [z]; exact hv
      · exact (d1.2.1 x z).1.1
  · by_cases hm : v ∈ c
    · have h := h2.2 (c.erase v) ((hc.erase v).sub fun x hx => by
        have := (List.Nodup.mem_erase_iff hc.1).mp hx
        exact ⟨⟨hc.2.1 x this.2, this.1⟩, hc.2.2 v hm x this.2 (Ne.symm this.1)⟩)
      rw [List.length_erase_of_mem hm] at h
      omega
    · have h := h1.2 c (hc.sub fun x hx => ⟨hc.2.1 x hx, fun z => hm (by rw [← z]; exact hx)⟩)
      omega
theorem alphaF_ok : ∀ (f : Nat) (vs : List Nat), vs.Nodup → vs.length ≤ f → (∀ x ∈ vs, ∀ y ∈ vs, adj x y = adj y x) → MaxI adj (· ∈ vs) (alphaF adj f vs)
  | _, [], _, _, _ => by
    have e : ∀ f, alphaF adj f [] = 0 := fun f => by cases f <;> rfl
    rw [e]
    refine ⟨⟨[], ⟨List.nodup_nil, fun x hx => absurd hx List.not_mem_nil, fun x hx => absurd hx List.not_mem_nil⟩, rfl⟩, fun c hc => ?_⟩
    cases c with
    | nil => exact Nat.le_refl _
    | cons x c => exact absurd (hc.2.1 x List.mem_cons_self) List.not_mem_nil
  | 0, v :: vs, _, h, _ => by simp at h
  | f + 1, v :: vs, nd, h, sym => by
    rw [List.nodup_cons] at nd
    have hl : vs.length ≤ f := by simpa using h
    have i1 := alphaF_ok f vs nd.2 hl fun x hx y hy => sym x (List.mem_cons_of_mem _ hx) y (List.mem_cons_of_mem _ hy)
    have i2 := alphaF_ok f (vs.filter fun u => !adj v u) (nd.2.filter _) (Nat.le_trans (List.length_filter_le _ _) hl) fun x hx y hy => sym x (List.mem_cons_of_mem _ (List.mem_filter.mp hx).1) y (List.mem_cons_of_mem _ (List.mem_filter.mp hy).1)
    refine MaxI.branch (v := v) List.mem_cons_self (fun x y hx hy => sym x hx y hy) (i1.congr fun x => ?_) (i2.congr fun x => ?_)
    · constructor
      · intro hx; exact ⟨List.mem_cons_of_mem _ hx, fun z => nd.1 (by rw [← z]; exact hx)⟩
      · rintro ⟨hx, ne⟩
        rcases List.mem_cons.mp hx with z | z
        · exact absurd z ne
        · exact z
    · rw [List.mem_filter, Bool.not_eq_true']
      constructor
      · rintro ⟨hx, ha⟩
        exact ⟨⟨List.mem_cons_of_mem _ hx, fun z => nd.1 (by rw [← z]; exact hx)⟩, ha⟩
      · rintro ⟨⟨hx, ne⟩, ha⟩
        rcases List.mem_cons.mp hx with z | z
        · exact absurd z ne
        · exact ⟨z, ha⟩
/-- one with at most one neighbour may be taken -/
theorem MaxI.low {s : Nat} (hs : S s) (hr : adj s s = true) (sym : ∀ x y, S x → S y → adj x y = adj y x) (few : ∀ x y, S x → S y → adj s x = true → adj s y = true → x ≠ s → y ≠ s → x = y) (h2 : MaxI adj (fun x => S x ∧ adj s x = false) b) : MaxI adj S (1 + b) := by
  obtain ⟨⟨d, d1, d2⟩, d3⟩ := h2
  refine ⟨⟨s :: d, (d1.cons (v := s) fun x hx => ⟨fun z => (by rw [z, hr] at hx; exact absurd hx.2 (by simp)), hx.2, by rw [sym x s hx.1 hs]; exact hx.2⟩).sub fun x hx => ?_, by simp; omega⟩, fun c hc => ?_⟩
  · rcases List.mem_cons.mp hx with z | z
    · rw [z]; exact hs
    · exact (d1.2.1 x z).1
  · by_cases hm : s ∈ c
    · have h := d3 (c.erase s) ((hc.erase s).sub fun x hx => by
        have := (List.Nodup.mem_erase_iff hc.1).mp hx
        exact ⟨hc.2.1 x this.2, hc.2.2 s hm x this.2 (Ne.symm this.1)⟩)
      rw [List.length_erase_of_mem hm] at h
      omega
    · by_cases hx : ∃ x ∈ c, adj s x = true
      · obtain ⟨x, hx, ha⟩ := hx
        have h := d3 (c.erase x) ((hc.erase x).sub fun y hy => by
          have := (List.Nodup.mem_erase_iff hc.1).mp hy
          refine ⟨hc.2.1 y this.2, ?_⟩
          cases e : adj s y with
          | false => rfl
          | true => exact absurd (few y x (hc.2.1 y this.2) (hc.2.1 x hx) e ha (fun z => hm (by rw [← z]; exact this.2)) (fun z => hm (by rw [← z]; exact hx))) this.1)
        rw [List.length_erase_of_mem hx] at h
        omega
      · have h := d3 c (hc.sub fun y hy => ⟨hc.2.1 y hy, by
          cases e : adj s y with
          | false => rfl
          | true => exact absurd ⟨y, hy, e⟩ hx⟩)
        omega
end
theorem nodup_sub {α : Type} [DecidableEq α] : ∀ {a b : List α}, a.Nodup → (∀ x ∈ a, x ∈ b) → a.length ≤ b.length
  | [], _, _, _ => Nat.zero_le _
  | x :: a, b, h, hs => by
    rw [List.nodup_cons] at h
    have hx := hs x List.mem_cons_self
    have ih := nodup_sub (a := a) (b := b.erase x) h.2 fun y hy => (List.mem_erase_of_ne (fun e => h.1 (by rw [← e]; exact hy))).mpr (hs y (List.mem_cons_of_mem _ hy))
    rw [List.length_erase_of_mem hx] at ih
    have := List.length_pos_of_mem hx
    simp only [List.length_cons]
    omega
/-! ### bits -/
theorem cutM_xor (x m : Nat) : cutM x m = x ^^^ (x &&& m) := by
  have h := Bits.nat_xor_add_and x (x &&& m)
  have e : x &&& (x &&& m) = x &&& m := by rw [← Nat.and_assoc, Nat.and_self]
  rw [e] at h
  unfold cutM
  omega
theorem cut_bit (x m i : Nat) : (cutM x m).testBit i = (x.testBit i && !m.testBit i) := by
  rw [cutM_xor, Nat.testBit_xor, Nat.testBit_and]
  cases x.testBit i <;> cases m.testBit i <;> rfl
theorem cut_lt {x m n : Nat} (h : x < 2 ^ n) : cutM x m < 2 ^ n := Nat.lt_of_le_of_lt (Nat.sub_le _ _) h
theorem mem_bits {n x i : Nat} : i ∈ bitsL n x ↔ i < n ∧ x.testBit i = true := by
  unfold bitsL
  rw [List.mem_filter, List.mem_range]
theorem bits_nd (n x : Nat) : (bitsL n x).Nodup := List.nodup_range.filter _
theorem bit_lt {x n i : Nat} (h : x < 2 ^ n) (hi : x.testBit i = true) : i < n := by
  rcases Nat.lt_or_ge i n with z | z
  · exact z
  · have h2 : 2 ^ n ≤ 2 ^ i := Nat.pow_le_pow_right (by decide) z
    rw [Nat.testBit_lt_two_pow (Nat.lt_of_lt_of_le h h2)] at hi
    cases hi
theorem bit_some {x : Nat} (h : x ≠ 0) : ∃ i, x.testBit i = true := Nat.exists_testBit_of_ne_zero h
/-! ### the rows of a seeker -/
/-- rows that are as they should, whatever is reached -/
structure KOk (l : List Int) : Prop where
  len : l.length ≤ 40
  lt : ∀ i j, adjB l i j = true → j < l.length
  rf : ∀ i, i < l.length → adjB l i i = true
  sy : ∀ i j, i < l.length → j < l.length → adjB l i j = adjB l j i
theorem okK_iff {l : List Int} : okK l = true ↔ l.length ≤ 40 ∧ (∀ m ∈ l, 0 ≤ m ∧ m < 2 ^ l.length) ∧ (∀ i, i < l.length → adjB l i i = true) ∧ (∀ i j, i < l.length → j < l.length → adjB l i j = adjB l j i) ∧ (reachS l).length < 16777216 := by
  unfold okK
  simp only [Bool.and_eq_true, decide_eq_true_eq, List.all_eq_true, List.mem_range, beq_iff_eq]
  constructor
  · rintro ⟨⟨⟨⟨h1, h2⟩, h3⟩, h4⟩, h5⟩
    exact ⟨h1, h2, h3, fun i j hi hj => h4 i hi j hj, h5⟩
  · rintro ⟨h1, h2, h3, h4, h5⟩
    exact ⟨⟨⟨⟨h1, h2⟩, h3⟩, fun i hi j hj => h4 i j hi hj⟩, h5⟩
theorem KOk.of {l : List Int} (h : okK l = true) : KOk l := by
  obtain ⟨h1, h2, h3, h4, h5⟩ := okK_iff.mp h
  refine ⟨h1, fun i j hj => ?_, h3, h4⟩
  unfold adjB at hj
  by_cases hi : i < l.length
  · rw [List.getD_eq_getElem?_getD, List.getElem?_eq_getElem hi, Option.getD_some] at hj
    obtain ⟨a, b⟩ := h2 l[i] (List.getElem_mem hi)
    refine bit_lt (x := (l[i]).toNat) ?_ hj
    have e : ((l[i]).toNat : Int) < ((2 ^ l.length : Nat) : Int) := by
      rw [Int.toNat_of_nonneg a]
      push_cast
      exact b
    exact_mod_cast e
  · rw [List.getD_eq_getElem?_getD, List.getElem?_eq_none (by omega)] at hj
    simp at hj
theorem manyV_ok {l : List Int} (K : KOk l) (x : Nat) : MaxI (adjB l) (fun i => i < l.length ∧ x.testBit i = true) (manyV l x) := by
  have h := alphaF_ok (adj := adjB l) l.length (bitsL l.length x) (bits_nd _ _) (Nat.le_trans (List.length_filter_le _ _) (by simp)) fun a ha b hb => K.sy a b (mem_bits.mp ha).1 (mem_bits.mp hb).1
  exact h.congr fun i => mem_bits
theorem bes_bit (l : List Int) (s i : Nat) : (bes l s).testBit i = adjB l s i := rfl
theorem deg_eq (l : List Int) (x s : Nat) : degS l x s = ((bitsL l.length x).filter fun u => adjB l s u).length := by
  unfold degS onesN bitsL
  rw [List.filter_filter]
  congr 1
  refine List.filter_congr fun i hi => ?_
  rw [Nat.testBit_and, bes_bit]
/-- what the statements of many come to -/
theorem many_low {l : List Int} (K : KOk l) {x s : Nat} (hs : s < l.length) (hx : x.testBit s = true) (hd : degS l x s ≤ 2) : manyV l x = 1 + manyV l (cutM x (bes l s)) := by
  refine (manyV_ok K x).eq (MaxI.low (s := s) ⟨hs, hx⟩ (K.rf s hs) (fun a b ha hb => K.sy a b ha.1 hb.1) (fun a b ha hb h1 h2 na nb => ?_) ((manyV_ok K _).congr fun i => ?_))
  · rw [deg_eq] at hd
    cases Nat.decEq a b with
    | isTrue e => exact e
    | isFalse ne =>
      exfalso
      have hh : [s, a, b].length ≤ ((bitsL l.length x).filter fun u => adjB l s u).length := by
        refine nodup_sub ?_ ?_
        · simp; exact ⟨⟨Ne.symm na, Ne.symm nb⟩, ne⟩
        · intro y hy
          simp at hy
          rw [List.mem_filter, mem_bits]
          rcases hy with e | e | e <;> subst e
          · exact ⟨⟨hs, hx⟩, K.rf _ hs⟩
          · exact ⟨ha, h1⟩
          · exact ⟨hb, h2⟩
      simp at hh
      omega
  · rw [cut_bit, bes_bit]
    simp
    constructor
    · rintro ⟨h1, h2, h3⟩; exact ⟨⟨h1, h2⟩, h3⟩
    · rintro ⟨⟨h1, h2⟩, h3⟩; exact ⟨h1, h2, h3⟩
theorem many_high {l : List Int} (K : KOk l) {x s : Nat} (hs : s < l.length) (hx : x.testBit s = true) : manyV l x = max (manyV l (cutM x (2 ^ s))) (1 + manyV l (cutM x (bes l s))) := by
  refine (manyV_ok K x).eq (MaxI.branch (v := s) ⟨hs, hx⟩ (fun a b ha hb => K.sy a b ha.1 hb.1) ((manyV_ok K _).congr fun i => ?_) ((manyV_ok K _).congr fun i => ?_))
  · rw [cut_bit, Nat.testBit_two_pow]
    simp
    constructor
    · rintro ⟨h1, h2, h3⟩; exact ⟨⟨h1, h2⟩, fun z => h3 z.symm⟩
    · rintro ⟨⟨h1, h2⟩, h3⟩; exact ⟨h1, h2, fun z => h3 z.symm⟩
  · rw [cut_bit, bes_bit]
    simp
    constructor
    · rintro ⟨h1, h2, h3⟩
      refine ⟨⟨⟨h1, h2⟩, fun z => ?_⟩, h3⟩
      rw [z, K.rf s hs] at h3
      cases h3
    · rintro ⟨⟨⟨h1, h2⟩, _⟩, h3⟩; exact ⟨h1, h2, h3⟩
end G

namespace G
/-! ### the rows in order -/
section
variable {l : List Int} {x : Nat}
def prS (l : List Int) (x : Nat) : List (Nat × Nat) := (bitsL l.length x).map fun s => (degS l x s, s)
theorem cnt_eq : cntL l x = (sortE (prS l x)).map enc := by
  unfold cntL prS
  rw [← sortL_enc, List.map_map]
  rfl
theorem pr_nd : (prS l x).Nodup := by
  unfold prS
  refine List.Pairwise.map _ (fun a b ne e => ne ?_) (bits_nd l.length x)
  injection e
theorem pr_mem {p : Nat × Nat} (h : p ∈ prS l x) : p.2 < l.length ∧ x.testBit p.2 = true ∧ p.1 = degS l x p.2 := by
  obtain ⟨s, hs, rfl⟩ := List.mem_map.mp h
  exact ⟨(mem_bits.mp hs).1, (mem_bits.mp hs).2, rfl⟩
theorem pr_of {s : Nat} (h1 : s < l.length) (h2 : x.testBit s = true) : (degS l x s, s) ∈ prS l x := List.mem_map.mpr ⟨s, mem_bits.mpr ⟨h1, h2⟩, rfl⟩
/-- the first and the last row -/
theorem cnt_ends (hx : x ≠ 0) (hl : x < 2 ^ l.length) : ∃ p q : Nat × Nat, (cntL l x)[0]? = some (enc p) ∧ (cntL l x)[(cntL l x).length - 1]? = some (enc q) ∧ 0 < (cntL l x).length ∧ lowS l x = p.2 ∧ highS l x = q.2 ∧ p ∈ prS l x ∧ q ∈ prS l x ∧ ∀ r ∈ prS l x, p.1 ≤ r.1 := by
  obtain ⟨i, hi⟩ := bit_some hx
  have hm := pr_of (bit_lt hl hi) hi
  have hp := sortE_perm (prS l x)
  have hne : sortE (prS l x) ≠ [] := fun z => by
    have := hp.mem_iff.mpr hm
    rw [z] at this
    cases this
  have so := sortP_so (pr_nd (l := l) (x := x))
  obtain ⟨p, ps, e⟩ := List.exists_cons_of_ne_nil hne
  refine ⟨p, (p :: ps).getLast (by simp), ?_, ?_, ?_, ?_, ?_, ?_, ?_, fun r hr => ?_⟩
  · rw [cnt_eq, e]; rfl
  · rw [cnt_eq, e, List.length_map, List.getElem?_map, ← List.getLast?_eq_getElem?, List.getLast?_eq_some_getLast (by simp)]
    rfl
  · rw [cnt_eq, e]; simp
  · unfold lowS
    rw [cnt_eq, e]
    show (p.2 : Int).toNat = p.2
    exact Int.toNat_natCast _
  · unfold highS
    rw [cnt_eq, e, List.getLast?_map, List.getLast?_eq_some_getLast (by simp)]
    show (((p :: ps).getLast _).2 : Int).toNat = _
    exact Int.toNat_natCast _
  · exact hp.mem_iff.mp (by rw [e]; exact List.mem_cons_self)
  · exact hp.mem_iff.mp (by rw [e]; exact List.getLast_mem _)
  · have h1 := hp.mem_iff.mpr hr
    rw [e] at h1 so
    rcases List.mem_cons.mp h1 with z | z
    · rw [z]; exact Nat.le_refl _
    · have h2 := (List.pairwise_cons.mp so).1 r z
      unfold plt at h2
      omega
end
/-! ### how many are reached -/
section
variable {l : List Int} {x : Nat}
theorem ones_cut (m : Nat) : onesN l (cutM x m) + onesN l (m &&& x) = onesN l x := by
  have key : ∀ r : List Nat, (r.filter fun i => (cutM x m).testBit i).length + (r.filter fun i => (m &&& x).testBit i).length = (r.filter fun i => x.testBit i).length := by
    intro r
    induction r with
    | nil => rfl
    | cons i r ih =>
      rw [List.filter_cons, List.filter_cons, List.filter_cons, cut_bit, Nat.testBit_and]
      cases x.testBit i <;> cases m.testBit i <;> simp only [Bool.not_true, Bool.not_false, Bool.and_true, Bool.and_false, Bool.true_and, Bool.false_and, if_true, if_false, Bool.false_eq_true, List.length_cons] <;> omega
  exact key _
theorem ones_low (K : KOk l) {s : Nat} (h1 : s < l.length) (h2 : x.testBit s = true) : 1 ≤ degS l x s := by
  rw [deg_eq]
  exact List.length_pos_of_mem (List.mem_filter.mpr ⟨mem_bits.mpr ⟨h1, h2⟩, K.rf s h1⟩)
theorem ones_pow {s : Nat} (h1 : s < l.length) (h2 : x.testBit s = true) : onesN l (cutM x (2 ^ s)) + 1 ≤ onesN l x := by
  have h := ones_cut (l := l) (x := x) (2 ^ s)
  have : 1 ≤ onesN l (2 ^ s &&& x) := by
    unfold onesN
    refine List.length_pos_of_mem (a := s) (mem_bits.mpr ⟨h1, ?_⟩)
    rw [Nat.testBit_and, h2, Nat.testBit_two_pow]
    simp
  omega
theorem ones_bes (s : Nat) : onesN l (cutM x (bes l s)) + degS l x s = onesN l x := ones_cut _
/-- linear: three in a row -/
def TT : Nat → Nat × Nat × Nat
  | 0 => (1, 2, 3)
  | m + 1 => match TT m with
    | (a, b, c) => (b, c, 1 + c + 2 * a)
def Tn (m : Nat) : Nat := (TT m).1
theorem Tn_rec (m : Nat) : Tn (m + 3) = 1 + Tn (m + 2) + 2 * Tn m := rfl
theorem Tn_mono1 : ∀ m, Tn m + 1 ≤ Tn (m + 1)
  | 0 => by decide
  | 1 => by decide
  | 2 => by decide
  | m + 3 => by
    show Tn (m + 3) + 1 ≤ 1 + Tn (m + 3) + 2 * Tn (m + 1)
    omega
theorem Tn_mono {a b : Nat} (h : a ≤ b) : Tn a ≤ Tn b := by
  induction b with
  | zero => rw [show a = 0 by omega]; exact Nat.le_refl _
  | succ b ih =>
    by_cases e : a = b + 1
    · rw [e]; exact Nat.le_refl _
    · have := ih (by omega)
      have := Tn_mono1 b
      omega
theorem Tn_pos (m : Nat) : 1 ≤ Tn m := Tn_mono (a := 0) (Nat.zero_le m)
def Pn : Nat → Nat
  | 0 => 0
  | m + 1 => Tn m + Tn (m + 1) + Pn m
theorem Pn_mono {a b : Nat} (h : a ≤ b) : Pn a ≤ Pn b := by
  induction b with
  | zero => rw [show a = 0 by omega]; exact Nat.le_refl _
  | succ b ih =>
    by_cases e : a = b + 1
    · rw [e]; exact Nat.le_refl _
    · have := ih (by omega)
      show Pn a ≤ Tn b + Tn (b + 1) + Pn b
      omega
theorem TP27 : 1 + Tn 27 + Pn 27 < 16777216 := by decide +kernel
/-- what a child is -/
theorem child_lt (K : KOk l) (hl : x < 2 ^ l.length) : ∀ y ∈ childs l x, y < 2 ^ l.length ∧ onesN l y + 1 ≤ onesN l x := by
  intro y hy
  unfold childs at hy
  split at hy
  · cases hy
  · rename_i hx
    obtain ⟨p, q, _, _, _, e1, e2, h1, h2, h3⟩ := cnt_ends hx hl
    obtain ⟨a1, a2, a3⟩ := pr_mem h1
    obtain ⟨b1, b2, b3⟩ := pr_mem h2
    rw [← e1] at a1 a2
    rw [← e2] at b1 b2
    have o1 := ones_low K a1 a2
    have o2 := ones_low K b1 b2
    have c1 := ones_bes (l := l) (x := x) (lowS l x)
    have c2 := ones_bes (l := l) (x := x) (highS l x)
    have c3 := ones_pow b1 b2
    rcases List.mem_cons.mp hy with z | z
    · rw [z]; exact ⟨cut_lt hl, by omega⟩
    · split at z
      · simp at z
        rcases z with z | z
        · rw [z]; exact ⟨cut_lt hl, c3⟩
        · rw [z]; exact ⟨cut_lt hl, by omega⟩
      · cases z
theorem ones_zero (hl : x < 2 ^ l.length) (h : onesN l x = 0) : x = 0 := by
  cases Nat.decEq x 0 with
  | isTrue e => exact e
  | isFalse e =>
    obtain ⟨i, hi⟩ := bit_some e
    have : 0 < onesN l x := List.length_pos_of_mem (mem_bits.mpr ⟨bit_lt hl hi, hi⟩)
    omega
theorem clo_self : ∀ f, x ∈ cloS l f x
  | 0 => List.mem_singleton.mpr rfl
  | f + 1 => List.mem_cons_self
theorem clo_child (K : KOk l) : ∀ (f y : Nat), y < 2 ^ l.length → onesN l y ≤ f → ∀ x c, x ∈ cloS l f y → c ∈ childs l x → c ∈ cloS l f y
  | 0, y, hl, ho, x, c, hx, hc => by
    have e : x = y := List.mem_singleton.mp hx
    subst e
    have := (child_lt K hl c hc).2
    omega
  | f + 1, y, hl, ho, x, c, hx, hc => by
    rcases List.mem_cons.mp hx with z | z
    · subst z
      exact List.mem_cons_of_mem _ (List.mem_flatMap.mpr ⟨c, hc, clo_self f⟩)
    · obtain ⟨w, hw, hxw⟩ := List.mem_flatMap.mp z
      have h1 := child_lt K hl w hw
      exact List.mem_cons_of_mem _ (List.mem_flatMap.mpr ⟨w, hw, clo_child K f w h1.1 (by omega) x c hxw hc⟩)
theorem clo_lt (K : KOk l) : ∀ (f y : Nat), y < 2 ^ l.length → ∀ x ∈ cloS l f y, x < 2 ^ l.length
  | 0, y, hl, x, hx => by rw [List.mem_singleton.mp hx]; exact hl
  | f + 1, y, hl, x, hx => by
    rcases List.mem_cons.mp hx with z | z
    · rw [z]; exact hl
    · obtain ⟨w, hw, hxw⟩ := List.mem_flatMap.mp z
      exact clo_lt K f w (child_lt K hl w hw).1 x hxw
end
end G

namespace G
section
variable {l : List Int} {x : Nat}
theorem clo_len (K : KOk l) : ∀ (f y : Nat), y < 2 ^ l.length → (cloS l f y).length ≤ Tn (onesN l y)
  | 0, y, hl => Tn_pos _
  | f + 1, y, hl => by
    show ((childs l y).flatMap (cloS l f)).length + 1 ≤ _
    have hc := child_lt K hl
    have ih : ∀ z ∈ childs l y, (cloS l f z).length ≤ Tn (onesN l z) := fun z hz => clo_len K f z (hc z hz).1
    unfold childs at hc ih ⊢
    split
    · rename_i hx
      simp only [List.flatMap_nil, List.length_nil]
      exact Tn_pos _
    · rename_i hx
      rw [if_neg hx] at hc ih
      obtain ⟨p, q, _, _, _, e1, e2, h1, h2, h3⟩ := cnt_ends hx hl
      obtain ⟨a1, a2, a3⟩ := pr_mem h1
      obtain ⟨b1, b2, b3⟩ := pr_mem h2
      have h3' := h3 q h2
      rw [← e1] at a1 a2 a3
      rw [← e2] at b1 b2 b3
      have o1 := ones_low K a1 a2
      have c1 := ones_bes (l := l) (x := y) (lowS l y)
      have c2 := ones_bes (l := l) (x := y) (highS l y)
      have c3 := ones_pow b1 b2
      have i1 := ih _ List.mem_cons_self
      rw [List.flatMap_cons, List.length_append]
      split
      · rename_i hd
        rw [if_pos hd] at ih
        have i2 := ih _ (List.mem_cons_of_mem _ List.mem_cons_self)
        have i3 := ih _ (List.mem_cons_of_mem _ (List.mem_cons_of_mem _ List.mem_cons_self))
        rw [List.flatMap_cons, List.flatMap_cons, List.flatMap_nil, List.append_nil, List.length_append]
        obtain ⟨o, ho⟩ : ∃ o, onesN l y = o + 3 := ⟨onesN l y - 3, by omega⟩
        have m1 := Tn_mono (a := onesN l (cutM y (bes l (lowS l y)))) (b := o) (by omega)
        have m2 := Tn_mono (a := onesN l (cutM y (2 ^ highS l y))) (b := o + 2) (by omega)
        have m3 := Tn_mono (a := onesN l (cutM y (bes l (highS l y)))) (b := o) (by omega)
        have r := Tn_rec o
        rw [ho]
        omega
      · rw [List.flatMap_nil, List.length_nil]
        obtain ⟨o, ho⟩ : ∃ o, onesN l y = o + 1 := ⟨onesN l y - 1, by omega⟩
        have m1 := Tn_mono (a := onesN l (cutM y (bes l (lowS l y)))) (b := o) (by omega)
        have r := Tn_mono1 o
        rw [ho]
        omega
theorem ones_le {m : Nat} (hm : m ≤ l.length) (h : ∀ i, x.testBit i = true → l.length - m ≤ i) : onesN l x ≤ m := by
  have := nodup_sub (a := bitsL l.length x) (b := List.range' (l.length - m) m) (bits_nd _ _) fun i hi => by
    have := mem_bits.mp hi
    rw [List.mem_range'_1]
    exact ⟨h i this.2, by omega⟩
  rw [List.length_range'] at this
  exact this
theorem low_cut {m : Nat} (hm : m + 1 ≤ l.length) (h : ∀ i, x.testBit i = true → l.length - (m + 1) ≤ i) {y : Nat} (hy : y.testBit (l.length - (m + 1)) = true) : ∀ i, (cutM x y).testBit i = true → l.length - m ≤ i := fun i hi => by
  rw [cut_bit, Bool.and_eq_true, Bool.not_eq_true'] at hi
  have := h i hi.1
  have : i ≠ l.length - (m + 1) := fun z => by rw [z, hy] at hi; cases hi.2
  omega
theorem pathS_succ (m x : Nat) : pathS l (m + 1) x = if x.testBit (l.length - (m + 1)) = true then cutM x (bes l (l.length - (m + 1))) :: x :: pathS l m (if manyV l (cutM x (bes l (l.length - (m + 1)))) + 1 = manyV l x then cutM x (bes l (l.length - (m + 1))) else cutM x (2 ^ (l.length - (m + 1)))) else pathS l m x := rfl
theorem path_ok (K : KOk l) : ∀ (m x : Nat), m ≤ l.length → x < 2 ^ l.length → (∀ i, x.testBit i = true → l.length - m ≤ i) → ((pathS l m x).flatMap (cloS l l.length)).length ≤ Pn m ∧ ∀ y ∈ pathS l m x, y < 2 ^ l.length
  | 0, x, _, _, _ => ⟨Nat.le_refl _, fun y hy => by cases hy⟩
  | m + 1, x, hm, hl, hb => by
    rw [pathS_succ]
    split
    · rename_i hi
      have hr : (bes l (l.length - (m + 1))).testBit (l.length - (m + 1)) = true := K.rf _ (by omega)
      have hp : (2 ^ (l.length - (m + 1))).testBit (l.length - (m + 1)) = true := by rw [Nat.testBit_two_pow]; simp
      have ba := low_cut hm hb hr
      have bb := low_cut hm hb hp
      have la := cut_lt (m := bes l (l.length - (m + 1))) hl
      have lb := cut_lt (m := 2 ^ (l.length - (m + 1))) hl
      have ih : ∀ z, z = cutM x (bes l (l.length - (m + 1))) ∨ z = cutM x (2 ^ (l.length - (m + 1))) → ((pathS l m z).flatMap (cloS l l.length)).length ≤ Pn m ∧ ∀ y ∈ pathS l m z, y < 2 ^ l.length := by
        rintro z (e | e) <;> subst e
        · exact path_ok K m _ (by omega) la ba
        · exact path_ok K m _ (by omega) lb bb
      obtain ⟨i1, i2⟩ := ih (if manyV l (cutM x (bes l (l.length - (m + 1)))) + 1 = manyV l x then cutM x (bes l (l.length - (m + 1))) else cutM x (2 ^ (l.length - (m + 1)))) (by split; exact .inl rfl; exact .inr rfl)
      refine ⟨?_, fun y hy => ?_⟩
      · rw [List.flatMap_cons, List.flatMap_cons, List.length_append, List.length_append]
        have c1 := clo_len K l.length _ la
        have c2 := clo_len K l.length _ hl
        have m1 := Tn_mono (ones_le (by omega) ba)
        have m2 := Tn_mono (ones_le hm hb)
        show _ ≤ Tn m + Tn (m + 1) + Pn m
        omega
      · rcases List.mem_cons.mp hy with e | hy
        · rw [e]; exact la
        · rcases List.mem_cons.mp hy with e | hy
          · rw [e]; exact hl
          · exact i2 y hy
    · rename_i hi
      obtain ⟨i1, i2⟩ := path_ok K m x (by omega) hl fun i h => by
        have := hb i h
        have : i ≠ l.length - (m + 1) := fun z => hi (by rw [← z]; exact h)
        omega
      refine ⟨?_, i2⟩
      show _ ≤ Tn m + Tn (m + 1) + Pn m
      omega
theorem top_lt : topS l < 2 ^ l.length := by
  unfold topS
  have := Nat.two_pow_pos l.length
  omega
theorem reach_len (K : KOk l) : (reachS l).length ≤ 1 + Tn l.length + Pn l.length := by
  unfold reachS
  rw [List.length_cons, List.flatMap_cons, List.length_append]
  have h1 := (path_ok K l.length (topS l) (Nat.le_refl _) top_lt fun i _ => by omega).1
  have h2 := clo_len K l.length (topS l) top_lt
  have h3 := Tn_mono (ones_le (x := topS l) (Nat.le_refl l.length) fun i _ => by omega)
  omega
theorem okK_of (h1 : l.length ≤ 27) (h2 : ∀ m ∈ l, 0 ≤ m ∧ m < 2 ^ l.length) (h3 : ∀ i, i < l.length → adjB l i i = true) (h4 : ∀ i j, i < l.length → j < l.length → adjB l i j = adjB l j i) : okK l = true := by
  refine okK_iff.mpr ⟨by omega, h2, h3, h4, ?_⟩
  have K : KOk l := by
    refine ⟨by omega, fun i j hj => ?_, h3, h4⟩
    unfold adjB at hj
    by_cases hi : i < l.length
    · rw [List.getD_eq_getElem?_getD, List.getElem?_eq_getElem hi, Option.getD_some] at hj
      obtain ⟨a, b⟩ := h2 l[i] (List.getElem_mem hi)
      refine bit_lt (x := (l[i]).toNat) ?_ hj
      have e : ((l[i]).toNat : Int) < ((2 ^ l.length : Nat) : Int) := by
        rw [Int.toNat_of_nonneg a]
        push_cast
        exact b
      exact_mod_cast e
    · rw [List.getD_eq_getElem?_getD, List.getElem?_eq_none (by omega)] at hj
      simp at hj
  have a := reach_len K
  have b := Tn_mono h1
  have c := Pn_mono h1
  have d := TP27
  omega
theorem reach_lt (K : KOk l) : ∀ y ∈ reachS l, y < 2 ^ l.length := fun y hy => by
  unfold reachS at hy
  rcases List.mem_cons.mp hy with e | hy
  · rw [e]; exact Nat.two_pow_pos _
  · obtain ⟨z, hz, hy⟩ := List.mem_flatMap.mp hy
    refine clo_lt K _ z ?_ y hy
    rcases List.mem_cons.mp hz with e | hz
    · rw [e]; exact top_lt
    · exact (path_ok K l.length (topS l) (Nat.le_refl _) top_lt fun i _ => by omega).2 z hz
theorem okS_of (h : okK l = true) (hx : x ∈ reachS l) : okS l x = true := by
  unfold okS
  rw [h, Bool.true_and, Bool.and_eq_true, decide_eq_true_eq]
  exact ⟨reach_lt (KOk.of h) x hx, by simpa using hx⟩
theorem okS_ok (h : okS l x = true) : okK l = true ∧ x < 2 ^ l.length ∧ x ∈ reachS l := by
  unfold okS at h
  simp only [Bool.and_eq_true, decide_eq_true_eq] at h
  exact ⟨h.1.1, h.1.2, by simpa using h.2⟩
theorem ones_full (h : x < 2 ^ l.length) : onesN l x ≤ l.length := ones_le (Nat.le_refl _) fun i _ => by omega
theorem okS_child {c : Nat} (h : okS l x = true) (hc : c ∈ childs l x) : okS l c = true := by
  obtain ⟨h1, h2, h3⟩ := okS_ok h
  have K := KOk.of h1
  refine okS_of h1 ?_
  unfold reachS at h3 ⊢
  rcases List.mem_cons.mp h3 with e | h3
  · subst e
    cases hc
  · obtain ⟨z, hz, hy⟩ := List.mem_flatMap.mp h3
    refine List.mem_cons_of_mem _ (List.mem_flatMap.mpr ⟨z, hz, ?_⟩)
    have hzl : z < 2 ^ l.length := by
      rcases List.mem_cons.mp hz with e | hz
      · rw [e]; exact top_lt
      · exact (path_ok K l.length (topS l) (Nat.le_refl _) top_lt fun i _ => by omega).2 z hz
    exact clo_child K l.length z hzl (ones_full hzl) x c hy hc
theorem okS_top (h : okK l = true) : okS l (topS l) = true := okS_of h (by
  unfold reachS
  exact List.mem_cons_of_mem _ (List.mem_flatMap.mpr ⟨_, List.mem_cons_self, clo_self _⟩))
theorem okS_path (h : okK l = true) {y : Nat} (hy : y ∈ pathS l l.length (topS l)) : okS l y = true := okS_of h (by
  unfold reachS
  exact List.mem_cons_of_mem _ (List.mem_flatMap.mpr ⟨_, List.mem_cons_of_mem _ hy, clo_self _⟩))
/-- the first choice of the most -/
def frst (l : List Int) : Nat → Nat → List Nat
  | 0, _ => []
  | m + 1, x => if x.testBit (l.length - (m + 1)) = true then
      (if manyV l (cutM x (bes l (l.length - (m + 1)))) + 1 = manyV l x then (l.length - (m + 1)) :: frst l m (cutM x (bes l (l.length - (m + 1)))) else frst l m (cutM x (2 ^ (l.length - (m + 1)))))
    else frst l m x
theorem frst_succ (l : List Int) (m x : Nat) : frst l (m + 1) x = if x.testBit (l.length - (m + 1)) = true then
      (if manyV l (cutM x (bes l (l.length - (m + 1)))) + 1 = manyV l x then (l.length - (m + 1)) :: frst l m (cutM x (bes l (l.length - (m + 1)))) else frst l m (cutM x (2 ^ (l.length - (m + 1)))))
    else frst l m x := rfl
def bitS (l : List Int) (x i : Nat) : Prop := i < l.length ∧ x.testBit i = true
theorem ind_nil {adj : Nat → Nat → Bool} {S : Nat → Prop} : IsInd adj S [] := ⟨List.nodup_nil, fun x hx => absurd hx List.not_mem_nil, fun x hx => absurd hx List.not_mem_nil⟩
theorem frst_ok (K : KOk l) : ∀ (m x : Nat), m ≤ l.length → x < 2 ^ l.length → (∀ i, x.testBit i = true → l.length - m ≤ i) →
    IsInd (adjB l) (bitS l x) (frst l m x) ∧ (frst l m x).length = manyV l x ∧ (frst l m x).Pairwise (· < ·) ∧ ∀ c, IsInd (adjB l) (bitS l x) c → c.length = manyV l x → c.Pairwise (· < ·) → frst l m x = c ∨ ltbs (frst l m x) c = true
  | 0, x, _, hl, hb => by
    have e : x = 0 := by
      cases Nat.decEq x 0 with
      | isTrue e => exact e
      | isFalse e =>
        obtain ⟨i, hi⟩ := bit_some e
        have := hb i hi
        have := bit_lt hl hi
        omega
    subst e
    have z : manyV l 0 = 0 := (manyV_ok K 0).eq ⟨⟨[], ind_nil, rfl⟩, fun c hc => by
      cases c with
      | nil => exact Nat.le_refl _
      | cons y c => have := (hc.2.1 y List.mem_cons_self).2; simp at this⟩
    refine ⟨ind_nil, z.symm, List.Pairwise.nil, fun c _ hc _ => .inl ?_⟩
    rw [z] at hc
    exact (List.length_eq_zero_iff.mp hc).symm
  | m + 1, x, hm, hl, hb => by
    rw [frst_succ]
    split
    · rename_i hi
      have hil : l.length - (m + 1) < l.length := by omega
      have hr : (bes l (l.length - (m + 1))).testBit (l.length - (m + 1)) = true := K.rf _ hil
      have hp : (2 ^ (l.length - (m + 1))).testBit (l.length - (m + 1)) = true := by rw [Nat.testBit_two_pow]; simp
      have ba := low_cut hm hb hr
      have bb := low_cut hm hb hp
      have la := cut_lt (m := bes l (l.length - (m + 1))) hl
      have lb := cut_lt (m := 2 ^ (l.length - (m + 1))) hl
      have br := many_high K hil hi
      obtain ⟨a1, a2, a3, a4⟩ := frst_ok K m _ (by omega) la ba
      obtain ⟨b1, b2, b3, b4⟩ := frst_ok K m _ (by omega) lb bb
      have head : ∀ c, IsInd (adjB l) (bitS l x) ((l.length - (m + 1)) :: c) → IsInd (adjB l) (bitS l (cutM x (bes l (l.length - (m + 1))))) c := fun c hc => by
        have nd := List.nodup_cons.mp hc.1
        refine ⟨nd.2, fun y hy => ⟨(hc.2.1 y (List.mem_cons_of_mem _ hy)).1, ?_⟩, fun y hy z hz => hc.2.2 y (List.mem_cons_of_mem _ hy) z (List.mem_cons_of_mem _ hz)⟩
        rw [cut_bit, (hc.2.1 y (List.mem_cons_of_mem _ hy)).2, bes_bit, hc.2.2 _ List.mem_cons_self y (List.mem_cons_of_mem _ hy) (fun z => nd.1 (by rw [z]; exact hy))]
        rfl
      by_cases hq : manyV l (cutM x (bes l (l.length - (m + 1)))) + 1 = manyV l x
      · rw [if_pos hq]
        refine ⟨(a1.cons (v := l.length - (m + 1)) fun y hy => ?_).sub fun y hy => ?_, by rw [List.length_cons, a2]; exact hq, List.pairwise_cons.mpr ⟨fun y hy => ?_, a3⟩, fun c hc hcl hcp => ?_⟩
        · have := ba y hy.2
          have hy2 := hy.2
          rw [cut_bit, bes_bit, Bool.and_eq_true, Bool.not_eq_true'] at hy2
          exact ⟨by omega, hy2.2, by rw [K.sy y _ hy.1 hil]; exact hy2.2⟩
        · rcases List.mem_cons.mp hy with e | hy
          · rw [e]; exact ⟨hil, hi⟩
          · have h := a1.2.1 y hy
            have h2 := h.2
            rw [cut_bit, Bool.and_eq_true] at h2
            exact ⟨h.1, h2.1⟩
        · have := ba y (a1.2.1 y hy).2
          omega
        · cases c with
          | nil => simp at hcl; omega
          | cons y c =>
            have hyb := hc.2.1 y List.mem_cons_self
            have hyi := hb y hyb.2
            by_cases e : y = l.length - (m + 1)
            · subst e
              have h5 := a4 c (head c hc) (by simp at hcl; omega) (List.pairwise_cons.mp hcp).2
              rcases h5 with h5 | h5
              · exact .inl (by rw [h5])
              · refine .inr ?_
                show (if _ then ltbs _ _ else decide _) = true
                rw [if_pos rfl]
                exact h5
            · refine .inr ?_
              show (if _ then ltbs _ _ else decide (l.length - (m + 1) < y)) = true
              rw [if_neg (fun z => e z.symm)]
              exact decide_eq_true (by omega)
      · rw [if_neg hq]
        have hmx : manyV l x = manyV l (cutM x (2 ^ (l.length - (m + 1)))) := by omega
        have sub : ∀ y, bitS l (cutM x (2 ^ (l.length - (m + 1)))) y → bitS l x y := fun y hy => by
          have h2 := hy.2
          rw [cut_bit, Bool.and_eq_true] at h2
          exact ⟨hy.1, h2.1⟩
        refine ⟨b1.sub fun y hy => sub y (b1.2.1 y hy), by rw [hmx]; exact b2, b3, fun c hc hcl hcp => ?_⟩
        refine b4 c (hc.sub fun y hy => ?_) (by rw [← hmx]; exact hcl) hcp
        have hyb := hc.2.1 y hy
        refine ⟨hyb.1, ?_⟩
        rw [cut_bit, hyb.2, Nat.testBit_two_pow]
        by_cases e : y = l.length - (m + 1)
        · exfalso
          have h6 := (hc.erase y).sub (S' := bitS l (cutM x (bes l (l.length - (m + 1))))) fun z hz => by
            have hz2 := (List.Nodup.mem_erase_iff hc.1).mp hz
            refine ⟨(hc.2.1 z hz2.2).1, ?_⟩
            rw [cut_bit, (hc.2.1 z hz2.2).2, bes_bit, ← e, hc.2.2 y hy z hz2.2 (Ne.symm hz2.1)]
            rfl
          have h7 := (manyV_ok K _).2 _ h6
          rw [List.length_erase_of_mem hy] at h7
          omega
        · simp
          omega
    · rename_i hi
      exact frst_ok K m x (by omega) hl fun i h => by
        have := hb i h
        have : i ≠ l.length - (m + 1) := fun z => hi (by rw [← z]; exact h)
        omega
end
end G

namespace G
variable {lf : List Fd}
theorem bits_half (n y : Nat) : (bitsL (n + 1) y).length = y % 2 + (bitsL n (y / 2)).length := by
  unfold bitsL
  rw [List.range_succ_eq_map, List.filter_cons, List.filter_map, ]
  have e : (fun i => y.testBit i) ∘ Nat.succ = fun i => (y / 2).testBit i := by
    funext i
    show y.testBit (i + 1) = _
    rw [Nat.testBit_succ]
  rw [e]
  have h0 : y.testBit 0 = decide (y % 2 = 1) := by rw [Nat.testBit_zero]
  rw [h0]
  by_cases h : y % 2 = 1
  · rw [if_pos (decide_eq_true h), List.length_cons, List.length_map]
    omega
  · rw [if_neg (by simpa using h), List.length_map]
    omega
theorem bits_none (n : Nat) : bitsL n 0 = [] := by
  unfold bitsL
  simp
theorem call_ones {n k : Nat} {m y : Nat} (hy : y < 2 ^ m) (hm : m < 1048576) : (calls (PR lf) (n + 1)).cl 19 [.int (y : Nat)] k = some (.int ((bitsL m y).length : Nat), k) := by
  refine call_just (st := [.fr (.int (y : Nat)), .un]) (PR_fn (f := p_bin_ones) rfl) rfl rfl ?_
  refine Run.set (d := .int (0 : Nat)) (k1 := k) (by simp only [ev, evs, evAnd, evOr, kb, kp, getV, getB, List.getElem?_cons_succ, List.getElem?_cons_zero, Option.bind_some, List.set_cons_succ, List.set_cons_zero, tru_bl, if_true, if_false, Bool.false_eq_true, Bool.not_true, Bool.not_false]; rfl) ?_
  simp only [List.set_cons_succ, List.set_cons_zero, List.getElem?_cons_succ, List.getElem?_cons_zero]
  refine Run.whl (fun w st q => ∃ z c : Nat, z < 2 ^ w ∧ c + (bitsL w z).length = (bitsL m y).length ∧ st = [.fr (.int (z : Nat)), .fr (.int (c : Nat))] ∧ q = k) m hm ⟨y, 0, hy, by omega, rfl, rfl⟩ ?_
  rintro w st q ⟨z, c, h1, h2, rfl, rfl⟩
  have eg : ∀ q, cmpM .gt (.int (z : Nat)) (.int 0) q = some (.bl (decide (0 < z)), q) := fun q => gt_nat z 0 q
  refine ⟨.bl (decide (0 < z)), decide (0 < z), q, by simp only [ev, evs, evAnd, evOr, kb, kp, getV, getB, List.getElem?_cons_succ, List.getElem?_cons_zero, Option.bind_some, List.set_cons_succ, List.set_cons_zero, tru_bl, if_true, if_false, Bool.false_eq_true, Bool.not_true, Bool.not_false, eg], rfl, fun hz => ?_, fun hz => ?_⟩
  · have hz : 0 < z := of_decide_eq_true hz
    cases w with
    | zero => simp at h1; omega
    | succ w =>
      have em : ∀ q, modD (.int (z : Nat)) (.int 2) q = some (.int ((z % 2 : Nat) : Int), q) := fun q => mod_nat (by decide)
      have ef : ∀ q, fdvD (.int (z : Nat)) (.int 2) q = some (.int ((z / 2 : Nat) : Int), q) := fun q => fdv_nat (by decide) (by decide)
      refine Run.set (d := .int ((c + z % 2 : Nat) : Int)) (k1 := q) (by simp only [ev, evs, evAnd, evOr, kb, kp, getV, getB, List.getElem?_cons_succ, List.getElem?_cons_zero, Option.bind_some, List.set_cons_succ, List.set_cons_zero, tru_bl, if_true, if_false, Bool.false_eq_true, Bool.not_true, Bool.not_false, em, add_nat]) ?_
      refine Run.set (d := .int ((z / 2 : Nat) : Int)) (k1 := q) (by simp only [ev, evs, evAnd, evOr, kb, kp, getV, getB, List.getElem?_cons_succ, List.getElem?_cons_zero, Option.bind_some, List.set_cons_succ, List.set_cons_zero, tru_bl, if_true, if_false, Bool.false_eq_true, Bool.not_true, Bool.not_false, ef]) ?_
      refine Run.nil ⟨w, Nat.lt_succ_self w, z / 2, c + z % 2, ?_, ?_, rfl, rfl⟩
      · rw [Nat.pow_succ] at h1; omega
      · have := bits_half w z
        omega
  · have hz : z = 0 := by have := of_decide_eq_false hz; omega
    subst hz
    refine Run.ret (d := .int ((bitsL m y).length : Nat)) (k1 := q) ?_ ⟨rfl, rfl⟩
    rw [bits_none] at h2
    rw [← h2]
    simp only [ev, evs, evAnd, evOr, kb, kp, getV, getB, List.getElem?_cons_succ, List.getElem?_cons_zero, Option.bind_some, List.set_cons_succ, List.set_cons_zero, tru_bl, if_true, if_false, Bool.false_eq_true, Bool.not_true, Bool.not_false, List.length_nil, Nat.add_zero]
theorem bit_and (a b : Nat) (q : Nat) : bitD .and (.int (a : Nat)) (.int (b : Nat)) q = some (.int ((a &&& b : Nat) : Int), q) := by
  show (if 0 ≤ (a : Int) then (pure (.int (andI a b)) : M D) else no) q = _
  rw [if_pos (by omega)]
  unfold andI
  rw [if_pos (by omega), Int.toNat_natCast, Int.toNat_natCast]
  rfl
theorem bit_shr (a b : Nat) (hb : b ≤ 1000) (q : Nat) : bitD .shr (.int (a : Nat)) (.int (b : Nat)) q = some (.int ((a / 2 ^ b : Nat) : Int), q) := by
  show (if 0 ≤ (b : Int) ∧ absLe b 1000 = true then (pure (.int ((a : Int) / 2 ^ ((b : Int)).toNat)) : M D) else no) q = _
  rw [if_pos ⟨by omega, absLe_of.mpr (by omega)⟩, Int.toNat_natCast]
  rfl
theorem bit_shl (b : Nat) (hb : b ≤ 1000) (q : Nat) : bitD .shl (.int 1) (.int (b : Nat)) q = some (.int ((2 ^ b : Nat) : Int), q) := by
  show (if 0 ≤ (b : Int) ∧ absLe b 1000 = true ∧ absLe 1 18446744073709551615 = true then (pure (.int (1 * 2 ^ ((b : Int)).toNat)) : M D) else no) q = _
  rw [if_pos ⟨by omega, absLe_of.mpr (by omega), by decide⟩, Int.toNat_natCast, Int.one_mul]
  have e : ((2 : Int) ^ b) = ((2 ^ b : Nat) : Int) := by simp
  rw [e]
  rfl
theorem bit_cut (a b : Nat) (q : Nat) : (bitD .and (.int (a : Nat)) (.int (invI (b : Nat)))) q = some (.int ((cutM a b : Nat) : Int), q) := by
  show (if 0 ≤ (a : Int) then (pure (.int (andI a (invI b))) : M D) else no) q = _
  rw [if_pos (by omega)]
  unfold andI
  rw [if_neg (by unfold invI; omega), Int.toNat_natCast]
  have e : invI (invI (b : Int)) = b := by unfold invI; omega
  rw [e, Int.toNat_natCast]
  unfold cutM
  have h : a &&& b ≤ a := Nat.and_le_left
  show some (D.int _, q) = _
  congr 3
  omega
theorem inv_b (b : Nat) (q : Nat) : invD (.int (b : Nat)) q = some (.int (invI (b : Nat)), q) := rfl
theorem bit_test (x i q : Nat) : cmpM .eq (.int ((x / 2 ^ i &&& 1 : Nat) : Int)) (.int 1) q = some (.bl (x.testBit i), q) := by
  have := eq_nat (x / 2 ^ i &&& 1) 1 q
  rw [Nat.and_one_is_mod] at this ⊢
  rw [Nat.testBit_eq_decide_div_mod_eq]
  exact this
theorem call_signs {n k x : Nat} {l : List Int} (hl : l.length ≤ 40) : (calls (PR lf) (n + 1)).cl 58 [.sk l, .int (x : Nat)] k = some (.lst ((bitsL l.length x).map fun (i : Nat) => .int i), k) := by
  refine call_just (st := [.fr (.sk l), .fr (.int (x : Nat)), .un]) (PR_fn (f := p_Seeker_signs) rfl) rfl rfl ?_
  have h := ev_fil1 (C := calls (PR lf) n) (st := [.fr (.sk l), .fr (.int (x : Nat)), .un]) (k := k) (k1 := k) (sk := .r1) (a := .b1 .len (.bes (.v 0))) (b := .c .non) (c := .c .non) (cond := .cmp .eq (.bit .and (.bit .shr (.v 1) (.v 2)) (.c (.int 1))) (.c (.int 1))) (elt := .v 2) (i := 2) (own := [2])
    (fun (i : Nat) => D.int i) (List.range l.length) (fun i => x.testBit i) (fun i => .int i) (src_r1 (by simp only [ev, evs, evAnd, evOr, kb, kp, getV, getB, List.getElem?_cons_succ, List.getElem?_cons_zero, Option.bind_some, List.set_cons_succ, List.set_cons_zero, tru_bl, if_true, if_false, Bool.false_eq_true, Bool.not_true, Bool.not_false, besD]; show some (D.int ((l.map D.int).length : Nat), k) = _; rw [List.length_map]) (by omega)) (fun i hi q => by
      have hi := List.mem_range.mp hi
      have e1 : ∀ q, bitD .and (.int ((x / 2 ^ i : Nat) : Int)) (.int 1) q = some (.int ((x / 2 ^ i &&& 1 : Nat) : Int), q) := fun q => bit_and _ 1 q
      simp only [ev, evs, evAnd, evOr, kb, kp, getV, getB, List.getElem?_cons_succ, List.getElem?_cons_zero, Option.bind_some, List.set_cons_succ, List.set_cons_zero, tru_bl, if_true, if_false, Bool.false_eq_true, Bool.not_true, Bool.not_false, wipe, bit_shr x i (by omega), e1, bit_test]) (fun i hi _ q => by simp only [ev, evs, evAnd, evOr, kb, kp, getV, getB, List.getElem?_cons_succ, List.getElem?_cons_zero, Option.bind_some, List.set_cons_succ, List.set_cons_zero, tru_bl, if_true, if_false, Bool.false_eq_true, Bool.not_true, Bool.not_false, wipe])
  exact Run.ret h ⟨rfl, rfl⟩
end G

namespace G
variable {lf : List Fd}
theorem cl_59 (n : Nat) (a b : D) : (calls (PR lf) (n + 1)).cl 59 [a, b] = manyG 59 (calls (PR lf) n).cl [a, b] := by
  rw [cl_eq (PR_fn (f := p_Seeker_many) rfl)]
  rfl
theorem deep_ok : ∀ {n : Nat} {m : Int} {k : Nat}, m < n → 0 ≤ m → (calls (PR lf) n).cl 59 [.int m, .non] k = some (.non, k)
  | 0, m, k, h, h0 => by omega
  | n + 1, m, k, h, h0 => by
    rw [cl_59]
    show (if m ≤ 0 then pure .non else (calls (PR lf) n).cl 59 [.int (m - 1), .non] : M D) k = _
    by_cases hm : m ≤ 0
    · rw [if_pos hm]; rfl
    · rw [if_neg hm]
      exact deep_ok (by omega) (by omega)
theorem call_many {n : Nat} {l : List Int} {x : Nat} (hx : okS l x = true) (hn : onesN l x + 1 < n) (k : Nat) : (calls (PR lf) n).cl 59 [.sk l, .int (x : Nat)] k = some (.int (manyV l x : Nat), k) := by
  cases n with
  | zero => omega
  | succ n =>
    rw [cl_59]
    show (do
      let _ ← (calls (PR lf) n).cl 59 [.int (onesN l (x : Int).toNat : Nat), .non]
      if 0 ≤ (x : Int) ∧ okS l (x : Int).toNat = true then pure (.int (manyV l (x : Int).toNat : Nat)) else no : M D) k = _
    rw [Int.toNat_natCast, kb, deep_ok (by omega) (by omega)]
    show (if 0 ≤ (x : Int) ∧ okS l x = true then pure (.int (manyV l x : Nat)) else no : M D) k = _
    rw [if_pos ⟨by omega, hx⟩]
    rfl
theorem bes_nn {l : List Int} (h : okK l = true) {s : Nat} (hs : s < l.length) : ∀ q, ixD (.lst (l.map D.int)) (.int (s : Nat)) q = some (.int (bes l s : Nat), q) := fun q => by
  obtain ⟨_, h2, _⟩ := okK_iff.mp h
  have e : bes l s = (l[s]).toNat := by
    unfold bes
    rw [List.getD_eq_getElem?_getD, List.getElem?_eq_getElem hs, Option.getD_some]
  show (opt (atI (l.map D.int) (s : Nat))) q = _
  unfold atI
  rw [if_pos (by omega), Int.toNat_natCast, List.getElem?_map, List.getElem?_eq_getElem hs, e, Int.toNat_of_nonneg (h2 l[s] (List.getElem_mem hs)).1]
  rfl
theorem bes_lt {l : List Int} (h : okK l = true) (s x : Nat) : bes l s &&& x < 2 ^ l.length := by
  refine Nat.lt_of_le_of_lt Nat.and_le_left ?_
  obtain ⟨_, h2, _⟩ := okK_iff.mp h
  unfold bes
  by_cases hs : s < l.length
  · rw [List.getD_eq_getElem?_getD, List.getElem?_eq_getElem hs, Option.getD_some]
    obtain ⟨a, b⟩ := h2 l[s] (List.getElem_mem hs)
    have e : ((l[s]).toNat : Int) < ((2 ^ l.length : Nat) : Int) := by
      rw [Int.toNat_of_nonneg a]
      push_cast
      exact b
    exact_mod_cast e
  · rw [List.getD_eq_getElem?_getD, List.getElem?_eq_none (by omega)]
    exact Nat.two_pow_pos _
theorem isk (l : List Int) {α : Type} (a b : α) : (if isSk (.sk l) = true then a else b) = a := rfl
theorem besq (l : List Int) (q : Nat) : besD (.sk l) q = some (.lst (l.map D.int), q) := rfl
/-- where nothing is known, many's statements come to what many is -/
theorem body_ok (n : Nat) : BodyOk (PR lf) 59 skBody n := by
  intro l x k hS hx hn
  obtain ⟨hK, hl, hr⟩ := okS_ok hS
  have K := KOk.of hK
  obtain ⟨p, q, c1, c2, c3, e1, e2, h1, h2, h3⟩ := cnt_ends hx hl
  obtain ⟨a1, a2, a3⟩ := pr_mem h1
  obtain ⟨b1, b2, b3⟩ := pr_mem h2
  have o1 := ones_low K a1 a2
  have o2 := ones_bes (l := l) (x := x) p.2
  have o3 := ones_bes (l := l) (x := x) q.2
  have o4 := ones_pow b1 b2
  have o5 := ones_low K b1 b2
  have h3q := h3 q h2
  have hch : ∀ y ∈ childs l x, ∀ k, (calls (PR lf) n).cl 59 [.sk l, .int (y : Nat)] k = some (.int (manyV l y : Nat), k) := fun y hy k => call_many (okS_child hS hy) (by have := (child_lt K hl y hy).2; omega) k
  have hchs : childs l x = cutM x (bes l p.2) :: (if 2 < degS l x p.2 then [cutM x (2 ^ q.2), cutM x (bes l q.2)] else []) := by
    unfold childs
    rw [if_neg hx, e1, e2]
  rw [hchs] at hch
  obtain ⟨m, rfl⟩ : ∃ m, n = m + 1 := ⟨n - 1, by omega⟩
  have m1 := hch _ List.mem_cons_self
  have r : Run (calls (PR lf) (m + 1)) skBody [.fr (.sk l), .fr (.int (x : Nat)), .un, .un, .un, .un, .un, .un] k (fun st fl k' => fl = .nx ∧ k' = k ∧ st[0]? = some (.fr (.sk l)) ∧ st[1]? = some (.fr (.int (x : Nat))) ∧ st[3]? = some (.fr (.int (manyV l x : Nat)))) := by
    have hs : ∀ q, (calls (PR lf) (m + 1)).cl 58 [.sk l, .int (x : Nat)] q = some (.lst ((bitsL l.length x).map fun (i : Nat) => .int i), q) := fun q => call_signs K.len
    have g1 := ev_map1 (C := calls (PR lf) (m + 1)) (st := [.fr (.sk l), .fr (.int (x : Nat)), .un, .un, .un, .un, .un, .un]) (k := k) (k1 := k) (sk := .it) (a := .mth 58 (.v 0) [.v 1]) (b := .c .non) (c := .c .non) (elt := .tup [.call 19 [.bit .and (.ix (.bes (.v 0)) (.v 5)) (.v 1)], .v 5]) (i := 5) (own := [5])
      (fun (i : Nat) => D.int i) (bitsL l.length x) (fun s => .tup [.int (degS l x s : Nat), .int (s : Nat)]) (src_lst (by simp only [ev, evs, evAnd, evOr, kb, kp, getV, getB, List.getElem?_cons_succ, List.getElem?_cons_zero, Option.bind_some, List.set_cons_succ, List.set_cons_zero, tru_bl, if_true, if_false, Bool.false_eq_true, Bool.not_true, Bool.not_false, isk, hs])) (fun s hsm q => by
        have hsl := (mem_bits.mp hsm).1
        have e := fun q => call_ones (lf := lf) (n := m) (k := q) (bes_lt hK s x) (by have := K.len; omega)
        simp only [ev, evs, evAnd, evOr, kb, kp, getV, getB, List.getElem?_cons_succ, List.getElem?_cons_zero, Option.bind_some, List.set_cons_succ, List.set_cons_zero, tru_bl, if_true, if_false, Bool.false_eq_true, Bool.not_true, Bool.not_false, wipe, besq, bes_nn hK hsl, bit_and, e]
        rfl)
    have g2 : f1D .sorted (.lst ((bitsL l.length x).map fun s => .tup [.int (degS l x s : Nat), .int (s : Nat)])) k = some (.lst (cntL l x), k) := by
      have := sorted_enc (α := Nat × Nat) (l := prS l x) (by decide) (tup1_pairs _) k
      rw [cnt_eq, ← this]
      unfold prS
      rw [List.map_map]
      rfl
    refine Run.set (d := .lst (cntL l x)) (k1 := k) (evc_b1 g1 g2) ?_
    simp only [List.set_cons_succ, List.set_cons_zero, List.getElem?_cons_succ, List.getElem?_cons_zero]
    have i0 : ∀ r, ixD (.lst (cntL l x)) (.int 0) r = some (.tup [.int (p.1 : Nat), .int (p.2 : Nat)], r) := fun r => by
      show (opt (atI (cntL l x) 0)) r = _
      unfold atI
      rw [if_pos (by decide)]
      show (opt (cntL l x)[0]?) r = _
      rw [c1]
      rfl
    have i1 : ∀ r, ixD (.lst (cntL l x)) (.int (-1)) r = some (.tup [.int (q.1 : Nat), .int (q.2 : Nat)], r) := fun r => by
      show (opt (atI (cntL l x) (-1))) r = _
      unfold atI
      rw [if_neg (by decide), if_pos (by omega), show (-1 + ((cntL l x).length : Int)).toNat = (cntL l x).length - 1 by omega, c2]
      rfl
    refine Run.tgt2 (x := .int (p.1 : Nat)) (y := .int (p.2 : Nat)) (k1 := k) (by simp only [ev, evs, evAnd, evOr, kb, kp, getV, getB, List.getElem?_cons_succ, List.getElem?_cons_zero, Option.bind_some, List.set_cons_succ, List.set_cons_zero, tru_bl, if_true, if_false, Bool.false_eq_true, Bool.not_true, Bool.not_false, i0]) ?_
    simp only [List.set_cons_succ, List.set_cons_zero, List.getElem?_cons_succ, List.getElem?_cons_zero]
    have ad : ∀ (a r : Nat), addD (.int 1) (.int (a : Nat)) r = some (.int ((1 + a : Nat) : Int), r) := fun a r => add_nat 1 a r
    refine Run.set (d := .int ((1 + manyV l (cutM x (bes l p.2)) : Nat) : Int)) (k1 := k) (by simp only [ev, evs, evAnd, evOr, kb, kp, getV, getB, List.getElem?_cons_succ, List.getElem?_cons_zero, Option.bind_some, List.set_cons_succ, List.set_cons_zero, tru_bl, if_true, if_false, Bool.false_eq_true, Bool.not_true, Bool.not_false, besq, bes_nn hK a1, inv_b, bit_cut, isk, m1, ad]) ?_
    simp only [List.set_cons_succ, List.set_cons_zero, List.getElem?_cons_succ, List.getElem?_cons_zero]
    have gt : ∀ r, cmpM .gt (.int (p.1 : Nat)) (.int 2) r = some (.bl (decide (2 < p.1)), r) := fun r => gt_nat p.1 2 r
    refine Run.iteB (b := decide (2 < p.1)) (d := .bl (decide (2 < p.1))) (k1 := k) (by simp only [ev, evs, evAnd, evOr, kb, kp, getV, getB, List.getElem?_cons_succ, List.getElem?_cons_zero, Option.bind_some, List.set_cons_succ, List.set_cons_zero, tru_bl, if_true, if_false, Bool.false_eq_true, Bool.not_true, Bool.not_false, gt]) rfl (fun hb => ?_) (fun hb => ?_)
    · have hb := of_decide_eq_true hb
      rw [a3] at hb
      rw [if_pos hb] at hch
      have m2 := hch _ (List.mem_cons_of_mem _ List.mem_cons_self)
      have m3 := hch _ (List.mem_cons_of_mem _ (List.mem_cons_of_mem _ List.mem_cons_self))
      have neg1 : ∀ r, negD (.int 1) r = some (.int (-1), r) := fun r => rfl
      refine Run.tgt2 (x := .int (q.1 : Nat)) (y := .int (q.2 : Nat)) (k1 := k) (by simp only [ev, evs, evAnd, evOr, kb, kp, getV, getB, List.getElem?_cons_succ, List.getElem?_cons_zero, Option.bind_some, List.set_cons_succ, List.set_cons_zero, tru_bl, if_true, if_false, Bool.false_eq_true, Bool.not_true, Bool.not_false, neg1, i1]) ?_
      simp only [List.set_cons_succ, List.set_cons_zero, List.getElem?_cons_succ, List.getElem?_cons_zero]
      have hlen := K.len
      refine Run.set (d := .int (cutM x (2 ^ q.2) : Nat)) (k1 := k) (by simp only [ev, evs, evAnd, evOr, kb, kp, getV, getB, List.getElem?_cons_succ, List.getElem?_cons_zero, Option.bind_some, List.set_cons_succ, List.set_cons_zero, tru_bl, if_true, if_false, Bool.false_eq_true, Bool.not_true, Bool.not_false, bit_shl q.2 (by omega), inv_b, bit_cut]) ?_
      simp only [List.set_cons_succ, List.set_cons_zero, List.getElem?_cons_succ, List.getElem?_cons_zero]
      have hmax : ∀ (a b r : Nat), f2D .max (.int (a : Nat)) (.int (b : Nat)) r = some (.int ((max a b : Nat) : Int), r) := fun a b r => max_nat a b r
      refine Run.set (d := .int (manyV l x : Nat)) (k1 := k) ?_ (Run.nil (Run.nil ⟨rfl, rfl, rfl, rfl, rfl⟩))
      rw [many_high K b1 b2]
      simp only [ev, evs, evAnd, evOr, kb, kp, getV, getB, List.getElem?_cons_succ, List.getElem?_cons_zero, Option.bind_some, List.set_cons_succ, List.set_cons_zero, tru_bl, if_true, if_false, Bool.false_eq_true, Bool.not_true, Bool.not_false, besq, bes_nn hK b1, inv_b, bit_cut, isk, m2, m3, ad, hmax]
    · have hb := of_decide_eq_false hb
      refine Run.nil (Run.nil ⟨rfl, rfl, rfl, rfl, ?_⟩)
      rw [many_low K a1 a2 (by omega)]
      rfl
  obtain ⟨st', fl, k', e, rfl, rfl, z0, z1, z3⟩ := r
  exact ⟨st', e, z0, z1, z3⟩
/-! ### Seeker.first -/
def firstV (l : List Int) : List Nat := frst l l.length (topS l)
theorem bits_top (l : List Int) : bitsL l.length (topS l) = List.range l.length := by
  unfold bitsL topS
  refine List.filter_eq_self.mpr fun i hi => ?_
  rw [Nat.testBit_two_pow_sub_one]
  exact decide_eq_true (List.mem_range.mp hi)
theorem call_first {n : Nat} {l : List Int} (hK : okK l = true) (hn : l.length + 1 < n) (k : Nat) : (calls (PR lf) (n + 1)).cl 60 [.sk l, .int (topS l : Nat)] k = some (.tup ((firstV l).map fun (i : Nat) => .int i), k) := by
  have K := KOk.of hK
  have hlen := K.len
  refine call_just (st := [.fr (.sk l), .fr (.int (topS l : Nat)), .un, .un, .un]) (PR_fn (f := p_Seeker_first) rfl) rfl rfl ?_
  refine Run.own (d := .lst []) (k1 := k) (by simp only [ev, evs, evAnd, evOr, kb, kp, getV, getB, List.getElem?_cons_succ, List.getElem?_cons_zero, Option.bind_some, List.set_cons_succ, List.set_cons_zero, tru_bl, if_true, if_false, Bool.false_eq_true, Bool.not_true, Bool.not_false]) ?_
  simp only [List.set_cons_succ, List.set_cons_zero, List.getElem?_cons_succ, List.getElem?_cons_zero]
  obtain ⟨m, rfl⟩ : ∃ m, n = m + 1 := ⟨n - 1, by omega⟩
  have hs : ∀ q, (calls (PR lf) (m + 1)).cl 58 [.sk l, .int (topS l : Nat)] q = some (.lst ((List.range l.length).map fun (i : Nat) => .int i), q) := fun q => by
    rw [← bits_top]
    exact call_signs K.len
  refine Run.for1 (k1 := k) (fun (i : Nat) => .int i) (List.range l.length) (fun pre st q => q = k ∧ ∃ (x : Nat) (fd : List Nat) (a3 a4 : Sl), fd.length ≤ pre.length ∧ fd ++ frst l (l.length - pre.length) x = firstV l ∧ (∀ y ∈ pathS l (l.length - pre.length) x, y ∈ pathS l l.length (topS l)) ∧ st = [.fr (.sk l), .fr (.int (x : Nat)), .ow (.lst (fd.map fun (i : Nat) => .int i)), a3, a4])
    (src_lst (by simp only [ev, evs, evAnd, evOr, kb, kp, getV, getB, List.getElem?_cons_succ, List.getElem?_cons_zero, Option.bind_some, List.set_cons_succ, List.set_cons_zero, tru_bl, if_true, if_false, Bool.false_eq_true, Bool.not_true, Bool.not_false, isk, hs])) ⟨rfl, topS l, [], _, _, Nat.le_refl _, by simp [firstV], fun y hy => by simpa using hy, rfl⟩ (fun pre i post st q hp hi => ?_) (fun st q hi => ?_)
  · obtain ⟨rfl, x, fd, a3, a4, h1, h2, h3, rfl⟩ := hi
    have hpl : pre.length < l.length := by
      have := congrArg List.length hp
      simp at this
      omega
    have hii : i = pre.length := by
      have := congrArg (fun z => z[pre.length]?) hp
      simp [hpl] at this
      exact this.symm
    subst hii
    obtain ⟨w, hw⟩ : ∃ w, l.length - pre.length = w + 1 := ⟨l.length - pre.length - 1, by omega⟩
    have hw2 : l.length - (w + 1) = pre.length := by omega
    have hw3 : l.length - (pre ++ [pre.length]).length = w := by simp; omega
    rw [hw, frst_succ, hw2] at h2
    rw [hw, pathS_succ, hw2] at h3
    simp only [List.set_cons_succ, List.set_cons_zero, List.getElem?_cons_succ, List.getElem?_cons_zero]
    have e1 : ∀ q, bitD .and (.int ((x / 2 ^ pre.length : Nat) : Int)) (.int 1) q = some (.int ((x / 2 ^ pre.length &&& 1 : Nat) : Int), q) := fun q => bit_and _ 1 q
    refine Run.iteB (b := x.testBit pre.length) (d := .bl (x.testBit pre.length)) (k1 := q) (by simp only [ev, evs, evAnd, evOr, kb, kp, getV, getB, List.getElem?_cons_succ, List.getElem?_cons_zero, Option.bind_some, List.set_cons_succ, List.set_cons_zero, tru_bl, if_true, if_false, Bool.false_eq_true, Bool.not_true, Bool.not_false, bit_shr x pre.length (by omega), e1, bit_test]) rfl (fun hb => ?_) (fun hb => ?_)
    · rw [if_pos hb] at h2 h3
      have s1 := okS_path hK (h3 _ List.mem_cons_self)
      have s2 := okS_path hK (h3 _ (List.mem_cons_of_mem _ List.mem_cons_self))
      have z1 := ones_full (okS_ok s1).2.1
      have z2 := ones_full (okS_ok s2).2.1
      have m1 := fun q => call_many (lf := lf) (n := m + 1) s1 (by omega) q
      have m2 := fun q => call_many (lf := lf) (n := m + 1) s2 (by omega) q
      refine Run.set (d := .int (cutM x (bes l pre.length) : Nat)) (k1 := q) (by simp only [ev, evs, evAnd, evOr, kb, kp, getV, getB, List.getElem?_cons_succ, List.getElem?_cons_zero, Option.bind_some, List.set_cons_succ, List.set_cons_zero, tru_bl, if_true, if_false, Bool.false_eq_true, Bool.not_true, Bool.not_false, besq, bes_nn hK hpl, inv_b, bit_cut]) ?_
      simp only [List.set_cons_succ, List.set_cons_zero, List.getElem?_cons_succ, List.getElem?_cons_zero]
      refine Run.iteB (b := decide (manyV l (cutM x (bes l pre.length)) + 1 = manyV l x)) (d := .bl (decide (manyV l (cutM x (bes l pre.length)) + 1 = manyV l x))) (k1 := q) (by simp only [ev, evs, evAnd, evOr, kb, kp, getV, getB, List.getElem?_cons_succ, List.getElem?_cons_zero, Option.bind_some, List.set_cons_succ, List.set_cons_zero, tru_bl, if_true, if_false, Bool.false_eq_true, Bool.not_true, Bool.not_false, isk, m1, m2, add1, eq_nat]) rfl (fun hc => ?_) (fun hc => ?_)
      · have hc := of_decide_eq_true hc
        rw [if_pos hc] at h2 h3
        refine Run.app (d := .int (pre.length : Nat)) (k1 := q) (by simp only [ev, evs, evAnd, evOr, kb, kp, getV, getB, List.getElem?_cons_succ, List.getElem?_cons_zero, Option.bind_some, List.set_cons_succ, List.set_cons_zero, tru_bl, if_true, if_false, Bool.false_eq_true, Bool.not_true, Bool.not_false]) rfl (by rw [List.length_map]; omega) ?_
        simp only [List.set_cons_succ, List.set_cons_zero, List.getElem?_cons_succ, List.getElem?_cons_zero]
        refine Run.set (d := .int (cutM x (bes l pre.length) : Nat)) (k1 := q) (by simp only [ev, evs, evAnd, evOr, kb, kp, getV, getB, List.getElem?_cons_succ, List.getElem?_cons_zero, Option.bind_some, List.set_cons_succ, List.set_cons_zero, tru_bl, if_true, if_false, Bool.false_eq_true, Bool.not_true, Bool.not_false]) ?_
        simp only [List.set_cons_succ, List.set_cons_zero, List.getElem?_cons_succ, List.getElem?_cons_zero]
        refine Run.nil (Run.nil (Run.nil ⟨rfl, cutM x (bes l pre.length), fd ++ [pre.length], .fr (.int (pre.length : Nat)), .fr (.int (cutM x (bes l pre.length) : Nat)), by simp; omega, ?_, ?_, ?_⟩))
        · rw [hw3, List.append_assoc]; exact h2
        · rw [hw3]; exact fun y hy => h3 y (List.mem_cons_of_mem _ (List.mem_cons_of_mem _ hy))
        · rw [List.map_append]; rfl
      · have hc := of_decide_eq_false hc
        rw [if_neg hc] at h2 h3
        refine Run.set (d := .int (cutM x (2 ^ pre.length) : Nat)) (k1 := q) (by simp only [ev, evs, evAnd, evOr, kb, kp, getV, getB, List.getElem?_cons_succ, List.getElem?_cons_zero, Option.bind_some, List.set_cons_succ, List.set_cons_zero, tru_bl, if_true, if_false, Bool.false_eq_true, Bool.not_true, Bool.not_false, bit_shl pre.length (by omega), inv_b, bit_cut]) ?_
        simp only [List.set_cons_succ, List.set_cons_zero, List.getElem?_cons_succ, List.getElem?_cons_zero]
        refine Run.nil (Run.nil (Run.nil ⟨rfl, cutM x (2 ^ pre.length), fd, _, _, by simp; omega, ?_, ?_, rfl⟩))
        · rw [hw3]; exact h2
        · rw [hw3]; exact fun y hy => h3 y (List.mem_cons_of_mem _ (List.mem_cons_of_mem _ hy))
    · rw [if_neg (by rw [hb]; simp)] at h2 h3
      refine Run.nil (Run.nil ⟨rfl, x, fd, _, _, by simp; omega, ?_, ?_, rfl⟩)
      · rw [hw3]; exact h2
      · rw [hw3]; exact h3
  · obtain ⟨rfl, x, fd, a3, a4, h1, h2, h3, rfl⟩ := hi
    rw [List.length_range, Nat.sub_self] at h2
    have e : fd = firstV l := by rw [← h2]; simp [frst]
    subst e
    refine Run.ret (d := .tup ((firstV l).map fun (i : Nat) => .int i)) (k1 := q) (by simp only [ev, evs, evAnd, evOr, kb, kp, getV, getB, List.getElem?_cons_succ, List.getElem?_cons_zero, Option.bind_some, List.set_cons_succ, List.set_cons_zero, tru_bl, if_true, if_false, Bool.false_eq_true, Bool.not_true, Bool.not_false, tuple_lst]) ⟨rfl, rfl⟩
end G

namespace G
variable {lf : List Fd}
/-! ### the rows of a table -/
def rowN (N : Nat) (A : Nat → Nat → Bool) (i : Nat) : Nat := orAll (((List.range N).filter (A i)).map fun (j : Nat) => (j : Int))
def rowsN (N : Nat) (A : Nat → Nat → Bool) : List Int := (List.range N).map fun i => ((rowN N A i : Nat) : Int)
theorem orF_bit : ∀ (ns : List Nat) (a i : Nat), ((ns.map fun (j : Nat) => (j : Int)).foldl (fun (a : Nat) (j : Int) => a ||| 2 ^ j.toNat) a).testBit i = (a.testBit i || decide (i ∈ ns))
  | [], a, i => by simp
  | j :: ns, a, i => by
    rw [List.map_cons, List.foldl_cons, orF_bit ns, Nat.testBit_or, Int.toNat_natCast, Nat.testBit_two_pow]
    by_cases h : j = i
    · subst h; simp
    · have h' : ¬ i = j := fun z => h z.symm
      simp [h, h']
theorem row_bit (N : Nat) (A : Nat → Nat → Bool) (i j : Nat) : (rowN N A i).testBit j = (decide (j < N) && A i j) := by
  unfold rowN orAll
  rw [orF_bit]
  simp
theorem rows_len' (N : Nat) (A : Nat → Nat → Bool) : (rowsN N A).length = N := by unfold rowsN; simp
theorem rows_adj {N : Nat} {A : Nat → Nat → Bool} {i j : Nat} (hi : i < N) : adjB (rowsN N A) i j = (decide (j < N) && A i j) := by
  unfold adjB rowsN
  rw [List.getD_eq_getElem?_getD, List.getElem?_map, List.getElem?_range hi]
  show (((rowN N A i : Nat) : Int)).toNat.testBit j = _
  rw [Int.toNat_natCast, row_bit]
theorem row_lt (N : Nat) (A : Nat → Nat → Bool) (i : Nat) : rowN N A i < 2 ^ N := by
  refine Nat.lt_pow_two_of_testBit _ fun j hj => ?_
  rw [row_bit, decide_eq_false (by omega)]
  rfl
theorem rows_ok {N : Nat} {A : Nat → Nat → Bool} (hN : N ≤ 27) (hr : ∀ i, A i i = true) (hs : ∀ i j, A i j = A j i) : okK (rowsN N A) = true := by
  refine okK_of (by rw [rows_len']; exact hN) (fun m hm => ?_) (fun i hi => ?_) (fun i j hi hj => ?_)
  · obtain ⟨i, _, rfl⟩ := List.mem_map.mp hm
    rw [rows_len']
    refine ⟨by omega, ?_⟩
    have h := row_lt N A i
    exact_mod_cast h
  · rw [rows_len'] at hi
    rw [rows_adj hi, decide_eq_true hi, hr]
    rfl
  · rw [rows_len'] at hi hj
    rw [rows_adj hi, rows_adj hj, decide_eq_true hi, decide_eq_true hj, hs]
theorem rowsG_eq {cl : Nat → List D → M D} {t : D} {A : Nat → Nat → Bool} {N : Nat} (hN : N ≤ 1000) (h : ∀ i k, i < N → cl 6 [t, .int (i : Nat)] k = some (wE ((List.range N).filter (A i)), k)) : ∀ (is : List Nat) (k : Nat), (∀ i ∈ is, i < N) → rowsG cl 6 t is k = some (is.map fun i => ((rowN N A i : Nat) : Int), k)
  | [], k, _ => rfl
  | i :: is, k, hi => by
    have hil := hi i List.mem_cons_self
    have e1 : ∀ (ns : List Nat) k, intsL (ns.map enc) k = some (ns.map fun (j : Nat) => (j : Int), k) := by
      intro ns
      induction ns with
      | nil => intro k; rfl
      | cons a ns ih =>
        intro k
        show (do let bs ← intsL (ns.map enc); pure ((a : Int) :: bs) : M (List Int)) k = _
        rw [kb, ih]
        rfl
    have e : rowG cl 6 t i k = some (((rowN N A i : Nat) : Int), k) := by
      unfold rowG
      rw [kb, h i k hil]
      show (do let ns ← intsL (((List.range N).filter (A i)).map enc); if ns.all (fun j => decide (0 ≤ j) && decide (j ≤ 1000)) then pure (orAll ns : Nat) else no : M Int) k = _
      rw [kb, e1]
      show (if (((List.range N).filter (A i)).map fun (j : Nat) => (j : Int)).all (fun j => decide (0 ≤ j) && decide (j ≤ 1000)) then pure (orAll _ : Nat) else no : M Int) k = _
      rw [if_pos]
      · rfl
      · rw [List.all_eq_true]
        intro x hx
        obtain ⟨j, hj, rfl⟩ := List.mem_map.mp hx
        have := List.mem_range.mp (List.mem_filter.mp hj).1
        rw [Bool.and_eq_true, decide_eq_true_eq, decide_eq_true_eq]
        omega
    show (do let r ← rowG cl 6 t i; let rs ← rowsG cl 6 t is; pure (r :: rs) : M (List Int)) k = _
    rw [kb, e]
    show ((rowsG cl 6 t is) >>= _) k = _
    rw [kb, rowsG_eq hN h is k fun j hj => hi j (List.mem_cons_of_mem _ hj)]
    rfl
theorem mixB_symm (ps : List (Nat × Nat)) (a b : Nat) : mixB ps a b = mixB ps b a := by
  unfold mixB
  rw [Nat.min_comm, Nat.max_comm]
  by_cases h : a = b
  · simp [h]
  · have h' : ¬ b = a := fun z => h z.symm
    simp [h, h']
theorem mixB_refl (ps : List (Nat × Nat)) (a : Nat) : mixB ps a a = true := by unfold mixB; simp
theorem call_mk {n N : Nat} {ps : List (Nat × Nat)} (hN : N ≤ 27) (k : Nat) : (calls (PR lf) (n + 4)).cl 56 [tE N ps] k = some (.sk (rowsN N (mixB ps)), k) := by
  rw [cl_eq (PR_fn (f := p_Seeker) rfl)]
  show (calls (PR lf) (n + 3)).cl 57 [tE N ps] k = _
  rw [cl_eq (PR_fn (f := p_Seeker___init__) rfl)]
  show (if 0 ≤ (N : Int) ∧ (N : Int) ≤ 40 then (do
      let rs ← rowsG (calls (PR lf) (n + 2)).cl 6 (tE N ps) (List.range (N : Int).toNat)
      if okK rs then pure (.sk rs) else no) else no : M D) k = _
  rw [if_pos ⟨by omega, by omega⟩, Int.toNat_natCast, kb, rowsG_eq (A := mixB ps) (N := N) (by omega) (fun i k hi => call_near i (by omega)) _ _ fun i hi => List.mem_range.mp hi]
  show (if okK (rowsN N (mixB ps)) then pure (.sk (rowsN N (mixB ps))) else no : M D) k = _
  rw [if_pos (rows_ok hN (mixB_refl ps) (mixB_symm ps))]
  rfl
/-! ### most, best_code -/
/-- the most words so long -/
def powP (m : Nat) (ps : List (Nat × Nat)) (L : Nat) : List (Nat × Nat) := pairsOf (m ^ L) fun i j => mwB ps ((wordsN m L).getD i []) ((wordsN m L).getD j [])
def rowsP (m : Nat) (ps : List (Nat × Nat)) (L : Nat) : List Int := rowsN (m ^ L) (mixB (powP m ps L))
def mostN (m : Nat) (ps : List (Nat × Nat)) (L : Nat) : Nat := manyV (rowsP m ps L) (topS (rowsP m ps L))
def bestN (m : Nat) (ps : List (Nat × Nat)) (L : Nat) : List Nat := firstV (rowsP m ps L)
theorem top_val {N q : Nat} (hN : N ≤ 27) {rs : List Int} (h : rs.length = N) : subD (.int (2 ^ N : Nat)) (.int 1) q = some (.int (topS rs : Nat), q) := by
  show some (D.int (((2 ^ N : Nat) : Int) - 1), q) = _
  unfold topS
  rw [h]
  have := Nat.two_pow_pos N
  congr 3
  omega
section
variable {n m k L : Nat} {ps : List (Nat × Nat)}
theorem call_most (hm : m ≤ 27) (hL : L ≤ 10000) (hw : ∀ i ≤ L, m ^ i ≤ 27) : (calls (PR lf) (n + 33)).cl 20 [tE m ps, .int (L : Nat)] k = some (.int (mostN m ps L : Nat), k) := by
  have hN := hw L (Nat.le_refl _)
  refine call_just (st := [.fr (tE m ps), .fr (.int (L : Nat)), .un]) (PR_fn (f := p_most) rfl) rfl rfl ?_
  have e1 : ∀ q, (calls (PR lf) (n + 32)).cl 13 [tE m ps, .int (L : Nat)] q = some (tE (m ^ L) (powP m ps L), q) := fun q => call_power (n := n + 27) (by omega) hL fun i hi => Nat.le_trans (hw i hi) (by decide)
  have e2 : ∀ q, (calls (PR lf) (n + 32)).cl 56 [tE (m ^ L) (powP m ps L)] q = some (.sk (rowsP m ps L), q) := fun q => call_mk (n := n + 28) hN q
  have hk : okK (rowsP m ps L) = true := rows_ok hN (mixB_refl _) (mixB_symm _)
  have hl : (rowsP m ps L).length = m ^ L := rows_len' _ _
  have e3 : ∀ q, (calls (PR lf) (n + 32)).cl 59 [.sk (rowsP m ps L), .int (topS (rowsP m ps L) : Nat)] q = some (.int (mostN m ps L : Nat), q) := fun q => call_many (okS_top hk) (by have := ones_full (top_lt (l := rowsP m ps L)); omega) q
  have e4 : ∀ q, subD (.int (2 ^ (m ^ L) : Nat)) (.int 1) q = some (.int (topS (rowsP m ps L) : Nat), q) := fun q => top_val hN hl
  refine Run.set (d := tE (m ^ L) (powP m ps L)) (k1 := k) (by simp only [ev, evs, evAnd, evOr, kb, kp, getV, getB, List.getElem?_cons_succ, List.getElem?_cons_zero, Option.bind_some, List.set_cons_succ, List.set_cons_zero, tru_bl, if_true, if_false, Bool.false_eq_true, Bool.not_true, Bool.not_false, e1]) ?_
  simp only [List.set_cons_succ, List.set_cons_zero, List.getElem?_cons_succ, List.getElem?_cons_zero]
  refine Run.ret (d := .int (mostN m ps L : Nat)) (k1 := k) ?_ ⟨rfl, rfl⟩
  simp only [ev, evs, evAnd, evOr, kb, kp, getV, getB, List.getElem?_cons_succ, List.getElem?_cons_zero, Option.bind_some, List.set_cons_succ, List.set_cons_zero, tru_bl, if_true, if_false, Bool.false_eq_true, Bool.not_true, Bool.not_false, e2, t0, bit_shl (m ^ L) (by omega), e4, isk, e3]
theorem call_best (hm : m ≤ 27) (hL : L ≤ 10000) (hw : ∀ i ≤ L, m ^ i ≤ 27) : (calls (PR lf) (n + 33)).cl 21 [tE m ps, .int (L : Nat)] k = some (enc ((bestN m ps L).map fun i => (wordsN m L).getD i []), k) := by
  have hN := hw L (Nat.le_refl _)
  refine call_just (st := [.fr (tE m ps), .fr (.int (L : Nat)), .un, .un, .un]) (PR_fn (f := p_best_code) rfl) rfl rfl ?_
  have e1 : ∀ q, (calls (PR lf) (n + 32)).cl 13 [tE m ps, .int (L : Nat)] q = some (tE (m ^ L) (powP m ps L), q) := fun q => call_power (n := n + 27) (by omega) hL fun i hi => Nat.le_trans (hw i hi) (by decide)
  have e2 : ∀ q, (calls (PR lf) (n + 32)).cl 56 [tE (m ^ L) (powP m ps L)] q = some (.sk (rowsP m ps L), q) := fun q => call_mk (n := n + 28) hN q
  have hW : ∀ q, (calls (PR lf) (n + 32)).cl 11 [.int (m : Nat), .int (L : Nat)] q = some (enc (wordsN m L), q) := fun q => call_words (by omega) hL fun i hi => Nat.le_trans (hw i hi) (by decide)
  have hk : okK (rowsP m ps L) = true := rows_ok hN (mixB_refl _) (mixB_symm _)
  have K := KOk.of hk
  have hl : (rowsP m ps L).length = m ^ L := rows_len' _ _
  have e3 : ∀ q, (calls (PR lf) (n + 32)).cl 60 [.sk (rowsP m ps L), .int (topS (rowsP m ps L) : Nat)] q = some (.tup ((bestN m ps L).map fun (i : Nat) => .int i), q) := fun q => call_first (n := n + 31) hk (by omega) q
  have e4 : ∀ q, subD (.int (2 ^ (m ^ L) : Nat)) (.int 1) q = some (.int (topS (rowsP m ps L) : Nat), q) := fun q => top_val hN hl
  refine Run.set (d := tE (m ^ L) (powP m ps L)) (k1 := k) (by simp only [ev, evs, evAnd, evOr, kb, kp, getV, getB, List.getElem?_cons_succ, List.getElem?_cons_zero, Option.bind_some, List.set_cons_succ, List.set_cons_zero, tru_bl, if_true, if_false, Bool.false_eq_true, Bool.not_true, Bool.not_false, e1]) ?_
  simp only [List.set_cons_succ, List.set_cons_zero, List.getElem?_cons_succ, List.getElem?_cons_zero]
  refine Run.set (d := enc (wordsN m L)) (k1 := k) (by simp only [ev, evs, evAnd, evOr, kb, kp, getV, getB, List.getElem?_cons_succ, List.getElem?_cons_zero, Option.bind_some, List.set_cons_succ, List.set_cons_zero, tru_bl, if_true, if_false, Bool.false_eq_true, Bool.not_true, Bool.not_false, t0, hW]) ?_
  simp only [List.set_cons_succ, List.set_cons_zero, List.getElem?_cons_succ, List.getElem?_cons_zero]
  have hi : ∀ i ∈ bestN m ps L, i < m ^ L := fun i hi => by
    have := (frst_ok K _ _ (Nat.le_refl _) top_lt (fun i _ => by omega)).1.2.1 i hi
    rw [← hl]
    exact this.1
  have h := ev_map1 (C := calls (PR lf) (n + 32)) (st := [.fr (tE m ps), .fr (.int (L : Nat)), .fr (tE (m ^ L) (powP m ps L)), .fr (enc (wordsN m L)), .un]) (k := k) (k1 := k) (sk := .it) (a := .mth 60 (.mk 56 [.v 2]) [.sub (.bit .shl (.c (.int 1)) (.ix (.v 2) (.c (.int 0)))) (.c (.int 1))]) (b := .c .non) (c := .c .non) (elt := .ix (.v 3) (.v 4)) (i := 4) (own := [4])
    (fun (i : Nat) => D.int i) (bestN m ps L) (fun i => enc ((wordsN m L).getD i [])) (src_tup (by simp only [ev, evs, evAnd, evOr, kb, kp, getV, getB, List.getElem?_cons_succ, List.getElem?_cons_zero, Option.bind_some, List.set_cons_succ, List.set_cons_zero, tru_bl, if_true, if_false, Bool.false_eq_true, Bool.not_true, Bool.not_false, e2, t0, bit_shl (m ^ L) (by omega), e4, isk, e3])) (fun i hib q => by
      have e : ∀ q, ixD (enc (wordsN m L)) (.int (i : Nat)) q = some (wE ((wordsN m L).getD i []), q) := fun q => ix_enc (by rw [List.getD_eq_getElem?_getD, List.getElem?_eq_getElem (by rw [wordsN_len]; exact hi i hib)]; rfl)
      simp only [ev, evs, evAnd, evOr, kb, kp, getV, getB, List.getElem?_cons_succ, List.getElem?_cons_zero, Option.bind_some, List.set_cons_succ, List.set_cons_zero, tru_bl, if_true, if_false, Bool.false_eq_true, Bool.not_true, Bool.not_false, wipe, e])
  refine Run.ret (d := enc ((bestN m ps L).map fun i => (wordsN m L).getD i [])) (k1 := k) (evc_b1 h ?_) ⟨rfl, rfl⟩
  rw [tuple_lst]
  show some (D.tup _, k) = some (D.tup (((bestN m ps L).map fun i => (wordsN m L).getD i []).map enc), k)
  rw [List.map_map]
  rfl
/-! ### what they are -/
theorem MaxI.adj {adj adj' : Nat → Nat → Bool} {S : Nat → Prop} {a : Nat} (h : MaxI adj S a) (e : ∀ x y, S x → S y → adj x y = adj' x y) : MaxI adj' S a := by
  obtain ⟨⟨c, c1, c2⟩, c3⟩ := h
  exact ⟨⟨c, ⟨c1.1, c1.2.1, fun x hx y hy ne => by rw [← e x y (c1.2.1 x hx) (c1.2.1 y hy)]; exact c1.2.2 x hx y hy ne⟩, c2⟩, fun d hd => c3 d ⟨hd.1, hd.2.1, fun x hx y hy ne => by rw [e x y (hd.2.1 x hx) (hd.2.1 y hy)]; exact hd.2.2 x hx y hy ne⟩⟩
theorem IsInd.adj {adj adj' : Nat → Nat → Bool} {S : Nat → Prop} {c : List Nat} (h : IsInd adj S c) (e : ∀ x y, S x → S y → adj x y = adj' x y) : IsInd adj' S c :=
  ⟨h.1, h.2.1, fun x hx y hy ne => by rw [← e x y (h.2.1 x hx) (h.2.1 y hy)]; exact h.2.2 x hx y hy ne⟩
theorem rowsP_adj (hm : 0 < m) {i j : Nat} (hi : i < m ^ L) (hj : j < m ^ L) : adjB (rowsP m ps L) i j = powA m ps L i j := by
  unfold rowsP powP
  rw [rows_adj hi, decide_eq_true hj, Bool.true_and, pow_pairs hm, mixB_of powA_comm' powA_self' hi hj]
where
  powA_comm' : ∀ i j, powA m ps L i j = powA m ps L j i := fun i j => powA_comm L i j
  powA_self' : ∀ i, powA m ps L i i = true := fun i => powA_self L i
theorem topS_bit {l : List Int} {i : Nat} : (i < l.length ∧ (topS l).testBit i = true) ↔ i < l.length := by
  unfold topS
  rw [Nat.testBit_two_pow_sub_one, decide_eq_true_eq]
  exact ⟨fun h => h.1, fun h => ⟨h, h⟩⟩
theorem most_ok (hm : 0 < m) (hN : m ^ L ≤ 27) : MaxI (powA m ps L) (fun i => i < m ^ L) (mostN m ps L) := by
  have hk : okK (rowsP m ps L) = true := rows_ok hN (mixB_refl _) (mixB_symm _)
  have hl : (rowsP m ps L).length = m ^ L := rows_len' _ _
  have h := (manyV_ok (KOk.of hk) (topS (rowsP m ps L))).congr fun i => topS_bit
  rw [hl] at h
  exact h.adj fun x y hx hy => rowsP_adj hm hx hy
theorem best_ok (hm : 0 < m) (hN : m ^ L ≤ 27) : IsInd (powA m ps L) (fun i => i < m ^ L) (bestN m ps L) ∧ (bestN m ps L).length = mostN m ps L ∧ (bestN m ps L).Pairwise (· < ·) ∧
    ∀ c, IsInd (powA m ps L) (fun i => i < m ^ L) c → c.length = mostN m ps L → c.Pairwise (· < ·) → bestN m ps L = c ∨ ltbs (bestN m ps L) c = true := by
  have hk : okK (rowsP m ps L) = true := rows_ok hN (mixB_refl _) (mixB_symm _)
  have hl : (rowsP m ps L).length = m ^ L := rows_len' _ _
  obtain ⟨h1, h2, h3, h4⟩ := frst_ok (KOk.of hk) _ _ (Nat.le_refl _) (top_lt (l := rowsP m ps L)) (fun i _ => by omega)
  have hS : bitS (rowsP m ps L) (topS (rowsP m ps L)) = fun i => i < m ^ L := by
    funext i
    unfold bitS
    rw [← hl]
    exact propext topS_bit
  rw [hS] at h1 h4
  exact ⟨h1.adj fun x y hx hy => rowsP_adj hm hx hy, h2, h3, fun c hc => h4 c (hc.adj fun x y hx hy => (rowsP_adj hm hx hy).symm)⟩
end
end G

namespace G
/-! ### all choices of some -/
def chsN : Nat → List (List Nat)
  | 0 => [[]]
  | m + 1 => chsN m ++ (chsN m).map fun c => c ++ [m]
theorem chs_mem : ∀ {m : Nat} {c : List Nat}, c ∈ chsN m ↔ c.Pairwise (· < ·) ∧ ∀ x ∈ c, x < m
  | 0, c => by
    show c ∈ [[]] ↔ _
    rw [List.mem_singleton]
    constructor
    · rintro rfl; exact ⟨List.Pairwise.nil, fun x hx => absurd hx List.not_mem_nil⟩
    · rintro ⟨_, h⟩
      cases c with
      | nil => rfl
      | cons x c => exact absurd (h x List.mem_cons_self) (by omega)
  | m + 1, c => by
    show c ∈ chsN m ++ (chsN m).map _ ↔ _
    rw [List.mem_append, List.mem_map, chs_mem]
    constructor
    · rintro (⟨h1, h2⟩ | ⟨d, hd, rfl⟩)
      · exact ⟨h1, fun x hx => by have := h2 x hx; omega⟩
      · obtain ⟨h1, h2⟩ := chs_mem.mp hd
        refine ⟨List.pairwise_append.mpr ⟨h1, List.pairwise_singleton _ _, fun a ha b hb => ?_⟩, fun x hx => ?_⟩
        · rw [List.mem_singleton.mp hb]; exact h2 a ha
        · rcases List.mem_append.mp hx with z | z
          · have := h2 x z; omega
          · rw [List.mem_singleton.mp z]; omega
    · rintro ⟨h1, h2⟩
      by_cases hm : m ∈ c
      · have hne : c ≠ [] := fun z => by rw [z] at hm; cases hm
        have e := List.dropLast_concat_getLast hne
        have p := h1
        rw [← e, List.pairwise_append] at p
        have hl : c.getLast hne = m := by
          have h3 := h2 _ (List.getLast_mem hne)
          rw [← e] at hm
          rcases List.mem_append.mp hm with z | z
          · have := p.2.2 m z (c.getLast hne) (List.mem_singleton.mpr rfl)
            omega
          · exact (List.mem_singleton.mp z).symm
        refine .inr ⟨c.dropLast, chs_mem.mpr ⟨p.1, fun x hx => ?_⟩, by rw [← hl]; exact e⟩
        have := p.2.2 x hx (c.getLast hne) (List.mem_singleton.mpr rfl)
        omega
      · refine .inl ⟨h1, fun x hx => ?_⟩
        have := h2 x hx
        have : x ≠ m := fun z => hm (by rw [← z]; exact hx)
        omega
theorem chs_len : ∀ m, (chsN m).length = 2 ^ m
  | 0 => rfl
  | m + 1 => by
    show (chsN m ++ (chsN m).map _).length = _
    rw [List.length_append, List.length_map, chs_len m, Nat.pow_succ]
    omega
theorem chs_nd : ∀ m, (chsN m).Nodup
  | 0 => by show [[]].Nodup; simp
  | m + 1 => by
    show (chsN m ++ (chsN m).map _).Nodup
    rw [List.nodup_append]
    refine ⟨chs_nd m, ?_, fun a ha b hb e => ?_⟩
    · unfold List.Nodup
      rw [List.pairwise_map]
      exact (chs_nd m).imp fun h e => h (by
        have := congrArg List.dropLast e
        simpa using this)
    · obtain ⟨d, _, rfl⟩ := List.mem_map.mp hb
      subst e
      have := (chs_mem.mp ha).2 m (by simp)
      omega
def choN (m : Nat) : List (List Nat) := sortE (chsN m)
theorem cho_mem {m : Nat} {c : List Nat} : c ∈ choN m ↔ c.Pairwise (· < ·) ∧ ∀ x ∈ c, x < m := (sortE_perm _).mem_iff.trans chs_mem
theorem cho_so (m : Nat) : (choN m).Pairwise fun u v => ltbs u v = true := sortE_so (chs_nd m)
/-- choices of the program, by hand too -/
def choF : Fd := .py 1 4 [.set 1 (.lst [.tup []]),
    .for (.one 2) .r1 (.v 0) (.c .non) (.c .non) [.set 1 (.add (.v 1) (.lc (.one 3) .it (.v 1) (.c .non) (.c .non) (.c (.bl true)) (.add (.v 3) (.tup [.v 2])) [3]))],
    .ret (.b1 .sorted (.v 1))]
theorem call_cho {P : Pr} {f n m k : Nat} (h : P.fns[f]? = some choF) (hm : m ≤ 16) : (calls P (n + 1)).cl f [.int (m : Nat)] k = some (.lst ((choN m).map enc), k) := by
  refine call_just (st := [.fr (.int (m : Nat)), .un, .un, .un]) h rfl rfl ?_
  refine Run.set (d := .lst [.tup []]) (k1 := k) (by simp only [ev, evs, evAnd, evOr, kb, kp, getV, getB, List.getElem?_cons_succ, List.getElem?_cons_zero, Option.bind_some, List.set_cons_succ, List.set_cons_zero, tru_bl, if_true, if_false, Bool.false_eq_true, Bool.not_true, Bool.not_false]) ?_
  simp only [List.set_cons_succ, List.set_cons_zero, List.getElem?_cons_succ, List.getElem?_cons_zero]
  refine Run.for1 (k1 := k) (fun (i : Nat) => .int i) (List.range m) (fun pre st q => q = k ∧ ∃ a2, st = [.fr (.int (m : Nat)), .fr (.lst ((chsN pre.length).map enc)), a2, .un])
    (src_r1 (by simp only [ev, evs, evAnd, evOr, kb, kp, getV, getB, List.getElem?_cons_succ, List.getElem?_cons_zero, Option.bind_some, List.set_cons_succ, List.set_cons_zero, tru_bl, if_true, if_false, Bool.false_eq_true, Bool.not_true, Bool.not_false]) (by omega)) ⟨rfl, _, rfl⟩ (fun pre i post st q hp hi => ?_) (fun st q hi => ?_)
  · obtain ⟨rfl, a2, rfl⟩ := hi
    have hpl : pre.length < m := by
      have := congrArg List.length hp
      simp at this
      omega
    have hii : i = pre.length := by
      have := congrArg (fun z => z[pre.length]?) hp
      simp [hpl] at this
      exact this.symm
    subst hii
    simp only [List.set_cons_succ, List.set_cons_zero, List.getElem?_cons_succ, List.getElem?_cons_zero]
    have hl : (chsN pre.length).length ≤ 65536 := by
      rw [chs_len]
      exact Nat.le_trans (Nat.pow_le_pow_right (by decide) (show pre.length ≤ 16 by omega)) (by decide)
    have h1 := ev_map1 (C := calls P n) (st := [.fr (.int (m : Nat)), .fr (.lst ((chsN pre.length).map enc)), .fr (.int (pre.length : Nat)), .un]) (k := q) (k1 := q) (sk := .it) (a := .v 1) (b := .c .non) (c := .c .non) (elt := .add (.v 3) (.tup [.v 2])) (i := 3) (own := [3])
      enc (chsN pre.length) (fun c => enc (c ++ [pre.length])) (src_lst (by simp only [ev, evs, evAnd, evOr, kb, kp, getV, getB, List.getElem?_cons_succ, List.getElem?_cons_zero, Option.bind_some, List.set_cons_succ, List.set_cons_zero, tru_bl, if_true, if_false, Bool.false_eq_true, Bool.not_true, Bool.not_false])) (fun c hc q => by
        have hcl : c.length ≤ pre.length := by
          have h2 := chs_mem.mp hc
          exact nodup_len _ _ (h2.1.imp fun z => Nat.ne_of_lt z) h2.2
        have e : addD (enc c) (.tup [.int (pre.length : Nat)]) q = some (enc (c ++ [pre.length]), q) := add_enc c [pre.length] q (by simp; omega)
        simp only [ev, evs, evAnd, evOr, kb, kp, getV, getB, List.getElem?_cons_succ, List.getElem?_cons_zero, Option.bind_some, List.set_cons_succ, List.set_cons_zero, tru_bl, if_true, if_false, Bool.false_eq_true, Bool.not_true, Bool.not_false, wipe, e])
    refine Run.set (d := .lst ((chsN (pre.length + 1)).map enc)) (k1 := q) (evc_add (by simp only [ev, evs, evAnd, evOr, kb, kp, getV, getB, List.getElem?_cons_succ, List.getElem?_cons_zero, Option.bind_some, List.set_cons_succ, List.set_cons_zero, tru_bl, if_true, if_false, Bool.false_eq_true, Bool.not_true, Bool.not_false]; rfl) h1 ?_) (Run.nil ⟨rfl, .fr (.int (pre.length : Nat)), ?_⟩)
    · rw [add_lst (by simp; omega)]
      show some (D.lst _, q) = some (D.lst ((chsN pre.length ++ (chsN pre.length).map fun c => c ++ [pre.length]).map enc), q)
      rw [List.map_append, List.map_map]
      rfl
    · simp only [List.set_cons_succ, List.set_cons_zero, List.getElem?_cons_succ, List.getElem?_cons_zero, List.length_append, List.length_singleton]
  · obtain ⟨rfl, a2, rfl⟩ := hi
    rw [List.length_range]
    refine Run.ret (d := .lst ((choN m).map enc)) (k1 := q) (by simp only [ev, evs, evAnd, evOr, kb, kp, getV, getB, List.getElem?_cons_succ, List.getElem?_cons_zero, Option.bind_some, List.set_cons_succ, List.set_cons_zero, tru_bl, if_true, if_false, Bool.false_eq_true, Bool.not_true, Bool.not_false]; exact sorted_rows (chsN m) (by decide) q) ⟨rfl, rfl⟩
/-! ### the most signs, all of them -/
/-- no pair of the choice stands in the table -/
def freeC (ps : List (Nat × Nat)) (c : List Nat) : Bool := decide ((ps.filter fun p => decide (p.1 ∈ c) && decide (p.2 ∈ c)) = [])
theorem freeC_iff {m : Nat} {ps : List (Nat × Nat)} (tab : Tab m ps) {c : List Nat} : freeC ps c = true ↔ ∀ x ∈ c, ∀ y ∈ c, x ≠ y → mixB ps x y = false := by
  unfold freeC
  rw [decide_eq_true_eq, List.filter_eq_nil_iff]
  constructor
  · intro h x hx y hy ne
    cases e : mixB ps x y with
    | false => rfl
    | true =>
      exfalso
      unfold mixB at e
      rw [decide_eq_false ne, Bool.false_or, decide_eq_true_eq] at e
      have := h _ e
      apply this
      simp only [Bool.and_eq_true, decide_eq_true_eq]
      rcases Nat.le_total x y with z | z
      · rw [Nat.min_eq_left z, Nat.max_eq_right z]; exact ⟨hx, hy⟩
      · rw [Nat.min_eq_right z, Nat.max_eq_left z]; exact ⟨hy, hx⟩
  · intro h p hp z
    simp only [Bool.and_eq_true, decide_eq_true_eq] at z
    have hlt := tab.lt p hp
    have := h p.1 z.1 p.2 z.2 (by omega)
    rw [mixB_lt hlt, decide_eq_false_iff_not] at this
    exact this hp
theorem part_free {m : Nat} {ps : List (Nat × Nat)} (tab : Tab m ps) {c : List Nat} (hc : c.Pairwise (· < ·)) : decide ((pairsOf c.length fun i j => mixB ps (c.getD i 0) (c.getD j 0)) = []) = freeC ps c := by
  rw [Bool.eq_iff_iff, decide_eq_true_eq, freeC_iff tab]
  have nd : ∀ i j, i < j → j < c.length → c.getD i 0 < c.getD j 0 := fun i j hij hj => by
    rw [List.getD_eq_getElem?_getD, List.getD_eq_getElem?_getD, List.getElem?_eq_getElem hj, List.getElem?_eq_getElem (by omega)]
    exact List.pairwise_iff_getElem.mp hc i j (by omega) hj hij
  constructor
  · intro h x hx y hy ne
    obtain ⟨i, hi, rfl⟩ := List.mem_iff_getElem.mp hx
    obtain ⟨j, hj, rfl⟩ := List.mem_iff_getElem.mp hy
    have key : ∀ i j (hi : i < c.length) (hj : j < c.length), i < j → mixB ps c[i] c[j] = false := fun i j hi hj hij => by
      cases e : mixB ps c[i] c[j] with
      | false => rfl
      | true =>
        have : (i, j) ∈ pairsOf c.length fun i j => mixB ps (c.getD i 0) (c.getD j 0) := mem_pairsOf.mpr ⟨hij, hj, by
          show mixB ps (c.getD i 0) (c.getD j 0) = true
          rw [List.getD_eq_getElem?_getD, List.getD_eq_getElem?_getD, List.getElem?_eq_getElem hj, List.getElem?_eq_getElem hi]
          exact e⟩
        rw [h] at this
        cases this
    rcases Nat.lt_trichotomy i j with z | z | z
    · exact key i j hi hj z
    · subst z; exact absurd rfl ne
    · rw [mixB_comm]; exact key j i hj hi z
  · intro h
    cases e : pairsOf c.length fun i j => mixB ps (c.getD i 0) (c.getD j 0) with
    | nil => rfl
    | cons p r =>
      exfalso
      have hp : p ∈ pairsOf c.length fun i j => mixB ps (c.getD i 0) (c.getD j 0) := by rw [e]; exact List.mem_cons_self
      obtain ⟨h1, h2, h3⟩ := mem_pairsOf.mp hp
      have hlt := nd _ _ h1 h2
      rw [List.getD_eq_getElem?_getD, List.getD_eq_getElem?_getD, List.getElem?_eq_getElem h2, List.getElem?_eq_getElem (show p.1 < c.length by omega)] at h3 hlt
      have := h c[p.1] (List.getElem_mem _) c[p.2] (List.getElem_mem _) (by
        have hlt : c[p.1] < c[p.2] := hlt
        omega)
      have h3 : mixB ps c[p.1] c[p.2] = true := h3
      rw [this] at h3
      cases h3
/-- told apart ones; the most of these -/
def fre (m : Nat) (ps : List (Nat × Nat)) : List (List Nat) := (choN m).filter (freeC ps)
def maxE : Nat → List Nat → Nat
  | b, [] => b
  | b, x :: xs => maxE (if b < x then x else b) xs
theorem maxE_spec : ∀ (l : List Nat) (b : Nat), maxE b l ∈ b :: l ∧ ∀ y ∈ b :: l, y ≤ maxE b l
  | [], b => ⟨List.mem_cons_self, fun y hy => by rw [List.mem_singleton.mp hy]; exact Nat.le_refl _⟩
  | x :: l, b => by
    obtain ⟨h1, h2⟩ := maxE_spec l (if b < x then x else b)
    show maxE (if b < x then x else b) l ∈ _ ∧ ∀ y ∈ _, y ≤ maxE (if b < x then x else b) l
    by_cases h : b < x
    · rw [if_pos h] at h1 h2 ⊢
      refine ⟨List.mem_cons_of_mem _ h1, fun y hy => ?_⟩
      rcases List.mem_cons.mp hy with z | z
      · have := h2 x List.mem_cons_self; omega
      · exact h2 y z
    · rw [if_neg h] at h1 h2 ⊢
      refine ⟨?_, fun y hy => ?_⟩
      · rcases List.mem_cons.mp h1 with z | z
        · rw [z]; exact List.mem_cons_self
        · exact List.mem_cons_of_mem _ (List.mem_cons_of_mem _ z)
      · rcases List.mem_cons.mp hy with z | z
        · rw [z]; exact h2 b List.mem_cons_self
        · rcases List.mem_cons.mp z with z | z
          · have := h2 b List.mem_cons_self; omega
          · exact h2 y (List.mem_cons_of_mem _ z)
def maxX : List Nat → Nat
  | [] => 0
  | x :: l => maxE x l
theorem maxL_nats : ∀ (l : List Nat) (b : Nat), maxL (.int (b : Nat)) (l.map fun (i : Nat) => D.int i) = .int (maxE b l : Nat)
  | [], b => rfl
  | x :: l, b => by
    show maxL (if lt (.int (b : Nat)) (.int (x : Nat)) = true then .int (x : Nat) else .int (b : Nat)) (l.map _) = D.int ((maxE (if b < x then x else b) l : Nat) : Int)
    have e : lt (.int (b : Nat)) (.int (x : Nat)) = decide (b < x) := Enc.lt b x
    rw [e]
    by_cases h : b < x
    · rw [decide_eq_true h, if_pos rfl, if_pos h]; exact maxL_nats l x
    · rw [decide_eq_false h, if_neg (by simp), if_neg h]; exact maxL_nats l b
theorem max_nats (l : List Nat) (hl : l ≠ []) (q : Nat) : f1D .max (.lst (l.map fun (i : Nat) => D.int i)) q = some (.int (maxX l : Nat), q) := by
  obtain ⟨x, r, rfl⟩ := List.exists_cons_of_ne_nil hl
  show (if minable (D.int (x : Nat) :: r.map fun (i : Nat) => D.int i) = true then (pure (maxL (.int (x : Nat)) (r.map fun (i : Nat) => D.int i)) : M D) else no) q = _
  rw [maxL_nats]
  have hm : minable ((x :: r).map (enc (α := Nat))) = true := by
    unfold minable alikes
    rw [show okds deep ((x :: r).map (enc (α := Nat))) = true from encs_ok (α := Nat) _ (by decide), Bool.true_and, Bool.and_eq_true]
    refine ⟨List.all_eq_true.mpr fun a ha => List.all_eq_true.mpr fun b hb => ?_, List.all_eq_true.mpr fun a ha => ?_⟩
    · obtain ⟨i, _, rfl⟩ := List.mem_map.mp ha
      obtain ⟨j, _, rfl⟩ := List.mem_map.mp hb
      exact Enc.like i j
    · obtain ⟨i, _, rfl⟩ := List.mem_map.mp ha
      rfl
  rw [if_pos (show minable (D.int (x : Nat) :: r.map fun (i : Nat) => D.int i) = true from hm)]
  rfl
theorem maxX_spec {l : List Nat} (hl : l ≠ []) : maxX l ∈ l ∧ ∀ y ∈ l, y ≤ maxX l := by
  obtain ⟨x, r, rfl⟩ := List.exists_cons_of_ne_nil hl
  exact maxE_spec r x
/-- how many the most are; all of so many; those in all -/
def hiN (m : Nat) (ps : List (Nat × Nat)) : Nat := maxX ((fre m ps).map List.length)
def allB (m : Nat) (ps : List (Nat × Nat)) : List (List Nat) := (fre m ps).filter fun c => decide (c.length = hiN m ps)
def needN (m : Nat) (ps : List (Nat × Nat)) : List Nat := (List.range m).filter fun s => (allB m ps).all fun c => decide (s ∈ c)
theorem fre_ne {m : Nat} {ps : List (Nat × Nat)} (tab : Tab m ps) : fre m ps ≠ [] := fun z => by
  have : ([] : List Nat) ∈ fre m ps := List.mem_filter.mpr ⟨cho_mem.mpr ⟨List.Pairwise.nil, fun x hx => absurd hx List.not_mem_nil⟩, (freeC_iff tab).mpr fun x hx => absurd hx List.not_mem_nil⟩
  rw [z] at this
  cases this
theorem fre_mem {m : Nat} {ps : List (Nat × Nat)} (tab : Tab m ps) {c : List Nat} : c ∈ fre m ps ↔ c.Pairwise (· < ·) ∧ IsInd (mixB ps) (· < m) c := by
  unfold fre
  rw [List.mem_filter, cho_mem, freeC_iff tab]
  exact ⟨fun h => ⟨h.1.1, h.1.1.imp fun z => Nat.ne_of_lt z, h.1.2, h.2⟩, fun h => ⟨⟨h.1, h.2.2.1⟩, h.2.2.2⟩⟩
/-- whatever is told apart stands, in order, among the choices -/
theorem ind_sort {adj : Nat → Nat → Bool} {S : Nat → Prop} {c : List Nat} (h : IsInd adj S c) : (sortE c).Pairwise (· < ·) ∧ IsInd adj S (sortE c) ∧ (sortE c).length = c.length := by
  have hp := sortE_perm c
  refine ⟨(sortE_so h.1).imp fun {a b} z => of_decide_eq_true z, ⟨hp.nodup_iff.mpr h.1, fun x hx => h.2.1 x (hp.mem_iff.mp hx), fun x hx y hy => h.2.2 x (hp.mem_iff.mp hx) y (hp.mem_iff.mp hy)⟩, hp.length_eq⟩
theorem hi_ok {m : Nat} {ps : List (Nat × Nat)} (tab : Tab m ps) : MaxI (mixB ps) (· < m) (hiN m ps) := by
  have hne : (fre m ps).map List.length ≠ [] := fun z => fre_ne tab (List.map_eq_nil_iff.mp z)
  obtain ⟨h1, h2⟩ := maxX_spec hne
  refine ⟨?_, fun c hc => ?_⟩
  · obtain ⟨c, hc, e⟩ := List.mem_map.mp h1
    exact ⟨c, ((fre_mem tab).mp hc).2, e⟩
  · obtain ⟨a, b, d⟩ := ind_sort hc
    rw [← d]
    exact h2 _ (List.mem_map.mpr ⟨_, (fre_mem tab).mpr ⟨a, b⟩, rfl⟩)
theorem allB_mem {m : Nat} {ps : List (Nat × Nat)} (tab : Tab m ps) {c : List Nat} : c ∈ allB m ps ↔ c.Pairwise (· < ·) ∧ IsInd (mixB ps) (· < m) c ∧ c.length = hiN m ps := by
  unfold allB
  rw [List.mem_filter, fre_mem tab, decide_eq_true_eq, and_assoc]
theorem allB_so (m : Nat) (ps : List (Nat × Nat)) : (allB m ps).Pairwise fun u v => ltbs u v = true := ((cho_so m).filter _).filter _
/-- the most words of one sign -/
theorem most_one {m : Nat} {ps : List (Nat × Nat)} (tab : Tab m ps) (h0 : 0 < m) (hm : m ≤ 27) : mostN m ps 1 = hiN m ps := by
  have h := most_ok (m := m) (L := 1) (ps := ps) h0 (by simpa using hm)
  have e : m ^ 1 = m := Nat.pow_one m
  rw [e] at h
  exact (h.adj fun x y hx hy => powA_one hx hy).eq (hi_ok tab)
/-- the first of all is the best code's -/
theorem best_one {m : Nat} {ps : List (Nat × Nat)} (tab : Tab m ps) (h0 : 0 < m) (hm : m ≤ 27) : ∃ r, allB m ps = bestN m ps 1 :: r := by
  obtain ⟨b1, b2, b3, b4⟩ := best_ok (m := m) (L := 1) (ps := ps) h0 (by simpa using hm)
  have e : m ^ 1 = m := Nat.pow_one m
  rw [e] at b1 b4
  have b1' : IsInd (mixB ps) (· < m) (bestN m ps 1) := b1.adj fun x y hx hy => powA_one hx hy
  have hb : bestN m ps 1 ∈ allB m ps := (allB_mem tab).mpr ⟨b3, b1', b2.trans (most_one tab h0 hm)⟩
  have so := allB_so m ps
  cases ea : allB m ps with
  | nil => rw [ea] at hb; cases hb
  | cons h r =>
    rw [ea] at hb so
    have hh : h ∈ allB m ps := by rw [ea]; exact List.mem_cons_self
    obtain ⟨c1, c2, c3⟩ := (allB_mem tab).mp hh
    rcases b4 h (c2.adj fun x y hx hy => (powA_one hx hy).symm) (c3.trans (most_one tab h0 hm).symm) c1 with z | z
    · exact ⟨r, by rw [z]⟩
    · exfalso
      rcases List.mem_cons.mp hb with q | q
      · rw [q, ltbs_irr] at z; cases z
      · have := (List.pairwise_cons.mp so).1 _ q
        have h2 := Lin.asy (α := List Nat) (a := bestN m ps 1) (b := h) z
        have h3 : ltbs h (bestN m ps 1) = false := h2
        rw [this] at h3
        cases h3
end G

namespace G
variable {lf : List Fd} {n m k : Nat} {ps : List (Nat × Nat)}
theorem call_choices (hm : m ≤ 16) (q : Nat) : (calls (PR lf) (n + 1)).cl 22 [.int (m : Nat)] q = some (.lst ((choN m).map enc), q) := call_cho (PR_fn (i := 22) (f := choF) rfl) hm
theorem max_lens (l : List (List Nat)) (hl : l ≠ []) (q : Nat) : f1D .max (.lst (l.map fun c => D.int (c.length : Nat))) q = some (.int (maxX (l.map List.length) : Nat), q) := by
  have e : (l.map fun c : List Nat => D.int (c.length : Nat)) = (l.map List.length).map fun (i : Nat) => D.int i := by rw [List.map_map]; rfl
  rw [e]
  exact max_nats _ (fun z => hl (List.map_eq_nil_iff.mp z)) q
theorem call_allB (tab : Tab m ps) (hm : m ≤ 16) (k : Nat) : (calls (PR lf) (n + 5)).cl 23 [tE m ps] k = some (enc (allB m ps), k) := by
  refine call_just (st := [.fr (tE m ps), .un, .un, .un]) (PR_fn (i := 23) (f := .py 1 4 _) rfl) rfl rfl ?_
  have h1 := ev_fil1 (C := calls (PR lf) (n + 4)) (st := [.fr (tE m ps), .un, .un, .un]) (k := k) (k1 := k) (sk := .it) (a := .call 22 [.ix (.v 0) (.c (.int 0))]) (b := .c .non) (c := .c .non) (cond := .cmp .eq (.ix (.call 9 [.v 0, .v 3]) (.c (.int 1))) (.tup [])) (elt := .v 3) (i := 3) (own := [3])
    enc (choN m) (freeC ps) enc (src_lst (l := (choN m).map enc) (by simp only [ev, evs, evAnd, evOr, kb, kp, getV, getB, List.getElem?_cons_succ, List.getElem?_cons_zero, Option.bind_some, List.set_cons_succ, List.set_cons_zero, tru_bl, if_true, if_false, Bool.false_eq_true, Bool.not_true, Bool.not_false, t0]; exact call_choices hm k)) (fun c hc q => by
      have hc := cho_mem.mp hc
      have hl : c.length ≤ m := nodup_len _ _ (hc.1.imp fun z => Nat.ne_of_lt z) hc.2
      have e : ∀ q, (calls (PR lf) (n + 4)).cl 9 [tE m ps, enc c] q = some (tE c.length (pairsOf c.length fun i j => mixB ps (c.getD i 0) (c.getD j 0)), q) := fun q => call_part c (by omega)
      simp only [ev, evs, evAnd, evOr, kb, kp, getV, getB, List.getElem?_cons_succ, List.getElem?_cons_zero, Option.bind_some, List.set_cons_succ, List.set_cons_zero, tru_bl, if_true, if_false, Bool.false_eq_true, Bool.not_true, Bool.not_false, wipe, e, t1]
      rw [← part_free tab hc.1]
      exact cmp_eq (pairsOf c.length fun i j => mixB ps (c.getD i 0) (c.getD j 0)) [] (by decide)) (fun c hc _ q => by simp only [ev, evs, evAnd, evOr, kb, kp, getV, getB, List.getElem?_cons_succ, List.getElem?_cons_zero, Option.bind_some, List.set_cons_succ, List.set_cons_zero, tru_bl, if_true, if_false, Bool.false_eq_true, Bool.not_true, Bool.not_false, wipe])
  refine Run.own h1 (Run.fz ?_)
  simp only [List.set_cons_succ, List.set_cons_zero, List.getElem?_cons_succ, List.getElem?_cons_zero, fz, frz1]
  have h2 := ev_map1 (C := calls (PR lf) (n + 4)) (st := [.fr (tE m ps), .fr (.lst ((fre m ps).map enc)), .un, .un]) (k := k) (k1 := k) (sk := .it) (a := .v 1) (b := .c .non) (c := .c .non) (elt := .b1 .len (.v 3)) (i := 3) (own := [3])
    enc (fre m ps) (fun c => .int (c.length : Nat)) (src_lst (l := (fre m ps).map enc) (by simp only [ev, evs, evAnd, evOr, kb, kp, getV, getB, List.getElem?_cons_succ, List.getElem?_cons_zero, Option.bind_some, List.set_cons_succ, List.set_cons_zero, tru_bl, if_true, if_false, Bool.false_eq_true, Bool.not_true, Bool.not_false])) (fun c hc q => by simp only [ev, evs, evAnd, evOr, kb, kp, getV, getB, List.getElem?_cons_succ, List.getElem?_cons_zero, Option.bind_some, List.set_cons_succ, List.set_cons_zero, tru_bl, if_true, if_false, Bool.false_eq_true, Bool.not_true, Bool.not_false, wipe, lenE])
  refine Run.set (d := .int (hiN m ps : Nat)) (k1 := k) (evc_b1 h2 (max_lens _ (fre_ne tab) _)) ?_
  simp only [List.set_cons_succ, List.set_cons_zero, List.getElem?_cons_succ, List.getElem?_cons_zero]
  have h3 := ev_fil1 (C := calls (PR lf) (n + 4)) (st := [.fr (tE m ps), .fr (.lst ((fre m ps).map enc)), .fr (.int (hiN m ps : Nat)), .un]) (k := k) (k1 := k) (sk := .it) (a := .v 1) (b := .c .non) (c := .c .non) (cond := .cmp .eq (.b1 .len (.v 3)) (.v 2)) (elt := .v 3) (i := 3) (own := [3])
    enc (fre m ps) (fun c => decide (c.length = hiN m ps)) enc (src_lst (l := (fre m ps).map enc) (by simp only [ev, evs, evAnd, evOr, kb, kp, getV, getB, List.getElem?_cons_succ, List.getElem?_cons_zero, Option.bind_some, List.set_cons_succ, List.set_cons_zero, tru_bl, if_true, if_false, Bool.false_eq_true, Bool.not_true, Bool.not_false])) (fun c hc q => by
      simp only [ev, evs, evAnd, evOr, kb, kp, getV, getB, List.getElem?_cons_succ, List.getElem?_cons_zero, Option.bind_some, List.set_cons_succ, List.set_cons_zero, tru_bl, if_true, if_false, Bool.false_eq_true, Bool.not_true, Bool.not_false, wipe, lenE]
      exact eq_nat _ _ _) (fun c hc _ q => by simp only [ev, evs, evAnd, evOr, kb, kp, getV, getB, List.getElem?_cons_succ, List.getElem?_cons_zero, Option.bind_some, List.set_cons_succ, List.set_cons_zero, tru_bl, if_true, if_false, Bool.false_eq_true, Bool.not_true, Bool.not_false, wipe])
  exact Run.ret (evc_b1 h3 (tuple_lst _ _)) ⟨rfl, rfl⟩
theorem call_need (tab : Tab m ps) (hm : m ≤ 16) (k : Nat) : (calls (PR lf) (n + 6)).cl 24 [tE m ps] k = some (enc (needN m ps), k) := by
  refine call_just (st := [.fr (tE m ps), .un, .un, .un]) (PR_fn (i := 24) (f := .py 1 4 _) rfl) rfl rfl ?_
  refine Run.set (d := enc (allB m ps)) (k1 := k) (by simp only [ev, evs, evAnd, evOr, kb, kp, getV, getB, List.getElem?_cons_succ, List.getElem?_cons_zero, Option.bind_some, List.set_cons_succ, List.set_cons_zero, tru_bl, if_true, if_false, Bool.false_eq_true, Bool.not_true, Bool.not_false]; exact call_allB tab hm k) ?_
  simp only [List.set_cons_succ, List.set_cons_zero, List.getElem?_cons_succ, List.getElem?_cons_zero]
  have h3 := ev_fil1 (C := calls (PR lf) (n + 5)) (st := [.fr (tE m ps), .fr (enc (allB m ps)), .un, .un]) (k := k) (k1 := k) (sk := .r1) (a := .ix (.v 0) (.c (.int 0))) (b := .c .non) (c := .c .non) (cond := .b1 .all (.lc (.one 3) .it (.v 1) (.c .non) (.c .non) (.c (.bl true)) (.inn false (.v 2) (.v 3)) [3])) (elt := .v 2) (i := 2) (own := [2])
    (fun (i : Nat) => .int i) (List.range m) (fun s => (allB m ps).all fun c => decide (s ∈ c)) (fun (i : Nat) => .int i) (src_r1 (by simp only [ev, evs, evAnd, evOr, kb, kp, getV, getB, List.getElem?_cons_succ, List.getElem?_cons_zero, Option.bind_some, List.set_cons_succ, List.set_cons_zero, tru_bl, if_true, if_false, Bool.false_eq_true, Bool.not_true, Bool.not_false, t0]) (by omega)) (fun s hs q => by
      simp only [List.set_cons_succ, List.set_cons_zero, List.getElem?_cons_succ, List.getElem?_cons_zero, wipe]
      have h4 := ev_map1 (C := calls (PR lf) (n + 5)) (st := [.fr (tE m ps), .fr (enc (allB m ps)), .fr (.int (s : Nat)), .un]) (k := q) (k1 := q) (sk := .it) (a := .v 1) (b := .c .non) (c := .c .non) (elt := .inn false (.v 2) (.v 3)) (i := 3) (own := [3])
        enc (allB m ps) (fun c => .bl (decide (s ∈ c))) (src_tup (l := (allB m ps).map enc) (by simp only [ev, evs, evAnd, evOr, kb, kp, getV, getB, List.getElem?_cons_succ, List.getElem?_cons_zero, Option.bind_some, List.set_cons_succ, List.set_cons_zero, tru_bl, if_true, if_false, Bool.false_eq_true, Bool.not_true, Bool.not_false]; rfl)) (fun c hc q => by
          simp only [ev, evs, evAnd, evOr, kb, kp, getV, getB, List.getElem?_cons_succ, List.getElem?_cons_zero, Option.bind_some, List.set_cons_succ, List.set_cons_zero, tru_bl, if_true, if_false, Bool.false_eq_true, Bool.not_true, Bool.not_false, wipe]
          exact in_tup s c (by decide))
      exact evc_b1 h4 (all_eq _ _)) (fun s hs _ q => by simp only [ev, evs, evAnd, evOr, kb, kp, getV, getB, List.getElem?_cons_succ, List.getElem?_cons_zero, Option.bind_some, List.set_cons_succ, List.set_cons_zero, tru_bl, if_true, if_false, Bool.false_eq_true, Bool.not_true, Bool.not_false, wipe])
  exact Run.ret (evc_b1 h3 (tuple_lst _ _)) ⟨rfl, rfl⟩
end G

namespace G
section
variable {lf : List Fd} {n m k L : Nat} {ps : List (Nat × Nat)}
/-! ### codes that grow -/
def growL (ps : List (Nat × Nat)) : List (List Nat) → List (List Nat) → List (List Nat)
  | c, [] => c
  | c, w :: ws => if freeB ps c w = true then growL ps (c ++ [w]) ws else growL ps c ws
theorem growL_app (ws vs : List (List Nat)) : ∀ c, growL ps c (ws ++ vs) = growL ps (growL ps c ws) vs := by
  induction ws with
  | nil => intro c; rfl
  | cons w ws ih =>
    intro c
    show (if freeB ps c w = true then growL ps (c ++ [w]) (ws ++ vs) else growL ps c (ws ++ vs)) = growL ps (if freeB ps c w = true then growL ps (c ++ [w]) ws else growL ps c ws) vs
    split
    · exact ih _
    · exact ih _
theorem growL_snoc (ws : List (List Nat)) (w : List Nat) (c : List (List Nat)) : growL ps c (ws ++ [w]) = if freeB ps (growL ps c ws) w = true then growL ps c ws ++ [w] else growL ps c ws := by
  rw [growL_app]
  rfl
theorem freeB_app (c r : List (List Nat)) (w : List Nat) : freeB ps (c ++ r) w = (freeB ps c w && freeB ps r w) := by
  unfold freeB
  rw [List.any_append, Bool.not_or]
theorem freeB_self (c : List (List Nat)) {w : List Nat} (h : w ∈ c) : freeB ps c w = false := by
  unfold freeB
  rw [Bool.not_eq_false', List.any_eq_true]
  exact ⟨w, h, mwB_self w⟩
theorem grow_spec : ∀ (ws c : List (List Nat)), ∃ r, growL ps c ws = c ++ r ∧ r.Sublist ws ∧ (apart ps c → apart ps (c ++ r)) ∧ ∀ w ∈ ws, freeB ps (c ++ r) w = false
  | [], c => ⟨[], by rw [List.append_nil]; rfl, List.Sublist.slnil, fun h => by rw [List.append_nil]; exact h, fun w hw => absurd hw List.not_mem_nil⟩
  | w :: ws, c => by
    cases e : freeB ps c w with
    | true =>
      obtain ⟨r, h1, h2, h3, h4⟩ := grow_spec ws (c ++ [w])
      refine ⟨w :: r, ?_, h2.cons_cons w, fun h => ?_, fun v hv => ?_⟩
      · show (if freeB ps c w = true then growL ps (c ++ [w]) ws else growL ps c ws) = _
        rw [e, if_pos rfl, h1, List.append_assoc]
        rfl
      · have := h3 (apart_snoc.mpr ⟨h, e⟩)
        rw [List.append_assoc] at this
        exact this
      · rcases List.mem_cons.mp hv with z | z
        · exact freeB_self _ (by rw [z]; simp)
        · have := h4 v z
          rw [List.append_assoc] at this
          exact this
    | false =>
      obtain ⟨r, h1, h2, h3, h4⟩ := grow_spec ws c
      refine ⟨r, ?_, h2.cons w, h3, fun v hv => ?_⟩
      · show (if freeB ps c w = true then growL ps (c ++ [w]) ws else growL ps c ws) = _
        rw [e, if_neg (by decide), h1]
      · rcases List.mem_cons.mp hv with z | z
        · rw [z, freeB_app, e, Bool.false_and]
        · exact h4 v z
theorem grow_full {ws c : List (List Nat)} (h : ∀ w ∈ ws, freeB ps c w = false) : growL ps c ws = c := by
  induction ws with
  | nil => rfl
  | cons w ws ih =>
    show (if freeB ps c w = true then growL ps (c ++ [w]) ws else growL ps c ws) = _
    rw [h w List.mem_cons_self, if_neg (by decide)]
    exact ih fun v hv => h v (List.mem_cons_of_mem _ hv)
def grownN (m : Nat) (ps : List (Nat × Nat)) (c : List (List Nat)) (L : Nat) : List (List Nat) := growL ps c (wordsN m L)
/-- one step: the least that can be added -/
theorem grow_step {ws c : List (List Nat)} {w : List Nat} {r : List (List Nat)} (h : ws.filter (freeB ps c) = w :: r) : growL ps c ws = growL ps (c ++ [w]) ws := by
  obtain ⟨p, q, rfl, h1, h2, _⟩ := List.filter_eq_cons_iff.mp h
  have hp : ∀ v ∈ p, freeB ps c v = false := fun v hv => by
    have := h1 v hv
    simpa using this
  have hp2 : ∀ v ∈ p ++ [w], freeB ps (c ++ [w]) v = false := fun v hv => by
    rcases List.mem_append.mp hv with z | z
    · rw [freeB_app, hp v z, Bool.false_and]
    · exact freeB_self _ (by rw [List.mem_singleton.mp z]; simp)
  have e1 : growL ps c (p ++ w :: q) = growL ps (c ++ [w]) q := by
    rw [growL_app, grow_full hp]
    show (if freeB ps c w = true then growL ps (c ++ [w]) q else growL ps c q) = _
    rw [if_pos h2]
  have e2 : growL ps (c ++ [w]) (p ++ w :: q) = growL ps (c ++ [w]) q := by
    rw [show p ++ w :: q = (p ++ [w]) ++ q by simp, growL_app, grow_full hp2]
  rw [e1, e2]
theorem filt_less {ws c : List (List Nat)} {w : List Nat} {r : List (List Nat)} (h : ws.filter (freeB ps c) = w :: r) : (ws.filter (freeB ps (c ++ [w]))).length < (ws.filter (freeB ps c)).length := by
  have e : ws.filter (freeB ps (c ++ [w])) = (ws.filter (freeB ps c)).filter (freeB ps [w]) := by
    rw [List.filter_filter]
    exact List.filter_congr fun v _ => by rw [freeB_app, Bool.and_comm]
  rw [e, h]
  have : freeB ps [w] w = false := freeB_self _ List.mem_cons_self
  rw [List.filter_cons, this, if_neg (by decide)]
  exact Nat.lt_succ_of_le (List.length_filter_le _ _)
theorem sub_of (r ws : List (List Nat)) (h : r.Sublist ws) : ∀ w ∈ r, w ∈ ws := fun _ hw => h.subset hw
/-! ### the walk -/
theorem call_grown (hm : m ≤ 10000) (hL : L ≤ 10000) (hw : ∀ i ≤ L, m ^ i ≤ 100000) (c : List (List Nat)) (hc : c.length ≤ 100000) : (calls (PR lf) (n + 3)).cl 18 [tE m ps, enc c, .int (L : Nat)] k = some (enc (grownN m ps c L), k) := by
  refine call_just (st := [.fr (tE m ps), .fr (enc c), .fr (.int (L : Nat)), .un, .un]) (PR_fn (i := 18) (f := .py 3 5 _) rfl) rfl rfl ?_
  refine Run.for1 (k1 := k) enc (wordsN m L) (fun pre st q => q = k ∧ ∃ b3 b4, st = [.fr (tE m ps), .fr (enc (growL ps c pre)), .fr (.int (L : Nat)), b3, b4])
    (src_tup (l := (wordsN m L).map enc) (by simp only [ev, evs, evAnd, evOr, kb, kp, getV, getB, List.getElem?_cons_succ, List.getElem?_cons_zero, Option.bind_some, List.set_cons_succ, List.set_cons_zero, tru_bl, if_true, if_false, Bool.false_eq_true, Bool.not_true, Bool.not_false, t0, call_words hm hL hw]; rfl)) ⟨rfl, _, _, rfl⟩ (fun pre w post st q hp hi => ?_) (fun st q hi => ?_)
  · obtain ⟨rfl, b3, b4, rfl⟩ := hi
    simp only [List.set_cons_succ, List.set_cons_zero, List.getElem?_cons_succ, List.getElem?_cons_zero]
    have hgl : (growL ps c pre).length ≤ 300000 := by
      obtain ⟨r, e1, e2, _⟩ := grow_spec (ps := ps) pre c
      have h1 := e2.length_le
      have h2 : pre.length ≤ (wordsN m L).length := by rw [hp, List.length_append]; omega
      have h3 := hw L (Nat.le_refl _)
      rw [wordsN_len] at h2
      rw [e1, List.length_append]
      omega
    have h2 := ev_map1 (C := calls (PR lf) (n + 2)) (i := 4) (own := [4]) (elt := .call 12 [.v 0, .v 3, .v 4]) (st := [.fr (tE m ps), .fr (enc (growL ps c pre)), .fr (.int (L : Nat)), .fr (enc w), b4]) (k := q) (k1 := q) (sk := .it) (a := .v 1) (b := .c .non) (c := .c .non)
      enc (growL ps c pre) (fun o => .bl (mwB ps w o)) (src_tup (l := (growL ps c pre).map enc) (by simp only [ev, evs, evAnd, evOr, kb, kp, getV, getB, List.getElem?_cons_succ, List.getElem?_cons_zero, Option.bind_some, List.set_cons_succ, List.set_cons_zero, tru_bl, if_true, if_false, Bool.false_eq_true, Bool.not_true, Bool.not_false]; rfl)) (fun o ho q => by simp only [ev, evs, evAnd, evOr, kb, kp, getV, getB, List.getElem?_cons_succ, List.getElem?_cons_zero, Option.bind_some, List.set_cons_succ, List.set_cons_zero, tru_bl, if_true, if_false, Bool.false_eq_true, Bool.not_true, Bool.not_false, wipe, call_mixed_words])
    have h3 := evc_b1 h2 (any_eq _ _)
    have h4 := evc_not (v := (growL ps c pre).any fun o => mwB ps w o) h3 rfl
    refine Run.iteB (b := freeB ps (growL ps c pre) w) (k1 := q) h4 rfl (fun hb => ?_) (fun hb => ?_)
    · have ad : ∀ q, addD (enc (growL ps c pre)) (.tup [enc w]) q = some (enc (growL ps c pre ++ [w]), q) := fun q => add_enc (growL ps c pre) [w] q (by rw [List.length_singleton]; omega)
      refine Run.set (d := enc (growL ps c pre ++ [w])) (k1 := q) (by simp only [ev, evs, evAnd, evOr, kb, kp, getV, getB, List.getElem?_cons_succ, List.getElem?_cons_zero, Option.bind_some, List.set_cons_succ, List.set_cons_zero, tru_bl, if_true, if_false, Bool.false_eq_true, Bool.not_true, Bool.not_false, ad]) ?_
      simp only [List.set_cons_succ, List.set_cons_zero, List.getElem?_cons_succ, List.getElem?_cons_zero]
      exact Run.nil (Run.nil ⟨rfl, _, _, by rw [growL_snoc, if_pos hb]⟩)
    · exact Run.nil (Run.nil ⟨rfl, _, _, by rw [growL_snoc, if_neg (by rw [hb]; decide)]⟩)
  · obtain ⟨rfl, b3, b4, rfl⟩ := hi
    exact Run.ret (by simp only [ev, evs, evAnd, evOr, kb, kp, getV, getB, List.getElem?_cons_succ, List.getElem?_cons_zero, Option.bind_some, List.set_cons_succ, List.set_cons_zero, tru_bl, if_true, if_false, Bool.false_eq_true, Bool.not_true, Bool.not_false]; rfl) ⟨rfl, rfl⟩
/-! ### codes and the most -/
theorem apart_of {c : List (List Nat)} (h : apart ps c) {u v : List Nat} (hu : u ∈ c) (hv : v ∈ c) (ne : u ≠ v) : mwB ps u v = false := by
  induction c with
  | nil => cases hu
  | cons a c ih =>
    obtain ⟨h1, h2⟩ := List.pairwise_cons.mp h
    rcases List.mem_cons.mp hu with z | z <;> rcases List.mem_cons.mp hv with y | y
    · exact absurd (z.trans y.symm) ne
    · rw [z]; exact h1 v y
    · rw [y, mwB_comm]; exact h1 u z
    · exact ih h2 z y
theorem apart_nd {c : List (List Nat)} (h : apart ps c) : c.Nodup := h.imp fun {u v} e z => by rw [z, mwB_self] at e; cases e
def wd (m L i : Nat) : List Nat := (wordsN m L).getD i []
theorem wd_mem {i : Nat} (hi : i < m ^ L) : wd m L i ∈ wordsN m L := by
  unfold wd
  rw [getD_lt (by rw [wordsN_len]; exact hi)]
  exact List.getElem_mem _
theorem wd_lt {i j : Nat} (hij : i < j) (hj : j < m ^ L) : ltbs (wd m L i) (wd m L j) = true := by
  unfold wd
  rw [getD_lt (by rw [wordsN_len]; omega), getD_lt (by rw [wordsN_len]; exact hj)]
  exact List.pairwise_iff_getElem.mp (wordsN_so L) i j _ _ hij
theorem wd_at {w : List Nat} (h : w ∈ wordsN m L) : (wordsN m L).idxOf w < m ^ L ∧ wd m L ((wordsN m L).idxOf w) = w := by
  have h1 : (wordsN m L).idxOf w < (wordsN m L).length := List.idxOf_lt_length_of_mem h
  refine ⟨by rw [wordsN_len] at h1; exact h1, ?_⟩
  unfold wd
  rw [getD_lt h1]
  exact List.getElem_idxOf h1
theorem powA_wd (hm : 0 < m) {i j : Nat} (hi : i < m ^ L) (hj : j < m ^ L) : powA m ps L i j = mwB ps (wd m L i) (wd m L j) := by
  unfold powA wd
  rw [wordsN_at hm hi, wordsN_at hm hj]
theorem code_ind (hm : 0 < m) {c : List (List Nat)} (ha : apart ps c) (hw : ∀ w ∈ c, w ∈ wordsN m L) : IsInd (powA m ps L) (fun i => i < m ^ L) (c.map fun w => (wordsN m L).idxOf w) := by
  refine ⟨?_, fun x hx => ?_, fun x hx y hy ne => ?_⟩
  · refine List.Pairwise.map _ (R := fun u v => u ∈ c ∧ v ∈ c ∧ u ≠ v) (fun u v h z => ?_) ((List.Pairwise.and_mem.mp (apart_nd ha)))
    apply h.2.2
    have h1 := (wd_at (hw u h.1)).2
    rw [z, (wd_at (hw v h.2.1)).2] at h1
    exact h1.symm
  · obtain ⟨w, hc, rfl⟩ := List.mem_map.mp hx
    exact (wd_at (hw w hc)).1
  · obtain ⟨u, hu, rfl⟩ := List.mem_map.mp hx
    obtain ⟨v, hv, rfl⟩ := List.mem_map.mp hy
    rw [powA_wd hm (wd_at (hw u hu)).1 (wd_at (hw v hv)).1, (wd_at (hw u hu)).2, (wd_at (hw v hv)).2]
    exact apart_of ha hu hv fun z => ne (by rw [z])
theorem code_le (hm : 0 < m) (hN : m ^ L ≤ 27) {c : List (List Nat)} (ha : apart ps c) (hw : ∀ w ∈ c, w ∈ wordsN m L) : c.length ≤ mostN m ps L := by
  have := (most_ok (ps := ps) hm hN).2 _ (code_ind hm ha hw)
  rwa [List.length_map] at this
def bestW (m : Nat) (ps : List (Nat × Nat)) (L : Nat) : List (List Nat) := (bestN m ps L).map fun i => (wordsN m L).getD i []
theorem bestW_ok (hm : 0 < m) (hN : m ^ L ≤ 27) : apart ps (bestW m ps L) ∧ (∀ w ∈ bestW m ps L, w ∈ wordsN m L) ∧ (bestW m ps L).length = mostN m ps L ∧ (bestW m ps L).Pairwise fun u v => ltbs u v = true := by
  obtain ⟨h1, h2, h3, _⟩ := best_ok (ps := ps) hm hN
  have hmem : ∀ i ∈ bestN m ps L, i < m ^ L := h1.2.1
  refine ⟨?_, fun w hw => ?_, by unfold bestW; rw [List.length_map]; exact h2, ?_⟩
  · refine List.Pairwise.map _ (R := fun i j => i ∈ bestN m ps L ∧ j ∈ bestN m ps L ∧ i < j) (fun i j h => ?_) (List.Pairwise.and_mem.mp h3)
    have := h1.2.2 i h.1 j h.2.1 (Nat.ne_of_lt h.2.2)
    rw [powA_wd hm (hmem i h.1) (hmem j h.2.1)] at this
    exact this
  · obtain ⟨i, hi, rfl⟩ := List.mem_map.mp hw
    exact wd_mem (hmem i hi)
  · refine List.Pairwise.map _ (R := fun i j => i ∈ bestN m ps L ∧ j ∈ bestN m ps L ∧ i < j) (fun i j h => ?_) (List.Pairwise.and_mem.mp h3)
    exact wd_lt h.2.2 (hmem j h.2.1)
theorem best_full (hm : 0 < m) (hN : m ^ L ≤ 27) : ∀ w ∈ wordsN m L, freeB ps (bestW m ps L) w = false := fun w hw => by
  cases e : freeB ps (bestW m ps L) w with
  | false => rfl
  | true =>
    exfalso
    obtain ⟨h1, h2, h3, _⟩ := bestW_ok (ps := ps) hm hN
    have := code_le hm hN (apart_snoc.mpr ⟨h1, e⟩) (fun v hv => by
      rcases List.mem_append.mp hv with z | z
      · exact h2 v z
      · rw [List.mem_singleton.mp z]; exact hw)
    rw [List.length_append, List.length_singleton] at this
    omega
/-! ### tables without pairs, with all -/
theorem mw_nil : ∀ {u v : List Nat}, u.length = v.length → mwB [] u v = decide (u = v)
  | [], [], _ => rfl
  | a :: u, b :: v, h => by
    show (mixB [] a b && mwB [] u v) = _
    rw [mw_nil (u := u) (v := v) (by simpa using h)]
    simp [mixB]
theorem grow_nil {ws c : List (List Nat)} (nd : (c ++ ws).Nodup) (hl : ∀ w ∈ c ++ ws, w.length = L) : growL [] c ws = c ++ ws := by
  induction ws generalizing c with
  | nil => rw [List.append_nil]; rfl
  | cons w ws ih =>
    have hf : freeB [] c w = true := by
      unfold freeB
      rw [Bool.not_eq_true', List.any_eq_false]
      intro o ho
      rw [mw_nil ((hl w (by simp)).trans (hl o (List.mem_append_left _ ho)).symm), decide_eq_true_eq]
      intro z
      rw [List.nodup_append] at nd
      exact nd.2.2 o ho w (by simp) z.symm
    show (if freeB [] c w = true then growL [] (c ++ [w]) ws else growL [] c ws) = _
    rw [if_pos hf, ih (by rw [List.append_assoc]; exact nd) (by rw [List.append_assoc]; exact hl), List.append_assoc]
    rfl
theorem mw_all {ps : List (Nat × Nat)} (h : ∀ a b, a < m → b < m → mixB ps a b = true) : ∀ {u v : List Nat}, (∀ s ∈ u, s < m) → (∀ s ∈ v, s < m) → mwB ps u v = true
  | [], _, _, _ => by simp [mwB]
  | _ :: _, [], _, _ => by simp [mwB]
  | a :: u, b :: v, hu, hv => by
    show (mixB ps a b && mwB ps u v) = true
    rw [h a b (hu a List.mem_cons_self) (hv b List.mem_cons_self), mw_all h (fun s hs => hu s (List.mem_cons_of_mem _ hs)) (fun s hs => hv s (List.mem_cons_of_mem _ hs))]
    rfl
theorem tur_nil {a b : Nat} (ha : a < m) (hb : b < m) : mixB (pairsOf m fun i j => !mixB [] i j) a b = true := by
  have key : ∀ {a b : Nat}, a < b → b < m → mixB (pairsOf m fun i j => !mixB [] i j) a b = true := fun {a b} h hb => by
    rw [mixB_pairsOf h hb]
    simp [mixB, Nat.ne_of_lt h]
  rcases Nat.lt_trichotomy a b with z | z | z
  · exact key z hb
  · rw [z, mixB_self]
  · rw [mixB_comm]; exact key z ha
/-! ### rising rows of words -/
theorem sort_so {c : List (List Nat)} (h : c.Pairwise fun u v => ltbs u v = true) : sortE c = c := by
  unfold sortE
  refine List.mergeSort_of_pairwise (h.imp fun {u v} h => ?_)
  show (!ltbs v u) = true
  rw [ltbs_asy u v h]
  rfl
theorem sortedT_so {c : List (List Nat)} (hl : ∀ w ∈ c, w.length = L) (h : c.Pairwise fun u v => ltbs u v = true) (q : Nat) : f1D .sorted (enc c) q = some (.lst (c.map enc), q) := by
  cases L with
  | zero =>
    refine sortT_one (by decide) ?_ q
    match c, hl, h with
    | [], _, _ => exact Nat.zero_le 1
    | [a], _, _ => exact Nat.le_refl 1
    | a :: b :: r, hl, h =>
      have e1 : a = [] := List.length_eq_zero_iff.mp (hl a (by simp))
      have e2 : b = [] := List.length_eq_zero_iff.mp (hl b (by simp))
      have := (List.pairwise_cons.mp h).1 b (by simp)
      rw [e1, e2] at this
      cases this
  | succ L =>
    rw [sortedT_enc (by decide) ?_ q, sort_so h]
    rw [Bool.or_eq_true]
    refine .inl (List.all_eq_true.mpr fun d hd => ?_)
    obtain ⟨w, hw, rfl⟩ := List.mem_map.mp hd
    have hl := hl w hw
    cases w with
    | nil => simp at hl
    | cons a w => rfl
end
end G

namespace G
section
variable {α : Type} [DecidableEq α] [Enc α]
theorem ngI (q : Nat) : negD (.int 1) q = some (.int (-1), q) := rfl
theorem cut_m1 {α : Type} (l : List α) : cut l none (some (-1)) = l.take (l.length - 1) := by
  unfold cut cutIx
  simp only [List.drop_zero, Nat.sub_zero]
  rw [if_neg (by decide)]
  congr 1
  omega
theorem slh_m1 (l : List α) (q : Nat) : slhD (enc l) (.int (-1)) q = some (enc (l.take (l.length - 1)), q) := by
  show some (D.tup (cut (l.map enc) none (some (-1))), q) = some (D.tup ((l.take (l.length - 1)).map enc), q)
  rw [cut_m1, List.length_map, List.map_take]
theorem ix_m1 (l : List α) (a : α) (q : Nat) : ixD (enc (l ++ [a])) (.int (-1)) q = some (enc a, q) := by
  show opt (atI ((l ++ [a]).map enc) (-1)) q = _
  have : atI ((l ++ [a]).map enc) (-1) = some (enc a) := by
    unfold atI
    rw [if_neg (by decide), if_pos (by simp; omega)]
    have e : ((-1 : Int) + (((l ++ [a]).map enc).length : Nat)).toNat = l.length := by simp; omega
    rw [e]
    simp
  rw [this]
  rfl
theorem tru_enc (l : List α) (q : Nat) : tru (enc l) q = some (!l.isEmpty, q) := by cases l <;> rfl
end
end G

namespace L_k19
open G
variable {n m k L : Nat} {ps : List (Nat × Nat)}
theorem PLf {i : Nat} {f : Fd} (h : lawFns[i]? = some f) : PL.fns[61 + i]? = some f := PR_ex h
theorem hd : IsDraw PL 61 := isDraw2 (PLf (i := 0) rfl)
theorem hp : PL.fns[62]? = some (pickF 61) := PLf (i := 1) rfl
theorem ht : PL.fns[63]? = some (table2 61 62) := PLf (i := 2) rfl
theorem pow27 (h0 : 0 < m) (h5 : m ≤ 5) (h : L ≤ (if m < 4 then 3 else 2)) : ∀ i ≤ L, m ^ i ≤ 27 := fun i hi => by
  have h1 : m ^ i ≤ m ^ L := Nat.pow_le_pow_right h0 hi
  refine Nat.le_trans h1 ?_
  split at h
  · exact Nat.le_trans (Nat.pow_le_pow_left (show m ≤ 3 by omega) L) (Nat.le_trans (Nat.pow_le_pow_right (by decide) h) (by decide))
  · exact Nat.le_trans (Nat.pow_le_pow_left (show m ≤ 5 by omega) L) (Nat.le_trans (Nat.pow_le_pow_right (by decide) h) (by decide))
theorem code_len {c : List (List Nat)} (ha : apart ps c) (hw : ∀ w ∈ c, w ∈ wordsN m L) (hN : m ^ L ≤ 27) : c.length ≤ 27 := by
  have := nodup_sub (apart_nd ha) hw
  rw [wordsN_len] at this
  omega
theorem call_lcode (ns : List Int) (hm : 0 < m) (hL : L ≤ 3) (hk : k + 100 < 16777215) : ∃ c k', apart ps c ∧ (∀ w ∈ c, w ∈ wordsN m L) ∧ c.length ≤ 3 ∧ k' ≤ k + 20 ∧ (calls PL (n + 6)).cl 65 [.scr ns, .town, tE m ps, .int (L : Nat)] k = some (enc c, k') := by
  obtain ⟨r, hr, e⟩ := hd (n + 4) ns 4 k (by decide) (by omega)
  have e' : (calls PL (n + 5)).cl 61 [.scr ns, .town, .int 4] k = some (.int (r : Nat), k + 1) := e
  obtain ⟨d', k2, e2, c, h1, h2, h3, h4, rfl⟩ := call_run (n := n + 5) (args := [.scr ns, .town, tE m ps, .int (L : Nat)]) (st := [_, _, _, _, .un, .un, .un, .un]) (k := k) (Q := fun d q => ∃ c, apart ps c ∧ (∀ w ∈ c, w ∈ wordsN m L) ∧ c.length ≤ 3 ∧ q ≤ k + 20 ∧ d = enc c) (PLf (i := 4) rfl) rfl rfl (by
    refine Run.set (d := enc ([] : List (List Nat))) (k1 := k) (by simp only [ev, evs, evAnd, evOr, kb, kp, getV, getB, List.getElem?_cons_succ, List.getElem?_cons_zero, Option.bind_some, List.set_cons_succ, List.set_cons_zero, tru_bl, if_true, if_false, Bool.false_eq_true, Bool.not_true, Bool.not_false]; rfl) ?_
    simp only [List.set_cons_succ, List.set_cons_zero, List.getElem?_cons_succ, List.getElem?_cons_zero]
    refine Run.for1 (k1 := k + 1) (fun (i : Nat) => .int i) (List.range r) (fun pre st q => q ≤ k + 1 + 3 * pre.length ∧ ∃ c a5 a6 a7, apart ps c ∧ (∀ w ∈ c, w ∈ wordsN m L) ∧ c.length ≤ pre.length ∧ st = [.fr (.scr ns), .fr .town, .fr (tE m ps), .fr (.int (L : Nat)), .fr (enc c), a5, a6, a7])
      (src_r1 (n := r) (by simp only [ev, evs, evAnd, evOr, kb, kp, getV, getB, List.getElem?_cons_succ, List.getElem?_cons_zero, Option.bind_some, List.set_cons_succ, List.set_cons_zero, tru_bl, if_true, if_false, Bool.false_eq_true, Bool.not_true, Bool.not_false, e']) (by omega)) ⟨by omega, [], _, _, _, List.Pairwise.nil, by simp, by simp, rfl⟩ (fun pre i post st q hp hi => ?_) (fun st q hi => ?_)
    · obtain ⟨hq, c, a5, a6, a7, h1, h2, h3, rfl⟩ := hi
      have hpl : pre.length < r := by
        have := congrArg List.length hp
        simp at this
        omega
      simp only [List.set_cons_succ, List.set_cons_zero, List.getElem?_cons_succ, List.getElem?_cons_zero]
      obtain ⟨w, q2, e3, h4, h5, h6⟩ := ev_mapT' (C := calls PL (n + 5)) (st := [.fr (.scr ns), .fr .town, .fr (tE m ps), .fr (.int (L : Nat)), .fr (enc c), .fr (.int (i : Nat)), a6, a7]) (k := q) (k1 := q) (a := .v 3) (elt := .call 61 [.v 0, .v 1, .ix (.v 2) (.c (.int 0))]) (i := 7) (own := [7]) (t := 1) (B := q + L) (fun (i : Nat) => .int i) (List.range L) enc (fun r : Nat => r < m)
        (src_r1 (by simp only [ev, evs, evAnd, evOr, kb, kp, getV, getB, List.getElem?_cons_succ, List.getElem?_cons_zero, Option.bind_some, List.set_cons_succ, List.set_cons_zero, tru_bl, if_true, if_false, Bool.false_eq_true, Bool.not_true, Bool.not_false]) (by omega)) (by rw [List.length_range]; omega) (fun x hx s hs => by
          obtain ⟨r, hr, e⟩ := hd (n + 4) ns m s hm (by omega)
          exact ⟨r, s + 1, by simp only [ev, evs, evAnd, evOr, kb, kp, getV, getB, List.getElem?_cons_succ, List.getElem?_cons_zero, Option.bind_some, List.set_cons_succ, List.set_cons_zero, tru_bl, if_true, if_false, Bool.false_eq_true, Bool.not_true, Bool.not_false, wipe, t0]; exact e, by omega, hr⟩)
      rw [List.length_range] at h4 h5
      refine Run.set (d := enc w) (k1 := q2) (evc_b1 e3 (tuple_lst _ _)) ?_
      simp only [List.set_cons_succ, List.set_cons_zero, List.getElem?_cons_succ, List.getElem?_cons_zero]
      have ad : ∀ q, addD (enc c) (.tup [enc w]) q = some (enc (c ++ [w]), q) := fun q => add_enc c [w] q (by rw [List.length_singleton]; omega)
      have ic : ∀ q, (calls PL (n + 5)).cl 15 [tE m ps, enc (c ++ [w])] q = some (.bl (clashN ps (c ++ [w])).isNone, q) := fun q => call_is_code _ (by rw [List.length_append, List.length_singleton]; omega)
      refine Run.iteB (d := .bl (clashN ps (c ++ [w])).isNone) (b := (clashN ps (c ++ [w])).isNone) (k1 := q2) (by simp only [ev, evs, evAnd, evOr, kb, kp, getV, getB, List.getElem?_cons_succ, List.getElem?_cons_zero, Option.bind_some, List.set_cons_succ, List.set_cons_zero, tru_bl, if_true, if_false, Bool.false_eq_true, Bool.not_true, Bool.not_false, ad, ic]) rfl (fun hb => ?_) (fun hb => ?_)
      · refine Run.set (d := enc (c ++ [w])) (k1 := q2) (by simp only [ev, evs, evAnd, evOr, kb, kp, getV, getB, List.getElem?_cons_succ, List.getElem?_cons_zero, Option.bind_some, List.set_cons_succ, List.set_cons_zero, tru_bl, if_true, if_false, Bool.false_eq_true, Bool.not_true, Bool.not_false, ad]) ?_
        simp only [List.set_cons_succ, List.set_cons_zero, List.getElem?_cons_succ, List.getElem?_cons_zero]
        refine Run.nil (Run.nil ⟨by rw [List.length_append, List.length_singleton]; omega, c ++ [w], _, _, _, clash_none.mp (Option.isNone_iff_eq_none.mp hb), fun v hv => ?_, by rw [List.length_append, List.length_append, List.length_singleton, List.length_singleton]; omega, rfl⟩)
        rcases List.mem_append.mp hv with z | z
        · exact h2 v z
        · rw [List.mem_singleton.mp z]
          exact wordsN_mem.mpr ⟨h5, h6⟩
      · exact Run.nil (Run.nil ⟨by rw [List.length_append, List.length_singleton]; omega, c, _, _, _, h1, h2, by rw [List.length_append, List.length_singleton]; omega, rfl⟩)
    · obtain ⟨hq, c, a5, a6, a7, h1, h2, h3, rfl⟩ := hi
      rw [List.length_range] at hq h3
      exact Run.ret (d := enc c) (k1 := q) (by simp only [ev, evs, evAnd, evOr, kb, kp, getV, getB, List.getElem?_cons_succ, List.getElem?_cons_zero, Option.bind_some, List.set_cons_succ, List.set_cons_zero, tru_bl, if_true, if_false, Bool.false_eq_true, Bool.not_true, Bool.not_false]) ⟨c, h1, h2, by omega, by omega, rfl⟩)
  exact ⟨c, k2, h1, h2, h3, h4, e2⟩
theorem call_lone (hm : m ≤ 5) (hL : L ≤ 3) (hw : ∀ i ≤ L, m ^ i ≤ 27) (c : List (List Nat)) (hc : c.length ≤ 100) (k : Nat) : (calls PL (n + 4)).cl 66 [tE m ps, enc c, .int (L : Nat)] k = some (enc (grownN m ps c L), k) := by
  have hw2 : ∀ i ≤ L, m ^ i ≤ 100000 := fun i hi => Nat.le_trans (hw i hi) (by decide)
  have ad : ∀ f q, (calls PL (n + 3)).cl 16 [tE m ps, enc f, .int (L : Nat)] q = some (enc ((wordsN m L).filter (freeB ps f)), q) := fun f q => call_addable (by omega) (by omega) hw2 f
  refine call_just (n := n + 3) (st := [.fr (tE m ps), .fr (enc c), .fr (.int (L : Nat)), .un, .un]) (PLf (i := 5) rfl) rfl rfl ?_
  refine Run.set (d := enc c) (k1 := k) (by simp only [ev, evs, evAnd, evOr, kb, kp, getV, getB, List.getElem?_cons_succ, List.getElem?_cons_zero, Option.bind_some, List.set_cons_succ, List.set_cons_zero, tru_bl, if_true, if_false, Bool.false_eq_true, Bool.not_true, Bool.not_false]) ?_
  simp only [List.set_cons_succ, List.set_cons_zero, List.getElem?_cons_succ, List.getElem?_cons_zero]
  refine Run.set (d := enc ((wordsN m L).filter (freeB ps c))) (k1 := k) (by simp only [ev, evs, evAnd, evOr, kb, kp, getV, getB, List.getElem?_cons_succ, List.getElem?_cons_zero, Option.bind_some, List.set_cons_succ, List.set_cons_zero, tru_bl, if_true, if_false, Bool.false_eq_true, Bool.not_true, Bool.not_false, ad]) ?_
  simp only [List.set_cons_succ, List.set_cons_zero, List.getElem?_cons_succ, List.getElem?_cons_zero]
  have l27 : ∀ f : List (List Nat), ((wordsN m L).filter (freeB ps f)).length ≤ 27 := fun f => Nat.le_trans (List.length_filter_le _ _) (by rw [wordsN_len]; exact hw L (Nat.le_refl _))
  refine Run.whl (fun t st q => q = k ∧ ∃ f, t = ((wordsN m L).filter (freeB ps f)).length ∧ grownN m ps f L = grownN m ps c L ∧ f.length + t ≤ 200 ∧ st = [.fr (tE m ps), .fr (enc c), .fr (.int (L : Nat)), .fr (enc f), .fr (enc ((wordsN m L).filter (freeB ps f)))]) ((wordsN m L).filter (freeB ps c)).length (by have := l27 c; omega) ⟨rfl, c, rfl, rfl, by have := l27 c; omega, rfl⟩ (fun t st q hi => ?_)
  obtain ⟨rfl, f, rfl, hg, hf, rfl⟩ := hi
  have ne : ∀ q, cmpM .ne (enc ((wordsN m L).filter (freeB ps f))) (.tup []) q = some (.bl (!decide ((wordsN m L).filter (freeB ps f) = [])), q) := fun q => cmp_ne' ((wordsN m L).filter (freeB ps f)) [] q (by decide)
  refine ⟨.bl (!decide ((wordsN m L).filter (freeB ps f) = [])), _, q, by simp only [ev, evs, evAnd, evOr, kb, kp, getV, getB, List.getElem?_cons_succ, List.getElem?_cons_zero, Option.bind_some, List.set_cons_succ, List.set_cons_zero, tru_bl, if_true, if_false, Bool.false_eq_true, Bool.not_true, Bool.not_false, ne], rfl, fun hb => ?_, fun hb => ?_⟩
  · cases e : (wordsN m L).filter (freeB ps f) with
    | nil => rw [e] at hb; simp at hb
    | cons w r =>
      have a1 : ∀ q, slhD (enc (w :: r)) (.int 1) q = some (enc [w], q) := fun q => slh_enc (w :: r) 1 q
      have a2 : ∀ q, addD (enc f) (enc [w]) q = some (enc (f ++ [w]), q) := fun q => add_enc f [w] q (by rw [List.length_singleton]; omega)
      refine Run.set (d := enc (f ++ [w])) (k1 := q) (by simp only [ev, evs, evAnd, evOr, kb, kp, getV, getB, List.getElem?_cons_succ, List.getElem?_cons_zero, Option.bind_some, List.set_cons_succ, List.set_cons_zero, tru_bl, if_true, if_false, Bool.false_eq_true, Bool.not_true, Bool.not_false, a1, a2]) ?_
      simp only [List.set_cons_succ, List.set_cons_zero, List.getElem?_cons_succ, List.getElem?_cons_zero]
      refine Run.set (d := enc ((wordsN m L).filter (freeB ps (f ++ [w])))) (k1 := q) (by simp only [ev, evs, evAnd, evOr, kb, kp, getV, getB, List.getElem?_cons_succ, List.getElem?_cons_zero, Option.bind_some, List.set_cons_succ, List.set_cons_zero, tru_bl, if_true, if_false, Bool.false_eq_true, Bool.not_true, Bool.not_false, ad]) ?_
      simp only [List.set_cons_succ, List.set_cons_zero, List.getElem?_cons_succ, List.getElem?_cons_zero]
      have hl := filt_less e
      rw [e] at hl hf
      refine Run.nil ⟨_, hl, rfl, f ++ [w], rfl, ?_, ?_, rfl⟩
      · rw [← hg]
        exact (grow_step e).symm
      · rw [List.length_append, List.length_singleton]
        omega
  · have e : (wordsN m L).filter (freeB ps f) = [] := by simpa using hb
    refine Run.ret (d := enc f) (k1 := q) (by simp only [ev, evs, evAnd, evOr, kb, kp, getV, getB, List.getElem?_cons_succ, List.getElem?_cons_zero, Option.bind_some, List.set_cons_succ, List.set_cons_zero, tru_bl, if_true, if_false, Bool.false_eq_true, Bool.not_true, Bool.not_false]) ⟨?_, rfl⟩
    rw [← hg]
    show enc f = enc (growL ps f (wordsN m L))
    rw [grow_full fun w hw => by
      have := List.filter_eq_nil_iff.mp e w hw
      simpa using this]
def turn : List S := match lawBody with
  | .for _ _ _ _ _ t :: _ => t
  | _ => []
theorem body_eq : lawBody = [.for (.one 2) .r1 (.c (.int 4)) (.c .non) (.c .non) turn, .ret (.c (.bl true))] := rfl
theorem full_of {c : List (List Nat)} (h : ∀ w ∈ wordsN m L, freeB ps c w = false) : decide ((wordsN m L).filter (freeB ps c) = []) = true := decide_eq_true (List.filter_eq_nil_iff.mpr fun w hw => by rw [h w hw]; decide)
theorem turn_ok (ns : List Int) (a2 a3 a4 a5 a6 a7 a8 a9 a10 : Sl) (k : Nat) (hk : k + 1000 < 16777215) :
    Run (calls PL 64) turn [.fr (.scr ns), .fr .town, a2, a3, a4, a5, a6, a7, a8, a9, a10] k (fun st fl k' => fl = .nx ∧ k' ≤ k + 100 ∧ ∃ a2 a3 a4 a5 a6 a7 a8 a9 a10, st = [.fr (.scr ns), .fr .town, a2, a3, a4, a5, a6, a7, a8, a9, a10]) := by
  unfold turn lawBody
  obtain ⟨m, ps, k1, m0, m5, tab, hk1, e1⟩ := call_table2 (n := 61) (k := k) (top := 5) hd hp ht ns (by decide) (by decide) (by omega)
  have e1' : (calls PL 64).cl 63 [.scr ns, .town, .int 5] k = some (tE m ps, k1) := e1
  refine Run.set (d := tE m ps) (k1 := k1) (by simp only [ev, evs, evAnd, evOr, kb, kp, getV, getB, List.getElem?_cons_succ, List.getElem?_cons_zero, Option.bind_some, List.set_cons_succ, List.set_cons_zero, tru_bl, if_true, if_false, Bool.false_eq_true, Bool.not_true, Bool.not_false, e1']) ?_
  simp only [List.set_cons_succ, List.set_cons_zero, List.getElem?_cons_succ, List.getElem?_cons_zero]
  obtain ⟨L, L0, L3, hL⟩ : ∃ L : Nat, 0 < L ∧ L ≤ (if m < 4 then 3 else 2) ∧ evs (calls PL 64) [.ix (.v 3) (.c (.int 0)), .add (.c (.int 1)) (.call 61 [.v 0, .v 1, .ite (.cmp .lt (.ix (.v 3) (.c (.int 0))) (.c (.int 4))) (.c (.int 3)) (.c (.int 2))])] [.fr (.scr ns), .fr .town, a2, .fr (tE m ps), a4, a5, a6, a7, a8, a9, a10] k1 = some ([.int (m : Nat), .int (L : Nat)], k1 + 1) := by
    have lt4 : ∀ q, cmpM .lt (.int (m : Nat)) (.int 4) q = some (.bl (decide (m < 4)), q) := fun q => lt_nat m 4 q
    by_cases h : m < 4
    · obtain ⟨r, hr, e⟩ := hd 63 ns 3 k1 (by decide) (by omega)
      have e' : (calls PL 64).cl 61 [.scr ns, .town, .int 3] k1 = some (.int (r : Nat), k1 + 1) := e
      have e0 : ∀ q, addD (.int 1) (.int (r : Nat)) q = some (.int ((1 + r : Nat) : Int), q) := fun q => add_nat 1 r q
      exact ⟨1 + r, by omega, by rw [if_pos h]; omega, by simp only [ev, evs, evAnd, evOr, kb, kp, getV, getB, List.getElem?_cons_succ, List.getElem?_cons_zero, Option.bind_some, List.set_cons_succ, List.set_cons_zero, tru_bl, if_true, if_false, Bool.false_eq_true, Bool.not_true, Bool.not_false, t0, lt4, decide_eq_true h, e', e0]⟩
    · obtain ⟨r, hr, e⟩ := hd 63 ns 2 k1 (by decide) (by omega)
      have e' : (calls PL 64).cl 61 [.scr ns, .town, .int 2] k1 = some (.int (r : Nat), k1 + 1) := e
      have e0 : ∀ q, addD (.int 1) (.int (r : Nat)) q = some (.int ((1 + r : Nat) : Int), q) := fun q => add_nat 1 r q
      exact ⟨1 + r, by omega, by rw [if_neg h]; omega, by simp only [ev, evs, evAnd, evOr, kb, kp, getV, getB, List.getElem?_cons_succ, List.getElem?_cons_zero, Option.bind_some, List.set_cons_succ, List.set_cons_zero, tru_bl, if_true, if_false, Bool.false_eq_true, Bool.not_true, Bool.not_false, t0, lt4, decide_eq_false h, e', e0]⟩
  refine Run.par2 (x := .int (m : Nat)) (y := .int (L : Nat)) (k1 := k1 + 1) hL ?_
  simp only [List.set_cons_succ, List.set_cons_zero, List.getElem?_cons_succ, List.getElem?_cons_zero, slOf]
  have hw := pow27 m0 m5 L3
  have hw2 : ∀ i ≤ L, m ^ i ≤ 100000 := fun i hi => Nat.le_trans (hw i hi) (by decide)
  have hN := hw L (Nat.le_refl _)
  have L4 : L ≤ 3 := by
    split at L3 <;> omega
  -- the code
  obtain ⟨c, k2, ha, hcw, hcl, hk2, e2⟩ := call_lcode (n := 58) (k := k1 + 1) (m := m) (L := L) (ps := ps) ns m0 L4 (by omega)
  have e2' : (calls PL 64).cl 65 [.scr ns, .town, tE m ps, .int (L : Nat)] (k1 + 1) = some (enc c, k2) := e2
  refine Run.set (d := enc c) (k1 := k2) (by simp only [ev, evs, evAnd, evOr, kb, kp, getV, getB, List.getElem?_cons_succ, List.getElem?_cons_zero, Option.bind_some, List.set_cons_succ, List.set_cons_zero, tru_bl, if_true, if_false, Bool.false_eq_true, Bool.not_true, Bool.not_false, e2']) ?_
  simp only [List.set_cons_succ, List.set_cons_zero, List.getElem?_cons_succ, List.getElem?_cons_zero]
  have gr : ∀ (f : List (List Nat)) q, f.length ≤ 100 → (calls PL 64).cl 18 [tE m ps, enc f, .int (L : Nat)] q = some (enc (grownN m ps f L), q) := fun f q hf => call_grown (n := 61) (by omega) (by omega) hw2 f (by omega)
  refine Run.set (d := enc (grownN m ps c L)) (k1 := k2) (by simp only [ev, evs, evAnd, evOr, kb, kp, getV, getB, List.getElem?_cons_succ, List.getElem?_cons_zero, Option.bind_some, List.set_cons_succ, List.set_cons_zero, tru_bl, if_true, if_false, Bool.false_eq_true, Bool.not_true, Bool.not_false, gr c _ (by omega : c.length ≤ 100)]) ?_
  simp only [List.set_cons_succ, List.set_cons_zero, List.getElem?_cons_succ, List.getElem?_cons_zero]
  obtain ⟨r, g1, g2, g3, g4⟩ := grow_spec (ps := ps) (wordsN m L) c
  have g1' : grownN m ps c L = c ++ r := g1
  have ga := g3 ha
  have gw : ∀ w ∈ c ++ r, w ∈ wordsN m L := fun w hw => by
    rcases List.mem_append.mp hw with z | z
    · exact hcw w z
    · exact g2.subset z
  have gl : (c ++ r).length ≤ 27 := code_len ga gw hN
  rw [g1']
  have on : ∀ q, (calls PL 64).cl 66 [tE m ps, enc c, .int (L : Nat)] q = some (enc (c ++ r), q) := fun q => by
    rw [← g1']
    exact call_lone (n := 60) m5 L4 hw c (by omega) q
  have isc : ∀ q, (calls PL 64).cl 15 [tE m ps, enc (c ++ r)] q = some (.bl true, q) := fun q => by
    have := call_is_code (lf := lawFns) (n := 60) (m := m) (ps := ps) (k := q) (c ++ r) (by omega)
    rw [clash_none.mpr ga] at this
    exact this
  have isf : ∀ q, (calls PL 64).cl 17 [tE m ps, enc (c ++ r), .int (L : Nat)] q = some (.bl true, q) := fun q => by
    have := call_is_full (lf := lawFns) (n := 60) (m := m) (ps := ps) (k := q) (by omega) (by omega : L ≤ 10000) hw2 (c ++ r)
    rw [full_of g4] at this
    exact this
  have ne1 : ∀ (f : List (List Nat)) q, cmpM .ne (enc f) (enc f) q = some (.bl false, q) := fun f q => ne_self f q (by decide)
  refine Run.iteF (k1 := k2) (by simp only [ev, evs, evAnd, evOr, kb, kp, getV, getB, List.getElem?_cons_succ, List.getElem?_cons_zero, Option.bind_some, List.set_cons_succ, List.set_cons_zero, tru_bl, if_true, if_false, Bool.false_eq_true, Bool.not_true, Bool.not_false, on, ne1, isc, isf]) ?_
  -- how it begins and ends
  have s1 : ∀ q, slhD (enc (c ++ r)) (.int (c.length : Nat)) q = some (enc c, q) := fun q => by rw [slh_enc, List.take_left]
  have s2 : ∀ q, sllD (enc (c ++ r)) (.int (c.length : Nat)) q = some (enc r, q) := fun q => by rw [sll_enc, List.drop_left]
  have rso : r.Pairwise fun u v => ltbs u v = true := (wordsN_so L).sublist g2
  have s3 : ∀ q, f1D .sorted (enc r) q = some (.lst (r.map enc), q) := fun q => sortedT_so (L := L) (fun w hw => (wordsN_mem.mp (g2.subset hw)).1) rso q
  have s4 : ∀ q, f1D .list (enc r) q = some (.lst (r.map enc), q) := fun q => rfl
  have ne2 : ∀ q, cmpM .ne (.lst (r.map enc)) (.lst (r.map enc)) q = some (.bl false, q) := fun q => by
    have := cmp_neL (k := q) r r (by decide)
    rw [this]
    simp
  refine Run.iteF (k1 := k2) (by simp only [ev, evs, evAnd, evOr, kb, kp, getV, getB, List.getElem?_cons_succ, List.getElem?_cons_zero, Option.bind_some, List.set_cons_succ, List.set_cons_zero, tru_bl, if_true, if_false, Bool.false_eq_true, Bool.not_true, Bool.not_false, lenE, s1, s2, s3, s4, ne1, ne2]) ?_
  -- grown again
  have ga2 : grownN m ps (c ++ r) L = c ++ r := grow_full g4
  have gr2 : ∀ q, (calls PL 64).cl 18 [tE m ps, enc (c ++ r), .int (L : Nat)] q = some (enc (c ++ r), q) := fun q => by
    have := gr (c ++ r) q (by omega)
    rw [ga2] at this
    exact this
  have mo : ∀ q, (calls PL 64).cl 20 [tE m ps, .int (L : Nat)] q = some (.int (mostN m ps L : Nat), q) := fun q => call_most (n := 31) (by omega) (by omega) hw
  have hle := code_le m0 hN ga gw
  have gt1 : ∀ q, cmpM .gt (.int ((c ++ r).length : Nat)) (.int (mostN m ps L : Nat)) q = some (.bl false, q) := fun q => by
    rw [gt_nat, decide_eq_false (by omega)]
  refine Run.iteF (k1 := k2) (by simp only [ev, evs, evAnd, evOr, kb, kp, getV, getB, List.getElem?_cons_succ, List.getElem?_cons_zero, Option.bind_some, List.set_cons_succ, List.set_cons_zero, tru_bl, if_true, if_false, Bool.false_eq_true, Bool.not_true, Bool.not_false, gr2, ne1, lenE, mo, gt1]) ?_
  -- what comes behind
  have rest : ∀ b9 b10, Run (calls PL 64) (turn.drop 8) [.fr (.scr ns), .fr .town, a2, .fr (tE m ps), .fr (enc c), .fr (enc (c ++ r)), a6, .fr (.int (m : Nat)), .fr (.int (L : Nat)), b9, b10] k2 (fun st fl k' => fl = .nx ∧ k' ≤ k + 100 ∧ ∃ a2 a3 a4 a5 a6 a7 a8 a9 a10, st = [.fr (.scr ns), .fr .town, a2, a3, a4, a5, a6, a7, a8, a9, a10]) := fun b9 b10 => by
    unfold turn lawBody
    simp only [List.drop_succ_cons, List.drop_zero]
    have be : ∀ q, (calls PL 64).cl 21 [tE m ps, .int (L : Nat)] q = some (enc (bestW m ps L), q) := fun q => call_best (n := 31) (by omega) (by omega) hw
    refine Run.set (d := enc (bestW m ps L)) (k1 := k2) (by simp only [ev, evs, evAnd, evOr, kb, kp, getV, getB, List.getElem?_cons_succ, List.getElem?_cons_zero, Option.bind_some, List.set_cons_succ, List.set_cons_zero, tru_bl, if_true, if_false, Bool.false_eq_true, Bool.not_true, Bool.not_false, be]) ?_
    simp only [List.set_cons_succ, List.set_cons_zero, List.getElem?_cons_succ, List.getElem?_cons_zero]
    obtain ⟨b1, b2, b3, b4⟩ := bestW_ok (ps := ps) m0 hN
    have bl : (bestW m ps L).length ≤ 27 := code_len b1 b2 hN
    have bf := best_full (ps := ps) m0 hN
    have gb : ∀ q, (calls PL 64).cl 18 [tE m ps, enc (bestW m ps L), .int (L : Nat)] q = some (enc (bestW m ps L), q) := fun q => by
      have := gr (bestW m ps L) q (by omega)
      rw [show grownN m ps (bestW m ps L) L = bestW m ps L from grow_full bf] at this
      exact this
    have fb : ∀ q, (calls PL 64).cl 17 [tE m ps, enc (bestW m ps L), .int (L : Nat)] q = some (.bl true, q) := fun q => by
      have := call_is_full (lf := lawFns) (n := 60) (m := m) (ps := ps) (k := q) (by omega) (by omega : L ≤ 10000) hw2 (bestW m ps L)
      rw [full_of bf] at this
      exact this
    refine Run.iteF (k1 := k2) (by simp only [ev, evs, evAnd, evOr, kb, kp, getV, getB, List.getElem?_cons_succ, List.getElem?_cons_zero, Option.bind_some, List.set_cons_succ, List.set_cons_zero, tru_bl, if_true, if_false, Bool.false_eq_true, Bool.not_true, Bool.not_false, gb, ne1, fb]) ?_
    -- no pairs
    have gn : ∀ q, (calls PL 64).cl 18 [.tup [.int (m : Nat), .tup []], .tup [], .int (L : Nat)] q = some (enc (wordsN m L), q) := fun q => by
      have := call_grown (lf := lawFns) (n := 61) (m := m) (ps := []) (k := q) (by omega) (by omega : L ≤ 10000) hw2 [] (by simp)
      rw [show grownN m [] [] L = wordsN m L from grow_nil (c := []) (L := L) ((wordsN_so L).imp fun {u v} h z => by
        rw [z] at h
        have := ltbs_asy v v h
        rw [h] at this
        cases this) (fun w hw => (wordsN_mem.mp hw).1)] at this
      exact this
    have wW : ∀ q, (calls PL 64).cl 11 [.int (m : Nat), .int (L : Nat)] q = some (enc (wordsN m L), q) := fun q => call_words (by omega) (by omega) hw2
    refine Run.iteF (k1 := k2) (by simp only [ev, evs, evAnd, evOr, kb, kp, getV, getB, List.getElem?_cons_succ, List.getElem?_cons_zero, Option.bind_some, List.set_cons_succ, List.set_cons_zero, tru_bl, if_true, if_false, Bool.false_eq_true, Bool.not_true, Bool.not_false, gn, wW, ne1]) ?_
    -- all pairs
    have tu : ∀ q, (calls PL 64).cl 8 [.tup [.int (m : Nat), .tup []]] q = some (tE m (pairsOf m fun i j => !mixB [] i j), q) := fun q => call_turned (n := 60) (ps := []) (by omega)
    have tl : ∀ q, slhD (enc c) (.int 1) q = some (enc (c.take 1), q) := fun q => slh_enc c 1 q
    have tw : ∀ q, slhD (enc (wordsN m L)) (.int 1) q = some (enc ((wordsN m L).take 1), q) := fun q => slh_enc (wordsN m L) 1 q
    have ga3 : ∀ f : List (List Nat), f.length ≤ 100 → ∀ q, (calls PL 64).cl 18 [tE m (pairsOf m fun i j => !mixB [] i j), enc f, .int (L : Nat)] q = some (enc (grownN m (pairsOf m fun i j => !mixB [] i j) f L), q) := fun f hf q => call_grown (n := 61) (by omega) (by omega) hw2 f (by omega)
    have al : ∀ u ∈ wordsN m L, ∀ v ∈ wordsN m L, mwB (pairsOf m fun i j => !mixB [] i j) u v = true := fun u hu v hv => mw_all (fun a b ha hb => tur_nil ha hb) (wordsN_mem.mp hu).2 (wordsN_mem.mp hv).2
    have f0 : ∀ w0 ∈ wordsN m L, ∀ w ∈ wordsN m L, freeB (pairsOf m fun i j => !mixB [] i j) [w0] w = false := fun w0 h0 w hw => by
      unfold freeB
      rw [Bool.not_eq_false', List.any_eq_true]
      exact ⟨w0, List.mem_cons_self, al w hw w0 h0⟩
    refine Run.iteF (k1 := k2) ?_ (Run.nil ⟨rfl, by omega, _, _, _, _, _, _, _, _, _, rfl⟩)
    cases c with
    | nil =>
      have wl : 0 < (wordsN m L).length := by rw [wordsN_len]; exact Nat.pow_pos m0
      cases ew : wordsN m L with
      | nil => rw [ew] at wl; simp at wl
      | cons w ws =>
        have gg : grownN m (pairsOf m fun i j => !mixB [] i j) [] L = [w] := by
          unfold grownN
          rw [ew]
          show growL _ [w] ws = _
          exact grow_full fun v hv => f0 w (by rw [ew]; simp) v (by rw [ew]; simp [hv])
        have g5 := ga3 [] (by simp)
        rw [gg] at g5
        have tl0 : ∀ q, slhD (enc ([] : List (List Nat))) (.int 1) q = some (enc ([] : List (List Nat)), q) := fun q => tl q
        have tru0 : ∀ q, tru (enc ([] : List (List Nat))) q = some (false, q) := fun q => rfl
        rw [ew] at tw wW
        have tw1 : ∀ q, slhD (enc (w :: ws)) (.int 1) q = some (enc [w], q) := fun q => tw q
        simp only [ev, evs, evAnd, evOr, kb, kp, getV, getB, List.getElem?_cons_succ, List.getElem?_cons_zero, Option.bind_some, List.set_cons_succ, List.set_cons_zero, tru_bl, if_true, if_false, Bool.false_eq_true, Bool.not_true, Bool.not_false, tu, tl0, g5, tru0, wW, tw1, ne1]
    | cons c0 cs =>
      have gg : grownN m (pairsOf m fun i j => !mixB [] i j) [c0] L = [c0] := grow_full fun w hw => f0 c0 (hcw c0 (by simp)) w hw
      have g5 := ga3 [c0] (by simp)
      rw [gg] at g5
      have tl0 : ∀ q, slhD (enc (c0 :: cs)) (.int 1) q = some (enc [c0], q) := fun q => tl q
      have tru0 : ∀ q, tru (enc [c0]) q = some (true, q) := fun q => rfl
      simp only [ev, evs, evAnd, evOr, kb, kp, getV, getB, List.getElem?_cons_succ, List.getElem?_cons_zero, Option.bind_some, List.set_cons_succ, List.set_cons_zero, tru_bl, if_true, if_false, Bool.false_eq_true, Bool.not_true, Bool.not_false, tu, tl0, g5, tru0, ne1]
  have trc : ∀ q, tru (enc c) q = some (!c.isEmpty, q) := fun q => tru_enc c q
  refine Run.iteB (d := enc c) (k1 := k2) (by simp only [ev, evs, evAnd, evOr, kb, kp, getV, getB, List.getElem?_cons_succ, List.getElem?_cons_zero, Option.bind_some, List.set_cons_succ, List.set_cons_zero, tru_bl, if_true, if_false, Bool.false_eq_true, Bool.not_true, Bool.not_false]) (trc _) (fun hb => ?_) (fun hb => ?_)
  · obtain ⟨c1, w, rfl⟩ : ∃ c1 w, c = c1 ++ [w] := by
      cases c with
      | nil => cases hb
      | cons a b => exact ⟨(a :: b).dropLast, (a :: b).getLast (by simp), (List.dropLast_concat_getLast (by simp)).symm⟩
    have sm : ∀ q, slhD (enc (c1 ++ [w])) (.int (-1)) q = some (enc c1, q) := fun q => by
      rw [slh_m1]
      congr 3
      rw [List.length_append, List.length_singleton, Nat.add_sub_cancel, List.take_left]
    have im : ∀ q, ixD (enc (c1 ++ [w])) (.int (-1)) q = some (enc w, q) := fun q => ix_m1 c1 w q
    have gl2 : c1.length ≤ 100 := by rw [List.length_append] at hcl; omega
    have gr3 := fun q => gr c1 q gl2
    refine Run.set (d := enc (grownN m ps c1 L)) (k1 := k2) (by simp only [ev, evs, evAnd, evOr, kb, kp, getV, getB, List.getElem?_cons_succ, List.getElem?_cons_zero, Option.bind_some, List.set_cons_succ, List.set_cons_zero, tru_bl, if_true, if_false, Bool.false_eq_true, Bool.not_true, Bool.not_false, ngI, sm, gr3]) ?_
    simp only [List.set_cons_succ, List.set_cons_zero, List.getElem?_cons_succ, List.getElem?_cons_zero]
    obtain ⟨r1, i1, i2, i3, i4⟩ := grow_spec (ps := ps) (wordsN m L) c1
    have h2 := ev_map1 (C := calls PL 64) (i := 10) (own := [10]) (elt := .call 12 [.v 3, .ix (.v 4) (.neg (.c (.int 1))), .v 10]) (st := [.fr (.scr ns), .fr .town, a2, .fr (tE m ps), .fr (enc (c1 ++ [w])), .fr (enc ((c1 ++ [w]) ++ r)), a6, .fr (.int (m : Nat)), .fr (.int (L : Nat)), .fr (enc (grownN m ps c1 L)), a10]) (k := k2) (k1 := k2) (sk := .it) (a := .v 9) (b := .c .non) (c := .c .non)
      enc (grownN m ps c1 L) (fun o => .bl (mwB ps w o)) (src_tup (l := (grownN m ps c1 L).map enc) (by simp only [ev, evs, evAnd, evOr, kb, kp, getV, getB, List.getElem?_cons_succ, List.getElem?_cons_zero, Option.bind_some, List.set_cons_succ, List.set_cons_zero, tru_bl, if_true, if_false, Bool.false_eq_true, Bool.not_true, Bool.not_false]; rfl)) (fun o ho q => by simp only [ev, evs, evAnd, evOr, kb, kp, getV, getB, List.getElem?_cons_succ, List.getElem?_cons_zero, Option.bind_some, List.set_cons_succ, List.set_cons_zero, tru_bl, if_true, if_false, Bool.false_eq_true, Bool.not_true, Bool.not_false, wipe, ngI, im, call_mixed_words])
    have h3 := evc_b1 h2 (any_eq _ _)
    have h4 := evc_not (v := (grownN m ps c1 L).any fun o => mwB ps w o) h3 rfl
    have hany : ((grownN m ps c1 L).any fun o => mwB ps w o) = true := by
      have := i4 w (hcw w (by simp))
      rw [show grownN m ps c1 L = c1 ++ r1 from i1]
      unfold freeB at this
      rw [Bool.not_eq_false'] at this
      exact this
    rw [hany] at h4
    refine Run.iteF (k1 := k2) h4 (Run.nil ?_)
    exact rest _ _
  · exact Run.nil (rest _ _)
theorem claim (ns : List Int) : ∃ k, lawRun (calls PL 64) 11 1 lawBody ns 0 = some (.bl true, k) := by
  refine law_run ?_
  rw [body_eq]
  refine Run.for1 (st := [.fr (.scr ns), .fr .town, .un, .un, .un, .un, .un, .un, .un, .un, .un]) (k1 := 0) (fun (i : Nat) => .int i) (List.range 4) (fun pre st k => k ≤ 100 * pre.length ∧ ∃ a2 a3 a4 a5 a6 a7 a8 a9 a10, st = [.fr (.scr ns), .fr .town, a2, a3, a4, a5, a6, a7, a8, a9, a10])
    (src_r1 (n := 4) (by simp only [ev, evs, evAnd, evOr, kb, kp, getV, getB, List.getElem?_cons_succ, List.getElem?_cons_zero, Option.bind_some, List.set_cons_succ, List.set_cons_zero, tru_bl, if_true, if_false, Bool.false_eq_true, Bool.not_true, Bool.not_false]; rfl) (by decide)) ⟨by omega, _, _, _, _, _, _, _, _, _, rfl⟩ (fun pre i post st k hp hi => ?_) (fun st k hi => ?_)
  · obtain ⟨hk, a2, a3, a4, a5, a6, a7, a8, a9, a10, rfl⟩ := hi
    have hpl : pre.length < 4 := by
      have := congrArg List.length hp
      simp at this
      omega
    refine Run.mono (turn_ok ns _ a3 a4 a5 a6 a7 a8 a9 a10 k (by omega)) fun st' fl k' h => ?_
    obtain ⟨rfl, h1, h2⟩ := h
    exact ⟨by rw [List.length_append, List.length_singleton]; omega, h2⟩
  · obtain ⟨_, a2, a3, a4, a5, a6, a7, a8, a9, a10, rfl⟩ := hi
    exact Run.ret (d := .bl true) (k1 := k) (by simp only [ev, evs, evAnd, evOr, kb, kp, getV, getB, List.getElem?_cons_succ, List.getElem?_cons_zero, Option.bind_some, List.set_cons_succ, List.set_cons_zero, tru_bl, if_true, if_false, Bool.false_eq_true, Bool.not_true, Bool.not_false]) rfl
end L_k19

namespace L_k19
open G
open PySem PySem.Spec PyProof.Rows L2
def top (i : Nat) : Stmt := PySem.Challenge.pw_mistakesigns_k19_whole_codes_grown.main.body.getD i (.Pass ⟨0, 0, 0, 0⟩)
def fns : List (Str × Nat × Nat) := [("mixed", 5, 3), ("near", 6, 2), ("table_by", 7, 2), ("turned", 8, 1), ("words", 11, 2), ("mixed_words", 12, 3), ("power", 13, 2), ("clash", 14, 2), ("is_code", 15, 2), ("addable", 16, 3), ("is_full", 17, 3), ("grown", 18, 3), ("bin_ones", 19, 1), ("most", 20, 2), ("best_code", 21, 2), ("_law_draw", 61, 3), ("_law_pick", 62, 3), ("_law_table", 63, 3), ("_law_mixed", 64, 3), ("_law_code", 65, 4), ("_law_one_by_one", 66, 3), ("Seeker", 56, 301), ("Seeker.__init__", 57, 201), ("Seeker.signs", 58, 101), ("Seeker.many", 59, 101), ("Seeker.first", 60, 101)]
def gls : List (Str × D) := []
def mS (i : Nat) : Stmt := L2.inClass (top 15) i
def fn : List He.DefD := [dOf (top 1), dOf (top 2), dOf (top 3), dOf (top 4), dOf (top 6), dOf (top 7), dOf (top 8), dOf (top 9), dOf (top 10), dOf (top 11), dOf (top 12), dOf (top 13), dOf (top 16), dOf (top 17), dOf (top 18), dOf (top 20), dOf (top 21), dOf (top 22), dOf (top 23), dOf (top 24), dOf (top 25), dOf (top 26), dOfM "__init__" "Seeker.__init__" (mS 0), dOfM "signs" "Seeker.signs" (mS 1), dOfM "many" "Seeker.many" (mS 2), dOfM "first" "Seeker.first" (mS 3)]
def fa : List He.Fa := [.glo "mixed", .glo "near", .glo "table_by", .glo "turned", .glo "words", .glo "mixed_words", .glo "power", .glo "clash", .glo "is_code", .glo "addable", .glo "is_full", .glo "grown", .glo "bin_ones", .glo "most", .glo "best_code", .glo "_law_draw", .glo "_law_pick", .glo "_law_table", .glo "_law_mixed", .glo "_law_code", .glo "_law_one_by_one", .glo "law", .glo "Seeker", .cls "Seeker", .noat "Seeker" "beside", .noat "Seeker" "known", .mkr "Seeker", .meth "Seeker" "signs", .meth "Seeker" "many", .meth "Seeker" "first"] ++ bltN.map He.Fa.free ++ gls.map glFa
def lamN : List (List Str × List Str) := [(["one", "other", "table"], ["table"]), (["one", "other", "table", "signs"], ["table", "signs"]), (["one", "other", "table", "every"], ["table", "every"]), (["one", "other"], []), (["first", "second", "one", "other", "many"], ["one", "other", "many"]), (["one", "other", "channel", "letter"], ["channel"])]
def tf : List He.Defn := [("turned", none), ("power", none)]
theorem ck_mixed : chkFn PL fns gls lamN false ["table", "one", "other"] ["table", "one", "other"] 5 3 (top 1) = true := by decide +kernel
theorem ck_near : chkFn PL fns gls lamN false ["table", "sign", "other"] ["table", "sign"] 6 2 (top 2) = true := by decide +kernel
theorem ck_table_by : chkFn PL fns gls lamN false ["many", "test", "found", "one", "other"] ["many", "test"] 7 2 (top 3) = true := by decide +kernel
theorem ck_turned : chkFn PL fns gls lamN true ["table"] ["table"] 8 1 (top 4) = true := by decide +kernel
theorem ck_words : chkFn PL fns gls lamN false ["many", "long", "found", "turn", "longer", "word", "sign"] ["many", "long"] 11 2 (top 6) = true := by decide +kernel
theorem ck_mixed_words : chkFn PL fns gls lamN false ["table", "one", "other", "mine", "yours"] ["table", "one", "other"] 12 3 (top 7) = true := by decide +kernel
theorem ck_power : chkFn PL fns gls lamN true ["table", "long", "every"] ["table", "long"] 13 2 (top 8) = true := by decide +kernel
theorem ck_clash : chkFn PL fns gls lamN false ["table", "some", "at", "one", "place"] ["table", "some"] 14 2 (top 9) = true := by decide +kernel
theorem ck_is_code : chkFn PL fns gls lamN false ["table", "some"] ["table", "some"] 15 2 (top 10) = true := by decide +kernel
theorem ck_addable : chkFn PL fns gls lamN false ["table", "some", "long", "word", "one"] ["table", "some", "long"] 16 3 (top 11) = true := by decide +kernel
theorem ck_is_full : chkFn PL fns gls lamN false ["table", "some", "long"] ["table", "some", "long"] 17 3 (top 12) = true := by decide +kernel
theorem ck_grown : chkFn PL fns gls lamN false ["table", "some", "long", "word", "one"] ["table", "some", "long"] 18 3 (top 13) = true := by decide +kernel
theorem ck_bin_ones : chkFn PL fns gls lamN false ["number", "found"] ["number"] 19 1 (top 16) = true := by decide +kernel
theorem ck_most : chkFn PL fns gls lamN false ["table", "long", "wide"] ["table", "long"] 20 2 (top 17) = true := by decide +kernel
theorem ck_best_code : chkFn PL fns gls lamN false ["table", "long", "wide", "every", "number"] ["table", "long"] 21 2 (top 18) = true := by decide +kernel
theorem ck__law_draw : chkFn PL fns gls lamN false ["_law_script", "_law_town", "_law_many", "_law_k", "_law_cell", "_law_number", "_law_more"] ["_law_script", "_law_town", "_law_many"] 61 3 (top 20) = true := by decide +kernel
theorem ck__law_pick : chkFn PL fns gls lamN false ["_law_script", "_law_town", "_law_some"] ["_law_script", "_law_town", "_law_some"] 62 3 (top 21) = true := by decide +kernel
theorem ck__law_table : chkFn PL fns gls lamN false ["_law_script", "_law_town", "_law_high", "_law_often", "_law_one", "_law_many", "_law_pairs", "_law_other"] ["_law_script", "_law_town", "_law_high"] 63 3 (top 22) = true := by decide +kernel
theorem ck__law_mixed : chkFn PL fns gls lamN false ["_law_script", "_law_town", "_law_row", "_law_left", "_law_found"] ["_law_script", "_law_town", "_law_row"] 64 3 (top 23) = true := by decide +kernel
theorem ck__law_code : chkFn PL fns gls lamN false ["_law_script", "_law_town", "_law_table_here", "_law_long", "_law_found", "_law_k", "_law_word", "_law_j"] ["_law_script", "_law_town", "_law_table_here", "_law_long"] 65 4 (top 24) = true := by decide +kernel
theorem ck__law_one_by_one : chkFn PL fns gls lamN false ["_law_table_here", "_law_code_here", "_law_long", "_law_found", "_law_free"] ["_law_table_here", "_law_code_here", "_law_long"] 66 3 (top 25) = true := by decide +kernel
theorem ck_law : chkLaw PL fns gls lamN ["_law_script", "_law_town", "_law_k", "_law_table_here", "_law_code_here", "_law_more", "_law_best", "_law_many", "_law_long", "_law_less", "_law_word"] "_law_script" 1 lawBody (top 26) = true := by decide +kernel
theorem ck_s_signs : chkMeth PL fns gls lamN ["self", "left", "sign"] ["self", "left"] 58 (mS 1) = true := by decide +kernel
theorem ck_s_first : chkMeth PL fns gls lamN ["self", "left", "found", "sign", "after"] ["self", "left"] 60 (mS 3) = true := by decide +kernel
theorem ck_s_many : chkMany PL fns gls lamN ["self", "left", "counts", "found", "low", "sign", "without", "high"] skBody (mS 2) = true := by decide +kernel
theorem ck_s_init : chkInit PL fns gls lamN 6 (mS 0) = true := by decide +kernel
/-- what is left: plain Lean -/
def Claim : Prop := ∀ ns : List Int, ns.length ≤ 63 → ∃ k, lawRun (calls PL 64) 11 1 lawBody ns 0 = some (.bl true, k)
abbrev R : PySem.W.OpenRow := PySem.W.OpenLaw.row PySem.Challenge.rw_mistakesigns_k19_whole_codes_grown
abbrev hk : PySem.W.Hook := He.hookX 6 fa fn [] tf (exT tf)
def ob (s : PySem.W.SharedT) : He.AlX := He.obsX 6 fa fn [] tf (exT tf) (HandSHeadRun.getT s)
theorem ob_eq (s : PySem.W.SharedT) : ob s = hk.obs s.abs := He.obsX_eq (HandSHeadRun.getT_eq s)
def loose : List PySem.Str := ["mixed", "near", "table_by", "turned", "words", "mixed_words", "power", "clash", "is_code", "addable", "is_full", "grown", "bin_ones", "most", "best_code", "_law_draw", "_law_pick", "_law_table", "_law_mixed", "_law_code", "_law_one_by_one", "Seeker"]
theorem run (w : World) : HandSHeadRun.RunEq R (PySem.W.view R.prog [26]) hk ob 4000 loose w := by
  intro os
  kernel_rfl
section
variable {mg : Str → Option Value} {K : PySem.W.Frag} {h : Heap}
theorem fnis {prog : Program} {w : World} {base : Heap} (X : K.In h) (G : h.Ns mainGlobals mg) (c : He.SaysD fa fn K) (nd : exT tf K = true) (TB : ∀ p ∈ tf, LamX.TabB base mg (He.cT K p).1 (He.cT K p).2) (hM : Mg (cfL K PL fns gls lamN tf) gls mg) : ∀ q ∈ fns, FnI (cfL K PL fns gls lamN tf) PL fns gls lamN prog w mg base q.1 q.2.1 q.2.2 := by
  intro q hq
  simp only [fns, List.mem_cons, List.not_mem_nil, or_false] at hq
  rcases hq with rfl | rfl | rfl | rfl | rfl | rfl | rfl | rfl | rfl | rfl | rfl | rfl | rfl | rfl | rfl | rfl | rfl | rfl | rfl | rfl | rfl | rfl | rfl | rfl | rfl | rfl
  · exact fnI_mk X G c nd TB hM (top 1) 0 0 5 3 false ["table", "one", "other"] ["table", "one", "other"] (by decide) rfl rfl ck_mixed (fun z => by cases z) (fun _ _ _ _ _ _ us hl => match us, hl with | [_, _, _], _ => rfl)
  · exact fnI_mk X G c nd TB hM (top 2) 1 1 6 2 false ["table", "sign", "other"] ["table", "sign"] (by decide) rfl rfl ck_near (fun z => by cases z) (fun _ _ _ _ _ _ us hl => match us, hl with | [_, _], _ => rfl)
  · exact fnI_mk X G c nd TB hM (top 3) 2 2 7 2 false ["many", "test", "found", "one", "other"] ["many", "test"] (by decide) rfl rfl ck_table_by (fun z => by cases z) (fun _ _ _ _ _ _ us hl => match us, hl with | [_, _], _ => rfl)
  · exact fnI_mk X G c nd TB hM (top 4) 3 3 8 1 true ["table"] ["table"] (by decide) rfl rfl ck_turned (fun _ => List.mem_of_getElem? (i := 0) (by rfl)) (fun _ _ _ _ _ _ us hl => match us, hl with | [_], _ => rfl)
  · exact fnI_mk X G c nd TB hM (top 6) 4 4 11 2 false ["many", "long", "found", "turn", "longer", "word", "sign"] ["many", "long"] (by decide) rfl rfl ck_words (fun z => by cases z) (fun _ _ _ _ _ _ us hl => match us, hl with | [_, _], _ => rfl)
  · exact fnI_mk X G c nd TB hM (top 7) 5 5 12 3 false ["table", "one", "other", "mine", "yours"] ["table", "one", "other"] (by decide) rfl rfl ck_mixed_words (fun z => by cases z) (fun _ _ _ _ _ _ us hl => match us, hl with | [_, _, _], _ => rfl)
  · exact fnI_mk X G c nd TB hM (top 8) 6 6 13 2 true ["table", "long", "every"] ["table", "long"] (by decide) rfl rfl ck_power (fun _ => List.mem_of_getElem? (i := 1) (by rfl)) (fun _ _ _ _ _ _ us hl => match us, hl with | [_, _], _ => rfl)
  · exact fnI_mk X G c nd TB hM (top 9) 7 7 14 2 false ["table", "some", "at", "one", "place"] ["table", "some"] (by decide) rfl rfl ck_clash (fun z => by cases z) (fun _ _ _ _ _ _ us hl => match us, hl with | [_, _], _ => rfl)
  · exact fnI_mk X G c nd TB hM (top 10) 8 8 15 2 false ["table", "some"] ["table", "some"] (by decide) rfl rfl ck_is_code (fun z => by cases z) (fun _ _ _ _ _ _ us hl => match us, hl with | [_, _], _ => rfl)
  · exact fnI_mk X G c nd TB hM (top 11) 9 9 16 3 false ["table", "some", "long", "word", "one"] ["table", "some", "long"] (by decide) rfl rfl ck_addable (fun z => by cases z) (fun _ _ _ _ _ _ us hl => match us, hl with | [_, _, _], _ => rfl)
  · exact fnI_mk X G c nd TB hM (top 12) 10 10 17 3 false ["table", "some", "long"] ["table", "some", "long"] (by decide) rfl rfl ck_is_full (fun z => by cases z) (fun _ _ _ _ _ _ us hl => match us, hl with | [_, _, _], _ => rfl)
  · exact fnI_mk X G c nd TB hM (top 13) 11 11 18 3 false ["table", "some", "long", "word", "one"] ["table", "some", "long"] (by decide) rfl rfl ck_grown (fun z => by cases z) (fun _ _ _ _ _ _ us hl => match us, hl with | [_, _, _], _ => rfl)
  · exact fnI_mk X G c nd TB hM (top 16) 12 12 19 1 false ["number", "found"] ["number"] (by decide) rfl rfl ck_bin_ones (fun z => by cases z) (fun _ _ _ _ _ _ us hl => match us, hl with | [_], _ => rfl)
  · exact fnI_mk X G c nd TB hM (top 17) 13 13 20 2 false ["table", "long", "wide"] ["table", "long"] (by decide) rfl rfl ck_most (fun z => by cases z) (fun _ _ _ _ _ _ us hl => match us, hl with | [_, _], _ => rfl)
  · exact fnI_mk X G c nd TB hM (top 18) 14 14 21 2 false ["table", "long", "wide", "every", "number"] ["table", "long"] (by decide) rfl rfl ck_best_code (fun z => by cases z) (fun _ _ _ _ _ _ us hl => match us, hl with | [_, _], _ => rfl)
  · exact fnI_mk X G c nd TB hM (top 20) 15 15 61 3 false ["_law_script", "_law_town", "_law_many", "_law_k", "_law_cell", "_law_number", "_law_more"] ["_law_script", "_law_town", "_law_many"] (by decide) rfl rfl ck__law_draw (fun z => by cases z) (fun _ _ _ _ _ _ us hl => match us, hl with | [_, _, _], _ => rfl)
  · exact fnI_mk X G c nd TB hM (top 21) 16 16 62 3 false ["_law_script", "_law_town", "_law_some"] ["_law_script", "_law_town", "_law_some"] (by decide) rfl rfl ck__law_pick (fun z => by cases z) (fun _ _ _ _ _ _ us hl => match us, hl with | [_, _, _], _ => rfl)
  · exact fnI_mk X G c nd TB hM (top 22) 17 17 63 3 false ["_law_script", "_law_town", "_law_high", "_law_often", "_law_one", "_law_many", "_law_pairs", "_law_other"] ["_law_script", "_law_town", "_law_high"] (by decide) rfl rfl ck__law_table (fun z => by cases z) (fun _ _ _ _ _ _ us hl => match us, hl with | [_, _, _], _ => rfl)
  · exact fnI_mk X G c nd TB hM (top 23) 18 18 64 3 false ["_law_script", "_law_town", "_law_row", "_law_left", "_law_found"] ["_law_script", "_law_town", "_law_row"] (by decide) rfl rfl ck__law_mixed (fun z => by cases z) (fun _ _ _ _ _ _ us hl => match us, hl with | [_, _, _], _ => rfl)
  · exact fnI_mk X G c nd TB hM (top 24) 19 19 65 4 false ["_law_script", "_law_town", "_law_table_here", "_law_long", "_law_found", "_law_k", "_law_word", "_law_j"] ["_law_script", "_law_town", "_law_table_here", "_law_long"] (by decide) rfl rfl ck__law_code (fun z => by cases z) (fun _ _ _ _ _ _ us hl => match us, hl with | [_, _, _, _], _ => rfl)
  · exact fnI_mk X G c nd TB hM (top 25) 20 20 66 3 false ["_law_table_here", "_law_code_here", "_law_long", "_law_found", "_law_free"] ["_law_table_here", "_law_code_here", "_law_long"] (by decide) rfl rfl ck__law_one_by_one (fun z => by cases z) (fun _ _ _ _ _ _ us hl => match us, hl with | [_, _, _], _ => rfl)
  · exact skI_cls (skc_of c 23 24 25 rfl rfl rfl) (He.glo_ok X G (c.fact 22 rfl)) (PR_fn (f := p_Seeker) rfl) rfl
  · obtain ⟨fd, F⟩ := c.def_ 22 (d := dOfM "__init__" "Seeker.__init__" (mS 0)) rfl
    have F : FunD K "__init__" "Seeker.__init__" (defArgs (mS 0)) (defBody (mS 0)) (defScope (mS 0)) [] [] _ fd := F
    exact skI_init (skc_of c 23 24 25 rfl rfl rfl) (by decide +kernel) F (He.mkr_ok (c.fact 26 rfl)) (FunD.bindsN F (fun _ _ _ _ _ _ us hl => match us, hl with | [_, _], _ => rfl)) (PR_fn (f := p_Seeker___init__) rfl) ck_s_init rfl hM
  · obtain ⟨fd, F⟩ := c.def_ 23 (d := dOfM "signs" "Seeker.signs" (mS 1)) rfl
    have F : FunD K "signs" "Seeker.signs" (defArgs (mS 1)) (defBody (mS 1)) (defScope (mS 1)) [] [] _ fd := F
    exact skI_meth (skc_of c 23 24 25 rfl rfl rfl) (by decide +kernel) (by decide +kernel) (by decide +kernel) F (He.meth_ok (c.fact 27 rfl)) (FunD.bindsN F (fun _ _ _ _ _ _ us hl => match us, hl with | [_, _], _ => rfl)) ck_s_signs rfl hM
  · obtain ⟨fd, F⟩ := c.def_ 24 (d := dOfM "many" "Seeker.many" (mS 2)) rfl
    have F : FunD K "many" "Seeker.many" (defArgs (mS 2)) (defBody (mS 2)) (defScope (mS 2)) [] [] _ fd := F
    exact skI_many (skc_of c 23 24 25 rfl rfl rfl) (by decide +kernel) (by decide +kernel) (by decide +kernel) F (He.meth_ok (c.fact 28 rfl)) (FunD.bindsN F (fun _ _ _ _ _ _ us hl => match us, hl with | [_, _], _ => rfl)) (PR_fn (f := p_Seeker_many) rfl) ck_s_many (fun n => body_ok n) rfl hM
  · obtain ⟨fd, F⟩ := c.def_ 25 (d := dOfM "first" "Seeker.first" (mS 3)) rfl
    have F : FunD K "first" "Seeker.first" (defArgs (mS 3)) (defBody (mS 3)) (defScope (mS 3)) [] [] _ fd := F
    exact skI_meth (skc_of c 23 24 25 rfl rfl rfl) (by decide +kernel) (by decide +kernel) (by decide +kernel) F (He.meth_ok (c.fact 29 rfl)) (FunD.bindsN F (fun _ _ _ _ _ _ us hl => match us, hl with | [_, _], _ => rfl)) ck_s_first rfl hM
theorem facts {w : World} {f : Addr} (X : K.In h) (G : h.Ns mainGlobals mg) (hfa : mg ("law" : Str) = some (.ref f)) (c : He.SaysX fa fn [] tf (exT tf) w h K) (hc : Claim) :
    LamX.LawAtS PySem.Challenge.rw_mistakesigns_k19_whole_codes_grown w K L2.CX0 65 63 "_law_script" mg f h :=
  law_facts X G c (by rfl) (top 26) "_law_script" 21 21 1 64 ["_law_script", "_law_town", "_law_k", "_law_table_here", "_law_code_here", "_law_more", "_law_best", "_law_many", "_law_long", "_law_less", "_law_word"] lawBody hfa rfl rfl ck_law (fun _ _ _ _ _ _ us hl => match us, hl with | [_], _ => rfl) (fun base TB hM => fnis X G c.t.d c.more TB hM) hc
end
end L_k19
open PySem PySem.W PySem.Calls PyProof.Rows
theorem law_holds_k19 (hc : L_k19.Claim) : PySem.Challenge.rw_mistakesigns_k19_whole_codes_grown.Holds := by
  w_on; o_law
  refine HandSHeadRun.head_any (r := OpenLaw.row PySem.Challenge.rw_mistakesigns_k19_whole_codes_grown) (q := view (OpenLaw.row PySem.Challenge.rw_mistakesigns_k19_whole_codes_grown).prog [26]) (H := L_k19.hk) (ob := L_k19.ob) (M := 4000) (loose := L_k19.loose) (d := HandSHeadRun.topDef (OpenLaw.row PySem.Challenge.rw_mistakesigns_k19_whole_codes_grown).prog 26) (kwd := []) L_k19.ob_eq
    (by kernel_rfl) (fun s => by kernel_rfl) L_k19.run (by kernel_rfl) (by kernel_rfl) (by kernel_rfl) (by rfl) (by first | assumption | decide +kernel) (by decide +kernel) ⟨rfl, rfl, rfl, rfl, rfl, by decide +kernel⟩ ?hw ?hc
  case hw => w_witness2
  case hc =>
    refine LamX.walk_ofTsE (l := PySem.Challenge.rw_mistakesigns_k19_whole_codes_grown) (n := 63) (k := 65) (x := "_law_script") (CX := fun _ => L2.CX0) rfl (by decide) (by kernel_rfl) ⟨rfl, by decide, by decide⟩ ?F (fun _ _ _ _ _ z => z)
    intro w mg fa h Y Gn hmg0
    obtain ⟨K, KX, c⟩ := Y
    have hmg : mg ("law" : PySem.Str) = some (.ref fa) := by
      have e : (HandSHeadRun.topDef (OpenLaw.row PySem.Challenge.rw_mistakesigns_k19_whole_codes_grown).prog 26).name = ("law" : PySem.Str) := by kernel_rfl
      rw [← e]
      exact hmg0
    exact ⟨K, KX, L_k19.facts KX Gn hmg c hc⟩
theorem PySem.Challenge.cw_mistakesigns_k19_whole_codes_grown_holds : PySem.Challenge.rw_mistakesigns_k19_whole_codes_grown.Holds := by
  exact law_holds_k19 fun ns _ => L_k19.claim ns
