import PyProof.Rows.All
import HandS.ForMost
import HandS.Deep
import HandS.Conv
import HandS.Style
import HandS.TupAny
import HandS.TupMul
import HandS.Zip
import HandS.IsInst
import HandS.FStr
import HandS.Flow
import HandS.EndTab
import HandS.Nested
import KE.SortData
import KE.KDictKeyed
import HandS.TupLe
import KE.DataCmp
import KE.DataMinMax
import KE.GoesEnum
import KE.KIndexOf
import HandS.Defaults
import HandS.HeadEnd
import HandS.HeadHook1
import HandS.HeadHook2
import HandS.Head0
import HandS.Head1
import HandS.Head2
import PySem.Challenge.RW_mistakesigns_k04_whole_codes_that_grow
set_option Elab.async false
set_option linter.all false
set_option maxRecDepth 100000
namespace G

/-- plain data -/
inductive D where
  | non
  | bl (b : Bool)
  | int (i : Int)
  | str (s : List Nat)
  | tup (l : List D)
  | lst (l : List D)
  | dic (ks vs : List D)
  | town
  | scr (l : List Int)
  deriving Inhabited

abbrev M := StateT Nat Option
def no {α : Type} : M α := fun _ => none

/-! ### comparing data -/
mutual
def eqv : D → D → Bool
  | .non, .non => true
  | .bl a, .bl b => a == b
  | .bl a, .int b => (if a then 1 else 0) == b
  | .int a, .bl b => a == (if b then 1 else 0)
  | .int a, .int b => a == b
  | .str a, .str b => a == b
  | .tup a, .tup b => eqvs a b
  | .lst a, .lst b => eqvs a b
  | _, _ => false
def eqvs : List D → List D → Bool
  | [], [] => true
  | x :: xs, y :: ys => eqv x y && eqvs xs ys
  | _, _ => false
end
mutual
/-- places of one kind -/
def like : D → D → Bool
  | .non, .non => true
  | .bl _, .bl _ => true
  | .int _, .int _ => true
  | .str _, .str _ => true
  | .tup a, .tup b => likes a b
  | .lst a, .lst b => likes a b
  | _, _ => false
def likes : List D → List D → Bool
  | x :: xs, y :: ys => like x y && likes xs ys
  | _, _ => true
end
def ltStr : List Nat → List Nat → Bool
  | [], [] => false
  | [], _ :: _ => true
  | _ :: _, [] => false
  | x :: xs, y :: ys => if x = y then ltStr xs ys else decide (x < y)
mutual
def lt : D → D → Bool
  | .bl a, .bl b => !a && b
  | .int a, .int b => decide (a < b)
  | .str a, .str b => ltStr a b
  | .tup a, .tup b => lts a b
  | .lst a, .lst b => lts a b
  | _, _ => false
def lts : List D → List D → Bool
  | [], [] => false
  | [], _ :: _ => true
  | _ :: _, [] => false
  | x :: xs, y :: ys => if eqv x y then lts xs ys else lt x y
end
mutual
/-- plain data, at most n deep -/
def okd : Nat → D → Bool
  | _, .non => true
  | _, .bl _ => true
  | _, .int _ => true
  | _, .str s => s.all fun c => decide (c < 1114112)
  | n + 1, .tup l => okds n l
  | n + 1, .lst l => okds n l
  | _, _ => false
def okds : Nat → List D → Bool
  | _, [] => true
  | n, x :: xs => okd n x && okds n xs
end
def deep : Nat := 40

/-! ### operations -/
def addD : D → D → M D
  | .int a, .int b => pure (.int (a + b))
  | .tup a, .tup b => if a.length + b.length ≤ 16777216 then pure (.tup (a ++ b)) else no
  | .lst a, .lst b => if a.length + b.length ≤ 16777216 then pure (.lst (a ++ b)) else no
  | .str a, .str b => if a.length + b.length ≤ 16777216 then pure (.str (a ++ b)) else no
  | _, _ => no
def subD : D → D → M D
  | .int a, .int b => pure (.int (a - b))
  | _, _ => no
def rep {α : Type} (l : List α) (k : Int) : List α := (List.replicate k.toNat l).flatten
/-- a test at which the kernel stops at once on symbols -/
def absLe (i : Int) (b : Nat) : Bool := Nat.ble i.natAbs b
theorem absLe_of {i : Int} {b : Nat} : absLe i b = true ↔ i.natAbs ≤ b := by
  unfold absLe
  exact ⟨Nat.le_of_ble_eq_true, Nat.ble_eq_true_of_le⟩
def mulD : D → D → M D
  | .int a, .int b => if (absLe a 18446744073709551615 || absLe b 18446744073709551615) = true then pure (.int (a * b)) else no
  | .tup l, .int k => if (absLe k 1000 && Nat.ble l.length 1000) = true then pure (.tup (rep l k)) else no
  | .lst l, .int k => if (absLe k 16777216 && Nat.ble (l.length * k.toNat) 16777216) = true then pure (.lst (rep l k)) else no
  | .str l, .int k => if (absLe k 16777216 && Nat.ble (l.length * k.toNat) 16777216) = true then pure (.str (rep l k)) else no
  | _, _ => no
def fdvD : D → D → M D
  | .int a, .int b => if 0 < b ∧ absLe b 1073741823 = true then pure (.int (a / b)) else no
  | _, _ => no
def modD : D → D → M D
  | .int a, .int b => if 0 < b then pure (.int (a % b)) else no
  | _, _ => no
def negD : D → M D
  | .int a => pure (.int (-a))
  | _ => no
inductive Cp where
  | eq | ne | lt | le | gt | ge
  deriving DecidableEq
def eqD (a b : D) : M Bool := if okd deep a && okd deep b then pure (eqv a b) else no
def neD (a b : D) : M Bool := if okd deep a && okd deep b then pure (!eqv a b) else no
def ltD : D → D → M Bool
  | .int a, .int b => pure (decide (a < b))
  | .tup a, .tup b => if okds deep a && okds deep b && likes a b then pure (lts a b) else no
  | _, _ => no
def leD' : D → D → M Bool
  | .int a, .int b => pure (decide (a ≤ b))
  | .tup a, .tup b => if okds deep a && okds deep b && likes a b && likes b a then pure (!lts b a) else no
  | _, _ => no
def gtD : D → D → M Bool
  | .int a, .int b => pure (decide (b < a))
  | .tup a, .tup b => if okds deep a && okds deep b && likes a b && likes b a then pure (lts b a) else no
  | _, _ => no
def geD : D → D → M Bool
  | .int a, .int b => pure (decide (b ≤ a))
  | _, _ => no
def cmpD : Cp → D → D → M Bool
  | .eq => eqD
  | .ne => neD
  | .lt => ltD
  | .le => leD'
  | .gt => gtD
  | .ge => geD
def tru : D → M Bool
  | .non => pure false
  | .bl b => pure b
  | .int i => pure (decide (i ≠ 0))
  | .str s => if s.length ≤ 16777216 then pure !s.isEmpty else no
  | .tup l => pure !l.isEmpty
  | .lst l => pure !l.isEmpty
  | .dic l _ => pure !l.isEmpty
  | .scr l => pure !l.isEmpty
  | _ => no
/-- a place in a row, from its end where it lies below nought -/
def atI {α : Type} (l : List α) (i : Int) : Option α :=
  if 0 ≤ i then l[i.toNat]? else if 0 ≤ i + l.length then l[(i + l.length).toNat]? else none
def ixN (n : Nat) (i : Int) : Option Nat :=
  if 0 ≤ i then (if i < n then some i.toNat else none) else if 0 ≤ i + n then some (i + n).toNat else none
def look : List D → List D → D → Option D
  | k :: ks, v :: vs, x => if eqv k x then some v else look ks vs x
  | _, _, _ => none
def has : List D → D → Bool
  | k :: ks, x => eqv k x || has ks x
  | _, _ => false
def put : List D → List D → D → D → List D
  | k :: ks, v :: vs, x, y => if eqv k x then y :: vs else v :: put ks vs x y
  | _, _, _, y => [y]
def putK (ks : List D) (x : D) : List D := if has ks x then ks else ks ++ [x]
def opt {α : Type} : Option α → M α
  | some a => pure a
  | none => no
def ixD : D → D → M D
  | .tup l, .int i => opt (atI l i)
  | .lst l, .int i => opt (atI l i)
  | .str l, .int i => if l.length ≤ 16777216 then opt ((atI l i).map fun c => .str [c]) else no
  | .scr l, .int i => opt ((atI l i).map .int)
  | .dic ks vs, x => if okd 8 x then opt (look ks vs x) else no
  | _, _ => no
def cutIx (n d : Nat) : Option Int → Nat
  | none => d
  | some i => if 0 ≤ i then min i.toNat n else (i + n).toNat
def cut {α : Type} (l : List α) (lo hi : Option Int) : List α :=
  (l.drop (cutIx l.length 0 lo)).take (cutIx l.length l.length hi - cutIx l.length 0 lo)
def intP : D → M Int
  | .int i => pure i
  | _ => no
def slD (x : D) (lo hi : Option Int) : M D := match x with
  | .tup l => pure (.tup (cut l lo hi))
  | .lst l => pure (.lst (cut l lo hi))
  | .str l => if l.length ≤ 16777216 then pure (.str (cut l lo hi)) else no
  | _ => no
def slhD (x h : D) : M D := do let j ← intP h; slD x none (some j)
def sllD (x l : D) : M D := do let i ← intP l; slD x (some i) none
def slbD (x l h : D) : M D := do let i ← intP l; let j ← intP h; slD x (some i) (some j)
def revD : D → M D
  | .tup l => pure (.tup l.reverse)
  | .lst l => pure (.lst l.reverse)
  | .str l => pure (.str l.reverse)
  | _ => no
def boolsL : List D → M (List Bool)
  | [] => pure []
  | .bl b :: r => do let bs ← boolsL r; pure (b :: bs)
  | _ :: _ => no
def intsL : List D → M (List Int)
  | [] => pure []
  | .int b :: r => do let bs ← intsL r; pure (b :: bs)
  | _ :: _ => no
def leD (a b : D) : Bool := !lt b a
def isTup1 : D → Bool
  | .tup (_ :: _) => true
  | _ => false
def isTup0 : D → Bool
  | .tup _ => true
  | _ => false
def isNon : D → Bool
  | .non => true
  | _ => false
/-- rows whose items can be ordered -/
def alikes (l : List D) : Bool := l.all fun x => l.all fun y => like x y
def sortable (l : List D) : Bool := okds deep l && alikes l && (l.all isTup1 || l.all fun x => !isTup0 x && !isNon x)
def minable (l : List D) : Bool := okds deep l && alikes l && l.all fun x => !isNon x
def sortL (l : List D) : List D := l.mergeSort leD
def minL : D → List D → D
  | b, [] => b
  | b, x :: xs => minL (if lt x b then x else b) xs
def maxL : D → List D → D
  | b, [] => b
  | b, x :: xs => maxL (if lt b x then x else b) xs
def sumL : List D → D → M D
  | [], a => pure a
  | x :: xs, a => do let b ← addD a x; sumL xs b
def items : D → M (List D)
  | .tup l => pure l
  | .lst l => pure l
  | .dic ks _ => pure ks
  | .str s => if s.length ≤ 16777216 then pure (s.map fun c => .str [c]) else no
  | _ => no
inductive F1 where
  | len | all | any | tuple | list | sorted | min | max | sum | int | str | dict
  deriving DecidableEq
def lenM : M D := fun k => some (.int k, k)
def pairsD : List D → List D → List D → M D
  | [], ks, vs => pure (.dic ks vs)
  | .tup [k, v] :: r, ks, vs => if okd 8 k then pairsD r (putK ks k) (put ks vs k v) else no
  | _ :: _, _, _ => no
def digits (n : Nat) : List Nat := (Nat.toDigits 10 n).map Char.toNat
def strInt (i : Int) : List Nat := if i < 0 then 45 :: digits i.natAbs else digits i.natAbs
def num1 : List Nat → Option Int
  | [c] => if 48 ≤ c ∧ c ≤ 57 then some ((c : Int) - 48) else none
  | _ => none
def f1D : F1 → D → M D
  | .len, .town => lenM
  | .len, .scr l => pure (.int l.length)
  | .len, .str s => if s.length ≤ 16777216 then pure (.int s.length) else no
  | .len, .tup l => pure (.int l.length)
  | .len, .lst l => pure (.int l.length)
  | .len, .dic l _ => pure (.int l.length)
  | .all, .lst l => do let bs ← boolsL l; pure (.bl (bs.all id))
  | .any, .lst l => do let bs ← boolsL l; pure (.bl (bs.any id))
  | .tuple, .lst l => pure (.tup l)
  | .tuple, .tup l => pure (.tup l)
  | .list, .lst l => pure (.lst l)
  | .list, .tup l => pure (.lst l)
  | .sorted, .lst l => if sortable l then pure (.lst (sortL l)) else no
  | .min, .lst (x :: l) => if minable (x :: l) then pure (minL x l) else no
  | .max, .lst (x :: l) => if minable (x :: l) then pure (maxL x l) else no
  | .min, .tup (x :: l) => if minable (x :: l) then pure (minL x l) else no
  | .max, .tup (x :: l) => if minable (x :: l) then pure (maxL x l) else no
  | .sum, .lst l => do let ns ← intsL l; pure (.int ns.sum)
  | .int, .int i => pure (.int i)
  | .int, .bl b => pure (.int (if b then 1 else 0))
  | .int, .str s => opt ((num1 s).map .int)
  | .str, .int i => if absLe i 16777216 = true then pure (.str (strInt i)) else no
  | .dict, .lst l => pairsD l [] []
  | _, _ => no
inductive F2 where
  | min | max | sum
  deriving DecidableEq
def f2D : F2 → D → D → M D
  | .min, .int a, .int b => pure (.int (if b < a then b else a))
  | .max, .int a, .int b => pure (.int (if a < b then b else a))
  | .sum, .lst l, .lst a => sumL l (.lst a)
  | _, _, _ => no
inductive Ty where
  | int | bool | tuple | str
  deriving DecidableEq
def isTy : Ty → D → M Bool
  | _, .town => no
  | _, .scr _ => no
  | .int, .int _ => pure true
  | .int, .bl _ => pure true
  | .bool, .bl _ => pure true
  | .tuple, .tup _ => pure true
  | .str, .str _ => pure true
  | _, _ => pure false
def inD (x y : D) : M Bool := match y with
  | .tup l => if okd deep x && okds deep l then pure (has l x) else no
  | .lst l => if okd deep x && okds deep l then pure (has l x) else no
  | .dic ks _ => if okd 8 x then pure (has ks x) else no
  | .str s => (match x with
    | .str [c] => pure (s.contains c)
    | _ => no)
  | _ => no
def idxD : D → D → M D
  | .tup l, .int i => do let ns ← intsL l; if ns.contains i then pure (.int (ns.idxOf i)) else no
  | .lst l, .int i => do let ns ← intsL l; if ns.contains i then pure (.int (ns.idxOf i)) else no
  | _, _ => no
def getD : D → D → D → M D
  | .dic ks vs, k, x => if okd 8 k then pure ((look ks vs k).getD x) else no
  | _, _, _ => no
def isbD (n : Bool) (b : Bool) : D → M D
  | .bl a => pure (.bl (xor n (decide (a = b))))
  | _ => no

/-! ### the language -/
inductive Sk where
  | it | r1 | r2 | r3 | en | zp
  deriving DecidableEq
inductive Tg where
  | one (i : Nat)
  | two (i j : Nat)
  deriving DecidableEq
inductive E where
  | v (i : Nat)
  | bv (i : Nat)
  | c (d : D)
  | gl (x : Nat) (d : D)
  | tup (es : List E)
  | lst (es : List E)
  | add (a b : E) | sub (a b : E) | mul (a b : E) | fdv (a b : E) | mod (a b : E)
  | neg (a : E)
  | cmp (o : Cp) (a b : E)
  | chain (o o' : Cp) (a b c : E)
  | isn (n : Bool) (a : E)
  | isb (n : Bool) (a : E) (b : Bool)
  | inn (n : Bool) (a b : E)
  | not (a : E)
  | and (es : List E) | or (es : List E)
  | ite (c a b : E)
  | call (f : Nat) (es : List E)
  | callL (f : Nat) (es : List E) (li : Nat) (caps : List Nat)
  | callv (i : Nat) (es : List E)
  | b1 (f : F1) (a : E)
  | b2 (f : F2) (a b : E)
  | isi (t : Ty) (a : E)
  | ix (a b : E)
  | slh (a hi : E)
  | sll (a lo : E)
  | slb (a lo hi : E)
  | rev (a : E)
  | lc (t : Tg) (k : Sk) (a b c cond elt : E) (own : List Nat)
  | get (a k x : E)
  | idx (a x : E)
inductive S where
  | fz (is : List Nat)
  | set (i : Nat) (e : E)
  | own (i : Nat) (e : E)
  | tgt (t : Tg) (e : E)
  | par (is : List (Nat × Bool)) (es : List E)
  | exp (e : E)
  | app (i : Nat) (e : E)
  | ext (i : Nat) (e : E)
  | sti (i : Nat) (k e : E)
  | dpt (i : Nat) (k e : E)
  | popa (i j : Nat) (e : E)
  | tick (i : Nat)
  | for (t : Tg) (k : Sk) (a b c : E) (body : List S)
  | whl (c : E) (body : List S)
  | ite (c : E) (a b : List S)
  | ret (e : E)
  | retN | brk | cnt | pass
inductive Sl where
  | un
  | fr (d : D)
  | ow (d : D)
  | cl (li : Nat) (cs : List D)
  deriving Inhabited
/-- what is called: a def, a lambda that a def got, a def whose last argument is a lambda -/
structure Cs where
  cl : Nat → List D → M D
  cc : Nat → List D → List D → M D
  cx : Nat → List D → Nat → List D → M D
abbrev St := List Sl
inductive Fl where
  | nx | rt (d : D) | bk | ct

def getV (st : St) (i : Nat) : M D := match st[i]? with
  | some (.fr d) => pure d
  | _ => no
def getB (st : St) (i : Nat) : M D := match st[i]? with
  | some (.fr d) => pure d
  | some (.ow d) => pure d
  | _ => no
def getC (st : St) (i : Nat) : M (Nat × List D) := match st[i]? with
  | some (.cl li cs) => pure (li, cs)
  | _ => no
def bindTg : Tg → D → St → M St
  | .one i, x, st => pure (st.set i (.fr x))
  | .two i j, x, st => match x with
    | .tup [a, b] => pure ((st.set i (.fr a)).set j (.fr b))
    | _ => no
def wipe (st : St) : List Nat → St
  | [] => st
  | i :: is => (wipe st is).set i .un
def slOf (own : Bool) (d : D) : Sl := if own then .ow d else .fr d
def setAll : St → List (Nat × Bool) → List D → St
  | st, (i, o) :: is, d :: ds => setAll (st.set i (slOf o d)) is ds
  | st, _, _ => st
def lcM (f : D → M (Option D)) : List D → M (List D)
  | [] => pure []
  | x :: xs => do
    let r ← f x
    let rs ← lcM f xs
    pure (match r with | some d => d :: rs | none => rs)
def rangeL (a : Int) (n : Nat) (c : Int) : List D := (List.range n).map fun (i : Nat) => .int (a + i * c)
def smallI (i : Int) : Bool := absLe i 8388608
def rangeN (a b c : Int) : Nat := if 0 < c then ((b - a + c - 1) / c).toNat else ((a - b + (-c) - 1) / (-c)).toNat
def srcD : Sk → D → D → D → M (List D)
  | .it, x, _, _ => items x
  | .r1, .int b, _, _ => if smallI b then pure (rangeL 0 b.toNat 1) else no
  | .r2, .int a, .int b, _ => if smallI a && smallI b then pure (rangeL a (b - a).toNat 1) else no
  | .r3, .int a, .int b, .int c => if smallI a && smallI b && smallI c && decide (c ≠ 0) then pure (rangeL a (rangeN a b c) c) else no
  | .en, .tup l, _, _ => pure (l.zipIdx.map fun p => .tup [.int p.2, p.1])
  | .en, .lst l, _, _ => pure (l.zipIdx.map fun p => .tup [.int p.2, p.1])
  | .zp, .tup l, .tup m, _ => pure (List.zipWith (fun a b => .tup [a, b]) l m)
  | .zp, .lst l, .lst m, _ => pure (List.zipWith (fun a b => .tup [a, b]) l m)
  | _, _, _, _ => no
def caps (st : St) : List Nat → M (List D)
  | [] => pure []
  | i :: is => do let d ← getV st i; let ds ← caps st is; pure (d :: ds)
def inM (n : Bool) (x y : D) : M D := do let r ← inD x y; pure (.bl (xor n r))
def isnD (n : Bool) : D → D
  | .non => .bl (!n)
  | _ => .bl n
def cmpM (o : Cp) (a b : D) : M D := do let r ← cmpD o a b; pure (.bl r)

section
variable (C : Cs)
mutual
def ev : E → St → M D
  | .v i, st => getV st i
  | .bv i, st => getB st i
  | .c d, _ => pure d
  | .gl _ d, _ => pure d
  | .tup es, st => do let ds ← evs es st; pure (.tup ds)
  | .lst es, st => do let ds ← evs es st; pure (.lst ds)
  | .add a b, st => do let x ← ev a st; let y ← ev b st; addD x y
  | .sub a b, st => do let x ← ev a st; let y ← ev b st; subD x y
  | .mul a b, st => do let x ← ev a st; let y ← ev b st; mulD x y
  | .fdv a b, st => do let x ← ev a st; let y ← ev b st; fdvD x y
  | .mod a b, st => do let x ← ev a st; let y ← ev b st; modD x y
  | .neg a, st => do let x ← ev a st; negD x
  | .cmp o a b, st => do let x ← ev a st; let y ← ev b st; cmpM o x y
  | .chain o o' a b c, st => do
    let x ← ev a st
    let y ← ev b st
    let r ← cmpD o x y
    if r then do let z ← ev c st; cmpM o' y z else pure (.bl false)
  | .isn n a, st => do let x ← ev a st; pure (isnD n x)
  | .isb n a b, st => do let x ← ev a st; isbD n b x
  | .inn n a b, st => do let x ← ev a st; let y ← ev b st; inM n x y
  | .not a, st => do let x ← ev a st; let r ← tru x; pure (.bl !r)
  | .and es, st => evAnd es st
  | .or es, st => evOr es st
  | .ite c a b, st => do let x ← ev c st; let r ← tru x; if r then ev a st else ev b st
  | .call f es, st => do let ds ← evs es st; C.cl f ds
  | .callL f es li is, st => do let ds ← evs es st; let cs ← caps st is; C.cx f ds li cs
  | .callv i es, st => do
    let (li, cs) ← getC st i
    let ds ← evs es st
    C.cc li cs ds
  | .b1 f a, st => do let x ← ev a st; f1D f x
  | .b2 f a b, st => do let x ← ev a st; let y ← ev b st; f2D f x y
  | .isi t a, st => do let x ← ev a st; let r ← isTy t x; pure (.bl r)
  | .ix a b, st => do let x ← ev a st; let y ← ev b st; ixD x y
  | .slh a hi, st => do let x ← ev a st; let h ← ev hi st; slhD x h
  | .sll a lo, st => do let x ← ev a st; let l ← ev lo st; sllD x l
  | .slb a lo hi, st => do let x ← ev a st; let l ← ev lo st; let h ← ev hi st; slbD x l h
  | .rev a, st => do let x ← ev a st; revD x
  | .lc t k a b c cond elt own, st => do
    let x ← ev a st
    let y ← ev b st
    let z ← ev c st
    let l ← srcD k x y z
    let r ← lcM (fun d => do
      let st' ← bindTg t d (wipe st own)
      let q ← ev cond st'
      let g ← tru q
      if g then do let e ← ev elt st'; pure (some e) else pure none) l
    pure (.lst r)
  | .get a k x, st => do let d ← ev a st; let y ← ev k st; let z ← ev x st; getD d y z
  | .idx a x, st => do let d ← ev a st; let y ← ev x st; idxD d y
def evs : List E → St → M (List D)
  | [], _ => pure []
  | e :: es, st => do let d ← ev e st; let ds ← evs es st; pure (d :: ds)
def evAnd : List E → St → M D
  | [], _ => no
  | [e], st => ev e st
  | e :: es, st => do let d ← ev e st; let r ← tru d; if r then evAnd es st else pure d
def evOr : List E → St → M D
  | [], _ => no
  | [e], st => ev e st
  | e :: es, st => do let d ← ev e st; let r ← tru d; if r then pure d else evOr es st
end
def forM' (body : D → St → M (St × Fl)) : List D → St → M (St × Fl)
  | [], st => pure (st, .nx)
  | x :: xs, st => do
    let (st1, fl) ← body x st
    match fl with
    | .nx => forM' body xs st1
    | .ct => forM' body xs st1
    | .bk => pure (st1, .nx)
    | .rt d => pure (st1, .rt d)
def whM (c : St → M Bool) (body : St → M (St × Fl)) : Nat → St → M (St × Fl)
  | 0, _ => no
  | n + 1, st => do
    let b ← c st
    if b then do
      let (st1, fl) ← body st
      match fl with
      | .nx => whM c body n st1
      | .ct => whM c body n st1
      | .bk => pure (st1, .nx)
      | .rt d => pure (st1, .rt d)
    else pure (st, .nx)
def frz1 : Sl → Sl
  | .ow d => .fr d
  | s => s
def fz (st : St) : List Nat → St
  | [] => st
  | i :: is => match st[i]? with
    | some s => fz (st.set i (frz1 s)) is
    | none => fz st is
def getO (st : St) (i : Nat) : M D := match st[i]? with
  | some (.ow d) => pure d
  | _ => no
def tickM (d : D) : M Unit := fun k => match d with
  | .town => if k < 16777216 then some ((), k + 1) else none
  | _ => none
def appD (x : D) (y : D) : M D := match x with
  | .lst l => if l.length < 16777216 then pure (.lst (l ++ [y])) else no
  | _ => no
def extD (x : D) (y : D) : M D := match x, y with
  | .lst l, .lst r => if l.length + r.length ≤ 16777216 then pure (.lst (l ++ r)) else no
  | _, _ => no
def stiD (x k y : D) : M D := match x, k with
  | .lst l, .int i => (match ixN l.length i with
    | some j => pure (.lst (l.set j y))
    | none => no)
  | _, _ => no
def dptD (x k y : D) : M D := match x with
  | .dic ks vs => if okd 8 k && decide (ks.length < 16777216) then pure (.dic (putK ks k) (put ks vs k y)) else no
  | _ => no
def popD (x k : D) : M (D × D) := match x, k with
  | .lst l, .int i => if ¬ smallI i = true then no else (match ixN l.length i with
    | some j => (match l[j]? with
      | some d => pure (d, .lst (l.eraseIdx j))
      | none => no)
    | none => no)
  | _, _ => no
def fuel : Nat := 1048576
mutual
def ex : S → St → M (St × Fl)
  | .fz is, st => pure (fz st is, .nx)
  | .set i e, st => do let d ← ev C e st; pure (st.set i (.fr d), .nx)
  | .own i e, st => do let d ← ev C e st; pure (st.set i (.ow d), .nx)
  | .tgt t e, st => do let d ← ev C e st; let st' ← bindTg t d st; pure (st', .nx)
  | .par is es, st => do let ds ← evs C es st; pure (setAll st is ds, .nx)
  | .exp e, st => do let _ ← ev C e st; pure (st, .nx)
  | .app i e, st => do
    let d ← ev C e st
    let x ← getO st i
    let y ← appD x d
    pure (st.set i (.ow y), .nx)
  | .ext i e, st => do
    let d ← ev C e st
    let x ← getO st i
    let y ← extD x d
    pure (st.set i (.ow y), .nx)
  | .sti i k e, st => do
    let d ← ev C e st
    let x ← getO st i
    let j ← ev C k st
    let y ← stiD x j d
    pure (st.set i (.ow y), .nx)
  | .dpt i k e, st => do
    let d ← ev C e st
    let x ← getO st i
    let j ← ev C k st
    let y ← dptD x j d
    pure (st.set i (.ow y), .nx)
  | .popa i j e, st => do
    let k ← ev C e st
    let x ← getO st j
    let (d, x') ← popD x k
    let f ← getO st i
    let y ← appD f d
    pure ((st.set j (.ow x')).set i (.ow y), .nx)
  | .tick i, st => do let d ← getV st i; tickM d; pure (st, .nx)
  | .for t k a b c body, st => do
    let x ← ev C a st
    let y ← ev C b st
    let z ← ev C c st
    let l ← srcD k x y z
    forM' (fun d st => do let st' ← bindTg t d st; exs body st') l st
  | .whl c body, st => whM (fun st => do let d ← ev C c st; tru d) (fun st => exs body st) fuel st
  | .ite c a b, st => do
    let d ← ev C c st
    let r ← tru d
    if r then exs a st else exs b st
  | .ret e, st => do let d ← ev C e st; pure (st, .rt d)
  | .retN, st => pure (st, .rt .non)
  | .brk, st => pure (st, .bk)
  | .cnt, st => pure (st, .ct)
  | .pass, st => pure (st, .nx)
def exs : List S → St → M (St × Fl)
  | [], st => pure (st, .nx)
  | s :: ss, st => do
    let (st1, fl) ← ex s st
    match fl with
    | .nx => exs ss st1
    | fl => pure (st1, fl)
end
end

/-! ### programs -/
inductive Fd where
  | py (np ns : Nat) (body : List S)
  | prim (np : Nat) (g : (Nat → List D → M D) → List D → M D)
structure Ld where
  np : Nat
  nc : Nat
  ns : Nat
  body : E
structure Pr where
  fns : List Fd
  lams : List Ld
def runB (C : Cs) (ns : Nat) (body : List S) (args : List Sl) : M D := do
  let (_, fl) ← exs C body (args ++ List.replicate (ns - args.length) .un)
  match fl with
  | .rt d => pure d
  | .nx => pure .non
  | _ => no
def runF (C : Cs) : Fd → List D → M D
  | .py np ns body, args => if args.length = np then runB C ns body (args.map .fr) else no
  | .prim np g, args => if args.length = np then g C.cl args else no
def runX (C : Cs) : Fd → List D → Nat → List D → M D
  | .py np ns body, args, li, cs => if args.length + 1 = np then runB C ns body (args.map .fr ++ [.cl li cs]) else no
  | .prim _ _, _, _, _ => no
def runL (C : Cs) (l : Ld) (cs args : List D) : M D :=
  if args.length = l.np ∧ cs.length = l.nc then ev C l.body (args.map .fr ++ (cs.map .fr ++ List.replicate (l.ns - l.np - l.nc) .un)) else no
/-- the calls, n deep -/
def calls (P : Pr) : Nat → Cs
  | 0 => ⟨fun _ _ => no, fun _ _ _ => no, fun _ _ _ _ => no⟩
  | n + 1 =>
    ⟨fun f args => match P.fns[f]? with
      | some fd => runF (calls P n) fd args
      | none => no,
     fun l cs args => match P.lams[l]? with
      | some ld => runL (calls P n) ld cs args
      | none => no,
     fun f args li cs => match P.fns[f]? with
      | some fd => runX (calls P n) fd args li cs
      | none => no⟩
/-! ### the law -/
def lawSt (n it : Nat) (ns : List Int) : G.St := (([D.scr ns]).map Sl.fr ++ List.replicate (n - 1) Sl.un).set it (.fr .town)
/-- what the law computes, behind its first statement -/
def lawRun (C : Cs) (n it : Nat) (body : List S) (ns : List Int) : M D := do
  let (_, fl) ← exs C body (lawSt n it ns)
  match fl with
  | .rt d => pure d
  | .nx => pure .non
  | _ => no
end G

namespace G
open PySem PySem.Spec PyProof.Rows L2

def strOf (s : List Nat) : Str := ⟨s.toArray⟩

/-- the script: known to the object, or one of the module's own -/
def ScrL (K : PySem.W.Frag) (H : Hp) (a : Addr) (xs : List V) : Prop :=
  (∃ o, H a = some (.frz o (.lst xs))) ∨
    ∃ (o : Obj) (its : Array Value) (n : Nat), K.lookup a = some o ∧ o.cls = .type "list" ∧ o.dict = none ∧ o.data = .seq its n ∧ its.size ≤ sizeLine ∧ Vals xs its.toList
theorem ScrL.sq {K : PySem.W.Frag} {H : Hp} {a : Addr} {xs : List V} (h : ScrL K H a xs) : SqL K H a xs := by
  rcases h with ⟨o, h⟩ | h
  · exact .inl (.inr ⟨o, h⟩)
  · exact .inr h

mutual
/-- the value v stands for the data d; T: the town -/
inductive Den (T : Addr) (K : PySem.W.Frag) (H : Hp) : V → D → Prop
  | non : Den T K H .non .non
  | bl (b : Bool) : Den T K H (.bl b) (.bl b)
  | int (i : Int) : Den T K H (.int i) (.int i)
  | str (s : List Nat) : Den T K H (.str (strOf s)) (.str s)
  | tup {a : Addr} {xs : List V} {ds : List D} : H a = some (.tup xs) → Dens T K H xs ds → Den T K H (.ref a) (.tup ds)
  | lst {a : Addr} {o : Obj} {xs : List V} {ds : List D} : H a = some (.frz o (.lst xs)) → Dens T K H xs ds → Den T K H (.ref a) (.lst ds)
  | town : Den T K H (.ref T) .town
  | scr {a : Addr} {ns : List Int} : ScrL K H a (ns.map V.int) → Den T K H (.ref a) (.scr ns)
inductive Dens (T : Addr) (K : PySem.W.Frag) (H : Hp) : List V → List D → Prop
  | nil : Dens T K H [] []
  | cons {v : V} {vs : List V} {d : D} {ds : List D} : Den T K H v d → Dens T K H vs ds → Dens T K H (v :: vs) (d :: ds)
end

/-- what stood stands, but for the town and the tables of code objects -/
structure Grow (T : Addr) (H H' : Hp) : Prop where
  keep : ∀ a o, H a = some o → a ≠ T → (∀ ps, o ≠ .tbl ps) → H' a = some o
  none : ∀ a, H' a = Option.none → H a = Option.none
theorem Grow.refl (T : Addr) (H : Hp) : Grow T H H := ⟨fun _ _ h _ _ => h, fun _ h => h⟩
theorem Grow.trans {T : Addr} {H H1 H2 : Hp} (a : Grow T H H1) (b : Grow T H1 H2) : Grow T H H2 := ⟨fun x o h n m => b.keep x o (a.keep x o h n m) n m, fun x h => a.none x (b.none x h)⟩
theorem Grow.at {T : Addr} {H H' : Hp} {p : Addr} {o : HO} (e : Grow T H H') (h : H p = Option.none) : Grow T H (upd H' p o) := ⟨fun a u ha n m => by
  rw [upd_ne (ne_of_none ha h)]
  exact e.keep a u ha n m, fun a ha => e.none a (NdefX.upd_none ha)⟩
theorem Grow.new {T : Addr} {H : Hp} {p : Addr} {o : HO} (h : H p = Option.none) : Grow T H (upd H p o) := (Grow.refl T H).at h

/-- what data lean on: tuples and locked lists -/
structure Keeps (H H' : Hp) : Prop where
  tu : ∀ a xs, H a = some (.tup xs) → H' a = some (.tup xs)
  fr : ∀ a o xs, H a = some (.frz o (.lst xs)) → H' a = some (.frz o (.lst xs))
  ex : ∀ a φ, H a = some (.ext φ) → H' a = some (.ext φ)
theorem ScrL.keep {K : PySem.W.Frag} {H H' : Hp} {a : Addr} {xs : List V} (k : Keeps H H') (h : ScrL K H a xs) : ScrL K H' a xs := by
  rcases h with ⟨o, h⟩ | h
  · exact .inl ⟨o, k.2 a o xs h⟩
  · exact .inr h
section
variable {T : Addr} {K : PySem.W.Frag} {H H' : Hp}
mutual
theorem Den.keep (k : Keeps H H') : ∀ (d : D) (v : V), Den T K H v d → Den T K H' v d
  | .non, _, h => by cases h; exact .non
  | .bl b, _, h => by cases h; exact .bl b
  | .int i, _, h => by cases h; exact .int i
  | .str s, _, h => by cases h; exact .str s
  | .tup ds, _, h => by
    cases h with
    | tup h1 h2 => exact .tup (k.1 _ _ h1) (Dens.keep k ds _ h2)
  | .lst ds, _, h => by
    cases h with
    | lst h1 h2 => exact .lst (k.2 _ _ _ h1) (Dens.keep k ds _ h2)
  | .dic _ _, _, h => by cases h
  | .town, _, h => by cases h; exact .town
  | .scr _, _, h => by
    cases h with
    | scr h1 => exact .scr (h1.keep k)
theorem Dens.keep (k : Keeps H H') : ∀ (ds : List D) (vs : List V), Dens T K H vs ds → Dens T K H' vs ds
  | [], _, h => by cases h; exact .nil
  | d :: ds, _, h => by
    cases h with
    | cons h1 h2 => exact .cons (Den.keep k d _ h1) (Dens.keep k ds _ h2)
end
end
/-- the town: so many noughts -/
def Town (T : Addr) (H : Hp) (k : Nat) : Prop := H T = some (.lst (List.replicate k (.int 0))) ∧ k ≤ 16777216
theorem Grow.keeps {T : Addr} {H H' : Hp} {k : Nat} (g : Grow T H H') (t : Town T H k) : Keeps H H' :=
  ⟨fun a xs e => g.keep a _ e (fun z => by rw [z, t.1] at e; cases e) (fun _ z => nomatch z), fun a o xs e => g.keep a _ e (fun z => by rw [z, t.1] at e; cases e) (fun _ z => nomatch z), fun a φ e => g.keep a _ e (fun z => by rw [z, t.1] at e; cases e) (fun _ z => nomatch z)⟩
theorem keeps_upd {H : Hp} {p : Addr} {o u : HO} (h : H p = some u) (h1 : ∀ xs, u ≠ .tup xs) (h2 : ∀ o' xs, u ≠ .frz o' (.lst xs)) (h3 : ∀ φ, u ≠ .ext φ := by intro _ z; cases z) : Keeps H (upd H p o) :=
  ⟨fun a xs e => by rw [upd_ne (fun z => by rw [z, h] at e; exact h1 xs (Option.some.inj e))]; exact e,
   fun a o' xs e => by rw [upd_ne (fun z => by rw [z, h] at e; exact h2 o' xs (Option.some.inj e))]; exact e,
   fun a φ e => by rw [upd_ne (fun z => by rw [z, h] at e; exact h3 φ (Option.some.inj e))]; exact e⟩
theorem keeps_new {H : Hp} {p : Addr} {o : HO} (h : H p = none) : Keeps H (upd H p o) :=
  ⟨fun a xs e => by rw [upd_ne (ne_of_none e h)]; exact e, fun a o' xs e => by rw [upd_ne (ne_of_none e h)]; exact e, fun a φ e => by rw [upd_ne (ne_of_none e h)]; exact e⟩
theorem Keeps.trans {H H1 H2 : Hp} (a : Keeps H H1) (b : Keeps H1 H2) : Keeps H H2 := ⟨fun x xs e => b.1 x xs (a.1 x xs e), fun x o xs e => b.2 x o xs (a.2 x o xs e), fun x φ e => b.3 x φ (a.3 x φ e)⟩
theorem Keeps.refl (H : Hp) : Keeps H H := ⟨fun _ _ e => e, fun _ _ _ e => e, fun _ _ e => e⟩

/-- the town and the tables of code objects -/
structure WS (T : Addr) (Tb : List NdefX.NTab) (H : Hp) (k : Nat) : Prop where
  town : Town T H k
  tabs : NdefX.TabsN Tb H

/-- the lambda li, made in a def, its captured values cs: what stands at f -/
abbrev CloT := Hp → Addr → Nat → List D → Addr → Prop
/-- a slot -/
def SlOk (T : Addr) (K : PySem.W.Frag) (CL : CloT) (H : Hp) : Sl → Option (Option V) → Prop
  | .un, _ => True
  | .fr d, some (some v) => Den T K H v d
  | .ow (.lst ds), some (some v) => ∃ a xs, v = .ref a ∧ a ≠ T ∧ H a = some (.lst xs) ∧ Dens T K H xs ds
  | .cl li cs, some (some v) => ∃ f, v = .ref f ∧ CL H f li cs T
  | _, _ => False
structure SR (T : Addr) (K : PySem.W.Frag) (CL : CloT) (st : G.St) (σ : L2.St) (H : Hp) : Prop where
  len : st.length = σ.length
  at' : ∀ (i : Nat) (s : Sl), st[i]? = some s → SlOk T K CL H s σ[i]?
  own : ∀ (i j : Nat) (d e : D) (a : Addr), st[i]? = some (.ow d) → st[j]? = some (.ow e) → σ[i]? = some (some (.ref a)) → σ[j]? = some (some (.ref a)) → i = j
/-- lambdas stay -/
def CloStays (CL : CloT) : Prop := ∀ H H' f li cs T, Keeps H H' → CL H f li cs T → CL H' f li cs T
theorem SlOk.grow {T : Addr} {K : PySem.W.Frag} {CL : CloT} {H H' : Hp} {k : Nat} (hc : CloStays CL) (g : Grow T H H') (t : Town T H k) : ∀ {s : Sl} {o : Option (Option V)}, SlOk T K CL H s o → SlOk T K CL H' s o := by
  intro s o h
  have kp := g.keeps t
  cases s with
  | un => exact True.intro
  | fr d =>
    cases o with
    | none => exact h
    | some o =>
      cases o with
      | none => exact h
      | some v => exact Den.keep kp d v h
  | ow d =>
    cases d with
    | lst ds =>
      cases o with
      | none => exact h
      | some o =>
        cases o with
        | none => exact h
        | some v =>
          obtain ⟨a, xs, e, n, ha, hd⟩ := h
          exact ⟨a, xs, e, n, g.keep a _ ha n (fun _ z => nomatch z), Dens.keep kp ds xs hd⟩
    | _ => cases o with
      | none => exact h
      | some o => cases o <;> exact h
  | cl li cs =>
    cases o with
    | none => exact h
    | some o =>
      cases o with
      | none => exact h
      | some v =>
        obtain ⟨f, e, hf⟩ := h
        exact ⟨f, e, hc H H' f li cs T kp hf⟩
theorem SR.grow {T : Addr} {K : PySem.W.Frag} {CL : CloT} {H H' : Hp} {k : Nat} {st : G.St} {σ : L2.St} (hc : CloStays CL) (r : SR T K CL st σ H) (g : Grow T H H') (t : Town T H k) : SR T K CL st σ H' :=
  ⟨r.len, fun i s e => (r.at' i s e).grow hc g t, r.own⟩
end G

namespace G
open PySem PySem.Spec PyProof.Rows L2

/-! ### the monad -/
theorem bind_some {α β : Type} {x : M α} {f : α → M β} {k : Nat} {r : β × Nat} : (x >>= f) k = some r ↔ ∃ a k1, x k = some (a, k1) ∧ f a k1 = some r := by
  show Option.bind (x k) (fun p => f p.1 p.2) = some r ↔ _
  cases h : x k with
  | none => simp
  | some p => exact ⟨fun e => ⟨p.1, p.2, rfl, e⟩, fun ⟨a, k1, e, q⟩ => by cases e; exact q⟩
theorem pure_some {α : Type} {a : α} {k : Nat} {r : α × Nat} : (pure a : M α) k = some r ↔ r = (a, k) := by
  show some (a, k) = some r ↔ _
  exact ⟨fun e => (Option.some.inj e).symm, fun e => by rw [e]⟩
theorem no_some {α : Type} {k : Nat} {r : α × Nat} : ¬ (no : M α) k = some r := fun e => nomatch e

/-! ### what is fixed -/
structure Cf where
  K : PySem.W.Frag
  Tb : List NdefX.NTab
  CL : CloT
  stays : CloStays CL
section
variable (g : Cf)
def tM (m : G.St → M D) : TE := fun σ H Q => ∃ T k st d k', WS T g.Tb H k ∧ SR T g.K g.CL st σ H ∧ m st k = some (d, k') ∧ ∀ v H', Grow T H H' → WS T g.Tb H' k' → Den T g.K H' v d → Q v H'
/-- a new list -/
def tN (m : G.St → M D) : TE := fun σ H Q => ∃ T k st d k', WS T g.Tb H k ∧ SR T g.K g.CL st σ H ∧ m st k = some (d, k') ∧ ∀ p xs ds H', d = .lst ds → H p = none → p ≠ T → Grow T H H' → WS T g.Tb H' k' → H' p = some (.lst xs) → Dens T g.K H' xs ds → Q (.ref p) H'
def tMB (m : G.St → M Bool) : TT := fun σ H Q => ∃ T k st b k', WS T g.Tb H k ∧ SR T g.K g.CL st σ H ∧ m st k = some (b, k') ∧ ∀ H', Grow T H H' → WS T g.Tb H' k' → Q b H'
def tMA (m : G.St → M (List D)) : TA := fun σ H Q => ∃ T k st ds k', WS T g.Tb H k ∧ SR T g.K g.CL st σ H ∧ m st k = some (ds, k') ∧ ∀ vs H', Grow T H H' → WS T g.Tb H' k' → Dens T g.K H' vs ds → Q vs H'
/-- an operation on values -/
def rM (h : D → D → M D) : R2 := fun x y H Q => ∃ T k d e r k', WS T g.Tb H k ∧ Den T g.K H x d ∧ Den T g.K H y e ∧ h d e k = some (r, k') ∧ ∀ v H', Grow T H H' → WS T g.Tb H' k' → Den T g.K H' v r → Q v H'
def rU1 (h : D → M D) : V → Hp → VK → Prop := fun x H Q => ∃ T k d r k', WS T g.Tb H k ∧ Den T g.K H x d ∧ h d k = some (r, k') ∧ ∀ v H', Grow T H H' → WS T g.Tb H' k' → Den T g.K H' v r → Q v H'
def rV1 (h : D → M D) : List V → Hp → VK → Prop := fun xs H Q => ∃ x, xs = [x] ∧ rU1 g h x H Q
def rV2 (h : D → D → M D) : List V → Hp → VK → Prop := fun xs H Q => ∃ x y, xs = [x, y] ∧ rM g h x y H Q
end
theorem PEi {X : Cx} {e : Expr} {t t' : TE} (h : PE X e t) (i : ∀ σ H Q, t' σ H Q → t σ H Q) : PE X e t' := ⟨fun pins s σ H Q I q => h.run pins s σ H Q I (i σ H Q q)⟩
theorem PTi {X : Cx} {e : Expr} {t t' : TT} (h : PT X e t) (i : ∀ σ H Q, t' σ H Q → t σ H Q) : PT X e t' := ⟨fun pins s σ H Q I q => h.run pins s σ H Q I (i σ H Q q)⟩
theorem PWi {X : Cx} {e : Expr} {t t' : TT} (h : PW X e t) (i : ∀ σ H Q, t' σ H Q → t σ H Q) : PW X e t' := ⟨fun wh pins s σ H Q I q => h.run wh pins s σ H Q I (i σ H Q q)⟩
theorem PAi {X : Cx} {e : List Expr} {t t' : TA} (h : PA X e t) (i : ∀ σ H Q, t' σ H Q → t σ H Q) : PA X e t' := ⟨fun pos pins s σ H Q I q => h.run pos pins s σ H Q I (i σ H Q q)⟩
theorem PSi {X : Cx} {e : Stmt} {t t' : TS} (h : PS X e t) (i : ∀ D σ H, t' D σ H → t D σ H) : PS X e t' := ⟨fun pins s σ H D I q => h.run pins s σ H D I (i D σ H q)⟩
theorem PSsi {X : Cx} {e : List Stmt} {t t' : TS} (h : PSs X e t) (i : ∀ D σ H, t' D σ H → t D σ H) : PSs X e t' := ⟨fun pins s σ H D I q => h.run pins s σ H D I (i D σ H q)⟩
theorem OpRi {X : Cx} {f : Value → Value → Sem Value} {r r' : R2} (h : OpR X f r) (i : ∀ x y H Q, r' x y H Q → r x y H Q) : OpR X f r' := fun pins s σ H x y v u Q I rx ry q => h pins s σ H x y v u Q I rx ry (i x y H Q q)
theorem CallRi {X : Cx} {f : Value} {r r' : List V → Hp → VK → Prop} (h : CallR X f r) (i : ∀ xs H Q, r' xs H Q → r xs H Q) : CallR X f r' := fun pins s σ H xs us Q I rx q => h pins s σ H xs us Q I rx (i xs H Q q)

section
variable {g : Cf} {X : Cx}
theorem WS.grow0 {T : Addr} {Tb : List NdefX.NTab} {H : Hp} {k : Nat} (w : WS T Tb H k) {p : Addr} {o : HO} (hp : H p = none) : WS T Tb (upd H p o) k :=
  ⟨⟨by rw [upd_ne (ne_of_none w.town.1 hp)]; exact w.town.1, w.town.2⟩, w.tabs.ext fun b u e => by rw [upd_ne (ne_of_none e hp)]; exact e⟩
theorem WS.neT {T : Addr} {Tb : List NdefX.NTab} {H : Hp} {k : Nat} (w : WS T Tb H k) {p : Addr} (hp : H p = none) : p ≠ T := fun z => by rw [z, w.town.1] at hp; cases hp
/-- something that stood is changed: not the town, no table, nothing that tables lean on -/
theorem WS.updL {T : Addr} {Tb : List NdefX.NTab} {H : Hp} {k : Nat} (w : WS T Tb H k) {p : Addr} {o : HO} {xs : List V} (hp : H p = some (.lst xs)) (n : p ≠ T) : WS T Tb (upd H p o) k := by
  refine ⟨⟨by rw [upd_ne (Ne.symm n)]; exact w.town.1, w.town.2⟩, fun q hq => ?_⟩
  obtain ⟨ps, h1, h2, h3⟩ := w.tabs q hq
  refine ⟨ps, by rw [upd_ne (fun z => by rw [z, hp] at h1; cases h1)]; exact h1, h2, fun pos cv hc => ?_⟩
  obtain ⟨c, e1, e2⟩ := h3 pos cv hc
  exact ⟨c, e1, by rw [upd_ne (fun z => by rw [z, hp] at e2; unfold LamX.CodeO at e2; cases e2)]; exact e2⟩

/-! ### a new list is locked -/
theorem PE.lockN {e : Expr} {m : G.St → M D} (hl : ∀ st k d k', m st k = some (d, k') → ∃ ds, d = .lst ds) (h : PE X e (tN g m)) : PE X e (tM g m) := by
  refine ⟨fun pins s σ H Q I hq => ?_⟩
  obtain ⟨T, k, st, d, k', w, r, em, q⟩ := hq
  refine thn (h.run pins s σ H (fun v H' => ∃ p xs ds, d = .lst ds ∧ v = .ref p ∧ H p = none ∧ p ≠ T ∧ Grow T H H' ∧ WS T g.Tb H' k' ∧ H' p = some (.lst xs) ∧ Dens T g.K H' xs ds) I
    ⟨T, k, st, d, k', w, r, em, fun p xs ds H' e1 e2 e3 e4 e5 e6 e7 => ⟨p, xs, ds, e1, rfl, e2, e3, e4, e5, e6, e7⟩⟩) fun u s' hu => ?_
  obtain ⟨v, H', I', rv, p, xs, ds, e1, e2, e3, e4, e5, e6, e7, e8⟩ := hu
  obtain ⟨o, I2⟩ := I'.lock e7 trivial
  have kp : Keeps H' (upd H' p (.frz o (.lst xs))) := keeps_upd e7 (fun _ z => nomatch z) (fun _ _ z => nomatch z)
  refine ⟨v, _, I2, rv, ?_⟩
  rw [e1] at q
  rw [e2]
  exact q _ _ (e5.at e3) (e6.updL e7 e4) (.lst upd_same (Dens.keep kp ds xs e8))
end
end G

namespace G
open PySem PySem.Spec PyProof.Rows L2

theorem line_eq : (16777216 : Nat) = sizeLine := sizeLine_eq.symm
section
variable {g : Cf} {X : Cx} {pins : List (Addr × Obj)} {σ : L2.St} {H : Hp} {s : Shared}
theorem frzL {a : Addr} {o : Obj} {xs : List V} (I : Inv X pins σ H s) (h : H a = some (.frz o (.lst xs))) :
    xs.length ≤ sizeLine ∧ ∃ (its : List Value) (n : Nat), Vals xs its ∧ xs.length = its.length ∧ s.heap.get? a = some { cls := .type "list", data := .seq its.toArray n } := by
  obtain ⟨_, z, its, n, r, e⟩ := I.hok a _ h
  exact ⟨z, its, n, r, r.length, e⟩
theorem Dens.length {T : Addr} {K : PySem.W.Frag} {H : Hp} : ∀ {ds : List D} {vs : List V}, Dens T K H vs ds → vs.length = ds.length
  | [], _, h => by cases h; rfl
  | _ :: _, _, h => by
    cases h with
    | cons _ h2 => simp [Dens.length h2]
theorem Dens.append {T : Addr} {K : PySem.W.Frag} {H : Hp} : ∀ {ds es : List D} {vs ws : List V}, Dens T K H vs ds → Dens T K H ws es → Dens T K H (vs ++ ws) (ds ++ es)
  | [], _, _, _, h, h' => by cases h; exact h'
  | _ :: _, _, _, _, h, h' => by
    cases h with
    | cons h1 h2 => exact .cons h1 (Dens.append h2 h')
theorem Dens.get {T : Addr} {K : PySem.W.Frag} {H : Hp} : ∀ {ds : List D} {vs : List V} {i : Nat} {d : D}, Dens T K H vs ds → ds[i]? = some d → ∃ v, vs[i]? = some v ∧ Den T K H v d
  | [], _, _, _, h, e => by simp at e
  | x :: ds, _, 0, d, h, e => by
    cases h with
    | cons h1 h2 =>
      simp at e
      subst e
      exact ⟨_, rfl, h1⟩
  | x :: ds, _, i + 1, d, h, e => by
    cases h with
    | cons h1 h2 =>
      obtain ⟨v, e1, e2⟩ := Dens.get (i := i) h2 (by simpa using e)
      exact ⟨v, by simpa using e1, e2⟩
theorem Dens.take {T : Addr} {K : PySem.W.Frag} {H : Hp} : ∀ {ds : List D} {vs : List V} (n : Nat), Dens T K H vs ds → Dens T K H (vs.take n) (ds.take n)
  | _, _, 0, _ => .nil
  | [], _, _ + 1, h => by cases h; exact .nil
  | _ :: _, _, n + 1, h => by
    cases h with
    | cons h1 h2 => exact .cons h1 (Dens.take n h2)
theorem Dens.drop {T : Addr} {K : PySem.W.Frag} {H : Hp} : ∀ {ds : List D} {vs : List V} (n : Nat), Dens T K H vs ds → Dens T K H (vs.drop n) (ds.drop n)
  | _, _, 0, h => h
  | [], _, _ + 1, h => by cases h; exact .nil
  | _ :: _, _, n + 1, h => by
    cases h with
    | cons h1 h2 => exact Dens.drop n h2
theorem Dens.set {T : Addr} {K : PySem.W.Frag} {H : Hp} {v : V} {d : D} (hd : Den T K H v d) : ∀ {ds : List D} {vs : List V} (n : Nat), Dens T K H vs ds → Dens T K H (vs.set n v) (ds.set n d)
  | [], _, _, h => by cases h; exact .nil
  | _ :: _, _, 0, h => by
    cases h with
    | cons h1 h2 => exact .cons hd h2
  | _ :: _, _, n + 1, h => by
    cases h with
    | cons h1 h2 => exact .cons h1 (Dens.set hd n h2)
theorem Dens.erase {T : Addr} {K : PySem.W.Frag} {H : Hp} : ∀ {ds : List D} {vs : List V} (n : Nat), Dens T K H vs ds → Dens T K H (vs.eraseIdx n) (ds.eraseIdx n)
  | [], _, _, h => by cases h; exact .nil
  | _ :: _, _, 0, h => by
    cases h with
    | cons h1 h2 => exact h2
  | _ :: _, _, n + 1, h => by
    cases h with
    | cons h1 h2 => exact .cons h1 (Dens.erase n h2)
theorem Dens.rev {T : Addr} {K : PySem.W.Frag} {H : Hp} : ∀ {ds : List D} {vs : List V}, Dens T K H vs ds → Dens T K H vs.reverse ds.reverse
  | [], _, h => by cases h; exact .nil
  | d :: ds, _, h => by
    cases h with
    | cons h1 h2 =>
      rw [List.reverse_cons, List.reverse_cons]
      exact (Dens.rev h2).append (.cons h1 .nil)
theorem Dens.rep {T : Addr} {K : PySem.W.Frag} {H : Hp} {ds : List D} {vs : List V} (h : Dens T K H vs ds) : ∀ k : Nat, Dens T K H (List.replicate k vs).flatten (List.replicate k ds).flatten
  | 0 => .nil
  | k + 1 => by
    rw [List.replicate_succ, List.replicate_succ, List.flatten_cons, List.flatten_cons]
    exact h.append (Dens.rep h k)
theorem Dens.ne {T : Addr} {K : PySem.W.Frag} {H : Hp} {ds : List D} {vs : List V} (h : Dens T K H vs ds) : (vs = [] ↔ ds = []) := by
  cases ds with
  | nil => cases h; simp
  | cons d ds => cases h; simp
/-- behind a rule whose new list is locked -/
def LK (Q : VK) : VK := fun v H' => ∃ p xs, v = .ref p ∧ H' p = some (.lst xs) ∧ ∀ o, Q v (upd H' p (.frz o (.lst xs)))
theorem EP.lock {Q : VK} {u : Value} {s' : Shared} (h : EP X pins σ (LK Q) u s') : EP X pins σ Q u s' := by
  obtain ⟨v, H', I, r, p, xs, e, hp, q⟩ := h
  obtain ⟨o, I2⟩ := I.lock hp trivial
  exact ⟨v, _, I2, r, q o⟩
theorem OpR.lock {f : Value → Value → Sem Value} {r : R2} (h : OpR X f r) : OpR X f (fun x y H Q => r x y H (LK Q)) := fun pins s σ H x y v u Q I rx ry q =>
  thn (h pins s σ H x y v u (LK Q) I rx ry q) fun _ _ z => EP.lock z
theorem CallR.lock {f : Value} {r : List V → Hp → VK → Prop} (h : CallR X f r) : CallR X f (fun xs H Q => r xs H (LK Q)) := fun pins s σ H xs us Q I rx q =>
  thn (h pins s σ H xs us (LK Q) I rx q) fun _ _ z => EP.lock z
/-- the new list, locked, is data -/
theorem LK.new {T : Addr} {k : Nat} {p : Addr} {xs : List V} {ds : List D} {Q : VK} (w : WS T g.Tb H k) (hp : H p = none) (hd : Dens T g.K H xs ds)
    (q : ∀ v H', Grow T H H' → WS T g.Tb H' k → Den T g.K H' v (.lst ds) → Q v H') : LK Q (.ref p) (upd H p (.lst xs)) := by
  refine ⟨p, xs, rfl, upd_same, fun o => ?_⟩
  rw [upd_upd]
  exact q _ _ (Grow.new hp) (w.grow0 hp) (.lst upd_same (Dens.keep (keeps_new hp) ds xs hd))
theorem newT {T : Addr} {k : Nat} {p : Addr} {xs : List V} {ds : List D} {Q : VK} (w : WS T g.Tb H k) (hp : H p = none) (hd : Dens T g.K H xs ds)
    (q : ∀ v H', Grow T H H' → WS T g.Tb H' k → Den T g.K H' v (.tup ds) → Q v H') : Q (.ref p) (upd H p (.tup xs)) :=
  q _ _ (Grow.new hp) (w.grow0 hp) (.tup upd_same (Dens.keep (keeps_new hp) ds xs hd))

/-! ### + - * // % -/
theorem strOf_append (a b : List Nat) : strOf a ++ strOf b = strOf (a ++ b) := by
  show (⟨(strOf a).cps ++ (strOf b).cps⟩ : Str) = _
  simp [strOf]
theorem strOf_length (a : List Nat) : (strOf a).length = a.length := by
  show (strOf a).cps.size = _
  simp [strOf]
theorem catF {o1 o2 : Obj} {l b : Addr} {xs zs : List V} {Q : VK} (I : Inv X pins σ H s) (h1 : H l = some (.frz o1 (.lst xs))) (h2 : H b = some (.frz o2 (.lst zs))) (hz : xs.length + zs.length ≤ sizeLine)
    (q : ∀ p, H p = none → Q (.ref p) (upd H p (.lst (xs ++ zs)))) : wpAny (model X.prog X.w) X.A (binaryOp .Add (.ref l) (.ref b)) (EP X pins σ Q) X.xe s := by
  obtain ⟨z, its, n, r, hl, e⟩ := frzL I h1
  obtain ⟨z2, its2, n2, r2, hl2, e2⟩ := frzL I h2
  refine PySem.P.add_list e e2 ?_ (by rw [List.size_toArray, List.size_toArray]; omega)
  have ea : its.toArray ++ its2.toArray = (its ++ its2).toArray := by simp
  rw [ea]
  exact ⟨.ref _, _, I.lnew (t' := s.toks) (r.append r2) (by rw [List.length_append]; omega), rfl, q _ I.fresh⟩
theorem op_addD (hK : X.K = g.K) : OpR X (binaryOp .Add) (rM g addD) := by
  intro pins s σ H x y v u Q I rx ry h
  obtain ⟨T, k, d, e, r, k', w, hd, he, em, q⟩ := h
  unfold addD at em
  split at em
  · cases hd; cases he
    cases pure_some.mp em
    exact op_add pins s σ H _ _ v u Q I rx ry ⟨_, _, rfl, rfl, q _ H (Grow.refl T H) w (.int _)⟩
  · cases hd with
    | tup h1 h2 =>
      cases he with
      | tup h3 h4 =>
        split at em
        · rename_i hz
          cases pure_some.mp em
          refine op_catA pins s σ H _ _ v u Q I rx ry ⟨_, _, _, _, rfl, rfl, .of h1, .of h3, by rw [h2.length, h4.length, sizeLine_eq]; exact hz, fun e => ?_, fun _ e => ?_, fun _ _ p hp => ?_⟩
          · subst e
            cases h2
            exact q _ H (Grow.refl T H) w (.tup h3 h4)
          · subst e
            cases h4
            rw [List.append_nil] at q
            exact q _ H (Grow.refl T H) w (.tup h1 h2)
          · exact newT w hp (h2.append h4) q
        · exact absurd em no_some
  · cases hd with
    | lst h1 h2 =>
      cases he with
      | lst h3 h4 =>
        split at em
        · rename_i hz
          cases pure_some.mp em
          cases rx; cases ry
          refine thn (catF (Q := LK Q) I h1 h3 (by rw [h2.length, h4.length, sizeLine_eq]; exact hz) fun p hp => ?_) fun _ _ z => EP.lock z
          exact LK.new w hp (h2.append h4) q
        · exact absurd em no_some
  · cases hd; cases he
    split at em
    · rename_i hz
      cases pure_some.mp em
      refine op_add_str pins s σ H _ _ v u Q I rx ry ⟨_, _, rfl, rfl, by rw [strOf_length, strOf_length, sizeLine_eq]; exact hz, ?_⟩
      rw [strOf_append]
      exact q _ H (Grow.refl T H) w (.str _)
    · exact absurd em no_some
  · exact absurd em no_some
theorem op_subD : OpR X (binaryOp .Sub) (rM g subD) := by
  intro pins s σ H x y v u Q I rx ry h
  obtain ⟨T, k, d, e, r, k', w, hd, he, em, q⟩ := h
  unfold subD at em
  split at em
  · cases hd; cases he
    cases pure_some.mp em
    exact op_sub pins s σ H _ _ v u Q I rx ry ⟨_, _, rfl, rfl, q _ H (Grow.refl T H) w (.int _)⟩
  · exact absurd em no_some
theorem op_fdvD : OpR X (binaryOp .FloorDiv) (rM g fdvD) := by
  intro pins s σ H x y v u Q I rx ry h
  obtain ⟨T, k, d, e, r, k', w, hd, he, em, q⟩ := h
  unfold fdvD at em
  split at em
  · cases hd; cases he
    split at em
    · rename_i hz
      cases pure_some.mp em
      exact op_fdiv pins s σ H _ _ v u Q I rx ry ⟨_, _, rfl, rfl, ⟨hz.1, by have := absLe_of.mp hz.2; omega⟩, q _ H (Grow.refl T H) w (.int _)⟩
    · exact absurd em no_some
  · exact absurd em no_some
theorem op_modD : OpR X (binaryOp .Mod) (rM g modD) := by
  intro pins s σ H x y v u Q I rx ry h
  obtain ⟨T, k, d, e, r, k', w, hd, he, em, q⟩ := h
  unfold modD at em
  split at em
  · cases hd; cases he
    split at em
    · rename_i hz
      cases pure_some.mp em
      exact op_mod pins s σ H _ _ v u Q I rx ry ⟨_, _, rfl, rfl, hz, q _ H (Grow.refl T H) w (.int _)⟩
    · exact absurd em no_some
  · exact absurd em no_some
end
end G

set_option maxHeartbeats 4000000
namespace G
open PySem PySem.Spec PyProof.Rows L2

theorem tuple_mul_same (l : Addr) (items : Array Value) (n : Nat) (x : Int) (u : Tok) (c0 : (decide (x < -(2 ^ 63)) || decide (x ≥ 2 ^ 63)) = false) (c1 : (items.isEmpty || x == 1) = true) (dd : Option Addr) (sl : Array (Option Value)) :
    Meets (Builtin.«tuple.__mul__» ⟨[.ref l, .int x u], []⟩) (fun _ R s => s.heap.get? l = some { cls := .type "tuple", dict := dd, data := .seq items n, slots := sl } ∧ R (.ok (.ret (Value.ref l))) s) :=
  .of_wp fun prog w A R s h => by
    obtain ⟨hp, g, d, tk, os⟩ := s
    obtain ⟨hl, h⟩ := h
    have f1 := AutoSeq1.idx_int
    wp_walk using wpAny_loadPart' hl
    repeat (first
      | (refine wpAny_ite_false (decide_eq_false (by rw [c0]; exact Bool.false_ne_true)) ?_; wp_walk using wpAny_loadPart' hl)
      | (refine wpAny_ite_true (decide_eq_true (by rw [c1])) ?_; wp_walk using wpAny_loadPart' hl))
    exact ⟨_, rfl, h⟩
theorem tuple_mul_zero (l : Addr) (items : Array Value) (n : Nat) (dd : Option Addr) (sl : Array (Option Value)) (x : Int) (u : Tok) (c0 : (decide (x < -(2 ^ 63)) || decide (x ≥ 2 ^ 63)) = false) (c1 : (items.isEmpty || x == 1) = false) (c2 : (decide (x ≤ 0) || items.isEmpty) = true) :
    Meets (Builtin.«tuple.__mul__» ⟨[.ref l, .int x u], []⟩) (fun _ R s => s.heap.get? l = some { cls := .type "tuple", dict := dd, data := .seq items n, slots := sl } ∧
      R (.ok (.ret (Value.ref s.heap.objs.size))) { s with heap := s.heap.push { cls := Value.type "tuple", data := Data.seq #[] }, toks := s.toks }) :=
  .of_wp fun prog w A R s h => by
    obtain ⟨hp, g, d, tk, os⟩ := s
    obtain ⟨hl, h⟩ := h
    have f1 := AutoSeq1.idx_int
    wp_walk using wpAny_loadPart' hl
    repeat (first
      | (refine wpAny_ite_false (decide_eq_false (by rw [c0]; exact Bool.false_ne_true)) ?_; wp_walk using wpAny_loadPart' hl)
      | (refine wpAny_ite_false (decide_eq_false (by rw [c1]; exact Bool.false_ne_true)) ?_; wp_walk using wpAny_loadPart' hl)
      | (refine wpAny_ite_true (decide_eq_true (by rw [c2])) ?_; wp_walk using wpAny_loadPart' hl))
    exact ⟨_, rfl, h⟩

section
variable {g : Cf} {X : Cx} {pins : List (Addr × Obj)} {σ : L2.St} {H : Hp} {s : Shared}
theorem rep_one {α : Type} (l : List α) : rep l 1 = l := by simp [rep]
theorem rep_nil {α : Type} (k : Int) : rep ([] : List α) k = [] := by
  unfold rep
  induction k.toNat with
  | zero => rfl
  | succ n ih => rw [List.replicate_succ, List.flatten_cons, ih]; rfl
theorem rep_neg {α : Type} (l : List α) (k : Int) (h : k ≤ 0) : rep l k = [] := by
  have e : k.toNat = 0 := by omega
  simp [rep, e]
theorem repTup {l : Addr} {xs : List V} {k : Int} {t : Tok} {Q : VK} (I : Inv X pins σ H s) (hT : H l = some (.tup xs)) (h1 : -1000 ≤ k) (h2 : k ≤ 1000) (hz : xs.length ≤ 1000)
    (q0 : rep xs k = xs → Q (.ref l) H) (q : ∀ p, H p = none → Q (.ref p) (upd H p (.tup (rep xs k)))) : wpAny (model X.prog X.w) X.A (binaryOp .Mult (.ref l) (.int k t)) (EP X pins σ Q) X.xe s := by
  by_cases hb : xs ≠ [] ∧ 2 ≤ k
  · exact op_repT pins s σ H (.ref l) (.int k) _ _ Q I rfl ⟨t, rfl⟩ ⟨l, k, xs, rfl, rfl, .of hT, hb.1, hb.2, h2, hz, fun p hp => q p hp⟩
  · obtain ⟨its, r, ⟨⟨cls, dd, data, sl⟩, ho, hc, n, hd⟩, hs⟩ := I.tuple (.of hT)
    simp only at hc hd
    subst hc hd
    have hlen := r.length
    have c0 : (decide (k < -(2 ^ 63)) || decide (k ≥ 2 ^ 63)) = false := by
      rw [decide_eq_false (by omega), decide_eq_false (by omega)] <;> rfl
    by_cases hs1 : xs = [] ∨ k = 1
    · have c1 : (its.toArray.isEmpty || k == 1) = true := by
        rcases hs1 with e | e
        · subst e
          cases r
          rfl
        · subst e
          simp
      refine wpAny_binaryOp_repeat_ref (T := "tuple") (U := "int") (by decide) ⟨_, ho, rfl⟩ (fun s' => typeIs_int s' k t) noFill_tuple_mul F.fills_int_mul F.slot_int_rmul repeat_tuple F.slot_int_index.lookup
        (call_meets F.slot_int_rmul (typeIs_int s k t) F.entry_int_rmul (F.args_int_rmul_2 _ _) (int_rmul_tuple k t l its.toArray n dd sl)
          ⟨ho, rfl, ⟨_, ho, rfl⟩, call_meets F.slot_tuple_mul ⟨_, ho, rfl⟩ F.entry_tuple_mul (F.args_tuple_mul_2 _ _) (tuple_mul_same l its.toArray n k t c0 c1 dd sl) ⟨ho, ?_⟩⟩)
      refine ⟨.ref l, H, I, rfl, q0 ?_⟩
      rcases hs1 with e | e
      · rw [e, rep_nil]
      · rw [e, rep_one]
    · have hx : xs ≠ [] := fun e => hs1 (.inl e)
      have hk : k ≤ 0 := by
        have : k ≠ 1 := fun e => hs1 (.inr e)
        have : ¬ 2 ≤ k := fun e => hb ⟨hx, e⟩
        omega
      have hi : its.toArray.isEmpty = false := by
        cases its with
        | nil => cases r; exact absurd rfl hx
        | cons a b => rfl
      have c1 : (its.toArray.isEmpty || k == 1) = false := by
        rw [hi, Bool.false_or]
        exact beq_eq_false_iff_ne.mpr (by omega)
      have c2 : (decide (k ≤ 0) || its.toArray.isEmpty) = true := by rw [decide_eq_true hk] <;> rfl
      refine wpAny_binaryOp_repeat_ref (T := "tuple") (U := "int") (by decide) ⟨_, ho, rfl⟩ (fun s' => typeIs_int s' k t) noFill_tuple_mul F.fills_int_mul F.slot_int_rmul repeat_tuple F.slot_int_index.lookup
        (call_meets F.slot_int_rmul (typeIs_int s k t) F.entry_int_rmul (F.args_int_rmul_2 _ _) (int_rmul_tuple k t l its.toArray n dd sl)
          ⟨ho, rfl, ⟨_, ho, rfl⟩, call_meets F.slot_tuple_mul ⟨_, ho, rfl⟩ F.entry_tuple_mul (F.args_tuple_mul_2 _ _) (tuple_mul_zero l its.toArray n dd sl k t c0 c1 c2) ⟨ho, ?_⟩⟩)
      have q' := q s.heap.objs.size I.fresh
      rw [rep_neg xs k hk] at q'
      refine ⟨.ref s.heap.objs.size, _, I.laid (t' := s.toks) (o := .tup []) (fun b ob q => Heap.get?_push_of_some _ q) (Nat.le_refl _) ?_, rfl, q'⟩
      exact ⟨Nat.zero_le _, [], .nil, IsTup.new _ _⟩
theorem repLst {l : Addr} {o : Obj} {xs : List V} {k : Int} {t : Tok} {Q : VK} (I : Inv X pins σ H s) (hL : H l = some (.frz o (.lst xs))) (h1 : -16777216 ≤ k) (h2 : k ≤ 16777216) (hz : xs.length * k.toNat ≤ sizeLine)
    (q : ∀ p, H p = none → Q (.ref p) (upd H p (.lst (rep xs k)))) : wpAny (model X.prog X.w) X.A (binaryOp .Mult (.ref l) (.int k t)) (EP X pins σ Q) X.xe s := by
  obtain ⟨z, its, n, r, hl, e⟩ := frzL I hL
  have hlen : its.toArray.size * k.toNat ≤ sizeLine := by rw [List.size_toArray, ← hl]; exact hz
  have hcap : ¬ its.toArray.size * k.toNat > (2 ^ 63 - 1) / 8 := by
    have : (sizeLine : Nat) ≤ (2 ^ 63 - 1) / 8 := by decide
    omega
  have hfit : ¬ (!Builtin.List.listFitsIndex k) = true := by
    rw [fitsIndex_both (by omega) (by omega)]
    exact Bool.false_ne_true
  have hlong : ¬ Builtin.List.listTooLong (its.toArray.size * k.toNat) = true := by
    rw [notLongL hlen]
    exact Bool.false_ne_true
  have hnew : List.foldl (fun x1 x2 => x1 ++ x2) #[] (List.replicate (if its.toArray.isEmpty = true then 0 else k.toNat) its.toArray) = (List.replicate k.toNat its).flatten.toArray := by
    have f0 : ∀ m : Nat, List.foldl (fun x1 x2 => x1 ++ x2) #[] (List.replicate m its.toArray) = (List.replicate m its).flatten.toArray := fun m => by
      have := foldl_rep its m []
      rw [List.nil_append] at this
      exact this
    rw [f0]
    cases its with
    | nil => simp
    | cons a r' => rw [if_neg (by simp)]
  refine wpAny_binaryOp_repeat_ref (T := "list") (U := "int") (by decide) ⟨_, e, rfl⟩ (fun s' => typeIs_int s' k t) noFill_list_mul F.fills_int_mul F.slot_int_rmul repeat_list F.slot_int_index.lookup
    (call_meets F.slot_int_rmul (typeIs_int s k t) F.entry_int_rmul (F.args_int_rmul_2 _ _) (int___rmul___int_list k t l its.toArray n)
      ⟨e, rfl, ⟨_, e, rfl⟩, call_meets F.slot_list_mul ⟨_, e, rfl⟩ F.entry_list_mul (F.args_list_mul_2 _ _) (AutoListH.list___mul___list_int_3 l its.toArray n k t hfit hcap hlong) ⟨e, ?_⟩⟩)
  rw [hnew]
  exact ⟨.ref _, _, I.lnew (t' := s.toks) (r.rep k.toNat) (by rw [PyProof.Rows.lm_len_rep_flat, Nat.mul_comm]; exact hz), rfl, q _ I.fresh⟩
theorem foldl_repN (z : List Nat) : ∀ (m : Nat) (acc : List Nat), (List.replicate m z.toArray).foldl (· ++ ·) acc.toArray = (acc ++ (List.replicate m z).flatten).toArray
  | 0, acc => by simp
  | m + 1, acc => by
    rw [List.replicate_succ, List.foldl_cons, List.replicate_succ, List.flatten_cons, ← List.append_assoc, ← foldl_repN z m (acc ++ z)]
    simp
theorem lenRepN {α : Type} (z : List α) (m : Nat) : (List.replicate m z).flatten.length = m * z.length := by simp
theorem Dens.repI {T : Addr} {K : PySem.W.Frag} {H : Hp} {ds : List D} {vs : List V} (h : Dens T K H vs ds) (k : Int) : Dens T K H (G.rep vs k) (G.rep ds k) := h.rep k.toNat
theorem repStr {z : List Nat} {k : Int} {t u : Tok} {Q : VK} (I : Inv X pins σ H s) (h1 : -16777216 ≤ k) (h2 : k ≤ 16777216) (hz : z.length * k.toNat ≤ sizeLine)
    (q : Q (.str (strOf (rep z k))) H) : wpAny (model X.prog X.w) X.A (binaryOp .Mult (.str (strOf z) t) (.int k u)) (EP X pins σ Q) X.xe s := by
  have hl : (strOf z).length = z.length := strOf_length z
  refine PySem.P.mul_str (by rw [decide_eq_false (by omega), decide_eq_false (by omega)] <;> rfl) (fun h3 _ => ?_) (fun _ _ => ?_) ?_
  · rw [hl]
    have a : (z.length : Int) * k ≤ 16777216 := by
      have b : ((z.length * k.toNat : Nat) : Int) ≤ (16777216 : Nat) := by
        have := hz
        rw [sizeLine_eq] at this
        exact Int.ofNat_le.mpr this
      rw [Int.natCast_mul] at b
      have c : ((k.toNat : Nat) : Int) = k := by omega
      rw [c] at b
      exact b
    have b : (z.length : Int) ≤ (2 ^ 63 - 1) / k := by
      refine (Int.le_ediv_iff_mul_le (by omega)).mpr ?_
      omega
    omega
  · rw [hl]
    exact decide_eq_false (Nat.not_lt.mpr hz)
  · by_cases hk : k < 1
    · rw [if_pos hk]
      rw [rep_neg z k (by omega)] at q
      exact ⟨by decide, .str (strOf []), H, I.tok _, ⟨_, rfl⟩, q⟩
    · rw [if_neg hk]
      by_cases h3 : (k == 1 || (strOf z).length == 0) = true
      · rw [if_pos h3]
        have e : rep z k = z := by
          simp only [Bool.or_eq_true, beq_iff_eq] at h3
          rcases h3 with e | e
          · rw [e, rep_one]
          · rw [hl] at e
            rw [List.eq_nil_of_length_eq_zero e, rep_nil]
        rw [e] at q
        exact ⟨.str (strOf z), H, I, ⟨_, rfl⟩, q⟩
      · rw [if_neg h3]
        have e0 : ∀ m : Nat, (⟨(List.replicate m (strOf z).cps).foldl (· ++ ·) #[]⟩ : Str) = strOf (List.replicate m z).flatten := fun m => by
          have := foldl_repN z m []
          rw [List.nil_append] at this
          exact congrArg Str.mk this
        rw [e0]
        exact ⟨by rw [strOf_length, lenRepN, Nat.mul_comm]; exact hz, .str _, H, I.tok _, ⟨_, rfl⟩, q⟩
theorem abs3 {k : Int} {b : Nat} {P : Prop} (h : k.natAbs ≤ b) (p : P) : -(b : Int) ≤ k ∧ k ≤ (b : Int) ∧ P := ⟨by omega, by omega, p⟩
theorem op_mulD : OpR X (binaryOp .Mult) (rM g mulD) := by
  intro pins s σ H x y v u Q I rx ry h
  obtain ⟨T, k, d, e, r, k', w, hd, he, em, q⟩ := h
  unfold mulD at em
  split at em
  · cases hd; cases he
    split at em
    · rename_i hz
      cases pure_some.mp em
      exact op_mul pins s σ H _ _ v u Q I rx ry ⟨_, _, rfl, rfl, (Bool.or_eq_true_iff.mp hz).imp (fun z => by have := absLe_of.mp z; exact ⟨by omega, by omega⟩) (fun z => by have := absLe_of.mp z; exact ⟨by omega, by omega⟩), q _ H (Grow.refl T H) w (.int _)⟩
    · exact absurd em no_some
  · cases hd with
    | tup h1 h2 =>
      cases he
      split at em
      · rename_i hz0
        cases pure_some.mp em
        have hz1 := absLe_of.mp ((Bool.and_eq_true _ _).mp hz0).1
        have hz := (abs3 hz1 (Nat.le_of_ble_eq_true ((Bool.and_eq_true _ _).mp hz0).2))
        cases rx
        obtain ⟨t, rfl⟩ := ry
        refine repTup I h1 hz.1 hz.2.1 (by rw [h2.length]; exact hz.2.2) (fun e => ?_) fun p hp => newT w hp (h2.repI _) q
        have h4 := h2.repI ‹Int›
        rw [e] at h4
        exact q _ H (Grow.refl T H) w (.tup h1 h4)
      · exact absurd em no_some
  · cases hd with
    | lst h1 h2 =>
      cases he
      split at em
      · rename_i hz0
        cases pure_some.mp em
        have hz1 := absLe_of.mp ((Bool.and_eq_true _ _).mp hz0).1
        have hz := (abs3 hz1 (Nat.le_of_ble_eq_true ((Bool.and_eq_true _ _).mp hz0).2))
        cases rx
        obtain ⟨t, rfl⟩ := ry
        refine thn (repLst (Q := LK Q) I h1 hz.1 hz.2.1 (by rw [h2.length, sizeLine_eq]; exact hz.2.2) fun p hp => ?_) fun _ _ z => EP.lock z
        exact LK.new w hp (h2.repI _) q
      · exact absurd em no_some
  · cases hd; cases he
    split at em
    · rename_i hz0
      cases pure_some.mp em
      have hz := abs3 (absLe_of.mp ((Bool.and_eq_true _ _).mp hz0).1) (Nat.le_of_ble_eq_true ((Bool.and_eq_true _ _).mp hz0).2)
      obtain ⟨t, rfl⟩ := rx
      obtain ⟨t', rfl⟩ := ry
      exact repStr I hz.1 hz.2.1 (by rw [sizeLine_eq]; exact hz.2.2) (q _ H (Grow.refl T H) w (.str _))
    · exact absurd em no_some
  · exact absurd em no_some
end
end G

namespace G
open PySem PySem.Spec PyProof.Rows L2

mutual
def toPy : D → PyData
  | .non => .none
  | .bl b => .bool b
  | .int i => .int i
  | .str s => .str (strOf s)
  | .tup l => .tuple (toPys l)
  | .lst l => .list (toPys l)
  | .dic _ _ => .dict []
  | .town => .dict []
  | .scr _ => .dict []
def toPys : List D → List PyData
  | [] => []
  | x :: xs => toPy x :: toPys xs
end
theorem toPys_map : ∀ l : List D, toPys l = l.map toPy
  | [] => rfl
  | x :: xs => by rw [toPys, toPys_map xs]; rfl
mutual
theorem okd_lay : ∀ (d : D) (n : Nat), okd n d = true → (toPy d).canLay0 = true ∧ (toPy d).depth ≤ n
  | .non, n, _ => by simp [toPy, PyData.canLay0, PyData.depth]
  | .bl _, n, _ => by simp [toPy, PyData.canLay0, PyData.depth]
  | .int _, n, _ => by simp [toPy, PyData.canLay0, PyData.depth]
  | .str s, n, h => by
    simp only [okd] at h
    refine ⟨?_, by simp [toPy, PyData.depth]⟩
    simp only [toPy, PyData.canLay0, PyData.strOk, strOf]
    simpa using h
  | .tup l, 0, h => by simp [okd] at h
  | .tup l, n + 1, h => by
    simp only [okd] at h
    obtain ⟨a, b⟩ := okds_lay l n h
    simp only [toPy, PyData.canLay0, PyData.depth]
    exact ⟨a, by omega⟩
  | .lst l, 0, h => by simp [okd] at h
  | .lst l, n + 1, h => by
    simp only [okd] at h
    obtain ⟨a, b⟩ := okds_lay l n h
    simp only [toPy, PyData.canLay0, PyData.depth]
    exact ⟨a, by omega⟩
  | .dic _ _, n, h => by simp [okd] at h
  | .town, n, h => by simp [okd] at h
  | .scr _, n, h => by simp [okd] at h
theorem okds_lay : ∀ (l : List D) (n : Nat), okds n l = true → PyData.canLayAll0 (toPys l) = true ∧ PyData.depthAll (toPys l) ≤ n
  | [], n, _ => by simp [toPys, PyData.canLayAll0, PyData.depthAll]
  | x :: xs, n, h => by
    simp only [okds, Bool.and_eq_true] at h
    obtain ⟨a, b⟩ := okd_lay x n h.1
    obtain ⟨c, d⟩ := okds_lay xs n h.2
    simp only [toPys, PyData.canLayAll0, PyData.depthAll, a, c]
    exact ⟨rfl, by omega⟩
end
theorem okd_shaped {d : D} (h : okd deep d = true) : SeqAt.shaped (toPy d) = true := by
  obtain ⟨a, b⟩ := okd_lay d deep h
  unfold SeqAt.shaped
  rw [a, Bool.true_and, decide_eq_true_eq]
  unfold deep at b
  omega
theorem strOf_inj {a b : List Nat} (h : strOf a = strOf b) : a = b := by
  have := congrArg (fun s : Str => s.cps.toList) h
  simpa [strOf] using this
mutual
theorem eqv_py : ∀ (a b : D) (n m : Nat), okd n a = true → okd m b = true → PyData.eqv (toPy a) (toPy b) = eqv a b
  | .non, b, n, m, _, hb => by cases b <;> simp [toPy, PyData.eqv, eqv, okd] at hb ⊢
  | .bl _, b, n, m, _, hb => by cases b <;> simp [toPy, PyData.eqv, eqv, okd] at hb ⊢
  | .int _, b, n, m, _, hb => by cases b <;> simp [toPy, PyData.eqv, eqv, okd] at hb ⊢
  | .str s, b, n, m, _, hb => by
    cases b with
    | str t =>
      simp only [toPy, PyData.eqv, eqv]
      by_cases e : s = t
      · subst e; simp
      · rw [beq_eq_false_iff_ne.mpr (fun z => e (strOf_inj z)), beq_eq_false_iff_ne.mpr e]
    | _ => simp [toPy, PyData.eqv, eqv, okd] at hb ⊢
  | .tup l, b, 0, m, h, _ => by simp [okd] at h
  | .tup l, b, n + 1, m, h, hb => by
    cases b with
    | tup r =>
      cases m with
      | zero => simp [okd] at hb
      | succ m =>
        simp only [okd] at h hb
        simp only [toPy, PyData.eqv, eqv]
        exact eqvs_py l r n m h hb
    | _ => simp [toPy, PyData.eqv, eqv]
  | .lst l, b, 0, m, h, _ => by simp [okd] at h
  | .lst l, b, n + 1, m, h, hb => by
    cases b with
    | lst r =>
      cases m with
      | zero => simp [okd] at hb
      | succ m =>
        simp only [okd] at h hb
        simp only [toPy, PyData.eqv, eqv]
        exact eqvs_py l r n m h hb
    | _ => simp [toPy, PyData.eqv, eqv]
  | .dic _ _, _, n, _, h, _ => by simp [okd] at h
  | .town, _, n, _, h, _ => by simp [okd] at h
  | .scr _, _, n, _, h, _ => by simp [okd] at h
theorem eqvs_py : ∀ (a b : List D) (n m : Nat), okds n a = true → okds m b = true → PyData.eqvAll (toPys a) (toPys b) = eqvs a b
  | [], [], n, m, _, _ => by simp [toPys, PyData.eqvAll, eqvs]
  | [], _ :: _, n, m, _, _ => by simp [toPys, PyData.eqvAll, eqvs]
  | _ :: _, [], n, m, _, _ => by simp [toPys, PyData.eqvAll, eqvs]
  | x :: xs, y :: ys, n, m, h, hb => by
    simp only [okds, Bool.and_eq_true] at h hb
    simp only [toPys, PyData.eqvAll, eqvs]
    rw [eqv_py x y n m h.1 hb.1, eqvs_py xs ys n m h.2 hb.2]
end
mutual
theorem like_py : ∀ (a b : D), like a b = true → PySem.W.alike (toPy a) (toPy b) = true
  | .non, b, h => by cases b <;> simp [toPy, like, PySem.W.alike] at h ⊢
  | .bl _, b, h => by cases b <;> simp [toPy, like, PySem.W.alike] at h ⊢
  | .int _, b, h => by cases b <;> simp [toPy, like, PySem.W.alike] at h ⊢
  | .str _, b, h => by cases b <;> simp [toPy, like, PySem.W.alike] at h ⊢
  | .tup l, b, h => by
    cases b with
    | tup r =>
      simp only [like] at h
      simp only [toPy, PySem.W.alike]
      exact likes_py l r h
    | _ => simp [like] at h
  | .lst l, b, h => by
    cases b with
    | lst r =>
      simp only [like] at h
      simp only [toPy, PySem.W.alike]
      exact likes_py l r h
    | _ => simp [like] at h
  | .dic _ _, b, h => by cases b <;> simp [like] at h
  | .town, b, h => by cases b <;> simp [like] at h
  | .scr _, b, h => by cases b <;> simp [like] at h
theorem likes_py : ∀ (a b : List D), likes a b = true → PySem.W.alikeAll (toPys a) (toPys b) = true
  | [], b, _ => by simp [toPys, PySem.W.alikeAll]
  | _ :: _, [], _ => by simp [toPys, PySem.W.alikeAll]
  | x :: xs, y :: ys, h => by
    simp only [likes, Bool.and_eq_true] at h
    simp only [toPys, PySem.W.alikeAll, like_py x y h.1, likes_py xs ys h.2, Bool.and_self]
end
theorem ltStr_py : ∀ a b : List Nat, ltStr a b = decide (a < b)
  | [], [] => by simp [ltStr]
  | [], _ :: _ => by simp [ltStr]
  | _ :: _, [] => by simp [ltStr]
  | x :: xs, y :: ys => by
    rw [ltStr]
    split
    · rename_i e
      subst e
      rw [ltStr_py xs ys]
      simp [List.cons_lt_cons_iff]
    · rename_i e
      simp [List.cons_lt_cons_iff, e]
mutual
theorem lt_py : ∀ (a b : D) (n m : Nat), okd n a = true → okd m b = true → like a b = true → PySem.W.dataLt (toPy a) (toPy b) = lt a b
  | .non, b, n, m, _, _, h => by
    cases b <;> simp [like] at h
    simp only [toPy, lt]
    unfold PySem.W.dataLt
    simp only [PySem.W.keyToks]
    exact PyProof.Rows.lex_irrefl _
  | .bl x, b, n, m, _, _, h => by
    cases b with
    | bl y =>
      simp only [toPy, lt]
      rw [PySem.W.dataLt_bool]
      cases x <;> cases y <;> rfl
    | _ => simp [like] at h
  | .int x, b, n, m, _, _, h => by
    cases b <;> simp [like] at h
    simp only [toPy, lt]
    rw [PySem.W.dataLt_int]
  | .str x, b, n, m, _, _, h => by
    cases b <;> simp [like] at h
    simp only [toPy, lt]
    rw [PySem.W.dataLt_str, ltStr_py]
    simp only [strOf, List.toList_toArray]
    exact decide_eq_decide.mpr Iff.rfl
  | .tup l, b, 0, m, ha, hb, h => by simp [okd] at ha
  | .tup l, b, n + 1, m, ha, hb, h => by
    cases b with
    | tup r =>
      cases m with
      | zero => simp [okd] at hb
      | succ m =>
        simp only [okd] at ha hb
        simp only [like] at h
        simp only [toPy, lt]
        rw [PySem.W.dataLt_tuple]
        exact lts_py l r n m ha hb h
    | _ => simp [like] at h
  | .lst l, b, 0, m, ha, hb, h => by simp [okd] at ha
  | .lst l, b, n + 1, m, ha, hb, h => by
    cases b with
    | lst r =>
      cases m with
      | zero => simp [okd] at hb
      | succ m =>
        simp only [okd] at ha hb
        simp only [like] at h
        simp only [toPy, lt]
        rw [PySem.W.dataLt_list]
        exact lts_py l r n m ha hb h
    | _ => simp [like] at h
  | .dic _ _, b, _, _, _, _, h => by cases b <;> simp [like] at h
  | .town, b, _, _, _, _, h => by cases b <;> simp [like] at h
  | .scr _, b, _, _, _, _, h => by cases b <;> simp [like] at h
theorem lts_py : ∀ (a b : List D) (n m : Nat), okds n a = true → okds m b = true → likes a b = true → PyProof.Rows.lexLt PyProof.Rows.itemOrd (PySem.W.keyToksAll (toPys a)) (PySem.W.keyToksAll (toPys b)) = lts a b
  | [], [], _, _, _, _, _ => by
    simp only [toPys, lts]
    exact PyProof.Rows.lex_irrefl _
  | [], y :: ys, _, _, _, _, _ => by
    simp only [toPys, lts]
    rw [PySem.W.toks_all_cons]
    simp only [PySem.W.keyToksAll]
    rw [PyProof.Rows.lex_diff (O := PyProof.Rows.itemOrd) (by simp)]
    simp [PyProof.Rows.itemLt]
  | x :: xs, [], _, _, _, _, _ => by
    simp only [toPys, lts]
    rw [PySem.W.toks_all_cons]
    simp only [PySem.W.keyToksAll]
    rw [PyProof.Rows.lex_diff (O := PyProof.Rows.itemOrd) (by simp)]
    simp [PyProof.Rows.itemLt]
  | x :: xs, y :: ys, n, m, ha, hb, h => by
    simp only [okds, Bool.and_eq_true] at ha hb
    simp only [likes, Bool.and_eq_true] at h
    simp only [toPys, lts]
    rw [PySem.W.dataLt_cons (like_py x y h.1), eqv_py x y n m ha.1 hb.1, lts_py xs ys n m ha.2 hb.2 h.2, lt_py x y n m ha.1 hb.1 h.1]
end
section
variable {T : Addr} {K : PySem.W.Frag} {H : Hp}
mutual
theorem Den.dp : ∀ (d : D) (v : V) (n : Nat), okd n d = true → Den T K H v d → Dp K H v (toPy d)
  | .non, _, _, _, h => by cases h; exact .non
  | .bl _, _, _, _, h => by cases h; exact .bl _
  | .int _, _, _, _, h => by cases h; exact .int _
  | .str _, _, _, _, h => by cases h; exact .str _
  | .tup l, _, 0, ho, h => by simp [okd] at ho
  | .tup l, _, n + 1, ho, h => by
    simp only [okd] at ho
    cases h with
    | tup h1 h2 => exact .tup (.of h1) (Dens.dp l _ n ho h2)
  | .lst l, _, 0, ho, h => by simp [okd] at ho
  | .lst l, _, n + 1, ho, h => by
    simp only [okd] at ho
    cases h with
    | lst h1 h2 => exact .lst (.inl (.inr ⟨_, h1⟩)) (Dens.dp l _ n ho h2)
  | .dic _ _, _, n, ho, _ => by simp [okd] at ho
  | .town, _, n, ho, _ => by simp [okd] at ho
  | .scr _, _, n, ho, _ => by simp [okd] at ho
theorem Dens.dp : ∀ (l : List D) (vs : List V) (n : Nat), okds n l = true → Dens T K H vs l → DpAll K H vs (toPys l)
  | [], _, _, _, h => by cases h; exact .nil
  | d :: ds, _, n, ho, h => by
    simp only [okds, Bool.and_eq_true] at ho
    cases h with
    | cons h1 h2 => exact .cons (Den.dp d _ n ho.1 h1) (Dens.dp ds _ n ho.2 h2)
end
end
/-- data, or a list that its slot owns -/
def DenB (T : Addr) (K : PySem.W.Frag) (H : Hp) (v : V) (d : D) : Prop :=
  Den T K H v d ∨ ∃ a xs ds, d = .lst ds ∧ v = .ref a ∧ H a = some (.lst xs) ∧ Dens T K H xs ds
section
variable (g : Cf)
/-- the left one may be owned -/
def rB1 (h : D → D → M D) : R2 := fun x y H Q => ∃ T k d e r k', WS T g.Tb H k ∧ DenB T g.K H x d ∧ Den T g.K H y e ∧ h d e k = some (r, k') ∧ ∀ v H', Grow T H H' → WS T g.Tb H' k' → Den T g.K H' v r → Q v H'
/-- the right one may be owned -/
def rB2 (h : D → D → M D) : R2 := fun x y H Q => ∃ T k d e r k', WS T g.Tb H k ∧ Den T g.K H x d ∧ DenB T g.K H y e ∧ h d e k = some (r, k') ∧ ∀ v H', Grow T H H' → WS T g.Tb H' k' → Den T g.K H' v r → Q v H'
end
theorem DenB.dp {T : Addr} {K : PySem.W.Frag} {H : Hp} {d : D} {v : V} {n : Nat} (o : okd n d = true) (h : DenB T K H v d) : Dp K H v (toPy d) := by
  rcases h with h | ⟨a, xs, ds, e1, e2, e3, e4⟩
  · exact Den.dp d v n o h
  · subst e1 e2
    cases n with
    | zero => simp [okd] at o
    | succ n =>
      simp only [okd] at o
      exact .lst (.of e3) (Dens.dp ds xs n o e4)
end G

namespace G
open PySem PySem.Spec PyProof.Rows L2

section
variable {g : Cf} {X : Cx}
theorem if_some {α : Type} {c : Prop} [Decidable c] {m : M α} {k : Nat} {r : α × Nat} (h : (if c then m else no) k = some r) : c ∧ m k = some r := by
  by_cases hc : c
  · rw [if_pos hc] at h; exact ⟨hc, h⟩
  · rw [if_neg hc] at h; exact absurd h no_some
theorem bfin {T : Addr} {k k' : Nat} {b : Bool} {r : D} {Q : VK} {H : Hp} (w : WS T g.Tb H k) (e : (pure (.bl b) : M D) k = some (r, k'))
    (q : ∀ v H', Grow T H H' → WS T g.Tb H' k' → Den T g.K H' v r → Q v H') : Q (.bl b) H := by
  cases pure_some.mp e
  exact q _ H (Grow.refl T H) w (.bl b)
theorem op_eqM (hK : X.K = g.K) (hu : X.A.units + 64 < cLine) : OpR X (compareOp .Eq) (rM g (cmpM .eq)) := by
  intro pins s σ H x y v u Q I rx ry h
  obtain ⟨T, k, d, e, r, k', w, hd, he, em, q⟩ := h
  obtain ⟨b, k1, e1, e2⟩ := bind_some.mp em
  obtain ⟨hc, e3⟩ := if_some e1
  cases pure_some.mp e3
  rw [Bool.and_eq_true] at hc
  refine op_eqD hu pins s σ H x y v u Q I rx ry ⟨toPy d, toPy e, ?_, ?_, okd_shaped hc.1, okd_shaped hc.2, ?_⟩
  · rw [hK]; exact Den.dp d x deep hc.1 hd
  · rw [hK]; exact Den.dp e y deep hc.2 he
  · rw [eqv_py d e _ _ hc.1 hc.2]
    exact bfin w e2 q
theorem op_neM (hK : X.K = g.K) (hu : X.A.units + 64 < cLine) : OpR X (compareOp .NotEq) (rM g (cmpM .ne)) := by
  intro pins s σ H x y v u Q I rx ry h
  obtain ⟨T, k, d, e, r, k', w, hd, he, em, q⟩ := h
  obtain ⟨b, k1, e1, e2⟩ := bind_some.mp em
  obtain ⟨hc, e3⟩ := if_some e1
  cases pure_some.mp e3
  rw [Bool.and_eq_true] at hc
  refine op_neD hu pins s σ H x y v u Q I rx ry ⟨toPy d, toPy e, ?_, ?_, okd_shaped hc.1, okd_shaped hc.2, ?_⟩
  · rw [hK]; exact Den.dp d x deep hc.1 hd
  · rw [hK]; exact Den.dp e y deep hc.2 he
  · rw [eqv_py d e _ _ hc.1 hc.2]
    exact bfin w e2 q
theorem reads_of {pins : List (Addr × Obj)} {σ : L2.St} {H : Hp} {s : Shared} (hK : X.K = g.K) (I : Inv X pins σ H s) {T : Addr} {d : D} {x : V} {u : Value} {n : Nat} (ho : okd n d = true) (h : Den T g.K H x d) (r : RelV x u) : ∃ as, Reads s.heap u (toPy d) as :=
  Dp.reads I _ x u (by rw [hK]; exact Den.dp d x n ho h) r
theorem reads_ofB {pins : List (Addr × Obj)} {σ : L2.St} {H : Hp} {s : Shared} (hK : X.K = g.K) (I : Inv X pins σ H s) {T : Addr} {d : D} {x : V} {u : Value} {n : Nat} (ho : okd n d = true) (h : DenB T g.K H x d) (r : RelV x u) : ∃ as, Reads s.heap u (toPy d) as :=
  Dp.reads I _ x u (by rw [hK]; exact h.dp ho) r
theorem op_ltM (hK : X.K = g.K) (hu : X.A.units + 64 < cLine) : OpR X (compareOp .Lt) (rM g (cmpM .lt)) := by
  intro pins s σ H x y v u Q I rx ry h
  obtain ⟨T, k, d, e, r, k', w, hd, he, em, q⟩ := h
  obtain ⟨b, k1, e1, e2⟩ := bind_some.mp em
  have e1 : ltD d e k = some (b, k1) := e1
  unfold ltD at e1
  split at e1
  · cases hd; cases he
    cases pure_some.mp e1
    exact op_lt pins s σ H _ _ v u Q I rx ry ⟨_, _, rfl, rfl, bfin w e2 q⟩
  · rename_i l1 l2 _
    obtain ⟨hc, e3⟩ := if_some e1
    cases pure_some.mp e3
    rw [Bool.and_eq_true, Bool.and_eq_true] at hc
    have o1 : okd (deep + 1) (.tup l1) = true := by simp only [okd]; exact hc.1.1
    have o2 : okd (deep + 1) (.tup l2) = true := by simp only [okd]; exact hc.1.2
    have lk : like (.tup l1) (.tup l2) = true := by simp only [like]; exact hc.2
    obtain ⟨as, r1⟩ := reads_of hK I o1 hd rx
    obtain ⟨bs, r2⟩ := reads_of hK I o2 he ry
    have hdp := (okd_lay _ _ o1).2
    have z := PySem.W.rcLt_alike _ _ X.A s v u _ _ r1 r2 (like_py _ _ lk) (fun z => by simp [toPy] at z) (by
      have h2 : min (toPy (.tup l1)).depth (toPy (.tup l2)).depth ≤ (toPy (.tup l1)).depth := Nat.min_le_left _ _
      unfold deep at hdp
      omega)
    rw [lt_py _ _ _ _ o1 o2 lk] at z
    exact z X.prog X.w X.xe (EP X pins σ Q) ⟨.bl _, H, I, rfl, bfin w (by simpa only [lt] using e2) q⟩
  · exact absurd e1 no_some
theorem op_leM (hK : X.K = g.K) (hu : X.A.units + 64 < cLine) : OpR X (compareOp .LtE) (rM g (cmpM .le)) := by
  intro pins s σ H x y v u Q I rx ry h
  obtain ⟨T, k, d, e, r, k', w, hd, he, em, q⟩ := h
  obtain ⟨b, k1, e1, e2⟩ := bind_some.mp em
  have e1 : leD' d e k = some (b, k1) := e1
  unfold leD' at e1
  split at e1
  · cases hd; cases he
    cases pure_some.mp e1
    exact op_le pins s σ H _ _ v u Q I rx ry ⟨_, _, rfl, rfl, bfin w e2 q⟩
  · rename_i l1 l2 _
    obtain ⟨hc, e3⟩ := if_some e1
    cases pure_some.mp e3
    rw [Bool.and_eq_true, Bool.and_eq_true, Bool.and_eq_true] at hc
    have o1 : okd (deep + 1) (.tup l1) = true := by simp only [okd]; exact hc.1.1.1
    have o2 : okd (deep + 1) (.tup l2) = true := by simp only [okd]; exact hc.1.1.2
    have lk : like (.tup l1) (.tup l2) = true := by simp only [like]; exact hc.1.2
    have lk' : like (.tup l2) (.tup l1) = true := by simp only [like]; exact hc.2
    obtain ⟨as, r1⟩ := reads_of hK I o1 hd rx
    obtain ⟨bs, r2⟩ := reads_of hK I o2 he ry
    have hdp := (okd_lay _ _ o1).2
    refine PySem.W.le_data r1 r2 (like_py _ _ lk) (fun z => by simp [toPy] at z) (by
      have h2 : min (toPy (.tup l1)).depth (toPy (.tup l2)).depth ≤ (toPy (.tup l1)).depth := Nat.min_le_left _ _
      unfold deep at hdp
      omega) ?_
    rw [lt_py _ _ _ _ o2 o1 lk']
    exact ⟨.bl _, H, I, rfl, bfin w (by simpa only [lt] using e2) q⟩
  · exact absurd e1 no_some
theorem op_gtM (hK : X.K = g.K) (hu : X.A.units + 64 < cLine) : OpR X (compareOp .Gt) (rM g (cmpM .gt)) := by
  intro pins s σ H x y v u Q I rx ry h
  obtain ⟨T, k, d, e, r, k', w, hd, he, em, q⟩ := h
  obtain ⟨b, k1, e1, e2⟩ := bind_some.mp em
  have e1 : gtD d e k = some (b, k1) := e1
  unfold gtD at e1
  split at e1
  · cases hd; cases he
    cases pure_some.mp e1
    exact op_gt pins s σ H _ _ v u Q I rx ry ⟨_, _, rfl, rfl, bfin w e2 q⟩
  · rename_i l1 l2 _
    obtain ⟨hc, e3⟩ := if_some e1
    cases pure_some.mp e3
    rw [Bool.and_eq_true, Bool.and_eq_true, Bool.and_eq_true] at hc
    have o1 : okd (deep + 1) (.tup l1) = true := by simp only [okd]; exact hc.1.1.1
    have o2 : okd (deep + 1) (.tup l2) = true := by simp only [okd]; exact hc.1.1.2
    have lk : like (.tup l1) (.tup l2) = true := by simp only [like]; exact hc.1.2
    have lk' : like (.tup l2) (.tup l1) = true := by simp only [like]; exact hc.2
    obtain ⟨as, r1⟩ := reads_of hK I o1 hd rx
    obtain ⟨bs, r2⟩ := reads_of hK I o2 he ry
    have hdp := (okd_lay _ _ o1).2
    refine PySem.W.gt_data r1 r2 (like_py _ _ lk) (fun z => by simp [toPy] at z) (by
      have h2 : min (toPy (.tup l1)).depth (toPy (.tup l2)).depth ≤ (toPy (.tup l1)).depth := Nat.min_le_left _ _
      unfold deep at hdp
      omega) ?_
    rw [lt_py _ _ _ _ o2 o1 lk']
    exact ⟨.bl _, H, I, rfl, bfin w (by simpa only [lt] using e2) q⟩
  · exact absurd e1 no_some
theorem op_geM : OpR X (compareOp .GtE) (rM g (cmpM .ge)) := by
  intro pins s σ H x y v u Q I rx ry h
  obtain ⟨T, k, d, e, r, k', w, hd, he, em, q⟩ := h
  obtain ⟨b, k1, e1, e2⟩ := bind_some.mp em
  have e1 : geD d e k = some (b, k1) := e1
  unfold geD at e1
  split at e1
  · cases hd; cases he
    cases pure_some.mp e1
    exact op_ge pins s σ H _ _ v u Q I rx ry ⟨_, _, rfl, rfl, bfin w e2 q⟩
  · exact absurd e1 no_some
def cpOp : Cp → CmpOp
  | .eq => .Eq
  | .ne => .NotEq
  | .lt => .Lt
  | .le => .LtE
  | .gt => .Gt
  | .ge => .GtE
theorem op_cmp (hK : X.K = g.K) (hu : X.A.units + 64 < cLine) : ∀ o : Cp, OpR X (compareOp (cpOp o)) (rM g (cmpM o))
  | .eq => op_eqM hK hu
  | .ne => op_neM hK hu
  | .lt => op_ltM hK hu
  | .le => op_leM hK hu
  | .gt => op_gtM hK hu
  | .ge => op_geM

/-! ### in -/
theorem any_has : ∀ (l : List D) (x : D) (n m : Nat), okds n l = true → okd m x = true → ((toPys l).any fun y => PyData.eqv y (toPy x)) = has l x
  | [], _, _, _, _, _ => by simp [toPys, has]
  | y :: ys, x, n, m, h, hx => by
    simp only [okds, Bool.and_eq_true] at h
    simp only [toPys, List.any_cons, has]
    rw [eqv_py y x n m h.1 hx, any_has ys x n m h.2 hx]
def inOp (n : Bool) : CmpOp := if n then .NotIn else .In
theorem op_inM (hK : X.K = g.K) (hu : X.A.units + 65 < cLine) (n : Bool) : OpR X (compareOp (inOp n)) (rB2 g (inM n)) := by
  intro pins s σ H x y v u Q I rx ry h
  obtain ⟨T, k, d, e, r, k', w, hd, he, em, q⟩ := h
  obtain ⟨b, k1, e1, e2⟩ := bind_some.mp em
  unfold inD at e1
  split at e1
  · rename_i l
    obtain ⟨hc, e3⟩ := if_some e1
    cases pure_some.mp e3
    rw [Bool.and_eq_true] at hc
    have o2 : okd (deep + 1) (.tup l) = true := by simp only [okd]; exact hc.2
    obtain ⟨as, r1⟩ := reads_of hK I hc.1 hd rx
    obtain ⟨bs, r2⟩ := reads_ofB hK I o2 he ry
    simp only [toPy] at r2
    have hz := room_in_shaped (A := X.A) (xs := toPys l) (okd_shaped hc.1) hu
    cases n with
    | false =>
      refine SeqAt.in_tuple_reads r2 r1 (okds_lay l _ hc.2).1 (okd_lay d _ hc.1).1 hz ?_
      rw [any_has l d _ _ hc.2 hc.1]
      exact ⟨.bl _, H, I, rfl, bfin w (by simpa using e2) q⟩
    | true =>
      refine SeqAt.notIn_tuple_reads r2 r1 (okds_lay l _ hc.2).1 (okd_lay d _ hc.1).1 hz ?_
      rw [any_has l d _ _ hc.2 hc.1]
      exact ⟨.bl _, H, I, rfl, bfin w (by simpa using e2) q⟩
  · rename_i l
    obtain ⟨hc, e3⟩ := if_some e1
    cases pure_some.mp e3
    rw [Bool.and_eq_true] at hc
    have o2 : okd (deep + 1) (.lst l) = true := by simp only [okd]; exact hc.2
    obtain ⟨as, r1⟩ := reads_of hK I hc.1 hd rx
    obtain ⟨bs, r2⟩ := reads_ofB hK I o2 he ry
    simp only [toPy] at r2
    have hz := room_in_shaped (A := X.A) (xs := toPys l) (okd_shaped hc.1) hu
    cases n with
    | false =>
      refine SeqAt.in_list_reads r2 r1 (okds_lay l _ hc.2).1 (okd_lay d _ hc.1).1 hz ?_
      rw [any_has l d _ _ hc.2 hc.1]
      exact ⟨.bl _, H, I, rfl, bfin w (by simpa using e2) q⟩
    | true =>
      refine SeqAt.notIn_list_reads r2 r1 (okds_lay l _ hc.2).1 (okd_lay d _ hc.1).1 hz ?_
      rw [any_has l d _ _ hc.2 hc.1]
      exact ⟨.bl _, H, I, rfl, bfin w (by simpa using e2) q⟩
  · rcases he with he | ⟨_, _, _, z, _⟩
    · cases he
    · cases z
  · split at e1
    · rename_i z _ c
      cases hd
      rcases he with he | ⟨_, _, _, z, _⟩
      case inr => cases z
      cases he
      cases pure_some.mp e1
      have ec : strOf [c] = ⟨#[c]⟩ := rfl
      have key : decide (c ∈ (strOf z).cps.toList) = z.contains c := by
        simp only [strOf, List.toList_toArray, List.contains_eq_mem]
        exact decide_eq_decide.mpr Iff.rfl
      cases n with
      | false => exact op_in_sign pins s σ H _ _ v u Q I rx ry ⟨c, strOf z, rfl, rfl, bfin w (by rw [key]; simpa using e2) q⟩
      | true => exact op_notIn_sign pins s σ H _ _ v u Q I rx ry ⟨c, strOf z, rfl, rfl, bfin w (by rw [key]; simpa using e2) q⟩
    · exact absurd e1 no_some
  · exact absurd e1 no_some

/-! ### is -/
def isOp (n : Bool) : CmpOp := if n then .IsNot else .Is
theorem den_non {T : Addr} {H : Hp} {x : V} {d : D} (h : Den T g.K H x d) (n : Bool) : isnD n d = .bl (xor n (decide (x = .non))) := by
  cases h <;> simp [isnD]
theorem pm_isn {a : Expr} {n : Bool} {m : G.St → M D} {j : Nat} {p pos : Pos} (ha : PE X a (tM g m)) : PE X (.Compare a [isOp n] [.Constant .none j p] pos) (tM g fun st => do let x ← m st; pure (isnD n x)) := by
  have key : ∀ (σ : L2.St) (H : Hp) (Q : VK), tM g (fun st => do let x ← m st; pure (isnD n x)) σ H Q → tM g m σ H fun x H1 => Q (.bl (xor n (decide (x = .non)))) H1 := by
    intro σ H Q h
    obtain ⟨T, k, st, d, k', w, r, em, q⟩ := h
    obtain ⟨x, k1, e1, e2⟩ := bind_some.mp em
    refine ⟨T, k, st, x, k1, w, r, e1, fun v H' gr w' hd => ?_⟩
    cases pure_some.mp e2
    refine q _ H' gr w' ?_
    rw [den_non hd]
    exact .bl _
  cases n with
  | false =>
    refine PEi (pe_cmp (pc_isN ha) rfl) fun σ H Q h => ?_
    have := key σ H Q h
    simpa [tIsN] using this
  | true =>
    refine PEi (pe_cmp (pc_notN ha) rfl) fun σ H Q h => ?_
    have := key σ H Q h
    simpa [tNotN] using this
theorem op_isbM (n b : Bool) : OpR X (compareOp (isOp n)) (fun x y H Q => y = .bl b ∧ rU1 g (isbD n b) x H Q) := by
  intro pins s σ H x y v u Q I rx ry h
  obtain ⟨ey, T, k, d, r, k', w, hd, em, q⟩ := h
  subst ey
  unfold isbD at em
  split at em
  · cases hd
    cases n with
    | false => exact op_is_bl pins s σ H _ _ v u Q I rx ry ⟨_, _, rfl, rfl, bfin w (by simpa using em) q⟩
    | true => exact op_isnot_bl pins s σ H _ _ v u Q I rx ry ⟨_, _, rfl, rfl, bfin w (by simpa using em) q⟩
  · exact absurd em no_some
end
end G

namespace G
open PySem PySem.Spec PyProof.Rows L2

section
variable (g : Cf)
def tO (m : G.St → M D) : TE := fun σ H Q => ∃ T k st d k', WS T g.Tb H k ∧ SR T g.K g.CL st σ H ∧ m st k = some (d, k') ∧ ∀ v H', Grow T H H' → WS T g.Tb H' k' → DenB T g.K H' v d → Q v H'
def rUB (h : D → M D) : V → Hp → VK → Prop := fun x H Q => ∃ T k d r k', WS T g.Tb H k ∧ DenB T g.K H x d ∧ h d k = some (r, k') ∧ ∀ v H', Grow T H H' → WS T g.Tb H' k' → Den T g.K H' v r → Q v H'
end
section
variable {g : Cf} {X : Cx} {a b c e : Expr} {f f1 f2 f3 : G.St → M D} {pos p1 p2 : Pos}
theorem DenB.grow {T : Addr} {K : PySem.W.Frag} {H H' : Hp} {v : V} {d : D} {k : Nat} (h : DenB T K H v d) (gr : Grow T H H') (t : Town T H k) (nT : v ≠ .ref T ∨ d = .town) : DenB T K H' v d := by
  rcases h with h | ⟨a, xs, ds, e1, e2, e3, e4⟩
  · exact .inl (Den.keep (gr.keeps t) _ _ h)
  · refine .inr ⟨a, xs, ds, e1, e2, gr.keep a _ e3 (fun z => ?_) (fun _ z => nomatch z), Dens.keep (gr.keeps t) _ _ e4⟩
    rcases nT with n | n
    · exact n (by rw [e2, z])
    · rw [e1] at n; cases n

theorem getV_sr {T : Addr} {st : G.St} {σ : L2.St} {H : Hp} {i k k' : Nat} {d : D} (r : SR T g.K g.CL st σ H) (h : getV st i k = some (d, k')) : k' = k ∧ st[i]? = some (.fr d) ∧ ∃ v, σ[i]? = some (some v) ∧ Den T g.K H v d := by
  unfold getV at h
  cases e : st[i]? with
  | none => rw [e] at h; exact absurd h (no_some (k := k))
  | some sl =>
    rw [e] at h
    cases sl with
    | fr d' =>
      cases pure_some.mp h
      refine ⟨rfl, rfl, ?_⟩
      have q := r.at' i _ e
      cases o : σ[i]? with
      | none => rw [o] at q; exact q.elim
      | some o' =>
        cases o' with
        | none => rw [o] at q; exact q.elim
        | some v => rw [o] at q; exact ⟨v, rfl, q⟩
    | _ => exact absurd h (no_some (k := k))
theorem getB_sr {T : Addr} {st : G.St} {σ : L2.St} {H : Hp} {i k k' : Nat} {d : D} (r : SR T g.K g.CL st σ H) (h : getB st i k = some (d, k')) : k' = k ∧ ∃ v, σ[i]? = some (some v) ∧ DenB T g.K H v d := by
  unfold getB at h
  cases e : st[i]? with
  | none => rw [e] at h; exact absurd h (no_some (k := k))
  | some sl =>
    rw [e] at h
    cases sl with
    | fr d' =>
      have h' : getV st i k = some (d, k') := by unfold getV; rw [e]; exact h
      obtain ⟨e1, _, v, e2, e3⟩ := getV_sr r h'
      exact ⟨e1, v, e2, .inl e3⟩
    | ow d' =>
      cases pure_some.mp h
      refine ⟨rfl, ?_⟩
      have q := r.at' i _ e
      cases d with
      | lst ds =>
        cases o : σ[i]? with
        | none => rw [o] at q; exact q.elim
        | some o' =>
          cases o' with
          | none => rw [o] at q; exact q.elim
          | some v =>
            rw [o] at q
            obtain ⟨a, xs, e1, e2, e3, e4⟩ := q
            exact ⟨v, rfl, .inr ⟨a, xs, ds, rfl, e1, e3, e4⟩⟩
      | _ =>
        cases o : σ[i]? with
        | none => rw [o] at q; exact q.elim
        | some o' => cases o' <;> (rw [o] at q; exact q.elim)
    | _ => exact absurd h (no_some (k := k))
theorem pm_v {i : Nat} {x : Str} (hN : X.N[i]? = some x) (hv : Vis X.env.scope x) (hd : (x == ("__debug__" : Str)) = false) (hc : (x == ("__classdict__" : Str)) = false) : PE X (.Name x pos) (tM g fun st => getV st i) :=
  PEi (pe_var hN hv hd hc) fun σ H Q h => by
    obtain ⟨T, k, st, d, k', w, r, em, q⟩ := h
    obtain ⟨e1, _, v, e2, e3⟩ := getV_sr r em
    subst e1
    exact ⟨v, e2, q v H (Grow.refl T H) w e3⟩
theorem pm_bv {i : Nat} {x : Str} (hN : X.N[i]? = some x) (hv : Vis X.env.scope x) (hd : (x == ("__debug__" : Str)) = false) (hc : (x == ("__classdict__" : Str)) = false) : PE X (.Name x pos) (tO g fun st => getB st i) :=
  PEi (pe_var hN hv hd hc) fun σ H Q h => by
    obtain ⟨T, k, st, d, k', w, r, em, q⟩ := h
    obtain ⟨e1, v, e2, e3⟩ := getB_sr r em
    subst e1
    exact ⟨v, e2, q v H (Grow.refl T H) w e3⟩
theorem pm_b (h : PE X a (tM g f)) : PE X a (tO g f) := PEi h fun σ H Q h => by
  obtain ⟨T, k, st, d, k', w, r, em, q⟩ := h
  exact ⟨T, k, st, d, k', w, r, em, fun v H' g1 w1 d1 => q v H' g1 w1 (.inl d1)⟩
/-- a constant -/
theorem pm_c {v : V} {d : D} (hd : ∀ T H, Den T g.K H v d) (h : PE X a (tC v)) : PE X a (tM g fun _ => pure d) := PEi h fun σ H Q h => by
  obtain ⟨T, k, st, d', k', w, r, em, q⟩ := h
  cases pure_some.mp em
  exact q v H (Grow.refl T H) w (hd T H)

/-! ### two operands -/
theorem tM_bin {h : D → D → M D} {σ : L2.St} {H : Hp} {Q : VK} (q : tM g (fun st => do let x ← f1 st; let y ← f2 st; h x y) σ H Q) : tM g f1 σ H fun x H1 => tM g f2 σ H1 fun y H2 => rM g h x y H2 Q := by
  obtain ⟨T, k, st, d, k', w, r, em, q⟩ := q
  obtain ⟨x, k1, e1, e2⟩ := bind_some.mp em
  obtain ⟨y, k2, e3, e4⟩ := bind_some.mp e2
  refine ⟨T, k, st, x, k1, w, r, e1, fun v1 H1 g1 w1 d1 => ⟨T, k1, st, y, k2, w1, r.grow g.stays g1 w.town, e3, fun v2 H2 g2 w2 d2 => ⟨T, k2, x, y, d, k', w2, Den.keep (g2.keeps w1.town) _ _ d1, d2, e4, fun v3 H3 g3 w3 d3 => q v3 H3 ((g1.trans g2).trans g3) w3 d3⟩⟩⟩
theorem pm_op {op : Operator} {h : D → D → M D} (ho : OpR X (binaryOp op) (rM g h)) (ha : PE X a (tM g f1)) (hb : PE X b (tM g f2)) : PE X (.BinOp a op b pos) (tM g fun st => do let x ← f1 st; let y ← f2 st; h x y) :=
  PEi (pe_op ho ha hb) fun σ H Q q => tM_bin q
theorem pm_cmp {op : CmpOp} {h : D → D → M D} (ho : OpR X (compareOp op) (rM g h)) (ha : PE X a (tM g f1)) (hb : PE X b (tM g f2)) (hm : behindInMarks op b = false) : PE X (.Compare a [op] [b] pos) (tM g fun st => do let x ← f1 st; let y ← f2 st; h x y) :=
  PEi (pe_cmpR ho ha hb hm) fun σ H Q q => tM_bin q
theorem pm_un {op : UnaryOp} {h : D → M D} (ho : UnR X (unaryOp op) (rU1 g h)) (ha : PE X a (tM g f)) : PE X (.UnaryOp op a pos) (tM g fun st => do let x ← f st; h x) :=
  PEi (pe_un ho ha) fun σ H Q q => by
    obtain ⟨T, k, st, d, k', w, r, em, q⟩ := q
    obtain ⟨x, k1, e1, e2⟩ := bind_some.mp em
    exact ⟨T, k, st, x, k1, w, r, e1, fun v1 H1 g1 w1 d1 => ⟨T, k1, x, d, k', w1, d1, e2, fun v3 H3 g3 w3 d3 => q v3 H3 (g1.trans g3) w3 d3⟩⟩
theorem un_negD : UnR X (unaryOp .USub) (rU1 g negD) := by
  intro pins s σ H x v Q I rx h
  obtain ⟨T, k, d, r, k', w, hd, em, q⟩ := h
  unfold negD at em
  split at em
  · cases hd
    cases pure_some.mp em
    exact un_neg pins s σ H _ v Q I rx ⟨_, rfl, q _ H (Grow.refl T H) w (.int _)⟩
  · exact absurd em no_some
/-- a value that is True or False, as a test -/
theorem bool_den {T : Addr} {H : Hp} {v : V} {b : Bool} (h : Den T g.K H v (.bl b)) : v = .bl b := by cases h; rfl
def isBl (d : D) : Prop := ∃ b, d = .bl b
theorem pt_bool {m : G.St → M D} (hb : ∀ st k d k', m st k = some (d, k') → isBl d) (h : PT X e (tTest (tM g m))) : PT X e (tMB g fun st => do let d ← m st; tru d) := PTi h fun σ H Q q => by
  obtain ⟨T, k, st, b, k', w, r, em, q⟩ := q
  obtain ⟨x, k1, e1, e2⟩ := bind_some.mp em
  obtain ⟨b', e⟩ := hb st k x k1 e1
  subst e
  have e3 := pure_some.mp (show (pure b' : M Bool) k1 = some (b, k') from e2)
  injection e3 with e4 e5
  subst e4 e5
  exact ⟨T, k, st, _, _, w, r, e1, fun v1 H1 g1 w1 d1 => ⟨_, bool_den d1, q H1 g1 w1⟩⟩
theorem pmt_cmp {op : CmpOp} {h : D → D → M D} (hb : ∀ x y k d k', h x y k = some (d, k') → isBl d) (ho : OpR X (compareOp op) (rM g h)) (ha : PE X a (tM g f1)) (hb' : PE X b (tM g f2)) (hm : behindInMarks op b = false) :
    PT X (.Compare a [op] [b] pos) (tMB g fun st => do let d ← (do let x ← f1 st; let y ← f2 st; h x y); tru d) := by
  refine pt_bool (fun st k d k' e => ?_) (PTi (pt_cmpR ho ha hb' hm) fun σ H Q q => ?_)
  · obtain ⟨x, k1, e1, e2⟩ := bind_some.mp e
    obtain ⟨y, k2, e3, e4⟩ := bind_some.mp e2
    exact hb x y k2 d k' e4
  · exact tM_bin q
/-! ### truth -/
theorem tru_v {T : Addr} {k k' : Nat} {H : Hp} {x : V} {d : D} {b : Bool} (hd : DenB T g.K H x d) (h : tru d k = some (b, k')) (hK : X.K = g.K) : k' = k ∧ TruV X.K x H b := by
  rcases hd with hd | ⟨a, xs, ds, e1, e2, e3, e4⟩
  · cases hd with
    | non => cases pure_some.mp h; exact ⟨rfl, rfl⟩
    | bl b => cases pure_some.mp h; exact ⟨rfl, rfl⟩
    | int i =>
      cases pure_some.mp h
      refine ⟨rfl, ?_⟩
      show decide (i ≠ 0) = (i != 0)
      by_cases z : i = 0 <;> simp [z]
    | str s =>
      obtain ⟨hz, h2⟩ := if_some (show (if s.length ≤ 16777216 then (pure !s.isEmpty : M Bool) else no) k = some (b, k') from h)
      cases pure_some.mp h2
      refine ⟨rfl, by rw [strOf_length, sizeLine_eq]; exact hz, ?_⟩
      rw [strOf_length]
      cases s <;> simp
      omega
    | tup h1 h2 =>
      cases pure_some.mp h
      refine ⟨rfl, .inr (.inl ⟨_, .of h1, ?_⟩)⟩
      cases h2 <;> rfl
    | lst h1 h2 =>
      cases pure_some.mp h
      refine ⟨rfl, .inl ⟨_, .inl (.inr ⟨_, h1⟩), ?_⟩⟩
      cases h2 <;> rfl
    | town => exact absurd h (no_some (k := k))
    | scr h1 =>
      rename_i a ns
      cases pure_some.mp h
      refine ⟨rfl, .inl ⟨_, by rw [hK]; exact h1.sq, ?_⟩⟩
      cases ns <;> rfl
  · subst e1 e2
    cases pure_some.mp h
    refine ⟨rfl, .inl ⟨_, .of e3, ?_⟩⟩
    cases e4 <;> rfl
theorem pmt_truth (hK : X.K = g.K) (ha : PE X a (tO g f)) (he : ∀ whole, isTrue a X.env whole = (do let v ← whole; standAt a.pos; holding [v] (truthy v))) : PT X a (tMB g fun st => do let d ← f st; tru d) :=
  PTi (pt_truth ha he) fun σ H Q q => by
    obtain ⟨T, k, st, b, k', w, r, em, q⟩ := q
    obtain ⟨x, k1, e1, e2⟩ := bind_some.mp em
    refine ⟨T, k, st, x, k1, w, r, e1, fun v1 H1 g1 w1 d1 => ?_⟩
    obtain ⟨e3, e4⟩ := tru_v (X := X) d1 e2 hK
    subst e3
    exact ⟨b, e4, q H1 g1 w1⟩
/-- not -/
theorem pmt_not {m : G.St → M Bool} (ha : PT X a (tMB g m)) : PT X (.UnaryOp .Not a pos) (tMB g fun st => do let b ← m st; pure !b) := PTi (pt_not ha) fun σ H Q q => by
  obtain ⟨T, k, st, b, k', w, r, em, q⟩ := q
  obtain ⟨x, k1, e1, e2⟩ := bind_some.mp em
  cases pure_some.mp e2
  exact ⟨T, k, st, x, _, w, r, e1, fun H1 g1 w1 => q H1 g1 w1⟩
theorem pm_not (hK : X.K = g.K) (ha : PE X a (tO g f)) : PE X (.UnaryOp .Not a pos) (tM g fun st => do let d ← f st; let b ← tru d; pure (.bl !b)) := PEi (pe_notT ha) fun σ H Q q => by
  obtain ⟨T, k, st, d, k', w, r, em, q⟩ := q
  obtain ⟨x, k1, e1, e2⟩ := bind_some.mp em
  obtain ⟨b, k2, e3, e4⟩ := bind_some.mp e2
  cases pure_some.mp e4
  refine ⟨T, k, st, x, k1, w, r, e1, fun v1 H1 g1 w1 d1 => ?_⟩
  obtain ⟨e5, e6⟩ := tru_v (X := X) d1 e3 hK
  subst e5
  exact ⟨b, e6, q _ H1 g1 w1 (.bl _)⟩
end
end G

namespace G
open PySem PySem.Spec PyProof.Rows L2

theorem bind_none {α β : Type} {x : M α} {f : α → M β} {k : Nat} (h : x k = none) : (x >>= f) k = none := by
  show Option.bind (x k) (fun p => f p.1 p.2) = none
  rw [h]; rfl
theorem tru_state {d : D} {k k' : Nat} {b : Bool} (h : tru d k = some (b, k')) : k' = k ∧ ∀ j, tru d j = some (b, j) := by
  cases d with
  | str s =>
    obtain ⟨hz, h2⟩ := if_some (show (if s.length ≤ 16777216 then (pure !s.isEmpty : M Bool) else no) k = some (b, k') from h)
    cases pure_some.mp h2
    exact ⟨rfl, fun j => by show (if s.length ≤ 16777216 then (pure !s.isEmpty : M Bool) else no) j = _; rw [if_pos hz]; rfl⟩
  | town => exact absurd h (no_some (k := k))
  | _ => cases pure_some.mp h; exact ⟨rfl, fun j => rfl⟩
section
variable {g : Cf} {X : Cx} {a b c e : Expr} {f f1 f2 f3 : G.St → M D} {pos p1 p2 : Pos} {rest : List Expr}
def andM (f1 f2 : G.St → M D) : G.St → M D := fun st => do let d ← f1 st; let r ← tru d; if r then f2 st else pure d
def orM (f1 f2 : G.St → M D) : G.St → M D := fun st => do let d ← f1 st; let r ← tru d; if r then pure d else f2 st
def iteM (f1 f2 f3 : G.St → M D) : G.St → M D := fun st => do let d ← f1 st; let r ← tru d; if r then f2 st else f3 st
def truM (f : G.St → M D) : G.St → M Bool := fun st => do let d ← f st; tru d
theorem pm_and (hK : X.K = g.K) (ha : PE X a (tO g f1)) (hb : PE X (.BoolOp .And (b :: rest) pos) (tM g f2)) (ha' : PE X a (tM g f1)) : PE X (.BoolOp .And (a :: b :: rest) pos) (tM g (andM f1 f2)) :=
  PEi (pe_andT ha' hb) fun σ H Q q => by
    obtain ⟨T, k, st, d, k', w, r, em, q⟩ := q
    obtain ⟨x, k1, e1, e2⟩ := bind_some.mp em
    obtain ⟨b', k2, e3, e4⟩ := bind_some.mp e2
    refine ⟨T, k, st, x, k1, w, r, e1, fun v1 H1 g1 w1 d1 => ?_⟩
    obtain ⟨e5, e6⟩ := tru_v (X := X) (.inl d1) e3 hK
    subst e5
    refine ⟨b', e6, ?_⟩
    cases b' with
    | true => exact ⟨T, k2, st, d, k', w1, r.grow g.stays g1 w.town, e4, fun v H' g2 w2 d2 => q v H' (g1.trans g2) w2 d2⟩
    | false =>
      cases pure_some.mp e4
      exact q _ H1 g1 w1 d1
theorem pm_or (hK : X.K = g.K) (ha' : PE X a (tM g f1)) (hb : PE X (.BoolOp .Or (b :: rest) pos) (tM g f2)) : PE X (.BoolOp .Or (a :: b :: rest) pos) (tM g (orM f1 f2)) :=
  PEi (pe_orT ha' hb) fun σ H Q q => by
    obtain ⟨T, k, st, d, k', w, r, em, q⟩ := q
    obtain ⟨x, k1, e1, e2⟩ := bind_some.mp em
    obtain ⟨b', k2, e3, e4⟩ := bind_some.mp e2
    refine ⟨T, k, st, x, k1, w, r, e1, fun v1 H1 g1 w1 d1 => ?_⟩
    obtain ⟨e5, e6⟩ := tru_v (X := X) (.inl d1) e3 hK
    subst e5
    refine ⟨b', e6, ?_⟩
    cases b' with
    | false => exact ⟨T, k2, st, d, k', w1, r.grow g.stays g1 w.town, e4, fun v H' g2 w2 d2 => q v H' (g1.trans g2) w2 d2⟩
    | true =>
      cases pure_some.mp e4
      exact q _ H1 g1 w1 d1
theorem pmw_and (ha : PT X a (tMB g (truM f1))) (hb : PW X (.BoolOp .And (b :: rest) pos) (tMB g (truM f2))) : PW X (.BoolOp .And (a :: b :: rest) pos) (tMB g (truM (andM f1 f2))) :=
  PWi (pw_and ha hb) fun σ H Q q => by
    obtain ⟨T, k, st, d, k', w, r, em, q⟩ := q
    obtain ⟨x, k1, e1, e2⟩ := bind_some.mp em
    obtain ⟨y, k2, e3, e4⟩ := bind_some.mp e1
    obtain ⟨b', k3, e5, e6⟩ := bind_some.mp e4
    refine ⟨T, k, st, b', k3, w, r, bind_some.mpr ⟨y, k2, e3, e5⟩, fun H1 g1 w1 => ?_⟩
    cases b' with
    | true => exact ⟨T, k3, st, d, k', w1, r.grow g.stays g1 w.town, bind_some.mpr ⟨x, k1, e6, e2⟩, fun H' g2 w2 => q H' (g1.trans g2) w2⟩
    | false =>
      cases pure_some.mp e6
      obtain ⟨_, z⟩ := tru_state e5
      rw [z] at e2
      cases e2
      exact q H1 g1 w1
theorem pmw_or (ha : PT X a (tMB g (truM f1))) (hb : PW X (.BoolOp .Or (b :: rest) pos) (tMB g (truM f2))) : PW X (.BoolOp .Or (a :: b :: rest) pos) (tMB g (truM (orM f1 f2))) :=
  PWi (pw_or ha hb) fun σ H Q q => by
    obtain ⟨T, k, st, d, k', w, r, em, q⟩ := q
    obtain ⟨x, k1, e1, e2⟩ := bind_some.mp em
    obtain ⟨y, k2, e3, e4⟩ := bind_some.mp e1
    obtain ⟨b', k3, e5, e6⟩ := bind_some.mp e4
    refine ⟨T, k, st, b', k3, w, r, bind_some.mpr ⟨y, k2, e3, e5⟩, fun H1 g1 w1 => ?_⟩
    cases b' with
    | false => exact ⟨T, k3, st, d, k', w1, r.grow g.stays g1 w.town, bind_some.mpr ⟨x, k1, e6, e2⟩, fun H' g2 w2 => q H' (g1.trans g2) w2⟩
    | true =>
      cases pure_some.mp e6
      obtain ⟨_, z⟩ := tru_state e5
      rw [z] at e2
      cases e2
      exact q H1 g1 w1
theorem pm_ite (hc : PT X c (tMB g (truM f1))) (ha : PE X a (tM g f2)) (hb : PE X b (tM g f3)) : PE X (.IfExp c a b pos) (tM g (iteM f1 f2 f3)) :=
  PEi (pe_ifExp hc ha hb) fun σ H Q q => by
    obtain ⟨T, k, st, d, k', w, r, em, q⟩ := q
    obtain ⟨x, k1, e1, e2⟩ := bind_some.mp em
    obtain ⟨b', k2, e3, e4⟩ := bind_some.mp e2
    refine ⟨T, k, st, b', k2, w, r, bind_some.mpr ⟨x, k1, e1, e3⟩, fun H1 g1 w1 => ?_⟩
    cases b' with
    | true => exact ⟨T, k2, st, d, k', w1, r.grow g.stays g1 w.town, e4, fun v H' g2 w2 d2 => q v H' (g1.trans g2) w2 d2⟩
    | false => exact ⟨T, k2, st, d, k', w1, r.grow g.stays g1 w.town, e4, fun v H' g2 w2 d2 => q v H' (g1.trans g2) w2 d2⟩
/-- chains -/
theorem pm_chain {o o' : Cp} (hK : X.K = g.K) (hu : X.A.units + 64 < cLine) (ha : PE X a (tM g f1)) (hb : PE X b (tM g f2)) (hc : PE X c (tM g f3)) (hm : lastMarks [cpOp o, cpOp o'] [b, c] = false) :
    PE X (.Compare a [cpOp o, cpOp o'] [b, c] pos) (tM g fun st => do let x ← f1 st; let y ← f2 st; let r ← cmpD o x y; if r then do let z ← f3 st; cmpM o' y z else pure (.bl false)) ∧
    PT X (.Compare a [cpOp o, cpOp o'] [b, c] pos) (tTest (tM g fun st => do let x ← f1 st; let y ← f2 st; let r ← cmpD o x y; if r then do let z ← f3 st; cmpM o' y z else pure (.bl false))) := by
  have key : ∀ (σ : L2.St) (H : Hp) (Q : VK), tM g (fun st => do let x ← f1 st; let y ← f2 st; let r ← cmpD o x y; if r then do let z ← f3 st; cmpM o' y z else pure (.bl false)) σ H Q →
      tChain (rM g (cmpM o)) (rM g (cmpM o')) (tM g f1) (tM g f2) (tM g f3) σ H Q := by
    intro σ H Q h
    obtain ⟨T, k, st, d, k', w, r, em, q⟩ := h
    obtain ⟨x, k1, e1, e2⟩ := bind_some.mp em
    obtain ⟨y, k2, e3, e4⟩ := bind_some.mp e2
    obtain ⟨b', k3, e5, e6⟩ := bind_some.mp e4
    refine ⟨T, k, st, x, k1, w, r, e1, fun v1 H1 g1 w1 d1 => ⟨T, k1, st, y, k2, w1, r.grow g.stays g1 w.town, e3, fun v2 H2 g2 w2 d2 => ⟨T, k2, x, y, .bl b', k3, w2, Den.keep (g2.keeps w1.town) _ _ d1, d2, bind_some.mpr ⟨b', k3, e5, rfl⟩, fun v3 H3 g3 w3 d3 => ⟨b', bool_den d3, ?_⟩⟩⟩⟩
    cases b' with
    | true =>
      obtain ⟨z, k4, e7, e8⟩ := bind_some.mp (show (do let z ← f3 st; cmpM o' y z : M D) k3 = some (d, k') from e6)
      rw [if_pos rfl]
      have g12 := g1.trans g2
      exact ⟨T, k3, st, z, k4, w3, r.grow g.stays (g12.trans g3) w.town, e7, fun v4 H4 g4 w4 d4 => ⟨T, k4, y, z, d, k', w4, Den.keep (g4.keeps w3.town) _ _ (Den.keep (g3.keeps w2.town) _ _ d2), d4, e8, fun v5 H5 g5 w5 d5 => q v5 H5 (((g12.trans g3).trans g4).trans g5) w5 d5⟩⟩
    | false =>
      rw [if_neg Bool.false_ne_true]
      cases pure_some.mp (show (pure (.bl false) : M D) k3 = some (d, k') from e6)
      exact q _ H3 ((g1.trans g2).trans g3) w3 (.bl false)
  exact ⟨PEi (pe_chain (op_cmp hK hu o) (op_cmp hK hu o') ha hb hc hm) key, PTi (pt_chain (op_cmp hK hu o) (op_cmp hK hu o') ha hb hc hm) fun σ H Q h => key σ H _ h⟩

/-! ### rows of items -/
theorem pam_nil : PA X [] (tMA g fun _ => pure []) := PAi pa_nil fun σ H Q h => by
  obtain ⟨T, k, st, d, k', w, r, em, q⟩ := h
  cases pure_some.mp em
  exact q [] H (Grow.refl T H) w .nil
theorem starEach_ok {e : Expr} {es : List Expr} {env : Env} (h : ∀ v p, e ≠ .Starred v p) : starEach (e :: es) env = (false, eval e env) :: starEach es env := by
  cases e <;> first | rfl | exact absurd rfl (h _ _)
theorem pam_cons {es : List Expr} {fs : G.St → M (List D)} (hs : ∀ v p, e ≠ .Starred v p) (he : PE X e (tM g f)) (ha : PA X es (tMA g fs)) : PA X (e :: es) (tMA g fun st => do let d ← f st; let ds ← fs st; pure (d :: ds)) :=
  PAi (pa_cons he ha (starEach_ok hs)) fun σ H Q h => by
    obtain ⟨T, k, st, d, k', w, r, em, q⟩ := h
    obtain ⟨x, k1, e1, e2⟩ := bind_some.mp em
    obtain ⟨y, k2, e3, e4⟩ := bind_some.mp e2
    cases pure_some.mp e4
    exact ⟨T, k, st, x, k1, w, r, e1, fun v1 H1 g1 w1 d1 => ⟨T, k1, st, y, _, w1, r.grow g.stays g1 w.town, e3, fun vs H2 g2 w2 d2 => q _ H2 (g1.trans g2) w2 (.cons (Den.keep (g2.keeps w1.town) _ _ d1) d2)⟩⟩
theorem noStars {es : List Expr} {pos : Pos} {env : Env} (h : ∀ e ∈ es, ∀ v p, e ≠ .Starred v p) : (backTo pos (starEach es env)).any (·.1) = false := by
  induction es with
  | nil => rfl
  | cons e es ih =>
    rw [starEach_ok (h e List.mem_cons_self)]
    have ih := ih fun e' he => h e' (List.mem_cons_of_mem _ he)
    simpa [backTo] using ih
theorem pm_tup {es : List Expr} {fs : G.St → M (List D)} {n : Nat} (hl : es.length ≤ 1000) (hlen : ∀ st k ds k', fs st k = some (ds, k') → ds.length = es.length) (ha : PA X es (tMA g fs)) : PE X (.Tuple es n pos) (tM g fun st => do let ds ← fs st; pure (.tup ds)) :=
  PEi (pe_tup ha) fun σ H Q h => by
    obtain ⟨T, k, st, d, k', w, r, em, q⟩ := h
    obtain ⟨x, k1, e1, e2⟩ := bind_some.mp em
    cases pure_some.mp e2
    refine ⟨T, k, st, x, _, w, r, e1, fun vs H1 g1 w1 d1 => ⟨?_, fun p hp => ?_⟩⟩
    · rw [d1.length, hlen _ _ _ _ e1]
      exact Nat.le_trans hl (by rw [sizeLine_eq]; decide)
    · exact newT w1 hp d1 fun v H' g2 w2 d2 => q v H' (g1.trans g2) w2 d2
/-- a new list that is not locked yet -/
theorem pn_lst {es : List Expr} {fs : G.St → M (List D)} (hl : es.length ≤ 1000) (hlen : ∀ st k ds k', fs st k = some (ds, k') → ds.length = es.length) (ha : PA X es (tMA g fs)) : PE X (.List es pos) (tN g fun st => do let ds ← fs st; pure (.lst ds)) :=
  PEi (pe_lst ha) fun σ H Q h => by
    obtain ⟨T, k, st, d, k', w, r, em, q⟩ := h
    obtain ⟨x, k1, e1, e2⟩ := bind_some.mp em
    cases pure_some.mp e2
    refine ⟨T, k, st, x, _, w, r, e1, fun vs H1 g1 w1 d1 => ⟨?_, fun p hp => ?_⟩⟩
    · rw [d1.length, hlen _ _ _ _ e1]
      exact Nat.le_trans hl (by rw [sizeLine_eq]; decide)
    · exact q p vs x _ rfl (g1.none p hp) (w1.neT hp) (g1.trans (Grow.new hp)) (w1.grow0 hp) upd_same (Dens.keep (keeps_new hp) _ _ d1)
end
end G

namespace G
open PySem PySem.Spec PyProof.Rows L2

section
variable (g : Cf)
def rVB (h : D → M D) : List V → Hp → VK → Prop := fun xs H Q => ∃ x, xs = [x] ∧ rUB g h x H Q
/-- a new list -/
def rVN (h : D → M D) : List V → Hp → VK → Prop := fun xs H Q => ∃ x T k d r k', xs = [x] ∧ WS T g.Tb H k ∧ DenB T g.K H x d ∧ h d k = some (r, k') ∧
  ∀ p ys ds H', r = .lst ds → H p = none → p ≠ T → Grow T H H' → WS T g.Tb H' k' → H' p = some (.lst ys) → Dens T g.K H' ys ds → Q (.ref p) H'
end
section
variable {g : Cf} {X : Cx}
theorem vfin {T : Addr} {k k' : Nat} {v : V} {d r : D} {Q : VK} {H : Hp} (w : WS T g.Tb H k) (e : (pure d : M D) k = some (r, k')) (hd : Den T g.K H v d)
    (q : ∀ v H', Grow T H H' → WS T g.Tb H' k' → Den T g.K H' v r → Q v H') : Q v H := by
  cases pure_some.mp e
  exact q _ H (Grow.refl T H) w hd
theorem DenB.sql {T : Addr} {H : Hp} {v : V} {l : List D} (h : DenB T g.K H v (.lst l)) (hK : X.K = g.K) : ∃ a xs, v = .ref a ∧ SqL X.K H a xs ∧ Dens T g.K H xs l := by
  rcases h with h | ⟨a, xs, ds, e1, e2, e3, e4⟩
  · cases h with
    | lst h1 h2 => exact ⟨_, _, rfl, .inl (.inr ⟨_, h1⟩), h2⟩
  · cases e1
    exact ⟨a, xs, e2, .of e3, e4⟩
theorem bools_v {T : Addr} {H : Hp} : ∀ {l : List D} {xs : List V} {bs : List Bool} {k k' : Nat}, Dens T g.K H xs l → boolsL l k = some (bs, k') → k' = k ∧ xs = bs.map V.bl
  | [], _, _, _, _, h, e => by
    cases h
    cases pure_some.mp e
    exact ⟨rfl, rfl⟩
  | d :: l, _, bs, k, k', h, e => by
    cases h with
    | cons h1 h2 =>
      cases d with
      | bl b =>
        cases h1
        obtain ⟨bs', k1, e1, e2⟩ := bind_some.mp (show (do let bs ← boolsL l; pure (b :: bs) : M (List Bool)) k = some (bs, k') from e)
        cases pure_some.mp e2
        obtain ⟨e3, e4⟩ := bools_v h2 e1
        exact ⟨e3, by rw [e4]; rfl⟩
      | _ => exact absurd e (no_some (k := k))
theorem ints_v {T : Addr} {H : Hp} : ∀ {l : List D} {xs : List V} {bs : List Int} {k k' : Nat}, Dens T g.K H xs l → intsL l k = some (bs, k') → k' = k ∧ xs = bs.map V.int
  | [], _, _, _, _, h, e => by
    cases h
    cases pure_some.mp e
    exact ⟨rfl, rfl⟩
  | d :: l, _, bs, k, k', h, e => by
    cases h with
    | cons h1 h2 =>
      cases d with
      | int b =>
        cases h1
        obtain ⟨bs', k1, e1, e2⟩ := bind_some.mp (show (do let bs ← intsL l; pure (b :: bs) : M (List Int)) k = some (bs, k') from e)
        cases pure_some.mp e2
        obtain ⟨e3, e4⟩ := ints_v h2 e1
        exact ⟨e3, by rw [e4]; rfl⟩
      | _ => exact absurd e (no_some (k := k))
theorem notO {T : Addr} {H : Hp} {v : V} {d : D} (h : DenB T g.K H v d) (n : ∀ l, d ≠ .lst l) : Den T g.K H v d := by
  rcases h with h | ⟨a, xs, ds, e1, _⟩
  · exact h
  · exact absurd e1 (n ds)
theorem call_lenD (hK : X.K = g.K) : CallR X (.builtin "len") (rVB g (f1D .len)) := CallRi call_len fun xs H Q h => by
  obtain ⟨x, rfl, T, k, d, r, k', w, hd, em, q⟩ := h
  cases d with
  | lst l =>
    obtain ⟨a, xs, rfl, hs, hd'⟩ := hd.sql hK
    refine ⟨_, l.length, rfl, .inl ⟨xs, hs, hd'.length.symm⟩, ?_⟩
    exact vfin (g := g) w em (.int _) q
  | town =>
    cases notO hd (fun _ z => nomatch z)
    have e := (Prod.mk.inj (Option.some.inj (show some ((D.int k, k) : D × Nat) = some (r, k') from em)))
    obtain ⟨e1, e2⟩ := e
    subst e1 e2
    exact ⟨_, k, rfl, .inl ⟨_, .of w.town.1, (List.length_replicate ..).symm⟩, q _ H (Grow.refl T H) w (.int _)⟩
  | str s =>
    cases notO hd (fun _ z => nomatch z)
    obtain ⟨hz, e2⟩ := if_some (show (if s.length ≤ 16777216 then (pure (.int s.length) : M D) else no) k = some (r, k') from em)
    exact ⟨_, s.length, rfl, ⟨by rw [strOf_length, sizeLine_eq]; exact hz, (strOf_length s).symm⟩, vfin (g := g) w e2 (.int _) q⟩
  | tup l =>
    cases notO hd (fun _ z => nomatch z) with
    | tup h1 h2 => exact ⟨_, l.length, rfl, .inr ⟨_, .of h1, h2.length.symm⟩, vfin (g := g) w em (.int _) q⟩
  | scr l =>
    cases notO hd (fun _ z => nomatch z) with
    | scr h1 => exact ⟨_, l.length, rfl, .inl ⟨_, by rw [hK]; exact h1.sq, (List.length_map ..).symm⟩, vfin (g := g) w em (.int _) q⟩
  | dic a b => cases notO hd (fun _ z => nomatch z)
  | _ => exact absurd em (no_some (k := k))
theorem call_allD (hK : X.K = g.K) (hc : X.calm = true) : CallR X (.builtin "all") (rVB g (f1D .all)) := CallRi (cr_all hc) fun xs H Q h => by
  obtain ⟨x, rfl, T, k, d, r, k', w, hd, em, q⟩ := h
  cases d with
  | lst l =>
    obtain ⟨a, xs, rfl, hs, hd'⟩ := hd.sql hK
    obtain ⟨bs, k1, e1, e2⟩ := bind_some.mp (show (do let bs ← boolsL l; pure (.bl (bs.all id)) : M D) k = some (r, k') from em)
    obtain ⟨e3, e4⟩ := bools_v hd' e1
    subst e3 e4
    exact ⟨a, bs, rfl, hs, bfin w e2 q⟩
  | _ => exact absurd em (no_some (k := k))
theorem call_anyD (hK : X.K = g.K) (hc : X.calm = true) : CallR X (.builtin "any") (rVB g (f1D .any)) := CallRi (cr_any hc) fun xs H Q h => by
  obtain ⟨x, rfl, T, k, d, r, k', w, hd, em, q⟩ := h
  cases d with
  | lst l =>
    obtain ⟨a, xs, rfl, hs, hd'⟩ := hd.sql hK
    obtain ⟨bs, k1, e1, e2⟩ := bind_some.mp (show (do let bs ← boolsL l; pure (.bl (bs.any id)) : M D) k = some (r, k') from em)
    obtain ⟨e3, e4⟩ := bools_v hd' e1
    subst e3 e4
    exact ⟨a, bs, rfl, hs, bfin w e2 q⟩
  | _ => exact absurd em (no_some (k := k))
theorem call_sumD (hK : X.K = g.K) (hc : X.calm = true) : CallR X (.builtin "sum") (rVB g (f1D .sum)) := CallRi (cr_sum hc) fun xs H Q h => by
  obtain ⟨x, rfl, T, k, d, r, k', w, hd, em, q⟩ := h
  cases d with
  | lst l =>
    obtain ⟨a, xs, rfl, hs, hd'⟩ := hd.sql hK
    obtain ⟨bs, k1, e1, e2⟩ := bind_some.mp (show (do let ns ← intsL l; pure (.int ns.sum) : M D) k = some (r, k') from em)
    obtain ⟨e3, e4⟩ := ints_v hd' e1
    subst e3 e4
    exact ⟨a, bs, rfl, hs, vfin (g := g) w e2 (.int _) q⟩
  | _ => exact absurd em (no_some (k := k))
theorem call_tupleD (hK : X.K = g.K) : CallR X (.type "tuple") (rVB g (f1D .tuple)) := CallRi call_tuple_of fun xs H Q h => by
  obtain ⟨x, rfl, T, k, d, r, k', w, hd, em, q⟩ := h
  cases d with
  | lst l =>
    obtain ⟨a, xs, rfl, hs, hd'⟩ := hd.sql hK
    cases pure_some.mp em
    exact ⟨a, xs, rfl, .inl ⟨hs, fun p hp => newT w hp hd' q⟩⟩
  | tup l =>
    cases notO hd (fun _ z => nomatch z) with
    | tup h1 h2 => exact ⟨_, _, rfl, .inr ⟨.of h1, vfin (g := g) w em (.tup h1 h2) q⟩⟩
  | _ => exact absurd em (no_some (k := k))
theorem call_listN (hK : X.K = g.K) : CallR X (.type "list") (rVN g (f1D .list)) := CallRi call_list_of fun xs H Q h => by
  obtain ⟨x, T, k, d, r, k', rfl, w, hd, em, q⟩ := h
  cases d with
  | lst l =>
    obtain ⟨a, xs, rfl, hs, hd'⟩ := hd.sql hK
    cases pure_some.mp em
    exact ⟨a, xs, rfl, .inl hs, fun p hp => q p xs l _ rfl hp (w.neT hp) (Grow.new hp) (w.grow0 hp) upd_same (Dens.keep (keeps_new hp) _ _ hd')⟩
  | tup l =>
    cases notO hd (fun _ z => nomatch z) with
    | tup h1 h2 =>
      cases pure_some.mp em
      exact ⟨_, _, rfl, .inr (.of h1), fun p hp => q p _ l _ rfl hp (w.neT hp) (Grow.new hp) (w.grow0 hp) upd_same (Dens.keep (keeps_new hp) _ _ h2)⟩
  | _ => exact absurd em (no_some (k := k))
theorem call_intD : CallR X (.type "int") (rVB g fun d => match d with | .int i => f1D .int (.int i) | .bl b => f1D .int (.bl b) | _ => no) := CallRi call_int1 fun xs H Q h => by
  obtain ⟨x, rfl, T, k, d, r, k', w, hd, em, q⟩ := h
  cases d with
  | int i =>
    cases notO hd (fun _ z => nomatch z)
    exact .inl ⟨i, rfl, vfin (g := g) w em (.int _) q⟩
  | bl b =>
    cases notO hd (fun _ z => nomatch z)
    exact .inr ⟨b, rfl, vfin (g := g) w em (.int _) q⟩
  | _ => exact absurd em (no_some (k := k))

/-! ### min, max, sorted -/
theorem allL {l : List D} (h : alikes l = true) : ∀ x ∈ l, ∀ y ∈ l, like x y = true := by
  intro x hx y hy
  unfold alikes at h
  rw [List.all_eq_true] at h
  have := h x hx
  rw [List.all_eq_true] at this
  exact this y hy
theorem okds_mem {n : Nat} : ∀ {l : List D}, okds n l = true → ∀ x ∈ l, okd n x = true
  | [], _, x, hx => by cases hx
  | y :: ys, h, x, hx => by
    simp only [okds, Bool.and_eq_true] at h
    rcases List.mem_cons.mp hx with e | hx
    · rw [e]; exact h.1
    · exact okds_mem h.2 x hx
theorem py_non {d : D} (h : isNon d = false) : toPy d ≠ .none := by
  cases d <;> simp [toPy, isNon] at h ⊢
theorem alikeAll_py {l : List D} (h : alikes l = true) (hn : (l.all fun x => !isNon x) = true) : PySem.W.AlikeAll (toPys l) := by
  rw [toPys_map]
  refine ⟨fun x hx y hy => ?_, fun x hx => ?_⟩
  · obtain ⟨a, ha, rfl⟩ := List.mem_map.mp hx
    obtain ⟨b, hb, rfl⟩ := List.mem_map.mp hy
    exact like_py a b (allL h a ha b hb)
  · obtain ⟨a, ha, rfl⟩ := List.mem_map.mp hx
    rw [List.all_eq_true] at hn
    exact py_non (by simpa using hn a ha)
theorem minD_py {n : Nat} : ∀ (l : List D) (x : D), okd n x = true → okds n l = true → (∀ y ∈ l, like y x = true) → (∀ y ∈ l, ∀ z ∈ l, like y z = true) → PySem.W.minD (toPy x) (toPys l) = toPy (minL x l) ∧ okd n (minL x l) = true
  | [], x, hx, _, _, _ => ⟨rfl, hx⟩
  | y :: ys, x, hx, hl, h1, h2 => by
    simp only [okds, Bool.and_eq_true] at hl
    have e : PySem.W.minD (toPy x) (toPys (y :: ys)) = PySem.W.minD (if PySem.W.dataLt (toPy y) (toPy x) = true then toPy y else toPy x) (toPys ys) := rfl
    rw [e, lt_py y x n n hl.1 hx (h1 y List.mem_cons_self), minL]
    have h2' := fun a ha b hb => h2 a (List.mem_cons_of_mem _ ha) b (List.mem_cons_of_mem _ hb)
    cases hb : lt y x with
    | true =>
      rw [if_pos rfl, if_pos rfl]
      exact minD_py ys y hl.1 hl.2 (fun a ha => h2 a (List.mem_cons_of_mem _ ha) y List.mem_cons_self) h2'
    | false =>
      rw [if_neg Bool.false_ne_true, if_neg Bool.false_ne_true]
      exact minD_py ys x hx hl.2 (fun a ha => h1 a (List.mem_cons_of_mem _ ha)) h2'
theorem maxD_py {n : Nat} : ∀ (l : List D) (x : D), okd n x = true → okds n l = true → (∀ y ∈ l, like x y = true) → (∀ y ∈ l, ∀ z ∈ l, like y z = true) → PySem.W.maxD (toPy x) (toPys l) = toPy (maxL x l) ∧ okd n (maxL x l) = true
  | [], x, hx, _, _, _ => ⟨rfl, hx⟩
  | y :: ys, x, hx, hl, h1, h2 => by
    simp only [okds, Bool.and_eq_true] at hl
    have e : PySem.W.maxD (toPy x) (toPys (y :: ys)) = PySem.W.maxD (if PySem.W.dataLt (toPy x) (toPy y) = true then toPy y else toPy x) (toPys ys) := rfl
    rw [e, lt_py x y n n hx hl.1 (h1 y List.mem_cons_self), maxL]
    have h2' := fun a ha b hb => h2 a (List.mem_cons_of_mem _ ha) b (List.mem_cons_of_mem _ hb)
    cases hb : lt x y with
    | true =>
      rw [if_pos rfl, if_pos rfl]
      exact maxD_py ys y hl.1 hl.2 (fun a ha => h2 y List.mem_cons_self a (List.mem_cons_of_mem _ ha)) h2'
    | false =>
      rw [if_neg Bool.false_ne_true, if_neg Bool.false_ne_true]
      exact maxD_py ys x hx hl.2 (fun a ha => h1 a (List.mem_cons_of_mem _ ha)) h2'
theorem minL_mem : ∀ (l : List D) (x : D), minL x l ∈ x :: l
  | [], x => by simp [minL]
  | y :: ys, x => by
    rw [minL]
    have := minL_mem ys (if lt y x then y else x)
    split at this <;> rename_i h
    · rw [if_pos h]
      rcases List.mem_cons.mp this with e | e
      · rw [e]; simp
      · simp [e]
    · rw [if_neg h]
      rcases List.mem_cons.mp this with e | e
      · rw [e]; simp
      · simp [e]
theorem maxL_mem : ∀ (l : List D) (x : D), maxL x l ∈ x :: l
  | [], x => by simp [maxL]
  | y :: ys, x => by
    rw [maxL]
    have := maxL_mem ys (if lt x y then y else x)
    split at this <;> rename_i h
    · rw [if_pos h]
      rcases List.mem_cons.mp this with e | e
      · rw [e]; simp
      · simp [e]
    · rw [if_neg h]
      rcases List.mem_cons.mp this with e | e
      · rw [e]; simp
      · simp [e]
mutual
theorem toPy_inj : ∀ (a b : D) (n m : Nat), okd n a = true → okd m b = true → toPy a = toPy b → a = b
  | .non, b, _, _, _, hb, e => by cases b <;> simp [toPy, okd] at hb e ⊢
  | .bl _, b, _, _, _, hb, e => by cases b <;> simp [toPy, okd] at hb e ⊢ <;> exact e
  | .int _, b, _, _, _, hb, e => by cases b <;> simp [toPy, okd] at hb e ⊢ <;> exact e
  | .str _, b, _, _, _, hb, e => by
    cases b <;> simp [toPy, okd] at hb e ⊢
    exact strOf_inj e
  | .tup l, b, 0, _, h, _, _ => by simp [okd] at h
  | .tup l, b, n + 1, m, h, hb, e => by
    cases b with
    | tup r =>
      cases m with
      | zero => simp [okd] at hb
      | succ m =>
        simp only [okd] at h hb
        simp only [toPy] at e
        injection e with e
        rw [toPys_inj l r n m h hb e]
    | _ => simp [toPy] at e
  | .lst l, b, 0, _, h, _, _ => by simp [okd] at h
  | .lst l, b, n + 1, m, h, hb, e => by
    cases b with
    | lst r =>
      cases m with
      | zero => simp [okd] at hb
      | succ m =>
        simp only [okd] at h hb
        simp only [toPy] at e
        injection e with e
        rw [toPys_inj l r n m h hb e]
    | _ => simp [toPy] at e
  | .dic _ _, _, n, _, h, _, _ => by simp [okd] at h
  | .town, _, n, _, h, _, _ => by simp [okd] at h
  | .scr _, _, n, _, h, _, _ => by simp [okd] at h
theorem toPys_inj : ∀ (a b : List D) (n m : Nat), okds n a = true → okds m b = true → toPys a = toPys b → a = b
  | [], [], _, _, _, _, _ => rfl
  | [], _ :: _, _, _, _, _, e => by simp [toPys] at e
  | _ :: _, [], _, _, _, _, e => by simp [toPys] at e
  | x :: xs, y :: ys, n, m, h, hb, e => by
    simp only [okds, Bool.and_eq_true] at h hb
    simp only [toPys, List.cons.injEq] at e
    rw [toPy_inj x y n m h.1 hb.1 e.1, toPys_inj xs ys n m h.2 hb.2 e.2]
end
theorem readsAll_of {pins : List (Addr × Obj)} {σ : L2.St} {H : Hp} {s : Shared} (hK : X.K = g.K) (I : Inv X pins σ H s) {T : Addr} {l : List D} {xs : List V} {us : List Value} {n : Nat} (ho : okds n l = true) (h : Dens T g.K H xs l) (r : Vals xs us) : ∃ as, ReadsAll s.heap us (toPys l) as :=
  Dp.readsAll I _ xs us (by rw [hK]; exact Dens.dp l xs n ho h) r
theorem minable_of {x : D} {l : List D} (h : minable (x :: l) = true) : okds deep (x :: l) = true ∧ alikes (x :: l) = true ∧ ((x :: l).all fun x => !isNon x) = true := by
  unfold minable at h
  rw [Bool.and_eq_true, Bool.and_eq_true] at h
  exact ⟨h.1.1, h.1.2, h.2⟩
/-- the picked item -/
theorem picked {pins : List (Addr × Obj)} {σ : L2.St} {H : Hp} {s : Shared} (hK : X.K = g.K) (I : Inv X pins σ H s) {T : Addr} {k k' : Nat} {l : List D} {xs : List V} {its : List Value} {r m : D} {Q : VK} (w : WS T g.Tb H k) (hd : Dens T g.K H xs l) (rv : Vals xs its) (ho : okds deep l = true)
    (hm : okd deep m = true) (em : (pure m : M D) k = some (r, k')) (q : ∀ v H', Grow T H H' → WS T g.Tb H' k' → Den T g.K H' v r → Q v H')
    {i : Nat} {v : Value} {h' : Heap} {tk : Nat} {bs : List Addr} (hv : its[i]? = some v) (hr : Reads h' v (toPy m) bs) (hk : ∀ b o, s.heap.get? b = some o → h'.get? b = some o) (hl : ∀ x ∈ l, like x m = true) : EP X pins σ Q v { s with heap := h', toks := tk } := by
  cases pure_some.mp em
  have hi : i < its.length := by
    rcases Nat.lt_or_ge i its.length with z | z
    · exact z
    · rw [List.getElem?_eq_none z] at hv; cases hv
  have hx : i < xs.length := by rw [rv.length]; exact hi
  obtain ⟨u, hu, ru⟩ := rv.get (i := i) (x := xs[i]) (List.getElem?_eq_getElem hx)
  rw [hv] at hu
  cases hu
  have hil : i < l.length := by rw [← hd.length]; exact hx
  obtain ⟨v', hv', dv'⟩ := hd.get (i := i) (d := l[i]) (List.getElem?_eq_getElem hil)
  rw [List.getElem?_eq_getElem hx] at hv'
  cases hv'
  have I' : Inv X pins σ H { s with heap := h', toks := tk } := I.kept hk
  have hmem : l[i] ∈ l := List.getElem_mem hil
  obtain ⟨as, r1⟩ := reads_of hK I' (okds_mem ho _ hmem) dv' ru
  have e : toPy l[i] = toPy r := PySem.W.alike_unique _ _ _ _ _ (like_py _ _ (hl _ hmem)) r1 hr
  rw [← toPy_inj _ _ _ _ (okds_mem ho _ hmem) hm e] at q
  exact ⟨xs[i], H, I', ru, q _ H (Grow.refl T H) w dv'⟩
end
end G

namespace G
open PySem PySem.Spec PyProof.Rows L2

section
variable {g : Cf} {X : Cx}
theorem handled0 {pins : List (Addr × Obj)} {σ : L2.St} {H : Hp} {s : Shared} (I : Inv X pins σ H s) (hc : X.calm = true) : X.A.handled = none := I.ok.hd hc
theorem depthOk {l : List D} (h : okds deep l = true) (hu : X.A.units + 64 < cLine) : X.A.units + 1 + PyData.depthAll (toPys l) < cLine := by
  have := (okds_lay l deep h).2
  unfold deep at this
  omega
theorem call_minD (hK : X.K = g.K) (hc : X.calm = true) (hu : X.A.units + 64 < cLine) : CallR X (.builtin "min") (rVB g (f1D .min)) := by
  intro pins s σ H xs us Q I r h
  obtain ⟨x, rfl, T, k, d, r', k', w, hd, em, q⟩ := h
  obtain ⟨u, rfl, rx⟩ := vals1 r
  have hh := handled0 I hc
  have key : ∀ (y : D) (l : List D) (ys : List V) (its : List Value), minable (y :: l) = true → (pure (minL y l) : M D) k = some (r', k') → Dens T g.K H ys (y :: l) → Vals ys its →
      (∀ (i : Nat) v h' tk bs, its[i]? = some v → Reads h' v (PySem.W.minD (toPy y) (toPys l)) bs → (∀ b o, s.heap.get? b = some o → h'.get? b = some o) → EP X pins σ Q v { s with heap := h', toks := tk }) ∧
      (∃ as, ReadsAll s.heap its (toPy y :: toPys l) as) ∧ PySem.W.AlikeAll (toPy y :: toPys l) := by
    intro y l ys its hm e2 hds rv
    obtain ⟨h1, h2, h3⟩ := minable_of hm
    have lk := allL h2
    simp only [okds, Bool.and_eq_true] at h1
    obtain ⟨m1, m2⟩ := minD_py l y h1.1 h1.2 (fun a ha => lk a (List.mem_cons_of_mem _ ha) y List.mem_cons_self) (fun a ha b hb => lk a (List.mem_cons_of_mem _ ha) b (List.mem_cons_of_mem _ hb))
    have ho : okds deep (y :: l) = true := by simp only [okds, Bool.and_eq_true]; exact h1
    have hmem : minL y l ∈ y :: l := minL_mem l y
    refine ⟨fun i v h' tk bs hv hr hk => ?_, ?_, ?_⟩
    · rw [m1] at hr
      exact picked hK I w hds rv ho m2 e2 q hv hr hk (fun a ha => lk a ha _ hmem)
    · exact readsAll_of hK I ho hds rv
    · exact alikeAll_py h2 h3
  cases d with
  | lst l =>
    cases l with
    | nil => exact absurd em (no_some (k := k))
    | cons y l =>
      obtain ⟨hm, e2⟩ := if_some (show (if minable (y :: l) then (pure (minL y l) : M D) else no) k = some (r', k') from em)
      obtain ⟨a, ys, rfl, hs, hds⟩ := hd.sql hK
      cases rx
      obtain ⟨its, rv, pl, _⟩ := I.list hs
      obtain ⟨k1, ⟨as, k2⟩, k3⟩ := key y l ys its hm e2 hds rv
      exact PySem.W.min_list_data hh pl.isList (by simpa using k2) k3 (depthOk (minable_of hm).1 hu) fun i v h' tk bs hv hr hk => k1 i v h' tk bs (by simpa using hv) hr hk
  | tup l =>
    cases l with
    | nil => exact absurd em (no_some (k := k))
    | cons y l =>
      obtain ⟨hm, e2⟩ := if_some (show (if minable (y :: l) then (pure (minL y l) : M D) else no) k = some (r', k') from em)
      cases notO hd (fun _ z => nomatch z) with
      | tup h1 h2 =>
        cases rx
        obtain ⟨its, rv, pl, _⟩ := I.tuple (.of h1)
        obtain ⟨k1, ⟨as, k2⟩, k3⟩ := key y l _ its hm e2 h2 rv
        exact PySem.W.min_tuple_data hh (show s.heap.IsTuple _ _ from pl) (by simpa using k2) k3 (depthOk (minable_of hm).1 hu) fun i v h' tk bs hv hr hk => k1 i v h' tk bs (by simpa using hv) hr hk
  | _ => exact absurd em (no_some (k := k))
theorem call_maxD (hK : X.K = g.K) (hc : X.calm = true) (hu : X.A.units + 64 < cLine) : CallR X (.builtin "max") (rVB g (f1D .max)) := by
  intro pins s σ H xs us Q I r h
  obtain ⟨x, rfl, T, k, d, r', k', w, hd, em, q⟩ := h
  obtain ⟨u, rfl, rx⟩ := vals1 r
  have hh := handled0 I hc
  have key : ∀ (y : D) (l : List D) (ys : List V) (its : List Value), minable (y :: l) = true → (pure (maxL y l) : M D) k = some (r', k') → Dens T g.K H ys (y :: l) → Vals ys its →
      (∀ (i : Nat) v h' tk bs, its[i]? = some v → Reads h' v (PySem.W.maxD (toPy y) (toPys l)) bs → (∀ b o, s.heap.get? b = some o → h'.get? b = some o) → EP X pins σ Q v { s with heap := h', toks := tk }) ∧
      (∃ as, ReadsAll s.heap its (toPy y :: toPys l) as) ∧ PySem.W.AlikeAll (toPy y :: toPys l) := by
    intro y l ys its hm e2 hds rv
    obtain ⟨h1, h2, h3⟩ := minable_of hm
    have lk := allL h2
    simp only [okds, Bool.and_eq_true] at h1
    obtain ⟨m1, m2⟩ := maxD_py l y h1.1 h1.2 (fun a ha => lk y List.mem_cons_self a (List.mem_cons_of_mem _ ha)) (fun a ha b hb => lk a (List.mem_cons_of_mem _ ha) b (List.mem_cons_of_mem _ hb))
    have ho : okds deep (y :: l) = true := by simp only [okds, Bool.and_eq_true]; exact h1
    have hmem : maxL y l ∈ y :: l := maxL_mem l y
    refine ⟨fun i v h' tk bs hv hr hk => ?_, ?_, ?_⟩
    · rw [m1] at hr
      exact picked hK I w hds rv ho m2 e2 q hv hr hk (fun a ha => lk a ha _ hmem)
    · exact readsAll_of hK I ho hds rv
    · exact alikeAll_py h2 h3
  cases d with
  | lst l =>
    cases l with
    | nil => exact absurd em (no_some (k := k))
    | cons y l =>
      obtain ⟨hm, e2⟩ := if_some (show (if minable (y :: l) then (pure (maxL y l) : M D) else no) k = some (r', k') from em)
      obtain ⟨a, ys, rfl, hs, hds⟩ := hd.sql hK
      cases rx
      obtain ⟨its, rv, pl, _⟩ := I.list hs
      obtain ⟨k1, ⟨as, k2⟩, k3⟩ := key y l ys its hm e2 hds rv
      exact PySem.W.max_list_data hh pl.isList (by simpa using k2) k3 (depthOk (minable_of hm).1 hu) fun i v h' tk bs hv hr hk => k1 i v h' tk bs (by simpa using hv) hr hk
  | tup l =>
    cases l with
    | nil => exact absurd em (no_some (k := k))
    | cons y l =>
      obtain ⟨hm, e2⟩ := if_some (show (if minable (y :: l) then (pure (maxL y l) : M D) else no) k = some (r', k') from em)
      cases notO hd (fun _ z => nomatch z) with
      | tup h1 h2 =>
        cases rx
        obtain ⟨its, rv, pl, _⟩ := I.tuple (.of h1)
        obtain ⟨k1, ⟨as, k2⟩, k3⟩ := key y l _ its hm e2 h2 rv
        exact PySem.W.max_tuple_data hh (show s.heap.IsTuple _ _ from pl) (by simpa using k2) k3 (depthOk (minable_of hm).1 hu) fun i v h' tk bs hv hr hk => k1 i v h' tk bs (by simpa using hv) hr hk
  | _ => exact absurd em (no_some (k := k))
/-! ### sorted -/
theorem each_zip {T : Addr} {H : Hp} : ∀ {l : List D} {xs : List V} {its : List Value}, Dens T g.K H xs l → Vals xs its → PySem.W.EachIs (fun v (b : D × V) => RelV b.2 v ∧ Den T g.K H b.2 b.1) its (l.zip xs)
  | [], _, _, h, r => by cases h; cases r; exact .nil
  | d :: l, _, _, h, r => by
    cases h with
    | cons h1 h2 =>
      cases r with
      | cons r1 r2 => exact .cons ⟨r1, h1⟩ (each_zip h2 r2)
theorem each_back {T : Addr} {H : Hp} : ∀ {its : List Value} {bs : List (D × V)}, PySem.W.EachIs (fun v (b : D × V) => RelV b.2 v ∧ Den T g.K H b.2 b.1) its bs → Vals (bs.map (·.2)) its ∧ Dens T g.K H (bs.map (·.2)) (bs.map (·.1))
  | _, _, .nil => ⟨.nil, .nil⟩
  | _, _, .cons ⟨h1, h2⟩ t => by
    obtain ⟨a, b⟩ := each_back t
    exact ⟨.cons h1 a, .cons h2 b⟩
end
end G

namespace G
open PySem PySem.Spec PyProof.Rows L2

section
variable {g : Cf} {X : Cx}
theorem zip_fst {α β : Type} : ∀ {l : List α} {xs : List β}, xs.length = l.length → (l.zip xs).map (·.1) = l
  | [], _, _ => rfl
  | a :: l, [], h => by simp at h
  | a :: l, x :: xs, h => by
    show a :: (l.zip xs).map (·.1) = a :: l
    rw [zip_fst (by simpa using h)]
theorem py_tup1 {d : D} (h : isTup1 d = true) : ∃ x r, toPy d = .tuple (x :: r) := by
  cases d with
  | tup l =>
    cases l with
    | nil => simp [isTup1] at h
    | cons x l => exact ⟨_, _, rfl⟩
  | _ => simp [isTup1] at h
theorem py_notup {d : D} (h : isTup0 d = false) : ∀ xs, toPy d ≠ .tuple xs := by
  intro xs
  cases d <;> simp [isTup0, toPy] at h ⊢
theorem each_readsZ {pins : List (Addr × Obj)} {σ : L2.St} {H : Hp} {s : Shared} (hK : X.K = g.K) (I : Inv X pins σ H s) {T : Addr} {n : Nat} : ∀ {l : List D} {xs : List V} {its : List Value}, okds n l = true → Dens T g.K H xs l → Vals xs its →
    PySem.W.EachIs (fun v (b : D × V) => ∃ as, Reads s.heap v (toPy b.1) as) its (l.zip xs)
  | [], _, _, _, h, r => by cases h; cases r; exact .nil
  | d :: l, _, _, ho, h, r => by
    simp only [okds, Bool.and_eq_true] at ho
    cases h with
    | cons h1 h2 =>
      cases r with
      | cons r1 r2 => exact .cons (reads_of hK I ho.1 h1 r1) (each_readsZ hK I ho.2 h2 r2)
theorem call_sortedN (hK : X.K = g.K) (hu : X.A.units + 64 < cLine) : CallR X (.builtin "sorted") (rVN g (f1D .sorted)) := by
  intro pins s σ H xs us Q I r h
  obtain ⟨x, T, k, d, r', k', rfl, w, hd, em, q⟩ := h
  obtain ⟨u, rfl, rx⟩ := vals1 r
  cases d with
  | lst l =>
    obtain ⟨hm, e2⟩ := if_some (show (if sortable l then (pure (.lst (sortL l)) : M D) else no) k = some (r', k') from em)
    cases pure_some.mp e2
    obtain ⟨a, ys, rfl, hs, hds⟩ := hd.sql hK
    cases rx
    obtain ⟨its, rv, pl, hz⟩ := I.list hs
    unfold sortable at hm
    rw [Bool.and_eq_true, Bool.and_eq_true] at hm
    obtain ⟨⟨ho, ha⟩, ht⟩ := hm
    have hlen : ys.length = l.length := hds.length
    have em : (l.zip ys).map (fun b => toPy b.1) = toPys l := by
      rw [toPys_map, show (fun b : D × V => toPy b.1) = toPy ∘ (·.1) from rfl, ← List.map_map, zip_fst hlen]
    have lk := allL ha
    have hLn : (l.zip ys).length = l.length := by rw [List.length_zip, hlen, Nat.min_self]
    refine PySem.W.sorted_data (R := fun v (b : D × V) => RelV b.2 v ∧ Den T g.K H b.2 b.1) (enc := fun b : D × V => toPy b.1) pl.isList (each_zip hds rv) (each_readsZ hK I ho hds rv) ?_ ?_ ?_ ?_ fun out hout eo => ?_
    · rw [em, toPys_map]
      intro x hx y hy
      obtain ⟨a, ha, rfl⟩ := List.mem_map.mp hx
      obtain ⟨b, hb, rfl⟩ := List.mem_map.mp hy
      exact like_py a b (lk a ha b hb)
    · rw [em, toPys_map]
      rcases Bool.or_eq_true_iff.mp ht with t | t
      · refine .inl fun d hd => ?_
        obtain ⟨a, ha, rfl⟩ := List.mem_map.mp hd
        exact py_tup1 (List.all_eq_true.mp t a ha)
      · refine .inr fun d hd => ?_
        obtain ⟨a, ha, rfl⟩ := List.mem_map.mp hd
        have := List.all_eq_true.mp t a ha
        rw [Bool.and_eq_true] at this
        exact ⟨py_non (by simpa using this.2), py_notup (by simpa using this.1)⟩
    · rw [hLn, ← hlen]; exact hz
    · intro b hb
      have hb1 : b.1 ∈ l := (List.of_mem_zip hb).1
      have hdp := (okd_lay b.1 deep (okds_mem ho _ hb1)).2
      unfold deep at hdp
      omega
    · have es : ((l.zip ys).mergeSort (PySem.W.dataLe false fun b : D × V => toPy b.1)).map (·.1) = sortL l := by
        unfold sortL
        rw [List.map_mergeSort (s := leD), zip_fst hlen]
        intro a ha b hb
        have h1 : a.1 ∈ l := (List.of_mem_zip ha).1
        have h2 : b.1 ∈ l := (List.of_mem_zip hb).1
        rw [PySem.W.dataLe_eq]
        show (!PySem.W.dataLt (toPy b.1) (toPy a.1)) = !lt b.1 a.1
        rw [lt_py _ _ _ _ (okds_mem ho _ h2) (okds_mem ho _ h1) (lk _ h2 _ h1)]
      obtain ⟨b1, b2⟩ := each_back eo
      rw [es] at b2
      obtain ⟨c, hc⟩ := PyProof.Rows.sortedAll_at s.heap its out.toArray
      have hp : H (s.heap.objs.size + 1) = none := I.hok.fresh (Nat.le_succ _)
      refine ⟨.ref (s.heap.objs.size + 1), _, I.laid (t' := s.toks) (o := .lst _) (fun _ _ => PyProof.Rows.sortedAll_old) (Nat.le_succ _) ?_, rfl, q _ _ _ _ rfl hp (w.neT hp) (Grow.new hp) (w.grow0 hp) upd_same (Dens.keep (keeps_new hp) _ _ b2)⟩
      have hl2 : ((List.mergeSort (l.zip ys) (PySem.W.dataLe false fun b : D × V => toPy b.1)).map (·.2)).length ≤ sizeLine := by
        rw [List.length_map, List.length_mergeSort, hLn, ← hlen]; exact hz
      exact ⟨hl2, _, c, b1, hc⟩
  | _ => exact absurd em (no_some (k := k))
end
end G

namespace G
open PySem PySem.Spec PyProof.Rows L2

section
variable {g : Cf} {X : Cx} {a b c e : Expr} {f f1 f2 f3 m : G.St → M D} {pos p p1 p2 : Pos} {x : Str} {id : String}
/-! ### built-ins of one value -/
theorem tcb1 {h : D → M D} {σ : L2.St} {H : Hp} {Q : VK} (q : tM g (fun st => do let d ← m st; h d) σ H Q) : tCB (rVB g h) (tCons (tO g m) tNil) σ H Q := by
  obtain ⟨T, k, st, d, k', w, r, em, q⟩ := q
  obtain ⟨y, k1, e1, e2⟩ := bind_some.mp em
  exact ⟨T, k, st, y, k1, w, r, e1, fun v1 H1 g1 w1 d1 => ⟨v1, rfl, T, k1, y, d, k', w1, d1, e2, fun v2 H2 g2 w2 d2 => q v2 H2 (g1.trans g2) w2 d2⟩⟩
theorem tcn1 {h : D → M D} {σ : L2.St} {H : Hp} {Q : VK} (q : tN g (fun st => do let d ← m st; h d) σ H Q) : tCB (rVN g h) (tCons (tO g m) tNil) σ H Q := by
  obtain ⟨T, k, st, d, k', w, r, em, q⟩ := q
  obtain ⟨y, k1, e1, e2⟩ := bind_some.mp em
  exact ⟨T, k, st, y, k1, w, r, e1, fun v1 H1 g1 w1 d1 => ⟨v1, T, k1, y, d, k', rfl, w1, d1, e2, fun p ys ds H' e3 e4 e5 e6 e7 e8 e9 => q p ys ds H' e3 (g1.none p e4) e5 (g1.trans e6) e7 e8 e9⟩⟩
theorem pa_one (hs : ∀ v p, a ≠ .Starred v p) (ha : PE X a (tO g m)) : PA X [a] (tCons (tO g m) tNil) := pa_cons ha pa_nil (starEach_ok hs)
theorem pm_b1 {h : D → M D} (hc : CallR X (.builtin id) (rVB g h)) (hg : Gl X x) (hm : X.mg x = none) (hv : bootBuiltins x = some (.builtin id)) (hn : x ≠ "__name__") (hdb : (x == ("__debug__" : Str)) = false)
    (hs : ∀ v p, a ≠ .Starred v p) (ha : PE X a (tO g m)) : PE X (.Call (.Name x p) [a] [] pos) (tM g fun st => do let d ← m st; h d) :=
  PEi (pe_callB hc hg hm hv (pa_one hs ha) hn hdb (starEach_ok hs) rfl) fun σ H Q q => tcb1 q
theorem pm_t1 {h : D → M D} (hc : CallR X (.type id) (rVB g h)) (hg : Gl X x) (hm : X.mg x = none) (hv : bootBuiltins x = some (.type id)) (hn : x ≠ "__name__") (hdb : (x == ("__debug__" : Str)) = false)
    (hs : ∀ v p, a ≠ .Starred v p) (ha : PE X a (tO g m)) : PE X (.Call (.Name x p) [a] [] pos) (tM g fun st => do let d ← m st; h d) :=
  PEi (pe_callTy hc hg hm hv (pa_one hs ha) hn hdb (starEach_ok hs) rfl) fun σ H Q q => tcb1 q
theorem pn_b1 {h : D → M D} (hc : CallR X (.builtin id) (rVN g h)) (hg : Gl X x) (hm : X.mg x = none) (hv : bootBuiltins x = some (.builtin id)) (hn : x ≠ "__name__") (hdb : (x == ("__debug__" : Str)) = false)
    (hs : ∀ v p, a ≠ .Starred v p) (ha : PE X a (tO g m)) : PE X (.Call (.Name x p) [a] [] pos) (tN g fun st => do let d ← m st; h d) :=
  PEi (pe_callB hc hg hm hv (pa_one hs ha) hn hdb (starEach_ok hs) rfl) fun σ H Q q => tcn1 q
theorem pn_t1 {h : D → M D} (hc : CallR X (.type id) (rVN g h)) (hg : Gl X x) (hm : X.mg x = none) (hv : bootBuiltins x = some (.type id)) (hn : x ≠ "__name__") (hdb : (x == ("__debug__" : Str)) = false)
    (hs : ∀ v p, a ≠ .Starred v p) (ha : PE X a (tO g m)) : PE X (.Call (.Name x p) [a] [] pos) (tN g fun st => do let d ← m st; h d) :=
  PEi (pe_callTy hc hg hm hv (pa_one hs ha) hn hdb (starEach_ok hs) rfl) fun σ H Q q => tcn1 q
/-! ### built-ins of two values -/
theorem call_min2D (hc : X.calm = true) : CallR X (.builtin "min") (rV2 g (f2D .min)) := CallRi (call_min2 hc) fun xs H Q h => by
  obtain ⟨x, y, rfl, T, k, d, e, r, k', w, hd, he, em, q⟩ := h
  cases hd with
  | int i =>
    cases he with
    | int j => exact ⟨i, j, rfl, vfin (g := g) w em (.int _) q⟩
    | _ => exact absurd em (no_some (k := k))
  | _ => first | exact absurd em (no_some (k := k)) | (cases he <;> exact absurd em (no_some (k := k)))
theorem call_max2D (hc : X.calm = true) : CallR X (.builtin "max") (rV2 g (f2D .max)) := CallRi (call_max2 hc) fun xs H Q h => by
  obtain ⟨x, y, rfl, T, k, d, e, r, k', w, hd, he, em, q⟩ := h
  cases hd with
  | int i =>
    cases he with
    | int j => exact ⟨i, j, rfl, vfin (g := g) w em (.int _) q⟩
    | _ => exact absurd em (no_some (k := k))
  | _ => first | exact absurd em (no_some (k := k)) | (cases he <;> exact absurd em (no_some (k := k)))
theorem pm_b2 {h : D → D → M D} (hc : CallR X (.builtin id) (rV2 g h)) (hg : Gl X x) (hm : X.mg x = none) (hv : bootBuiltins x = some (.builtin id)) (hn : x ≠ "__name__") (hdb : (x == ("__debug__" : Str)) = false)
    (hs : ∀ v p, a ≠ .Starred v p) (hs' : ∀ v p, b ≠ .Starred v p) (ha : PE X a (tM g f1)) (hb : PE X b (tM g f2)) : PE X (.Call (.Name x p) [a, b] [] pos) (tM g fun st => do let x ← f1 st; let y ← f2 st; h x y) :=
  PEi (pe_callB hc hg hm hv (pa_cons ha (pa_cons hb pa_nil (starEach_ok hs')) (starEach_ok hs)) hn hdb (starEach_ok hs) (noStars (es := [b]) fun e he => by rw [List.mem_singleton.mp he]; exact hs')) fun σ H Q q => by
    obtain ⟨T, k, st, d, k', w, r, em, q⟩ := q
    obtain ⟨y, k1, e1, e2⟩ := bind_some.mp em
    obtain ⟨z, k2, e3, e4⟩ := bind_some.mp e2
    exact ⟨T, k, st, y, k1, w, r, e1, fun v1 H1 g1 w1 d1 => ⟨T, k1, st, z, k2, w1, r.grow g.stays g1 w.town, e3, fun v2 H2 g2 w2 d2 => ⟨v1, v2, rfl, T, k2, y, z, d, k', w2, Den.keep (g2.keeps w1.town) _ _ d1, d2, e4, fun v3 H3 g3 w3 d3 => q v3 H3 ((g1.trans g2).trans g3) w3 d3⟩⟩⟩

/-! ### subscripts -/
theorem ixN_eq (n : Nat) (i : Int) : ∀ {α : Type} (l : List α), l.length = n → (L2.ixN n i).bind (fun j => l[j]?) = G.atI l i := by
  intro α l hl
  unfold L2.ixN G.atI
  subst hl
  by_cases h0 : 0 ≤ i
  · rw [if_pos h0, if_pos h0]
    by_cases h1 : i < l.length
    · rw [if_pos (by omega)]; rfl
    · rw [if_neg (by omega), List.getElem?_eq_none (by omega)]; rfl
  · rw [if_neg h0, if_neg h0]
    by_cases h1 : 0 ≤ i + l.length
    · rw [if_pos (by omega), if_pos h1]
      show l[_]? = _
      congr 1
    · rw [if_neg (by omega), if_neg h1]; rfl
theorem atI_eq {α : Type} (l : List α) (i : Int) : L2.atI l i = G.atI l i := ixN_eq l.length i l rfl
theorem atI_some {α : Type} {l : List α} {i : Int} {d : α} (h : G.atI l i = some d) : ∃ j : Nat, l[j]? = some d ∧ ∀ {β : Type} (l' : List β), l'.length = l.length → G.atI l' i = l'[j]? := by
  unfold G.atI at h ⊢
  by_cases h0 : 0 ≤ i
  · rw [if_pos h0] at h
    exact ⟨_, h, fun l' e => by rw [if_pos h0]⟩
  · rw [if_neg h0] at h
    by_cases h1 : 0 ≤ i + l.length
    · rw [if_pos h1] at h
      exact ⟨_, h, fun l' e => by rw [if_neg h0, e, if_pos h1]⟩
    · rw [if_neg h1] at h; cases h
theorem opt_some {α : Type} {o : Option α} {k : Nat} {r : α × Nat} (h : opt o k = some r) : ∃ a, o = some a ∧ r = (a, k) := by
  cases o with
  | none => exact absurd h (no_some (k := k))
  | some a => exact ⟨a, rfl, pure_some.mp h⟩
theorem Dens.atI {T : Addr} {H : Hp} {xs : List V} {ds : List D} {i : Int} {d : D} (h : Dens T g.K H xs ds) (e : G.atI ds i = some d) : ∃ v, L2.atI xs i = some v ∧ Den T g.K H v d := by
  obtain ⟨j, e1, e2⟩ := atI_some e
  obtain ⟨v, e3, e4⟩ := h.get e1
  exact ⟨v, by rw [atI_eq, e2 xs h.length, e3], e4⟩
theorem ix_D (hK : X.K = g.K) : IxR X (rB1 g ixD) := by
  intro value slice pins s σ H x y v u Q I rx ry h hs
  obtain ⟨T, k, d, e, r, k', w, hd, he, em, q⟩ := h
  have fin : ∀ {d' : D} {v' : V}, r = d' → k' = k → Den T g.K H v' d' → Q v' H := fun e1 e2 d1 => by
    subst e1 e2
    exact q _ H (Grow.refl T H) w d1
  cases e with
  | int i =>
    cases he
    cases d with
    | lst l =>
      obtain ⟨z, e1, e2⟩ := opt_some em
      cases e2
      obtain ⟨a, xs, rfl, hq, hds⟩ := hd.sql hK
      obtain ⟨v', e3, e4⟩ := hds.atI e1
      exact ix_list value slice pins s σ H _ _ v u Q I rx ry ⟨a, xs, i, v', rfl, rfl, hq, e3, fin rfl rfl e4⟩ hs
    | tup l =>
      obtain ⟨z, e1, e2⟩ := opt_some em
      cases e2
      cases notO hd (fun _ z => nomatch z) with
      | tup h1 h2 =>
        obtain ⟨v', e3, e4⟩ := h2.atI e1
        exact ix_tup value slice pins s σ H _ _ v u Q I rx ry ⟨_, _, i, v', rfl, rfl, .of h1, e3, fin rfl rfl e4⟩ hs
    | str l =>
      obtain ⟨hz, em2⟩ := if_some (show (if l.length ≤ 16777216 then opt ((G.atI l i).map fun c => .str [c]) else no : M D) k = some (r, k') from em)
      obtain ⟨z, e1, e2⟩ := opt_some em2
      cases e2
      cases notO hd (fun _ z => nomatch z)
      cases e3 : G.atI l i with
      | none => rw [e3] at e1; cases e1
      | some c =>
        rw [e3] at e1
        cases e1
        refine ix_str value slice pins s σ H _ _ v u Q I rx ry ⟨_, i, c, rfl, rfl, by rw [strOf_length, sizeLine_eq]; exact hz, ?_, fin rfl rfl (.str [c])⟩ hs
        rw [atI_eq]
        show G.atI (l.toArray.toList) i = some c
        exact e3
    | scr l =>
      obtain ⟨z, e1, e2⟩ := opt_some em
      cases e2
      cases notO hd (fun _ z => nomatch z) with
      | scr h1 =>
        cases e3 : G.atI l i with
        | none => rw [e3] at e1; cases e1
        | some c =>
          rw [e3] at e1
          cases e1
          obtain ⟨j, e4, e5⟩ := atI_some e3
          refine ix_list value slice pins s σ H _ _ v u Q I rx ry ⟨_, _, i, .int c, rfl, rfl, by rw [hK]; exact h1.sq, ?_, fin rfl rfl (.int c)⟩ hs
          rw [atI_eq, e5 _ (by rw [List.length_map]), List.getElem?_map, e4]
          rfl
    | dic ks vs => cases notO hd (fun _ z => nomatch z)
    | _ => exact absurd em (no_some (k := k))
  | _ =>
    cases d with
    | dic ks vs => cases notO hd (fun _ z => nomatch z)
    | _ => exact absurd em (no_some (k := k))
def plainE : Expr → Bool
  | .Slice .. => false
  | _ => true
theorem plainIx {b : Expr} (h : plainE b = true) : PlainIx b := fun o i => by
  cases b <;> first | rfl | simp [plainE] at h
theorem rB1_of {h : D → D → M D} {x y : V} {H : Hp} {Q : VK} (q : rM g h x y H Q) : rB1 g h x y H Q := by
  obtain ⟨T, k, d, e, r, k', w, hd, he, em, q⟩ := q
  exact ⟨T, k, d, e, r, k', w, .inl hd, he, em, q⟩
theorem pm_ix (hK : X.K = g.K) (ha : PE X a (tM g f1)) (hb : PE X b (tM g f2)) (hp : plainE b = true) : PE X (.Subscript a b pos) (tM g fun st => do let x ← f1 st; let y ← f2 st; ixD x y) :=
  PEi (pe_ix (ix_D hK) ha hb (plainIx hp)) fun σ H Q q => by
    obtain ⟨T, k, st, d, k', w, r, em, q⟩ := tM_bin q
    exact ⟨T, k, st, d, k', w, r, em, fun v1 H1 g1 w1 d1 => by
      obtain ⟨T', k1, st1, d', k'', w', r', em', q'⟩ := q v1 H1 g1 w1 d1
      exact ⟨T', k1, st1, d', k'', w', r', em', fun v2 H2 g2 w2 d2 => rB1_of (q' v2 H2 g2 w2 d2)⟩⟩
theorem pm_ixB {i : Nat} (hK : X.K = g.K) (hN : X.N[i]? = some x) (hv : Vis X.env.scope x) (hd : (x == ("__debug__" : Str)) = false) (hc : (x == ("__classdict__" : Str)) = false) (hb : PE X b (tM g f2)) (hp : plainE b = true) :
    PE X (.Subscript (.Name x p) b pos) (tM g fun st => do let x ← getB st i; let y ← f2 st; ixD x y) :=
  PEi (pe_ix (ix_D hK) (pe_var hN hv hd hc) hb (plainIx hp)) fun σ H Q q => by
    obtain ⟨T, k, st, d, k', w, r, em, q⟩ := q
    obtain ⟨y, k1, e1, e2⟩ := bind_some.mp em
    obtain ⟨z, k2, e3, e4⟩ := bind_some.mp e2
    obtain ⟨e5, v, e6, _⟩ := getB_sr r e1
    subst e5
    refine ⟨v, e6, T, k1, st, z, k2, w, r, e3, fun v2 H2 g2 w2 d2 => ?_⟩
    have em' : getB st i k2 = some (y, k2) := by
      unfold getB at e1 ⊢
      cases e7 : st[i]? with
      | none => rw [e7] at e1; exact absurd e1 (no_some (k := k1))
      | some sl =>
        rw [e7] at e1
        cases sl with
        | un => exact absurd e1 (no_some (k := k1))
        | cl _ _ => exact absurd e1 (no_some (k := k1))
        | fr _ => cases pure_some.mp e1; rfl
        | ow _ => cases pure_some.mp e1; rfl
    obtain ⟨_, v', e8, dB⟩ := getB_sr (r.grow g.stays g2 w.town) em'
    rw [e6] at e8
    cases e8
    exact ⟨T, k2, y, z, d, k', w2, dB, d2, e4, fun v3 H3 g3 w3 d3 => q v3 H3 (g2.trans g3) w3 d3⟩

/-! ### slices -/
theorem cutIx_eq (n d : Nat) (o : Option Int) : HT.sIx n d o = cutIx n d o := by
  cases o with
  | none => rfl
  | some i =>
    show (if i < 0 then (i + (n : Int)).toNat else min i.toNat n) = if 0 ≤ i then min i.toNat n else (i + n).toNat
    by_cases h : i < 0
    · rw [if_pos h, if_neg (by omega)]
    · rw [if_neg h, if_pos (by omega)]
theorem cutV_eq (xs : List V) (lo hi : Option Int) : cutV xs lo hi = cut xs lo hi := by
  unfold cutV cut
  rw [cutIx_eq, cutIx_eq]
theorem Dens.cut {T : Addr} {H : Hp} {xs : List V} {ds : List D} (h : Dens T g.K H xs ds) (lo hi : Option Int) : Dens T g.K H (G.cut xs lo hi) (G.cut ds lo hi) := by
  unfold G.cut
  rw [h.length]
  exact (h.drop _).take _
/-- something that stands, or a new list -/
def DenF (T : Addr) (K : PySem.W.Frag) (H0 H : Hp) (v : V) (d : D) : Prop := Den T K H v d ∨ ∃ p xs ds, d = .lst ds ∧ v = .ref p ∧ H0 p = none ∧ p ≠ T ∧ H p = some (.lst xs) ∧ Dens T K H xs ds
def tX (g : Cf) (m : G.St → M D) : TE := fun σ H Q => ∃ T k st d k', WS T g.Tb H k ∧ SR T g.K g.CL st σ H ∧ m st k = some (d, k') ∧ ∀ v H', Grow T H H' → WS T g.Tb H' k' → DenF T g.K H H' v d → Q v H'
theorem PE.lockX {e : Expr} {m : G.St → M D} (h : PE X e (tX g m)) : PE X e (tM g m) := by
  refine ⟨fun pins s σ H Q I hq => ?_⟩
  obtain ⟨T, k, st, d, k', w, r, em, q⟩ := hq
  refine thn (h.run pins s σ H (fun v H' => Grow T H H' ∧ WS T g.Tb H' k' ∧ DenF T g.K H H' v d) I
    ⟨T, k, st, d, k', w, r, em, fun v H' e1 e2 e3 => ⟨e1, e2, e3⟩⟩) fun u s' hu => ?_
  obtain ⟨v, H', I', rv, e1, e2, e3⟩ := hu
  rcases e3 with e3 | ⟨p, xs, ds, rfl, rfl, e4, e5, e6, e7⟩
  · exact ⟨v, H', I', rv, q v H' e1 e2 e3⟩
  · obtain ⟨o, I2⟩ := I'.lock e6 trivial
    have kp : Keeps H' (upd H' p (.frz o (.lst xs))) := keeps_upd e6 (fun _ z => nomatch z) (fun _ _ z => nomatch z)
    exact ⟨_, _, I2, rv, q _ _ (e1.at e4) (e2.updL e6 e5) (.lst upd_same (Dens.keep kp ds xs e7))⟩
def rSl (g : Cf) : V → Option Int → Option Int → Hp → VK → Prop := fun x lo hi H Q => ∃ T k d r k', WS T g.Tb H k ∧ Den T g.K H x d ∧ slD d lo hi k = some (r, k') ∧ ∀ v H', Grow T H H' → WS T g.Tb H' k' → DenF T g.K H H' v r → Q v H'
theorem sl_D (hK : X.K = g.K) : SlR X (rSl g) := by
  intro pins s σ H x v vl vu lo hi sl Q I rx hs pl pu h
  obtain ⟨T, k, d, r, k', w, hd, em, q⟩ := h
  cases d with
  | tup l =>
    cases pure_some.mp em
    cases hd with
    | tup h1 h2 =>
      refine sl_tupA pins s σ H _ v vl vu lo hi sl Q I rx hs pl pu ⟨_, _, rfl, .of h1, fun hw => ?_, fun _ p hp => ?_⟩
      · refine q _ H (Grow.refl T H) w (.inl ?_)
        rw [cutIx_eq, cutIx_eq, h2.length] at hw
        have : cut l lo hi = l := by
          unfold cut
          rw [hw.1, hw.2]
          simp
        rw [this]
        exact .tup h1 h2
      · rw [cutV_eq]
        exact newT w hp (h2.cut lo hi) fun v H' g1 w1 d1 => q v H' g1 w1 (.inl d1)
  | lst l =>
    cases pure_some.mp em
    cases hd with
    | lst h1 h2 =>
      refine sl_list pins s σ H _ v vl vu lo hi sl Q I rx hs pl pu ⟨_, _, rfl, .inl (.inr ⟨_, h1⟩), fun p hp => ?_⟩
      rw [cutV_eq]
      exact q _ _ (Grow.new hp) (w.grow0 hp) (.inr ⟨p, _, _, rfl, rfl, hp, w.neT hp, upd_same, Dens.keep (keeps_new hp) _ _ (h2.cut lo hi)⟩)
  | str l =>
    obtain ⟨hz, em2⟩ := if_some (show (if l.length ≤ 16777216 then (pure (.str (cut l lo hi)) : M D) else no) k = some (r, k') from em)
    cases pure_some.mp em2
    cases hd
    refine sl_str pins s σ H _ v vl vu lo hi sl Q I rx hs pl pu ⟨_, rfl, by rw [strOf_length, sizeLine_eq]; exact hz, ?_⟩
    have : cutS (strOf l) lo hi = strOf (cut l lo hi) := by
      unfold cutS cut strOf Str.length
      rw [cutIx_eq, cutIx_eq]
      simp
    rw [this]
    exact q _ H (Grow.refl T H) w (.inl (.str _))
  | _ => exact absurd em (no_some (k := k))
theorem int_den {T : Addr} {H : Hp} {v : V} {i : Int} (h : Den T g.K H v (.int i)) : v = .int i := by cases h; rfl
theorem intP_some {d : D} {k : Nat} {r : Int × Nat} (h : intP d k = some r) : d = .int r.1 ∧ r.2 = k := by
  cases d with
  | int i => cases pure_some.mp h; exact ⟨rfl, rfl⟩
  | _ => exact absurd h (no_some (k := k))
theorem pm_slh {q2 : Pos} (hK : X.K = g.K) (ha : PE X a (tM g f1)) (hb : PE X b (tM g f2)) : PE X (.Subscript a (.Slice none (some b) none q2) pos) (tM g fun st => do let x ← f1 st; let y ← f2 st; slhD x y) :=
  PE.lockX (PEi (pe_slice (sl_D hK) ha po_none (po_some hb)) fun σ H Q q => by
    obtain ⟨T, k, st, d, k', w, r, em, q⟩ := q
    obtain ⟨y, k1, e1, e2⟩ := bind_some.mp em
    obtain ⟨z, k2, e3, e4⟩ := bind_some.mp e2
    obtain ⟨i, k3, e5, e6⟩ := bind_some.mp e4
    obtain ⟨rfl, rfl⟩ := intP_some e5
    exact ⟨T, k, st, y, k1, w, r, e1, fun v1 H1 g1 w1 d1 => ⟨T, k1, st, _, _, w1, r.grow g.stays g1 w.town, e3, fun v2 H2 g2 w2 d2 => ⟨i, int_den d2, T, _, y, d, k', w2, Den.keep (g2.keeps w1.town) _ _ d1, e6, fun v3 H3 g3 w3 d3 => q v3 H3 ((g1.trans g2).trans g3) w3 (d3.imp id fun ⟨p, xs, ds, u1, u2, u3, u4⟩ => ⟨p, xs, ds, u1, u2, g1.none _ (g2.none _ u3), u4⟩)⟩⟩⟩)
theorem pm_sll {q2 : Pos} (hK : X.K = g.K) (ha : PE X a (tM g f1)) (hb : PE X b (tM g f2)) : PE X (.Subscript a (.Slice (some b) none none q2) pos) (tM g fun st => do let x ← f1 st; let y ← f2 st; sllD x y) :=
  PE.lockX (PEi (pe_slice (sl_D hK) ha (po_some hb) po_none) fun σ H Q q => by
    obtain ⟨T, k, st, d, k', w, r, em, q⟩ := q
    obtain ⟨y, k1, e1, e2⟩ := bind_some.mp em
    obtain ⟨z, k2, e3, e4⟩ := bind_some.mp e2
    obtain ⟨i, k3, e5, e6⟩ := bind_some.mp e4
    obtain ⟨rfl, rfl⟩ := intP_some e5
    exact ⟨T, k, st, y, k1, w, r, e1, fun v1 H1 g1 w1 d1 => ⟨T, k1, st, _, _, w1, r.grow g.stays g1 w.town, e3, fun v2 H2 g2 w2 d2 => ⟨i, int_den d2, T, _, y, d, k', w2, Den.keep (g2.keeps w1.town) _ _ d1, e6, fun v3 H3 g3 w3 d3 => q v3 H3 ((g1.trans g2).trans g3) w3 (d3.imp id fun ⟨p, xs, ds, u1, u2, u3, u4⟩ => ⟨p, xs, ds, u1, u2, g1.none _ (g2.none _ u3), u4⟩)⟩⟩⟩)
theorem pm_slb {q2 : Pos} (hK : X.K = g.K) (ha : PE X a (tM g f1)) (hb : PE X b (tM g f2)) (hc : PE X c (tM g f3)) : PE X (.Subscript a (.Slice (some b) (some c) none q2) pos) (tM g fun st => do let x ← f1 st; let y ← f2 st; let z ← f3 st; slbD x y z) :=
  PE.lockX (PEi (pe_slice (sl_D hK) ha (po_some hb) (po_some hc)) fun σ H Q q => by
    obtain ⟨T, k, st, d, k', w, r, em, q⟩ := q
    obtain ⟨y, k1, e1, e2⟩ := bind_some.mp em
    obtain ⟨z, k2, e3, e4⟩ := bind_some.mp e2
    obtain ⟨z', k3, e7, e8⟩ := bind_some.mp e4
    obtain ⟨i, k4, e5, e6⟩ := bind_some.mp e8
    obtain ⟨j, k5, e9, e10⟩ := bind_some.mp e6
    obtain ⟨rfl, rfl⟩ := intP_some e5
    obtain ⟨rfl, rfl⟩ := intP_some e9
    exact ⟨T, k, st, y, k1, w, r, e1, fun v1 H1 g1 w1 d1 => ⟨T, k1, st, _, _, w1, r.grow g.stays g1 w.town, e3, fun v2 H2 g2 w2 d2 => ⟨i, int_den d2, ⟨T, _, st, _, _, w2, r.grow g.stays (g1.trans g2) w.town, e7, fun v3 H3 g3 w3 d3 => ⟨j, int_den d3,
      T, _, y, d, k', w3, Den.keep ((g2.trans g3).keeps w1.town) _ _ d1, e10, fun v4 H4 g4 w4 d4 => q v4 H4 (((g1.trans g2).trans g3).trans g4) w4 (d4.imp id fun ⟨p, xs, ds, u1, u2, u3, u4⟩ => ⟨p, xs, ds, u1, u2, g1.none _ (g2.none _ (g3.none _ u3)), u4⟩)⟩⟩⟩⟩⟩)
end
end G

namespace G
open PySem PySem.Spec PyProof.Rows L2

/-! ### enumerate(tuple) -/
set_option maxHeartbeats 1000000 in
theorem meets_enum1 {v : Value} {o : Obj} {H : Heap → Prop} (B : PySem.Begins v o H) :
    Meets (Builtin.«enumerate.__new__» ⟨[.type "enumerate", v], []⟩) (fun _ R s => H s.heap ∧
      R (.ok (.ret (.ref (s.heap.push o).objs.size))) { s with heap := (s.heap.push o).push { cls := .type "enumerate", data := .fields #[.none, .bool false, .ref s.heap.objs.size, rawInt 0, .none, .none] } }) :=
  .of_wp fun prog w A R s h => by
    obtain ⟨hp, g, d, tk, os⟩ := s; obtain ⟨h1, h⟩ := h
    have q1 : ∀ {A' : Around} {E : Value → Shared → Prop} {Q : Value → Shared → Prop}, Q (.ref hp.objs.size) ⟨hp.push o, g, d, tk, os⟩ → wpAny (model prog w) A' (pyIter v) Q E ⟨hp, g, d, tk, os⟩ :=
      fun q => B.iter prog w _ _ ⟨hp, g, d, tk, os⟩ _ h1 q
    have hsub := sub_enumerate
    wp_walk using q1
    refine wpAny_stack_any fun st => wpAny_pure ?_
    split
    · rename_i c _ _ _ _ _
      cases (c == Value.type "enumerate")
      · wp_walk using q1
        exact ⟨_, rfl, h⟩
      · wp_walk using q1
        exact ⟨_, rfl, h⟩
    · wp_walk using q1
      exact ⟨_, rfl, h⟩
theorem call_enumT {prog : Program} {w : World} {A : Around} {E : Value → Shared → Prop} {s : Shared} {t : Addr} {items : Array Value} {Q : Value → Shared → Prop} (ht : s.heap.IsTuple t items)
    (h : ∀ h', IsEnum h' (s.heap.objs.size + 1) s.heap.objs.size 0 .none → h'.IsTupleIter s.heap.objs.size t 0 → h'.objs.size = s.heap.objs.size + 2 →
      (∀ b o, s.heap.get? b = some o → h'.get? b = some o) → Q (.ref (s.heap.objs.size + 1)) { s with heap := h' }) :
    wpAny (model prog w) A (call (.type "enumerate") [.ref t]) Q E s := by
  refine callType_new F.called_enumerate (by decide) (F.typeCall_enumerate_1 _) (F.newCall_enumerate_1 _) (fun obj => F.args_object_init_2 obj _) F.entry_enumerate_new
    (meets_enum1 (PySem.begins_tuple t items)) ⟨ht, ?_⟩
  have hz : (s.heap.push { cls := .type "tuple_iterator", data := .fields #[.ref t, .int 0 0] }).objs.size = s.heap.objs.size + 1 := Heap.size_push ..
  show _ ∧ _
  rw [hz]
  have he : IsEnum ((s.heap.push { cls := .type "tuple_iterator", data := .fields #[.ref t, .int 0 0] }).push
      { cls := .type "enumerate", data := .fields #[.none, .bool false, .ref s.heap.objs.size, rawInt 0, .none, .none] }) (s.heap.objs.size + 1) s.heap.objs.size 0 .none := by
    have := Heap.get?_push_size (s.heap.push { cls := .type "tuple_iterator", data := .fields #[.ref t, .int 0 0] })
      (o := { cls := .type "enumerate", data := .fields #[.none, .bool false, .ref s.heap.objs.size, rawInt 0, .none, .none] }) rfl
    rw [hz] at this; exact this
  refine ⟨⟨_, he, rfl⟩, h _ he ⟨_, Heap.get?_push_of_some _ (Heap.get?_push_size _ rfl), rfl, rfl⟩ (by rw [Heap.size_push, hz]) fun b o x => Heap.get?_push_of_some _ (Heap.get?_push_of_some _ x)⟩
def IteT (K : PySem.W.Frag) (a : Addr) : It :=
  ⟨fun i H => ∃ (xs : List V) (x : V), SqT K H a xs ∧ xs[i]? = some x, fun i H v H' => ∃ T x, v = .ref T ∧ H T = none ∧ H' = upd H T (.tup [.int (i : Nat), x]) ∧ ∀ xs, SqT K H a xs → xs[i]? = some x, fun i H => ∃ xs : List V, SqT K H a xs ∧ xs.length ≤ i⟩
theorem turn_enumT {P : Program} {w : World} {K : PySem.W.Frag} {elts : List Expr} {kk : Nat} {tpos : Pos} (a e it : Addr) :
    Turn P w K (.Tuple elts kk tpos) (IteT K a) [e, it] e (fun i h => (∃ old, IsEnum h e it ((i : Nat) : Int) old) ∧ h.IsTupleIter it a i ∧ e ≠ it) where
  mem := by simp
  obj := fun i h st b hb => by
    obtain ⟨⟨old, he⟩, ⟨o, ho, hc, hd⟩, _⟩ := st
    have e' : b = e ∨ b = it := by simpa using hb
    rcases e' with z | z
    · rw [z]; exact ⟨_, he, fun v q => nomatch q⟩
    · rw [z]; exact ⟨o, ho, fun v q => by rw [hd] at q; cases q⟩
  keep := fun i h h' st k => let ⟨⟨old, he⟩, hi, hne⟩ := st; ⟨⟨old, k e (by simp) _ he⟩, hi.at fun o q => k it (by simp) o q, hne⟩
  item := by
    intro X hP hw hK hc i pins s σ H E I hf st hg
    subst hP hw hK
    obtain ⟨⟨old, he⟩, hit, hne⟩ := st
    obtain ⟨xs, x, hq, hx⟩ := hg
    obtain ⟨its, rv, p, hz⟩ := I.tuple hq
    obtain ⟨u, hu, ru⟩ := rv.get hx
    have hel : e < s.heap.objs.size := Heap.lt_size he
    have hil : it < s.heap.objs.size := by obtain ⟨_, q, _⟩ := hit; exact Heap.lt_size q
    have hai : a ≠ it := fun z => by
      obtain ⟨o1, h1, c1, d1⟩ := hit
      obtain ⟨o2, h2, c2, _⟩ := p
      rw [z, h1] at h2
      cases h2
      rw [c1] at c2
      exact absurd c2 (by decide)
    have hea : e ≠ a := fun z => by
      obtain ⟨o2, h2, c2, _⟩ := p
      rw [← z, show s.heap.get? e = some _ from he] at h2
      cases h2
      exact absurd (show Value.type "enumerate" = Value.type "tuple" from c2) (by decide)
    have ht : s.heap.IsTuple a its.toArray := p
    have hlt : i < its.toArray.size := by
      rcases Nat.lt_or_ge i its.length with z | z
      · simpa using z
      · rw [List.getElem?_eq_none z] at hu; cases hu
    refine wpAny_pyNext_enum_itemD (PySem.Draws.tuple (show X.A.in1.handled = none from I.ok.hd hc) it a hai its.toArray) he ⟨hit, ht⟩ hlt hne (by simp [hne, hea]) fun u' h' tk hP ho hst' hT hsz hk => ?_
    have hu' : u' = u := by
      have : its[i]? = some u' := by simpa using hP
      rw [hu] at this; exact (Option.some.inj this).symm
    subst hu'
    refine ⟨_, rfl, wpAny_letOwnedTupleGo_enum (s := { s with heap := h', toks := tk + 1 }) ho fun h'' he' sb => ?_⟩
    have hT2 : h''.get? s.heap.objs.size = some { cls := .type "tuple", data := .seq #[.int i tk, u'] } := (sb.2 _ (Nat.ne_of_gt hel)).trans hT
    have new : ObjOk X.prog X.w (upd H s.heap.objs.size (.tup [.int (i : Nat), x])) h'' s.heap.objs.size (.tup [.int (i : Nat), x]) :=
      ⟨by show 2 ≤ sizeLine; decide, [.int i tk, u'], .cons ⟨_, rfl⟩ (.cons ru .nil), ⟨_, hT2, rfl, _, rfl⟩⟩
    have I1 : Inv X pins σ (upd H s.heap.objs.size (.tup [.int (i : Nat), x])) { s with heap := h'', toks := tk + 1 } :=
      I.turnedNew (ch := [e, it]) (fun b ob hb q => (sb.2 b (fun z => hb (by simp [z]))).trans (hk b ob (fun z => hb (by simp [z])) (fun z => hb (by simp [z])) q)) hf (Nat.le_refl _) new
    refine ⟨.ref s.heap.objs.size, _, I1, rfl, ⟨_, x, rfl, I.hok.fresh (Nat.le_refl _), rfl, fun ys hy => by rw [I.tuple_inj hy hq]; exact hx⟩, ⟨⟨u', ?_⟩, hst'.1.at fun o q => (sb.2 it (Ne.symm hne)).trans q, hne⟩, fun b hb => ?_⟩
    · have e1 : ((i + 1 : Nat) : Int) = (i : Int) + 1 := by omega
      rw [e1]; exact he'
    · have hb' : b < s.heap.objs.size := by
        have e' : b = e ∨ b = it := by simpa using hb
        rcases e' with z | z
        · rw [z]; exact hel
        · rw [z]; exact hil
      rw [upd_ne (Nat.ne_of_lt hb')]
      exact (hf b hb).1
  done := by
    intro X hP hw hK hc i pins s σ H E I hf st hg
    subst hP hw hK
    obtain ⟨⟨old, he⟩, hit, hne⟩ := st
    obtain ⟨xs, hq, hx⟩ := hg
    obtain ⟨its, rv, p, hz⟩ := I.tuple hq
    obtain ⟨f0, f1, f2, f3, f4, f5⟩ := hf it (by simp)
    have hl := rv.length
    have ht : s.heap.IsTuple a its.toArray := p
    have hT : s.TypeIs (.ref e) "enumerate" := ⟨_, he, rfl⟩
    have hA : X.A.in1.handled = none := I.ok.hd hc
    unfold pyNext
    refine wpAny_bind (wpAny_attempt (wpAny_callSpecial?_slot (name := Str.ofString "__next__") hT F.slot_enumerate_next
      (wpAny_call_entry F.slot_enumerate_next hT F.entry_enumerate_next ?_ (F.args_enumerate_next_1 _))))
    show wpAny _ _ (field (.ref e) 2 >>= _) _ _ _
    refine wpAny_bind (wpAny_field he rfl (x := .ref it) rfl ?_)
    refine wpAny_bind (PySem.wpAny_nextOf_tuple_end (by first | exact hA | exact I.ok.hd hc) hit ht (by simp; omega) fun h' x he' hx' => ?_)
    obtain ⟨o, ho, hc⟩ := hx'
    refine wpAny_bind (wpAny_isInstance (T := "StopIteration") (b := true) ⟨o, ho, hc⟩ isSubtype_stop ?_)
    exact wpAny_pure ⟨rfl, I.turned (t' := s.toks) (fun b o hb q => he' b o hb q) f0 f1 f3 f4 f5⟩
  self := fun A i s Q E st h => let ⟨⟨_, he⟩, _⟩ := st; wpAny_pyIter_enum he h
def iEnumT (K : PySem.W.Frag) (ta : TA) : TI := fun σ H R => ta σ H fun vs H1 => ∃ a xs, vs = [.ref a] ∧ SqT K H1 a xs ∧ R (IteT K a) H1
theorem pi_enumT {X : Cx} {e : Expr} {ta : TA} {p pos tpos : Pos} {elts : List Expr} {kk : Nat} (hg : Gl X "enumerate") (hm : X.mg "enumerate" = none) (ha : PA X [e] ta) (hs : starEach [e] X.env = [(false, eval e X.env)]) :
    PI X (.Tuple elts kk tpos) (.Call (.Name "enumerate" p) [e] [] pos) (iEnumT X.K ta) := by
  refine ⟨fun pins s σ H R I h => ?_⟩
  refine Call_ (ld_blt I hg hm boot_enumerate (PyProof.Rows.callWith_type1 (thn (ha.run pos pins s σ H _ I h) fun us s1 ⟨vs, H1, I1, r1, q1⟩ => ?_) hs rfl))
  obtain ⟨a, xs, ex, hq, q⟩ := q1
  subst ex
  cases r1 with
  | cons r rr =>
    cases rr
    cases r
    obtain ⟨its, rv, p', hz⟩ := I1.tuple hq
    refine call_enumT (show s1.heap.IsTuple a its.toArray from p') fun h' he hit hsz hk => wpAny_pyIter_enum he ?_
    have I2 : Inv X pins σ H1 { s1 with heap := h' } := I1.kept (t' := s1.toks) hk
    refine ⟨s1.heap.objs.size + 1, [s1.heap.objs.size + 1, s1.heap.objs.size], _, _, H1, rfl, I2, turn_enumT a (s1.heap.objs.size + 1) s1.heap.objs.size, ⟨⟨.none, he⟩, hit, Nat.succ_ne_self _⟩, fun b hb => ?_, q⟩
    have e' : b = s1.heap.objs.size + 1 ∨ b = s1.heap.objs.size := by simpa using hb
    have hle : s1.heap.objs.size ≤ b := by
      rcases e' with z | z
      · rw [z]; exact Nat.le_add_right _ _
      · rw [z]; exact Nat.le_refl _
    exact I1.fpOk hle (I1.hok.fresh hle)
end G

namespace G
open PySem PySem.Spec PyProof.Rows L2

section
variable {g : Cf} {X : Cx}
/-! ### slots set -/
theorem SR.setFr {T : Addr} {st : G.St} {σ : L2.St} {H : Hp} {i : Nat} {d : D} {v : V} (r : SR T g.K g.CL st σ H) (hd : Den T g.K H v d) : SR T g.K g.CL (st.set i (.fr d)) (σ.set i (some v)) H := by
  refine ⟨by rw [List.length_set, List.length_set, r.len], fun j s e => ?_, fun j k d1 d2 a e1 e2 e3 e4 => ?_⟩
  · rw [List.getElem?_set] at e
    by_cases h : i = j
    · rw [if_pos h] at e
      split at e
      · rename_i hl
        cases e
        rw [← h, List.getElem?_set_self (by rw [← r.len]; exact hl)]
        exact hd
      · cases e
    · rw [if_neg h] at e
      rw [List.getElem?_set_ne h]
      exact r.at' j s e
  · rw [List.getElem?_set] at e1 e2
    by_cases h : i = j
    · rw [if_pos h] at e1; split at e1 <;> cases e1
    · by_cases h2 : i = k
      · rw [if_pos h2] at e2; split at e2 <;> cases e2
      · rw [if_neg h] at e1
        rw [if_neg h2] at e2
        rw [List.getElem?_set_ne h] at e3
        rw [List.getElem?_set_ne h2] at e4
        exact r.own j k d1 d2 a e1 e2 e3 e4
theorem SR.setUn {T : Addr} {st : G.St} {σ : L2.St} {H : Hp} {i : Nat} (r : SR T g.K g.CL st σ H) : SR T g.K g.CL (st.set i .un) (σ.set i none) H := by
  refine ⟨by rw [List.length_set, List.length_set, r.len], fun j s e => ?_, fun j k d1 d2 a e1 e2 e3 e4 => ?_⟩
  · rw [List.getElem?_set] at e
    by_cases h : i = j
    · rw [if_pos h] at e
      split at e
      · cases e; exact True.intro
      · cases e
    · rw [if_neg h] at e
      rw [List.getElem?_set_ne h]
      exact r.at' j s e
  · rw [List.getElem?_set] at e1 e2
    by_cases h : i = j
    · rw [if_pos h] at e1; split at e1 <;> cases e1
    · by_cases h2 : i = k
      · rw [if_pos h2] at e2; split at e2 <;> cases e2
      · rw [if_neg h] at e1
        rw [if_neg h2] at e2
        rw [List.getElem?_set_ne h] at e3
        rw [List.getElem?_set_ne h2] at e4
        exact r.own j k d1 d2 a e1 e2 e3 e4
theorem SR.wipe {T : Addr} {st : G.St} {σ : L2.St} {H : Hp} (r : SR T g.K g.CL st σ H) : ∀ vs : List Nat, SR T g.K g.CL (G.wipe st vs) (L2.wipe σ vs) H
  | [] => r
  | v :: vs => (SR.wipe r vs).setUn
/-! ### targets -/
theorem wipe_set {σ : L2.St} {i : Nat} {x : Option V} : ∀ {vs : List Nat}, i ∈ vs → L2.wipe (σ.set i x) vs = L2.wipe σ vs
  | v :: vs, h => by
    unfold L2.wipe
    by_cases hm : i ∈ vs
    · rw [wipe_set hm]
    · have e : i = v := by
        rcases List.mem_cons.mp h with e | e
        · exact e
        · exact absurd e hm
      subst e
      apply List.ext_getElem?
      intro j
      by_cases hj : i = j
      · subst hj
        rw [List.getElem?_set, List.getElem?_set, L2.wipe_length, L2.wipe_length, List.length_set, if_pos rfl, if_pos rfl]
      · rw [List.getElem?_set_ne hj, List.getElem?_set_ne hj]
        by_cases h2 : j ∈ vs
        · have := wiped_eq (σ := σ) (σ' := σ.set i x) (j := j) (by rw [List.length_set]) vs h2
          exact this
        · rw [wipe_out h2, wipe_out h2, List.getElem?_set_ne hj]
where wiped_eq {σ σ' : L2.St} {j : Nat} (hl : σ'.length = σ.length) : ∀ (vs : List Nat), j ∈ vs → (L2.wipe σ' vs)[j]? = (L2.wipe σ vs)[j]?
  | v :: vs, h => by
    unfold L2.wipe
    rw [List.getElem?_set, List.getElem?_set, L2.wipe_length, L2.wipe_length, hl]
    by_cases e : v = j
    · rw [if_pos e, if_pos e]
    · rw [if_neg e, if_neg e]
      exact wiped_eq hl vs (by
        rcases List.mem_cons.mp h with q | q
        · exact absurd q.symm e
        · exact q)
theorem wipe_wipe {σ : L2.St} : ∀ (vs ws : List Nat), (∀ v ∈ vs, v ∈ ws) → L2.wipe (L2.wipe σ vs) ws = L2.wipe σ ws
  | [], _, _ => rfl
  | v :: vs, ws, h => by
    show L2.wipe ((L2.wipe σ vs).set v none) ws = _
    rw [wipe_set (h v List.mem_cons_self)]
    exact wipe_wipe vs ws fun u hu => h u (List.mem_cons_of_mem _ hu)
/-- a target's slots -/
def tgIs : Tg → List Nat
  | .one i => [i]
  | .two i j => [i, j]
/-- a target stores what comes -/
def GTg (g : Cf) (t : Tg) (tg : TG) : Prop := ∀ (T : Addr) (k k' : Nat) (st st' : G.St) (σ : L2.St) (H : Hp) (x : V) (d : D) (Q : L2.St → Hp → Prop), WS T g.Tb H k → SR T g.K g.CL st σ H → Den T g.K H x d → bindTg t d st k = some (st', k') →
  (∀ σ', SR T g.K g.CL st' σ' H → (∀ ws : List Nat, (∀ i ∈ tgIs t, i ∈ ws) → L2.wipe σ' ws = L2.wipe σ ws) → (∀ i, i ∉ tgIs t → σ'[i]? = σ[i]?) → k' = k → Q σ' H) → tg x σ H Q
theorem gtg_one {i : Nat} : GTg g (.one i) (gName i) := by
  intro T k k' st st' σ H x d Q w r hd e q
  cases pure_some.mp e
  exact q _ (r.setFr hd) (fun ws h => wipe_set (h i (by simp [tgIs]))) (fun j hj => List.getElem?_set_ne (by simpa [tgIs] using Ne.symm (by simpa [tgIs] using hj))) rfl
theorem gtg_two {i j : Nat} : GTg g (.two i j) (gTup g.K 2 (gCons (gName i) (gCons (gName j) gNil))) := by
  intro T k k' st st' σ H x d Q w r hd e q
  cases d with
  | tup l =>
    cases l with
    | nil => exact absurd e (no_some (k := k))
    | cons a l =>
      cases l with
      | nil => exact absurd e (no_some (k := k))
      | cons b l =>
        cases l with
        | cons _ _ => exact absurd e (no_some (k := k))
        | nil =>
          cases pure_some.mp e
          cases hd with
          | tup h1 h2 =>
            cases h2 with
            | cons d1 d2 =>
              cases d2 with
              | cons d2 d3 =>
                cases d3
                refine ⟨_, _, rfl, .of h1, rfl, _, _, rfl, _, _, rfl, rfl, ?_⟩
                refine q _ ((r.setFr d1).setFr d2) (fun ws h => ?_) (fun l hl => ?_) rfl
                · rw [wipe_set (h j (by simp [tgIs])), wipe_set (h i (by simp [tgIs]))]
                · simp [tgIs] at hl
                  rw [List.getElem?_set_ne (Ne.symm hl.2), List.getElem?_set_ne (Ne.symm hl.1)]
  | _ => exact absurd e (no_some (k := k))

/-! ### sources -/
def GIt (g : Cf) (T : Addr) (J : It) (l : List D) (H0 : Hp) : Prop := ∀ H k, Keeps H0 H → WS T g.Tb H k → (∀ i, l.length ≤ i → J.stop i H) ∧
  ∀ (i : Nat) (d : D), l[i]? = some d → J.go i H ∧ ∀ x H', J.yld i H x H' → Grow T H H' ∧ WS T g.Tb H' k ∧ Den T g.K H' x d
def tI (g : Cf) (m : G.St → M (List D)) : TI := fun σ H R => ∃ T k st l k', WS T g.Tb H k ∧ SR T g.K g.CL st σ H ∧ m st k = some (l, k') ∧ ∀ J H', Grow T H H' → WS T g.Tb H' k' → GIt g T J l H' → l.length ≤ 16777216 → R J H'
theorem PIi {X : Cx} {tg e : Expr} {t t' : TI} (h : PI X tg e t) (i : ∀ σ H R, t' σ H R → t σ H R) : PI X tg e t' := ⟨fun pins s σ H R I q => h.run pins s σ H R I (i σ H R q)⟩
theorem git_list {T a : Addr} {l : List D} {H0 : Hp} {o : Obj} {xs : List V} (h : H0 a = some (.frz o (.lst xs))) (hd : Dens T g.K H0 xs l) : GIt g T (Itl g.K a) l H0 := by
  intro H k kp w
  have sq : SqL g.K H a xs := .inl (.inr ⟨o, kp.2 _ _ _ h⟩)
  refine ⟨fun i hi => ⟨xs, sq, by rw [hd.length]; exact hi⟩, fun i d hi => ?_⟩
  obtain ⟨v, h1, h2⟩ := hd.get hi
  refine ⟨⟨xs, v, sq, h1⟩, fun x H' hy => ?_⟩
  obtain ⟨e, hx⟩ := hy
  have := hx xs sq
  rw [h1] at this
  cases this
  rw [e]
  exact ⟨Grow.refl T H, w, Den.keep kp _ _ h2⟩
theorem git_tup {T a : Addr} {l : List D} {H0 : Hp} {xs : List V} (h : H0 a = some (.tup xs)) (hd : Dens T g.K H0 xs l) : GIt g T (Itt g.K a) l H0 := by
  intro H k kp w
  have sq : SqT g.K H a xs := .of (kp.1 _ _ h)
  refine ⟨fun i hi => ⟨xs, sq, by rw [hd.length]; exact hi⟩, fun i d hi => ?_⟩
  obtain ⟨v, h1, h2⟩ := hd.get hi
  refine ⟨⟨xs, v, sq, h1⟩, fun x H' hy => ?_⟩
  obtain ⟨e, hx⟩ := hy
  have := hx xs sq
  rw [h1] at this
  cases this
  rw [e]
  exact ⟨Grow.refl T H, w, Den.keep kp _ _ h2⟩
theorem git_str {T : Addr} {s : List Nat} {H0 : Hp} : GIt g T (Its (strOf s)) (s.map fun c => .str [c]) H0 := by
  intro H k kp w
  refine ⟨fun i hi => ?_, fun i d hi => ?_⟩
  · show s.toArray.size ≤ i
    simpa using hi
  · rw [List.getElem?_map] at hi
    cases e : s[i]? with
    | none => rw [e] at hi; cases hi
    | some c =>
      rw [e] at hi
      cases hi
      refine ⟨?_, fun x H' hy => ?_⟩
      · show i < s.toArray.size
        rcases Nat.lt_or_ge i s.length with z | z
        · simpa using z
        · rw [List.getElem?_eq_none z] at e; cases e
      · obtain ⟨e1, c', e2, e3⟩ := hy
        have : s.toArray[i]? = some c' := e2
        rw [List.getElem?_toArray, e] at this
        cases this
        rw [e1, e3]
        exact ⟨Grow.refl T H, w, .str [c]⟩
theorem git_range {T : Addr} {a : Int} {n : Nat} {H0 : Hp} : GIt g T (Itr a n) (rangeL a n 1) H0 := by
  intro H k kp w
  have hl : (rangeL a n 1).length = n := by simp [rangeL]
  refine ⟨fun i hi => by rw [hl] at hi; exact hi, fun i d hi => ?_⟩
  unfold rangeL at hi
  rw [List.getElem?_map] at hi
  rcases Nat.lt_or_ge i n with z | z
  · rw [List.getElem?_range z] at hi
    cases hi
    refine ⟨z, fun x H' hy => ?_⟩
    obtain ⟨e1, e2⟩ := hy
    rw [e1, e2]
    refine ⟨Grow.refl T H, w, ?_⟩
    show Den T g.K H (.int (a + i)) (.int (a + i * 1))
    rw [Int.mul_one]
    exact .int _
  · rw [List.getElem?_eq_none (by simpa using z)] at hi
    cases hi
theorem zipIdx_get {l : List D} {i : Nat} {d : D} (h : (l.zipIdx.map fun p => D.tup [.int p.2, p.1])[i]? = some d) : ∃ x, l[i]? = some x ∧ d = .tup [.int i, x] := by
  rw [List.getElem?_map, List.getElem?_zipIdx] at h
  cases e : l[i]? with
  | none => rw [e] at h; cases h
  | some x =>
    rw [e] at h
    cases h
    exact ⟨x, rfl, by simp⟩
theorem git_enumL {T a : Addr} {l : List D} {H0 : Hp} {o : Obj} {xs : List V} (h : H0 a = some (.frz o (.lst xs))) (hd : Dens T g.K H0 xs l) : GIt g T (Ite g.K a) (l.zipIdx.map fun p => .tup [.int p.2, p.1]) H0 := by
  intro H k kp w
  have sq : SqL g.K H a xs := .inl (.inr ⟨o, kp.2 _ _ _ h⟩)
  refine ⟨fun i hi => ⟨xs, sq, by rw [hd.length]; simpa using hi⟩, fun i d hi => ?_⟩
  obtain ⟨y, hy1, hy2⟩ := zipIdx_get hi
  obtain ⟨v, h1, h2⟩ := hd.get hy1
  refine ⟨⟨xs, v, sq, h1⟩, fun x H' hy => ?_⟩
  obtain ⟨p, v', e1, e2, e3, hx⟩ := hy
  have := hx xs sq
  rw [h1] at this
  cases this
  rw [e1, e3, hy2]
  exact ⟨Grow.new e2, w.grow0 e2, .tup upd_same (.cons (.int _) (.cons (Den.keep (kp.trans (keeps_new e2)) _ _ h2) .nil))⟩
theorem git_enumT {T a : Addr} {l : List D} {H0 : Hp} {xs : List V} (h : H0 a = some (.tup xs)) (hd : Dens T g.K H0 xs l) : GIt g T (IteT g.K a) (l.zipIdx.map fun p => .tup [.int p.2, p.1]) H0 := by
  intro H k kp w
  have sq : SqT g.K H a xs := .of (kp.1 _ _ h)
  refine ⟨fun i hi => ⟨xs, sq, by rw [hd.length]; simpa using hi⟩, fun i d hi => ?_⟩
  obtain ⟨y, hy1, hy2⟩ := zipIdx_get hi
  obtain ⟨v, h1, h2⟩ := hd.get hy1
  refine ⟨⟨xs, v, sq, h1⟩, fun x H' hy => ?_⟩
  obtain ⟨p, v', e1, e2, e3, hx⟩ := hy
  have := hx xs sq
  rw [h1] at this
  cases this
  rw [e1, e3, hy2]
  exact ⟨Grow.new e2, w.grow0 e2, .tup upd_same (.cons (.int _) (.cons (Den.keep (kp.trans (keeps_new e2)) _ _ h2) .nil))⟩
theorem zipW_get {l m : List D} {i : Nat} {d : D} (h : (List.zipWith (fun a b => D.tup [a, b]) l m)[i]? = some d) : ∃ x y, l[i]? = some x ∧ m[i]? = some y ∧ d = .tup [x, y] := by
  rw [List.getElem?_zipWith] at h
  cases e : l[i]? with
  | none => rw [e] at h; cases h
  | some x =>
    cases e2 : m[i]? with
    | none => rw [e, e2] at h; cases h
    | some y =>
      rw [e, e2] at h
      cases h
      exact ⟨x, y, rfl, rfl, rfl⟩
theorem zipW_end {l m : List D} {xs ys : List V} {i : Nat} (h1 : xs.length = l.length) (h2 : ys.length = m.length) (h : (List.zipWith (fun a b => D.tup [a, b]) l m).length ≤ i) : xs.length ≤ i ∨ ys.length ≤ i := by
  rw [List.length_zipWith] at h
  omega
theorem git_zipT {T a b : Addr} {l m : List D} {H0 : Hp} {xs ys : List V} (h : H0 a = some (.tup xs)) (hd : Dens T g.K H0 xs l) (h' : H0 b = some (.tup ys)) (hd' : Dens T g.K H0 ys m) :
    GIt g T (RZ.ItzT g.K a b) (List.zipWith (fun a b => .tup [a, b]) l m) H0 := by
  intro H k kp w
  have sq : SqT g.K H a xs := .of (kp.1 _ _ h)
  have sq' : SqT g.K H b ys := .of (kp.1 _ _ h')
  refine ⟨fun i hi => ⟨xs, ys, sq, sq', zipW_end hd.length hd'.length hi⟩, fun i d hi => ?_⟩
  obtain ⟨x, y, e1, e2, e3⟩ := zipW_get hi
  obtain ⟨v, h1, h2⟩ := hd.get e1
  obtain ⟨v', h3, h4⟩ := hd'.get e2
  refine ⟨⟨xs, ys, v, v', sq, sq', h1, h3⟩, fun x H' hy => ?_⟩
  obtain ⟨p, w1, w2, f1, f2, f3, f4, f5⟩ := hy
  have q1 := f4 xs sq
  have q2 := f5 ys sq'
  rw [h1] at q1
  rw [h3] at q2
  cases q1
  cases q2
  rw [f1, f3, e3]
  have kk := kp.trans (keeps_new (o := .tup [v, v']) f2)
  exact ⟨Grow.new f2, w.grow0 f2, .tup upd_same (.cons (Den.keep kk _ _ h2) (.cons (Den.keep kk _ _ h4) .nil))⟩
theorem git_zipL {T a b : Addr} {l m : List D} {H0 : Hp} {o o' : Obj} {xs ys : List V} (h : H0 a = some (.frz o (.lst xs))) (hd : Dens T g.K H0 xs l) (h' : H0 b = some (.frz o' (.lst ys))) (hd' : Dens T g.K H0 ys m) :
    GIt g T (Itz g.K a b) (List.zipWith (fun a b => .tup [a, b]) l m) H0 := by
  intro H k kp w
  have sq : SqL g.K H a xs := .inl (.inr ⟨o, kp.2 _ _ _ h⟩)
  have sq' : SqL g.K H b ys := .inl (.inr ⟨o', kp.2 _ _ _ h'⟩)
  refine ⟨fun i hi => ⟨xs, ys, sq, sq', zipW_end hd.length hd'.length hi⟩, fun i d hi => ?_⟩
  obtain ⟨x, y, e1, e2, e3⟩ := zipW_get hi
  obtain ⟨v, h1, h2⟩ := hd.get e1
  obtain ⟨v', h3, h4⟩ := hd'.get e2
  refine ⟨⟨xs, ys, v, v', sq, sq', h1, h3⟩, fun x H' hy => ?_⟩
  obtain ⟨p, w1, w2, f1, f2, f3, f4, f5⟩ := hy
  have q1 := f4 xs sq
  have q2 := f5 ys sq'
  rw [h1] at q1
  rw [h3] at q2
  cases q1
  cases q2
  rw [f1, f3, e3]
  have kk := kp.trans (keeps_new (o := .tup [v, v']) f2)
  exact ⟨Grow.new f2, w.grow0 f2, .tup upd_same (.cons (Den.keep kk _ _ h2) (.cons (Den.keep kk _ _ h4) .nil))⟩

/-! ### what an iterable is -/
/-- rows are no longer than the size line -/
def Szd (K : PySem.W.Frag) (H : Hp) (v : V) : Prop := ∀ a xs, v = .ref a → SqL K H a xs ∨ SqT K H a xs → xs.length ≤ 16777216
def tZ (g : Cf) (m : G.St → M D) : TE := fun σ H Q => ∃ T k st d k', WS T g.Tb H k ∧ SR T g.K g.CL st σ H ∧ m st k = some (d, k') ∧ ∀ v H', Grow T H H' → WS T g.Tb H' k' → Den T g.K H' v d → Szd g.K H' v → Q v H'
theorem PE.sized {e : Expr} {m : G.St → M D} (hK : X.K = g.K) (h : PE X e (tM g m)) : PE X e (tZ g m) := by
  refine ⟨fun pins s σ H Q I hq => ?_⟩
  obtain ⟨T, k, st, d, k', w, r, em, q⟩ := hq
  refine thn (h.run pins s σ H (fun v H' => Grow T H H' ∧ WS T g.Tb H' k' ∧ Den T g.K H' v d) I
    ⟨T, k, st, d, k', w, r, em, fun v H' e1 e2 e3 => ⟨e1, e2, e3⟩⟩) fun u s' hu => ?_
  obtain ⟨v, H', I', rv, e1, e2, e3⟩ := hu
  refine ⟨v, H', I', rv, q v H' e1 e2 e3 fun a xs _ hs => ?_⟩
  rw [← sizeLine_eq, ← hK] at *
  rcases hs with hs | hs
  · obtain ⟨_, _, _, z⟩ := I'.list hs
    exact z
  · obtain ⟨_, _, _, z⟩ := I'.tuple hs
    exact z
variable {a b c e : Expr} {f f1 f2 f3 m : G.St → M D} {pos p p1 p2 : Pos} {tg : Expr}
theorem pit_it (hK : X.K = g.K) (ha : PE X a (tM g f)) : PI X tg a (tI g fun st => do let x ← f st; items x) := by
  refine ⟨fun pins s σ H R I h => ?_⟩
  obtain ⟨T, k, st, l, k', w, r, em, q⟩ := h
  obtain ⟨x, k1, e1, e2⟩ := bind_some.mp em
  have hz := PE.sized hK ha
  cases x with
  | lst l' =>
    cases pure_some.mp e2
    refine (pi_list hz).run pins s σ H R I ⟨T, k, st, _, _, w, r, e1, fun v1 H1 g1 w1 d1 z1 => ?_⟩
    cases d1 with
    | lst h1 h2 =>
      have sq : SqL g.K H1 _ _ := .inl (.inr ⟨_, h1⟩)
      refine ⟨_, rfl, ⟨_, by rw [hK]; exact sq⟩, ?_⟩
      rw [hK]
      exact q _ H1 g1 w1 (git_list h1 h2) (by rw [← h2.length]; exact z1 _ _ rfl (.inl sq))
  | tup l' =>
    cases pure_some.mp e2
    refine (pi_tup hz).run pins s σ H R I ⟨T, k, st, _, _, w, r, e1, fun v1 H1 g1 w1 d1 z1 => ?_⟩
    cases d1 with
    | tup h1 h2 =>
      have sq : SqT g.K H1 _ _ := .of h1
      refine ⟨_, rfl, ⟨_, by rw [hK]; exact sq⟩, ?_⟩
      rw [hK]
      exact q _ H1 g1 w1 (git_tup h1 h2) (by rw [← h2.length]; exact z1 _ _ rfl (.inr sq))
  | str z =>
    obtain ⟨hz', e3⟩ := if_some (show (if z.length ≤ 16777216 then (pure (z.map fun c => .str [c]) : M (List D)) else no) k1 = some (l, k') from e2)
    cases pure_some.mp e3
    refine (pi_str ha).run pins s σ H R I ⟨T, k, st, _, _, w, r, e1, fun v1 H1 g1 w1 d1 => ?_⟩
    cases d1
    exact ⟨_, rfl, q _ H1 g1 w1 git_str (by simpa using hz')⟩
  | dic ks vs =>
    refine thn (ha.run pins s σ H (fun _ _ => False) I ⟨T, k, st, _, _, w, r, e1, fun v1 H1 g1 w1 d1 => by cases d1⟩) fun u s' hu => ?_
    obtain ⟨_, _, _, _, hu⟩ := hu
    exact hu.elim
  | _ => exact absurd e2 (no_some (k := k1))
theorem smallI_of {i : Int} (h : smallI i = true) : -8388608 ≤ i ∧ i ≤ 8388608 := by
  have := absLe_of.mp h
  exact ⟨by omega, by omega⟩
theorem pit_r1 (hg : Gl X "range") (hm : X.mg "range" = none) (hs : ∀ v p, a ≠ .Starred v p) (ha : PE X a (tM g f)) : PI X tg (.Call (.Name "range" p) [a] [] pos) (tI g fun st => do let x ← f st; srcD .r1 x .non .non) :=
  PIi (pi_range1 hg hm (pa_cons ha pa_nil (starEach_ok hs)) (starEach_ok hs)) fun σ H R h => by
    obtain ⟨T, k, st, l, k', w, r, em, q⟩ := h
    obtain ⟨x, k1, e1, e2⟩ := bind_some.mp em
    cases x with
    | int i =>
      obtain ⟨hi, e3⟩ := if_some (show (if smallI i = true then (pure (rangeL 0 i.toNat 1) : M (List D)) else no) k1 = some (l, k') from e2)
      cases pure_some.mp e3
      have hb := smallI_of hi
      exact ⟨T, k, st, _, _, w, r, e1, fun v1 H1 g1 w1 d1 => ⟨i, by rw [int_den d1], by omega, by omega, q _ H1 g1 w1 git_range (by simp [rangeL]; omega)⟩⟩
    | _ => exact absurd e2 (no_some (k := k1))
theorem pit_r2 (hg : Gl X "range") (hm : X.mg "range" = none) (hs : ∀ v p, a ≠ .Starred v p) (hs' : ∀ v p, b ≠ .Starred v p) (ha : PE X a (tM g f1)) (hb : PE X b (tM g f2)) :
    PI X tg (.Call (.Name "range" p) [a, b] [] pos) (tI g fun st => do let x ← f1 st; let y ← f2 st; srcD .r2 x y .non) :=
  PIi (pi_range2 hg hm (pa_cons ha (pa_cons hb pa_nil (starEach_ok hs')) (starEach_ok hs)) (by rw [starEach_ok hs, starEach_ok hs']; rfl) (starEach_ok hs')) fun σ H R h => by
    obtain ⟨T, k, st, l, k', w, r, em, q⟩ := h
    obtain ⟨x, k1, e1, e2⟩ := bind_some.mp em
    obtain ⟨y, k2, e3, e4⟩ := bind_some.mp e2
    cases x with
    | int i =>
      cases y with
      | int j =>
        obtain ⟨hi, e5⟩ := if_some (show (if (smallI i && smallI j) = true then (pure (rangeL i (j - i).toNat 1) : M (List D)) else no) k2 = some (l, k') from e4)
        cases pure_some.mp e5
        rw [Bool.and_eq_true] at hi
        have hb1 := smallI_of hi.1
        have hb2 := smallI_of hi.2
        exact ⟨T, k, st, _, _, w, r, e1, fun v1 H1 g1 w1 d1 => ⟨T, k1, st, _, _, w1, r.grow g.stays g1 w.town, e3, fun v2 H2 g2 w2 d2 => ⟨i, j, by rw [int_den d1, int_den d2], ⟨by omega, by omega, by omega, by omega⟩, q _ H2 (g1.trans g2) w2 git_range (by simp [rangeL]; omega)⟩⟩⟩
      | _ => exact absurd e4 (no_some (k := k2))
    | _ => exact absurd e4 (no_some (k := k2))
theorem pit_en {elts : List Expr} {kk : Nat} {tpos : Pos} (hK : X.K = g.K) (hg : Gl X "enumerate") (hm : X.mg "enumerate" = none) (hs : ∀ v p, a ≠ .Starred v p) (ha : PE X a (tM g f)) :
    PI X (.Tuple elts kk tpos) (.Call (.Name "enumerate" p) [a] [] pos) (tI g fun st => do let x ← f st; srcD .en x .non .non) := by
  refine ⟨fun pins s σ H R I h => ?_⟩
  obtain ⟨T, k, st, l, k', w, r, em, q⟩ := h
  obtain ⟨x, k1, e1, e2⟩ := bind_some.mp em
  have hz := PE.sized hK ha
  cases x with
  | lst l' =>
    cases pure_some.mp e2
    refine (pi_enum hg hm (pa_cons hz pa_nil (starEach_ok hs)) (starEach_ok hs)).run pins s σ H R I ⟨T, k, st, _, _, w, r, e1, fun v1 H1 g1 w1 d1 z1 => ?_⟩
    cases d1 with
    | lst h1 h2 =>
      have sq : SqL g.K H1 _ _ := .inl (.inr ⟨_, h1⟩)
      refine ⟨_, _, rfl, by rw [hK]; exact sq, ?_⟩
      rw [hK]
      exact q _ H1 g1 w1 (git_enumL h1 h2) (by rw [List.length_map, List.length_zipIdx, ← h2.length]; exact z1 _ _ rfl (.inl sq))
  | tup l' =>
    cases pure_some.mp e2
    refine (pi_enumT hg hm (pa_cons hz pa_nil (starEach_ok hs)) (starEach_ok hs)).run pins s σ H R I ⟨T, k, st, _, _, w, r, e1, fun v1 H1 g1 w1 d1 z1 => ?_⟩
    cases d1 with
    | tup h1 h2 =>
      have sq : SqT g.K H1 _ _ := .of h1
      refine ⟨_, _, rfl, by rw [hK]; exact sq, ?_⟩
      rw [hK]
      exact q _ H1 g1 w1 (git_enumT h1 h2) (by rw [List.length_map, List.length_zipIdx, ← h2.length]; exact z1 _ _ rfl (.inr sq))
  | _ => exact absurd e2 (no_some (k := k1))
theorem pit_zp {elts : List Expr} {kk : Nat} {tpos : Pos} (hK : X.K = g.K) (hg : Gl X "zip") (hm : X.mg "zip" = none) (hs : ∀ v p, a ≠ .Starred v p) (hs' : ∀ v p, b ≠ .Starred v p) (ha : PE X a (tM g f1)) (hb : PE X b (tM g f2)) :
    PI X (.Tuple elts kk tpos) (.Call (.Name "zip" p) [a, b] [] pos) (tI g fun st => do let x ← f1 st; let y ← f2 st; srcD .zp x y .non) :=
  PIi (RZ.pi_zipA hg hm (pa_cons ha (pa_cons (PE.sized hK hb) pa_nil (starEach_ok hs')) (starEach_ok hs)) (starEach_ok hs) (noStars (es := [b]) fun e he => by rw [List.mem_singleton.mp he]; exact hs')) fun σ H R h => by
    obtain ⟨T, k, st, l, k', w, r, em, q⟩ := h
    obtain ⟨x, k1, e1, e2⟩ := bind_some.mp em
    obtain ⟨y, k2, e3, e4⟩ := bind_some.mp e2
    refine ⟨T, k, st, _, _, w, r, e1, fun v1 H1 g1 w1 d1 => ⟨T, k1, st, _, _, w1, r.grow g.stays g1 w.town, e3, fun v2 H2 g2 w2 d2 z2 => ?_⟩⟩
    have d1' := Den.keep (g2.keeps w1.town) _ _ d1
    cases x with
    | tup l1 =>
      cases y with
      | tup l2 =>
        cases pure_some.mp e4
        cases d1' with
        | tup h1 h2 =>
          cases d2 with
          | tup h3 h4 =>
            refine ⟨_, _, _, _, rfl, .inr ⟨.of h1, .of h3, ?_⟩⟩
            rw [hK]
            refine q _ H2 (g1.trans g2) w2 (git_zipT h1 h2 h3 h4) ?_
            have := z2 _ _ rfl (.inr (.of h3))
            rw [List.length_zipWith, ← h4.length]
            omega
      | _ => exact absurd e4 (no_some (k := k2))
    | lst l1 =>
      cases y with
      | lst l2 =>
        cases pure_some.mp e4
        cases d1' with
        | lst h1 h2 =>
          cases d2 with
          | lst h3 h4 =>
            refine ⟨_, _, _, _, rfl, .inl ⟨.inl (.inr ⟨_, h1⟩), .inl (.inr ⟨_, h3⟩), ?_⟩⟩
            rw [hK]
            refine q _ H2 (g1.trans g2) w2 (git_zipL h1 h2 h3 h4) ?_
            have := z2 _ _ rfl (.inl (.inl (.inr ⟨_, h3⟩)))
            rw [List.length_zipWith, ← h4.length]
            omega
      | _ => exact absurd e4 (no_some (k := k2))
    | _ => exact absurd e4 (no_some (k := k2))
end
end G

namespace G
open PySem PySem.Spec PyProof.Rows L2

section
variable {g : Cf} {X : Cx}
def lcF (t : Tg) (ms : G.St → M (List D)) (fc fe : G.St → M D) (vs : List Nat) : G.St → M D := fun st => do
  let l ← ms st
  let r ← lcM (fun d => do
      let st' ← bindTg t d (G.wipe st vs)
      let q ← fc st'
      let b ← tru q
      if b then do let e ← fe st'; pure (some e) else pure none) l
  pure (.lst r)
/-- the data made so far -/
def lcI (g : Cf) (T : Addr) (F : D → M (Option D)) (l r : List D) (k' : Nat) (H1 : Hp) (Dd : Addr) (i m : Nat) (H : Hp) : Prop :=
  m = l.length - i ∧ i ≤ l.length ∧ ∃ k0 r0 ds0 acc, lcM F (l.drop i) k0 = some (r0, k') ∧ r = ds0 ++ r0 ∧ acc.length ≤ i ∧ H Dd = some (.lst acc) ∧ Dens T g.K H acc ds0 ∧ Grow T H1 H ∧ WS T g.Tb H k0
theorem Dens.snoc {T : Addr} {H : Hp} : ∀ {xs : List V} {ds : List D} {x : V} {d : D}, Dens T g.K H xs ds → Den T g.K H x d → Dens T g.K H (xs ++ [x]) (ds ++ [d])
  | _, _, _, _, .nil, h => .cons h .nil
  | _, _, _, _, .cons h1 h2, h => .cons h1 (Dens.snoc h2 h)
theorem tLc_of {t : Tg} {tg : TG} {ms : G.St → M (List D)} {fc fe : G.St → M D} {vs : List Nat} (hG : GTg g t tg) (htg : ∀ i ∈ tgIs t, i ∈ vs) {σ : L2.St} {H : Hp} {Q : VK}
    (h : tN g (lcF t ms fc fe vs) σ H Q) : tLc (tI g ms) tg (tMB g (truM fc)) (tM g fe) vs σ H Q := by
  obtain ⟨T, k, st, d, k', w, r, em, q⟩ := h
  obtain ⟨l, k1, e1, e2⟩ := bind_some.mp em
  obtain ⟨rr, k2, e3, e4⟩ := bind_some.mp e2
  cases pure_some.mp e4
  refine ⟨T, k, st, l, k1, w, r, e1, fun J H1 g1 w1 gi hl Dd hD => ?_⟩
  have hDT := w1.neT hD
  generalize hF : (fun d => do
      let st' ← bindTg t d (G.wipe st vs)
      let q ← fc st'
      let b ← tru q
      if b then do let e ← fe st'; pure (some e) else pure none : D → M (Option D)) = F at e3
  refine ⟨lcI g T F l rr k' H1 Dd, ⟨l.length, by simp, Nat.zero_le _, k1, rr, [], [], by simpa using e3, rfl, Nat.le_refl _, upd_same, .nil, Grow.new hD, w1.grow0 hD⟩, ?_⟩
  rintro i m H2 ⟨hm, hi, k0, r0, ds0, acc, a1, a2, a3, a4, a5, a6, a7⟩
  have kp : Keeps H1 H2 := a6.keeps w1.town
  obtain ⟨stop, go⟩ := gi H2 k0 kp a7
  by_cases hil : i = l.length
  · refine .inl ⟨stop i (Nat.le_of_eq hil.symm), ?_⟩
    rw [List.drop_eq_nil_of_le (Nat.le_of_eq hil.symm)] at a1
    cases pure_some.mp a1
    rw [List.append_nil] at a2
    subst a2
    exact q Dd acc _ H2 rfl (g1.none _ hD) hDT (g1.trans a6) a7 a4 a5
  · have hlt : i < l.length := Nat.lt_of_le_of_ne hi hil
    obtain ⟨go1, yl⟩ := go i l[i] (List.getElem?_eq_getElem hlt)
    refine .inr ⟨go1, fun H' => ∃ m', m' < m ∧ lcI g T F l rr k' H1 Dd (i + 1) m' H', fun H' hx => hx, fun x H3 hy => ?_⟩
    obtain ⟨g3, w3, d3⟩ := yl x H3 hy
    rw [List.drop_eq_getElem_cons hlt] at a1
    obtain ⟨o, k3, b1, b2⟩ := bind_some.mp (show (do let r ← F l[i]; let rs ← lcM F (l.drop (i + 1)); pure (match r with | some d => d :: rs | none => rs) : M (List D)) k0 = some (r0, k') from a1)
    obtain ⟨rs, k4, b3, b4⟩ := bind_some.mp b2
    cases pure_some.mp b4
    rw [← hF] at b1
    obtain ⟨st', k5, c1, c2⟩ := bind_some.mp b1
    obtain ⟨qd, k6, c3, c4⟩ := bind_some.mp c2
    obtain ⟨bb, k7, c5, c6⟩ := bind_some.mp c4
    have r3 : SR T g.K g.CL (G.wipe st vs) (L2.wipe σ vs) H3 := ((((r.grow g.stays g1 w.town).grow g.stays a6 w1.town).grow g.stays g3 a7.town)).wipe vs
    refine hG T k0 k5 _ _ _ H3 x l[i] _ w3 r3 d3 c1 fun σ2 r4 hw _ ek => ?_
    subst ek
    refine ⟨?_, ?_⟩
    · rw [hw vs htg]
      exact wipe_wipe vs vs fun v hv => hv
    refine ⟨T, _, st', bb, k7, w3, r4, bind_some.mpr ⟨qd, k6, c3, c5⟩, fun H4 g4 w4 => ?_⟩
    have a4' : H3 Dd = some (.lst acc) := g3.keep _ _ a4 hDT (fun _ z => nomatch z)
    have a4'' : H4 Dd = some (.lst acc) := g4.keep _ _ a4' hDT (fun _ z => nomatch z)
    have g14 := (a6.trans g3).trans g4
    cases bb with
    | false =>
      cases pure_some.mp (show (pure none : M (Option D)) k7 = some (o, k3) from c6)
      exact ⟨l.length - (i + 1), by omega, rfl, hlt, _, rs, ds0, acc, b3, a2, by omega, a4'', Dens.keep ((g3.trans g4).keeps a7.town) _ _ a5, g14, w4⟩
    | true =>
      obtain ⟨ed, k8, c7, c8⟩ := bind_some.mp (show (do let e ← fe st'; pure (some e) : M (Option D)) k7 = some (o, k3) from c6)
      cases pure_some.mp c8
      show tM g fe σ2 H4 _
      refine ⟨T, k7, st', ed, _, w4, r4.grow g.stays g4 w3.town, c7, fun y H5 g5 w5 d5 => ?_⟩
      have a45 : H5 Dd = some (.lst acc) := g5.keep _ _ a4'' hDT (fun _ z => nomatch z)
      refine ⟨acc, a45, ?_, l.length - (i + 1), by omega, rfl, hlt, _, rs, ds0 ++ [ed], acc ++ [y], b3, ?_, ?_, upd_same, ?_, (g14.trans g5).at hD, w5.updL a45 hDT⟩
      · rw [sizeLine_eq]; omega
      · rw [a2, List.append_assoc]; rfl
      · rw [List.length_append]; simp; omega
      · have kk : Keeps H5 (upd H5 Dd (.lst (acc ++ [y]))) := keeps_upd a45 (fun _ z => nomatch z) (fun _ _ z => nomatch z)
        exact (Dens.keep ((((g3.trans g4).trans g5).keeps a7.town).trans kk) _ _ a5).snoc (Den.keep kk _ _ d5)
theorem pn_lc {t : Tg} {tg : TG} {ms : G.St → M (List D)} {fc fe : G.St → M D} {elt tge iter : Expr} {ifs : List Expr} {scope : Scope} {own : List (Str × Nat)} {pos : Pos} (hc : X.calm = true) (hN : X.N.Nodup)
    (hi : PI X tge iter (tI g ms)) (ok : BlkOk X.N X.env.scope scope own) (hG : GTg g t tg) (htg : ∀ i ∈ tgIs t, i ∈ own.map (·.2))
    (hg : ∀ (s : Shared) (H : Hp) (C : Addr) (cl : List (Str × Addr)) (fp : List Addr), PG (X.blk s H scope (compEnvC scope cl C X.env) fp) tge tg)
    (ht : ∀ (s : Shared) (H : Hp) (C : Addr) (cl : List (Str × Addr)) (fp : List Addr), PTs (X.blk s H scope (compEnvC scope cl C X.env) fp) ifs (tMB g (truM fc)))
    (he : ∀ (s : Shared) (H : Hp) (C : Addr) (cl : List (Str × Addr)) (fp : List Addr), PE (X.blk s H scope (compEnvC scope cl C X.env) fp) elt (tM g fe)) (hs : ∀ x, foldedSetIterable iter X.env x = pure x) :
    PE X (.ListComp elt [⟨tge, iter, ifs, 0⟩] scope pos) (tN g (lcF t ms fc fe (own.map (·.2)))) :=
  PEi (pe_lc hc hN hi ok hg ht he hs) fun σ H Q h => tLc_of hG htg h
theorem ptsm_nil : PTs X [] (tMB g (truM fun _ => pure (.bl true))) := ⟨fun pins s σ H Q I h => by
  refine pts_nil.run pins s σ H Q I ?_
  obtain ⟨T, k, st, b, k', w, r, em, q⟩ := h
  cases pure_some.mp (show (pure true : M Bool) k = some (b, k') from em)
  exact q H (Grow.refl T H) w⟩
end
end G

namespace G
open PySem PySem.Spec PyProof.Rows L2

/-- the slots, the heap at the entry, the lists of one's own -/
structure SO (g : Cf) (T : Addr) (H0 : Hp) (st : G.St) (σ : L2.St) (H : Hp) : Prop where
  sr : SR T g.K g.CL st σ H
  gr : Grow T H0 H
  ow : ∀ (i : Nat) (d : D) (a : Addr), st[i]? = some (.ow d) → σ[i]? = some (some (.ref a)) → H0 a = none
def postS (g : Cf) (T : Addr) (D : Ends) (fl : Fl) (σ : L2.St) (H : Hp) : Prop := match fl with
  | .nx => D.nx σ H
  | .bk => D.bk σ H
  | .ct => D.ct σ H
  | .rt d => ∀ v, Den T g.K H v d → D.rt v H
def tS (g : Cf) (m : G.St → M (G.St × Fl)) : TS := fun D σ H => ∃ T H0 k st st' fl k', WS T g.Tb H k ∧ SO g T H0 st σ H ∧ m st k = some ((st', fl), k') ∧ ∀ σ' H', Keeps H H' → WS T g.Tb H' k' → SO g T H0 st' σ' H' → postS g T D fl σ' H'
section
variable {g : Cf} {X : Cx}
theorem SO.grow {T : Addr} {H0 H H' : Hp} {k : Nat} {st : G.St} {σ : L2.St} (r : SO g T H0 st σ H) (gr : Grow T H H') (t : Town T H k) : SO g T H0 st σ H' := ⟨r.sr.grow g.stays gr t, r.gr.trans gr, r.ow⟩
theorem SO.setFr {T : Addr} {H0 H : Hp} {st : G.St} {σ : L2.St} {i : Nat} {d : D} {v : V} (r : SO g T H0 st σ H) (hd : Den T g.K H v d) : SO g T H0 (st.set i (.fr d)) (σ.set i (some v)) H := by
  refine ⟨r.sr.setFr hd, r.gr, fun j d' a e1 e2 => ?_⟩
  rw [List.getElem?_set] at e1
  by_cases h : i = j
  · rw [if_pos h] at e1; split at e1 <;> cases e1
  · rw [if_neg h] at e1
    rw [List.getElem?_set_ne h] at e2
    exact r.ow j d' a e1 e2
/-- an owned slot's list -/
theorem SO.own {T : Addr} {H0 H : Hp} {st : G.St} {σ : L2.St} {i : Nat} {d : D} (r : SO g T H0 st σ H) (e : st[i]? = some (.ow d)) : ∃ ds a xs, d = .lst ds ∧ σ[i]? = some (some (.ref a)) ∧ a ≠ T ∧ H a = some (.lst xs) ∧ Dens T g.K H xs ds ∧ H0 a = none := by
  have q := r.sr.at' i _ e
  cases d with
  | lst ds =>
    cases o : σ[i]? with
    | none => rw [o] at q; exact q.elim
    | some o' =>
      cases o' with
      | none => rw [o] at q; exact q.elim
      | some v =>
        rw [o] at q
        obtain ⟨a, xs, e1, e2, e3, e4⟩ := q
        subst e1
        exact ⟨ds, a, xs, rfl, rfl, e2, e3, e4, r.ow i _ a e o⟩
  | _ =>
    cases o : σ[i]? with
    | none => rw [o] at q; exact q.elim
    | some o' => cases o' <;> (rw [o] at q; exact q.elim)
/-- a new list in a slot -/
theorem SO.setOw {T : Addr} {H0 H H' : Hp} {st : G.St} {σ : L2.St} {i : Nat} {ds : List D} {p : Addr} {xs : List V} {k : Nat} (r : SO g T H0 st σ H) (t : Town T H k) (gr : Grow T H H') (hp : H p = none) (hT : p ≠ T) (hx : H' p = some (.lst xs)) (hd : Dens T g.K H' xs ds) :
    SO g T H0 (st.set i (.ow (.lst ds))) (σ.set i (some (.ref p))) H' := by
  have r' := r.grow gr t
  have fresh : ∀ (j : Nat) (d : D) (a : Addr), st[j]? = some (.ow d) → σ[j]? = some (some (.ref a)) → a ≠ p := fun j d a e1 e2 z => by
    obtain ⟨_, a', _, _, e3, _, e4, _⟩ := r.own e1
    rw [e2] at e3
    cases e3
    rw [z, hp] at e4
    cases e4
  refine ⟨⟨by rw [List.length_set, List.length_set, r.sr.len], fun j s e => ?_, fun j l d1 d2 a e1 e2 e3 e4 => ?_⟩, r'.gr, fun j d' a e1 e2 => ?_⟩
  · rw [List.getElem?_set] at e
    by_cases h : i = j
    · rw [if_pos h] at e
      split at e
      · rename_i hl
        cases e
        rw [← h, List.getElem?_set_self (by rw [← r.sr.len]; exact hl)]
        exact ⟨p, xs, rfl, hT, hx, hd⟩
      · cases e
    · rw [if_neg h] at e
      rw [List.getElem?_set_ne h]
      exact r'.sr.at' j s e
  · rw [List.getElem?_set] at e1 e2 e3 e4
    by_cases h : i = j
    · by_cases h2 : i = l
      · rw [← h, h2]
      · exfalso
        rw [if_neg h2] at e2 e4
        rw [if_pos h] at e3
        split at e3
        · cases e3
          exact fresh l d2 _ e2 e4 rfl
        · cases e3
    · by_cases h2 : i = l
      · exfalso
        rw [if_neg h] at e1 e3
        rw [if_pos h2] at e4
        split at e4
        · cases e4
          exact fresh j d1 _ e1 e3 rfl
        · cases e4
      · rw [if_neg h] at e1 e3
        rw [if_neg h2] at e2 e4
        exact r.sr.own j l d1 d2 a e1 e2 e3 e4
  · rw [List.getElem?_set] at e1 e2
    by_cases h : i = j
    · rw [if_pos h] at e2
      split at e2
      · cases e2
        exact r.gr.none _ hp
      · cases e2
    · rw [if_neg h] at e1 e2
      exact r.ow j d' a e1 e2
/-- an owned list is changed -/
theorem SO.upOw {T : Addr} {H0 H : Hp} {st : G.St} {σ : L2.St} {i : Nat} {d : D} {es : List D} {a : Addr} {xs ys : List V} (r : SO g T H0 st σ H) (e : st[i]? = some (.ow d)) (eσ : σ[i]? = some (some (.ref a))) (ha : H a = some (.lst xs)) (hT : a ≠ T)
    (hd : Dens T g.K H ys es) : SO g T H0 (st.set i (.ow (.lst es))) σ (upd H a (.lst ys)) := by
  have kp : Keeps H (upd H a (.lst ys)) := keeps_upd ha (fun _ z => nomatch z) (fun _ _ z => nomatch z)
  have hi : i < st.length := by
    rcases Nat.lt_or_ge i st.length with z | z
    · exact z
    · rw [List.getElem?_eq_none z] at e; cases e
  have old : ∀ (j : Nat) (d' : D), (st.set i (.ow (.lst es)))[j]? = some (.ow d') → ∃ d0, st[j]? = some (.ow d0) := fun j d' e1 => by
    rw [List.getElem?_set] at e1
    by_cases h : i = j
    · exact ⟨d, h ▸ e⟩
    · rw [if_neg h] at e1
      exact ⟨d', e1⟩
  refine ⟨⟨by rw [List.length_set, r.sr.len], fun j s e1 => ?_, fun j l d1 d2 b e1 e2 e3 e4 => ?_⟩, r.gr.at (r.ow i d a e eσ), fun j d' b e1 e2 => ?_⟩
  · rw [List.getElem?_set] at e1
    by_cases h : i = j
    · rw [if_pos h, if_pos hi] at e1
      cases e1
      rw [← h, eσ]
      exact ⟨a, ys, rfl, hT, upd_same, Dens.keep kp _ _ hd⟩
    · rw [if_neg h] at e1
      have q := r.sr.at' j s e1
      cases s with
      | un => exact True.intro
      | fr d' =>
        cases o : σ[j]? with
        | none => rw [o] at q; exact q
        | some o' =>
          cases o' with
          | none => rw [o] at q; exact q
          | some v => rw [o] at q; exact Den.keep kp _ _ q
      | ow d' =>
        obtain ⟨ds, b, zs, f1, f2, f3, f4, f5, _⟩ := r.own e1
        subst f1
        rw [f2]
        have hb : b ≠ a := fun z => h (r.sr.own i j d _ a e e1 eσ (by rw [f2, z]))
        exact ⟨b, zs, rfl, f3, by rw [upd_ne hb]; exact f4, Dens.keep kp _ _ f5⟩
      | cl li cs =>
        cases o : σ[j]? with
        | none => rw [o] at q; exact q
        | some o' =>
          cases o' with
          | none => rw [o] at q; exact q
          | some v =>
            rw [o] at q
            obtain ⟨f, f1, f2⟩ := q
            exact ⟨f, f1, g.stays _ _ _ _ _ _ kp f2⟩
  · obtain ⟨d3, e5⟩ := old j d1 e1
    obtain ⟨d4, e6⟩ := old l d2 e2
    exact r.sr.own j l d3 d4 b e5 e6 e3 e4
  · obtain ⟨d3, e5⟩ := old j d' e1
    exact r.ow j d3 b e5 e2
/-- the town grows -/
theorem WS.tick {T : Addr} {Tb : List NdefX.NTab} {H : Hp} {k : Nat} (w : WS T Tb H k) (hk : k < 16777216) : WS T Tb (upd H T (.lst (List.replicate k (.int 0) ++ [.int 0]))) (k + 1) := by
  refine ⟨⟨by rw [upd_same, List.replicate_succ'], hk⟩, fun q hq => ?_⟩
  obtain ⟨ps, h1, h2, h3⟩ := w.tabs q hq
  refine ⟨ps, by rw [upd_ne (fun z => by rw [z, w.town.1] at h1; cases h1)]; exact h1, h2, fun pos cv hc => ?_⟩
  obtain ⟨c, e1, e2⟩ := h3 pos cv hc
  exact ⟨c, e1, by rw [upd_ne (fun z => by rw [z, w.town.1] at e2; unfold LamX.CodeO at e2; cases e2)]; exact e2⟩
theorem Grow.tick {T : Addr} {H : Hp} {k : Nat} {o : HO} (t : Town T H k) : Grow T H (upd H T o) := ⟨fun a u h n _ => by rw [upd_ne n]; exact h, fun a h => NdefX.upd_none h⟩

/-! ### small statements -/
variable {a b c e : Expr} {f f1 f2 f3 : G.St → M D} {m m1 m2 : G.St → M (G.St × Fl)} {pos p p1 p2 : Pos} {st1 st2 : Stmt} {rest : List Stmt}
theorem sm_nil : PSs X [] (tS g fun st => pure (st, .nx)) := PSsi pss_nil fun D σ H h => by
  obtain ⟨T, H0, k, st, st', fl, k', w, r, em, q⟩ := h
  cases pure_some.mp em
  exact q σ H (Keeps.refl H) w r
def seqM (m1 m2 : G.St → M (G.St × Fl)) : G.St → M (G.St × Fl) := fun st => do
  let (st1, fl) ← m1 st
  match fl with
  | .nx => m2 st1
  | fl => pure (st1, fl)
theorem tS_seq {D : Ends} {σ : L2.St} {H : Hp} (h : tS g (seqM m1 m2) D σ H) : tSeq (tS g m1) (tS g m2) D σ H := by
  obtain ⟨T, H0, k, st, st', fl, k', w, r, em, q⟩ := h
  obtain ⟨⟨s1, f1⟩, k1, e1, e2⟩ := bind_some.mp em
  cases f1 with
  | nx =>
    refine ⟨T, H0, k, st, s1, .nx, k1, w, r, e1, fun σ1 H1 kp w1 r1 => ?_⟩
    exact ⟨T, H0, k1, s1, st', fl, k', w1, r1, e2, fun σ2 H2 kp2 w2 r2 => q σ2 H2 (kp.trans kp2) w2 r2⟩
  | bk => cases pure_some.mp e2; exact ⟨T, H0, k, st, _, _, _, w, r, e1, fun σ1 H1 kp w1 r1 => q σ1 H1 kp w1 r1⟩
  | ct => cases pure_some.mp e2; exact ⟨T, H0, k, st, _, _, _, w, r, e1, fun σ1 H1 kp w1 r1 => q σ1 H1 kp w1 r1⟩
  | rt d => cases pure_some.mp e2; exact ⟨T, H0, k, st, _, _, _, w, r, e1, fun σ1 H1 kp w1 r1 => q σ1 H1 kp w1 r1⟩
theorem sm_cons (h1 : PS X st1 (tS g m1)) (h2 : PSs X rest (tS g m2)) : PSs X (st1 :: rest) (tS g (seqM m1 m2)) := PSsi (pss_cons h1 h2) fun D σ H h => tS_seq h
theorem sm_pass : PS X (.Pass pos) (tS g fun st => pure (st, .nx)) := PSi ps_pass fun D σ H h => by
  obtain ⟨T, H0, k, st, st', fl, k', w, r, em, q⟩ := h
  cases pure_some.mp em
  exact q σ H (Keeps.refl H) w r
theorem sm_brk : PS X (.Break pos) (tS g fun st => pure (st, .bk)) := PSi ps_break fun D σ H h => by
  obtain ⟨T, H0, k, st, st', fl, k', w, r, em, q⟩ := h
  cases pure_some.mp em
  exact q σ H (Keeps.refl H) w r
theorem sm_cnt : PS X (.Continue pos) (tS g fun st => pure (st, .ct)) := PSi ps_continue fun D σ H h => by
  obtain ⟨T, H0, k, st, st', fl, k', w, r, em, q⟩ := h
  cases pure_some.mp em
  exact q σ H (Keeps.refl H) w r
theorem sm_doc {x j pos pos'} : PS X (.Expr (.Constant (.str x) j pos) pos') (tS g fun st => pure (st, .nx)) := PSi ps_doc fun D σ H h => by
  obtain ⟨T, H0, k, st, st', fl, k', w, r, em, q⟩ := h
  cases pure_some.mp em
  exact q σ H (Keeps.refl H) w r
theorem sm_retN : PS X (.Return none pos) (tS g fun st => pure (st, .rt .non)) := PSi ps_retN fun D σ H h => by
  obtain ⟨T, H0, k, st, st', fl, k', w, r, em, q⟩ := h
  cases pure_some.mp em
  exact q σ H (Keeps.refl H) w r _ .non
/-- an expression's reading in a statement -/
theorem tS_expr {σ : L2.St} {H : Hp} {m' : D → G.St → M (G.St × Fl)} {Dn : Ends} (h : tS g (fun st => do let d ← f st; m' d st) Dn σ H) :
    tM g f σ H fun v H1 => ∃ T H0 k st st' fl k' d, WS T g.Tb H1 k ∧ SO g T H0 st σ H1 ∧ Den T g.K H1 v d ∧ m' d st k = some ((st', fl), k') ∧ ∀ σ' H', Keeps H1 H' → WS T g.Tb H' k' → SO g T H0 st' σ' H' → postS g T Dn fl σ' H' := by
  obtain ⟨T, H0, k, st, st', fl, k', w, r, em, q⟩ := h
  obtain ⟨d, k1, e1, e2⟩ := bind_some.mp em
  exact ⟨T, k, st, d, k1, w, r.sr, e1, fun v H1 g1 w1 d1 => ⟨T, H0, k1, st, st', fl, k', d, w1, r.grow g1 w.town, d1, e2, fun σ' H' kp w2 r2 => q σ' H' ((g1.keeps w.town).trans kp) w2 r2⟩⟩
theorem sm_ret (he : PE X e (tM g f)) : PS X (.Return (some e) pos) (tS g fun st => do let d ← f st; pure (st, .rt d)) := PSi (ps_ret he) fun D σ H h => by
  obtain ⟨T, k, st, d, k1, w, r, e1, q⟩ := tS_expr (m' := fun d st => pure (st, .rt d)) h
  refine ⟨T, k, st, d, k1, w, r, e1, fun v H1 g1 w1 d1 => ?_⟩
  obtain ⟨T', H0, k2, s2, s3, fl, k3, d', w2, r2, d2, e2, q2⟩ := q v H1 g1 w1 d1
  cases pure_some.mp e2
  exact q2 σ H1 (Keeps.refl H1) w2 r2 v d2
theorem sm_exp (he : PE X e (tM g f)) (hs : swapsWith e none pos.line X.env = pure false) : PS X (.Expr e pos) (tS g fun st => do let d ← f st; pure (st, .nx)) := PSi (ps_expr he hs) fun D σ H h => by
  obtain ⟨T, k, st, d, k1, w, r, e1, q⟩ := tS_expr (m' := fun d st => pure (st, .nx)) h
  refine ⟨T, k, st, d, k1, w, r, e1, fun v H1 g1 w1 d1 => ?_⟩
  obtain ⟨T', H0, k2, s2, s3, fl, k3, d', w2, r2, d2, e2, q2⟩ := q v H1 g1 w1 d1
  cases pure_some.mp e2
  exact q2 σ H1 (Keeps.refl H1) w2 r2
def setM (i : Nat) (f : G.St → M D) : G.St → M (G.St × Fl) := fun st => do let d ← f st; pure (st.set i (.fr d), .nx)
theorem tAsg_of {i : Nat} {D : Ends} {σ : L2.St} {H : Hp} (h : tS g (setM i f) D σ H) : tAsg (tM g f) (gName i) D σ H := by
  obtain ⟨T, k, st, d, k1, w, r, e1, q⟩ := tS_expr (m' := fun d st => pure (st.set i (.fr d), .nx)) h
  refine ⟨T, k, st, d, k1, w, r, e1, fun v H1 g1 w1 d1 => ?_⟩
  obtain ⟨T', H0, k2, s2, s3, fl, k3, d', w2, r2, d2, e2, q2⟩ := q v H1 g1 w1 d1
  cases pure_some.mp e2
  exact q2 _ H1 (Keeps.refl H1) w2 (r2.setFr d2)
theorem sm_set {i : Nat} {x : Str} (hN : X.N.Nodup) (hi : X.N[i]? = some x) (hx : Loc X.env.scope x) (he : PE X e (tM g f)) (hs : swapsWith e (some (.Name x p)) pos.line X.env = pure false) (hf : X.fn x = true ∨ X.env.scope.names.lookup x = some .local) :
    PS X (.Assign [.Name x p] e pos) (tS g (setM i f)) := PSi (ps_set hN hi hx he hs hf) fun D σ H h => tAsg_of h
def ownM (i : Nat) (f : G.St → M D) : G.St → M (G.St × Fl) := fun st => do let d ← f st; pure (st.set i (.ow d), .nx)
theorem tAsgN_of {i : Nat} {D : Ends} {σ : L2.St} {H : Hp} (hl : ∀ st k d k', f st k = some (d, k') → ∃ ds, d = .lst ds) (h : tS g (ownM i f) D σ H) : tAsg (tN g f) (gName i) D σ H := by
  obtain ⟨T, H0, k, st, st', fl, k', w, r, em, q⟩ := h
  obtain ⟨d, k1, e1, e2⟩ := bind_some.mp em
  cases pure_some.mp e2
  obtain ⟨ds, rfl⟩ := hl _ _ _ _ e1
  refine ⟨T, k, st, _, _, w, r.sr, e1, fun v xs ds' H1 e3 e4 e5 e6 e7 e8 e9 => ?_⟩
  cases e3
  exact q _ H1 (e6.keeps w.town) e7 (r.setOw w.town e6 e4 e5 e8 e9)
theorem sm_own {i : Nat} {x : Str} (hl : ∀ st k d k', f st k = some (d, k') → ∃ ds, d = .lst ds) (hN : X.N.Nodup) (hi : X.N[i]? = some x) (hx : Loc X.env.scope x) (he : PE X e (tN g f)) (hs : swapsWith e (some (.Name x p)) pos.line X.env = pure false) (hf : X.fn x = true ∨ X.env.scope.names.lookup x = some .local) :
    PS X (.Assign [.Name x p] e pos) (tS g (ownM i f)) := PSi (ps_set hN hi hx he hs hf) fun D σ H h => tAsgN_of hl h
end
end G

namespace G
open PySem PySem.Spec PyProof.Rows L2

section
variable {g : Cf} {X : Cx}
variable {a b c e : Expr} {f f1 f2 f3 : G.St → M D} {m m1 m2 : G.St → M (G.St × Fl)} {pos p p1 p2 : Pos} {st1 st2 : Stmt} {rest body : List Stmt}
/-! ### comprehensions that are stored at once -/
theorem sm_ownLc {t : Tg} {tg : TG} {ms : G.St → M (List D)} {fc fe : G.St → M D} {elt tge iter : Expr} {ifs : List Expr} {scope : Scope} {own : List (Str × Nat)} {y : Str} {i : Nat} {py spos : Pos} (hc : X.calm = true) (hN : X.N.Nodup)
    (hy : X.N[i]? = some y) (hyl : X.env.scope.names.lookup y = some .local) (hsw : swapsWith (.ListComp elt [⟨tge, iter, ifs, 0⟩] scope pos) (some (.Name y py)) spos.line X.env = pure true)
    (hi : PI X tge iter (tI g ms)) (ok : BlkOk X.N X.env.scope scope own) (hG : GTg g t tg) (htg : ∀ i ∈ tgIs t, i ∈ own.map (·.2))
    (hg : ∀ (s : Shared) (H : Hp) (C : Addr) (cl : List (Str × Addr)) (fp : List Addr), PG (X.blk s H scope (compEnvC scope cl C X.env) fp) tge tg)
    (ht : ∀ (s : Shared) (H : Hp) (C : Addr) (cl : List (Str × Addr)) (fp : List Addr), PTs (X.blk s H scope (compEnvC scope cl C X.env) fp) ifs (tMB g (truM fc)))
    (he : ∀ (s : Shared) (H : Hp) (C : Addr) (cl : List (Str × Addr)) (fp : List Addr), PE (X.blk s H scope (compEnvC scope cl C X.env) fp) elt (tM g fe)) (hs : ∀ x, foldedSetIterable iter X.env x = pure x) :
    PS X (.Assign [.Name y py] (.ListComp elt [⟨tge, iter, ifs, 0⟩] scope pos) spos) (tS g (ownM i (lcF t ms fc fe (own.map (·.2))))) :=
  PSi (ps_setLc hc hN hy hyl hsw hi ok hg ht he hs) fun Dn σ H h => by
    have hl : ∀ st k d k', lcF t ms fc fe (own.map (·.2)) st k = some (d, k') → ∃ ds, d = .lst ds := fun st k d k' e => by
      obtain ⟨l, k1, e1, e2⟩ := bind_some.mp e
      obtain ⟨l2, k2, e3, e4⟩ := bind_some.mp e2
      cases pure_some.mp e4
      exact ⟨_, rfl⟩
    exact tLc_of hG htg (tAsgN_of hl h)
/-- the same, then locked -/
theorem lockO {T : Addr} {H0 H : Hp} {st : G.St} {σ : L2.St} {i k : Nat} {d : D} {pins : List (Addr × Obj)} {s : Shared} (I : Inv X pins σ H s) (w : WS T g.Tb H k) (r : SO g T H0 st σ H) (e : st[i]? = some (.ow d)) :
    ∃ H', Inv X pins σ H' s ∧ Keeps H H' ∧ WS T g.Tb H' k ∧ SO g T H0 (st.set i (.fr d)) σ H' := by
  obtain ⟨ds, a, xs, rfl, e1, e2, e3, e4, e5⟩ := r.own e
  obtain ⟨o, I2⟩ := I.lock e3 trivial
  have kp : Keeps H (upd H a (.frz o (.lst xs))) := keeps_upd e3 (fun _ z => nomatch z) (fun _ _ z => nomatch z)
  have hi : i < st.length := by
    rcases Nat.lt_or_ge i st.length with z | z
    · exact z
    · rw [List.getElem?_eq_none z] at e; cases e
  have old : ∀ (j : Nat) (d' : D), (st.set i (.fr (.lst ds)))[j]? = some (.ow d') → st[j]? = some (.ow d') ∧ i ≠ j := fun j d' e1 => by
    rw [List.getElem?_set] at e1
    by_cases h : i = j
    · rw [if_pos h] at e1; split at e1 <;> cases e1
    · rw [if_neg h] at e1
      exact ⟨e1, h⟩
  refine ⟨_, I2, kp, w.updL e3 e2, ⟨⟨by rw [List.length_set, r.sr.len], fun j s' q1 => ?_, fun j l d1 d2 b f1 f2 f3 f4 => ?_⟩, r.gr.at e5, fun j d' b f1 f2 => ?_⟩⟩
  · rw [List.getElem?_set] at q1
    by_cases h : i = j
    · rw [if_pos h, if_pos hi] at q1
      cases q1
      rw [← h, e1]
      exact .lst upd_same (Dens.keep kp _ _ e4)
    · rw [if_neg h] at q1
      have q := r.sr.at' j s' q1
      cases s' with
      | un => exact True.intro
      | fr d' =>
        cases o' : σ[j]? with
        | none => rw [o'] at q; exact q
        | some o'' =>
          cases o'' with
          | none => rw [o'] at q; exact q
          | some v => rw [o'] at q; exact Den.keep kp _ _ q
      | ow d' =>
        obtain ⟨ds', b, zs, f1, f2, f3, f4, f5, _⟩ := r.own q1
        subst f1
        rw [f2]
        have hb : b ≠ a := fun z => h (r.sr.own i j _ _ a e q1 e1 (by rw [f2, z]))
        exact ⟨b, zs, rfl, f3, by rw [upd_ne hb]; exact f4, Dens.keep kp _ _ f5⟩
      | cl li cs =>
        cases o' : σ[j]? with
        | none => rw [o'] at q; exact q
        | some o'' =>
          cases o'' with
          | none => rw [o'] at q; exact q
          | some v =>
            rw [o'] at q
            obtain ⟨f, f1, f2⟩ := q
            exact ⟨f, f1, g.stays _ _ _ _ _ _ kp f2⟩
  · exact r.sr.own j l d1 d2 b (old j d1 f1).1 (old l d2 f2).1 f3 f4
  · exact r.ow j d' b (old j d' f1).1 f2
theorem set_same {α : Type} : ∀ {l : List α} {i : Nat} {x : α}, l[i]? = some x → l.set i x = l
  | [], _, _, h => by cases h
  | y :: l, 0, x, h => by cases h; rfl
  | y :: l, i + 1, x, h => by
    rw [List.set_cons_succ, set_same (by simpa using h)]
theorem fz_step {T : Addr} {H0 : Hp} {σ : L2.St} {k : Nat} {pins : List (Addr × Obj)} {s : Shared} : ∀ (is : List Nat) {st : G.St} {H : Hp}, Inv X pins σ H s → WS T g.Tb H k → SO g T H0 st σ H →
    ∃ H', Inv X pins σ H' s ∧ Keeps H H' ∧ WS T g.Tb H' k ∧ SO g T H0 (fz st is) σ H'
  | [], st, H, I, w, r => ⟨H, I, Keeps.refl H, w, r⟩
  | i :: is, st, H, I, w, r => by
    unfold fz
    cases e : st[i]? with
    | none => exact fz_step is I w r
    | some sl =>
      cases sl with
      | ow d =>
        obtain ⟨H1, I1, kp, w1, r1⟩ := lockO I w r e
        obtain ⟨H2, I2, kp2, w2, r2⟩ := fz_step is I1 w1 r1
        exact ⟨H2, I2, kp.trans kp2, w2, r2⟩
      | un =>
        show ∃ H', _ ∧ _ ∧ _ ∧ SO g T H0 (fz (st.set i .un) is) σ H'
        rw [set_same e]
        exact fz_step is I w r
      | fr d =>
        show ∃ H', _ ∧ _ ∧ _ ∧ SO g T H0 (fz (st.set i (.fr d)) is) σ H'
        rw [set_same e]
        exact fz_step is I w r
      | cl li cs =>
        show ∃ H', _ ∧ _ ∧ _ ∧ SO g T H0 (fz (st.set i (.cl li cs)) is) σ H'
        rw [set_same e]
        exact fz_step is I w r
theorem sm_fz {is : List Nat} {sts : List Stmt} (h : PSs X sts (tS g m)) : PSs X sts (tS g fun st => m (fz st is)) := by
  refine ⟨fun pins s σ H Dn I hq => ?_⟩
  obtain ⟨T, H0, k, st, st', fl, k', w, r, em, q⟩ := hq
  obtain ⟨H1, I1, kp, w1, r1⟩ := fz_step is I w r
  exact h.run pins s σ H1 Dn I1 ⟨T, H0, k, _, st', fl, k', w1, r1, em, fun σ' H' kp2 w2 r2 => q σ' H' (kp.trans kp2) w2 r2⟩

/-! ### targets -/
theorem bind_ow {t : Tg} {d : D} {st st' : G.St} {k k' : Nat} (h : bindTg t d st k = some (st', k')) {j : Nat} {d' : D} (e : st'[j]? = some (.ow d')) : st[j]? = some (.ow d') ∧ j ∉ tgIs t := by
  have one : ∀ (st : G.St) (i : Nat) (x : D), (st.set i (.fr x))[j]? = some (.ow d') → st[j]? = some (.ow d') ∧ j ≠ i := fun st i x e1 => by
    rw [List.getElem?_set] at e1
    by_cases h : i = j
    · rw [if_pos h] at e1; split at e1 <;> cases e1
    · rw [if_neg h] at e1
      exact ⟨e1, Ne.symm h⟩
  cases t with
  | one i =>
    cases pure_some.mp h
    obtain ⟨q1, q2⟩ := one _ _ _ e
    exact ⟨q1, by simp [tgIs, q2]⟩
  | two i l =>
    cases d with
    | tup ds =>
      cases ds with
      | nil => exact absurd h (no_some (k := k))
      | cons a ds =>
        cases ds with
        | nil => exact absurd h (no_some (k := k))
        | cons b ds =>
          cases ds with
          | cons _ _ => exact absurd h (no_some (k := k))
          | nil =>
            cases pure_some.mp h
            obtain ⟨q1, q2⟩ := one _ _ _ e
            obtain ⟨q3, q4⟩ := one _ _ _ q1
            exact ⟨q3, by simp [tgIs, q2, q4]⟩
    | _ => exact absurd h (no_some (k := k))
theorem gtg_so {t : Tg} {tg : TG} (hG : GTg g t tg) {T : Addr} {H0 : Hp} {k k' : Nat} {st st' : G.St} {σ : L2.St} {H : Hp} {x : V} {d : D} {Q : L2.St → Hp → Prop} (w : WS T g.Tb H k) (r : SO g T H0 st σ H) (hd : Den T g.K H x d) (e : bindTg t d st k = some (st', k'))
    (q : ∀ σ', SO g T H0 st' σ' H → k' = k → Q σ' H) : tg x σ H Q :=
  hG T k k' st st' σ H x d Q w r.sr hd e fun σ' r' _ hσ ek => q σ' ⟨r', r.gr, fun i d' a e1 e2 => by
    obtain ⟨e3, e4⟩ := bind_ow e e1
    exact r.ow i d' a e3 (by rw [← hσ i e4]; exact e2)⟩ ek
def tgtM (t : Tg) (f : G.St → M D) : G.St → M (G.St × Fl) := fun st => do let d ← f st; let st' ← bindTg t d st; pure (st', .nx)
theorem sm_tgt {t : Tg} {tg : TG} {tge : Expr} (hG : GTg g t tg) (hg : PG X tge tg) (he : PE X e (tM g f)) (hs : swapsWithSole [tge] e pos.line X.env = pure false) (hw : swappedStores [tge] e X.env = pure none) (h1 : (assignEach [tge] X.env).map (·.2) = [assign tge X.env]) :
    PS X (.Assign [tge] e pos) (tS g (tgtM t f)) := PSi (ps_asg he hg hs hw h1) fun Dn σ H h => by
  obtain ⟨T, k, st, d, k1, w, r, e1, q⟩ := tS_expr (m' := fun d st => do let st' ← bindTg t d st; pure (st', .nx)) h
  refine ⟨T, k, st, d, k1, w, r, e1, fun v H1 g1 w1 d1 => ?_⟩
  obtain ⟨T', H0, k2, s2, s3, fl, k3, d', w2, r2, d2, e2, q2⟩ := q v H1 g1 w1 d1
  obtain ⟨st', k4, e3, e4⟩ := bind_some.mp e2
  cases pure_some.mp e4
  exact gtg_so hG w2 r2 d2 e3 fun σ' r' ek => by
    subst ek
    exact q2 σ' H1 (Keeps.refl H1) w2 r'

/-! ### if, while, for -/
def iteS (f : G.St → M D) (m1 m2 : G.St → M (G.St × Fl)) : G.St → M (G.St × Fl) := fun st => do let d ← f st; let r ← tru d; if r then m1 st else m2 st
theorem sm_if {sa sb : List Stmt} (hc : PT X c (tMB g (truM f))) (ha : PSs X sa (tS g m1)) (hb : PSs X sb (tS g m2)) : PS X (.If c sa sb pos) (tS g (iteS f m1 m2)) := PSi (ps_if hc ha hb) fun Dn σ H h => by
  obtain ⟨T, H0, k, st, st', fl, k', w, r, em, q⟩ := h
  obtain ⟨d, k1, e1, e2⟩ := bind_some.mp em
  obtain ⟨b', k2, e3, e4⟩ := bind_some.mp e2
  refine ⟨T, k, st, b', k2, w, r.sr, bind_some.mpr ⟨d, k1, e1, e3⟩, fun H1 g1 w1 => ?_⟩
  cases b' with
  | true => exact ⟨T, H0, k2, st, st', fl, k', w1, r.grow g1 w.town, e4, fun σ' H' kp w2 r2 => q σ' H' ((g1.keeps w.town).trans kp) w2 r2⟩
  | false => exact ⟨T, H0, k2, st, st', fl, k', w1, r.grow g1 w.town, e4, fun σ' H' kp w2 r2 => q σ' H' ((g1.keeps w.town).trans kp) w2 r2⟩
def whR (f : G.St → M D) (m : G.St → M (G.St × Fl)) (n : Nat) : G.St × Fl → M (G.St × Fl) := fun x => match x with
  | (st1, fl) => match fl with
    | .nx => whM (truM f) m n st1
    | .ct => whM (truM f) m n st1
    | .bk => pure (st1, .nx)
    | .rt d => pure (st1, .rt d)
theorem sm_while (hp : PassesOwn (model X.prog X.w) X.A X.env X.xe) (hc : PT X c (tMB g (truM f))) (hb : PSs X body (tS g m)) : PS X (.While c body [] pos) (tS g fun st => whM (truM f) m fuel st) := PSi (ps_while hp hc hb) fun Dn σ H h => by
  obtain ⟨T, H0, k, st, st', fl, k', w, r, em, q⟩ := h
  refine ⟨fun n σ1 H1 => ∃ st1 k1, WS T g.Tb H1 k1 ∧ SO g T H0 st1 σ1 H1 ∧ Keeps H H1 ∧ whM (truM f) m n st1 k1 = some ((st', fl), k'), ⟨fuel, st, k, w, r, Keeps.refl H, em⟩, ?_⟩
  rintro n σ1 H1 ⟨st1, k1, w1, r1, kp1, e1⟩
  cases n with
  | zero => exact absurd e1 (no_some (k := k1))
  | succ n =>
    obtain ⟨b', k2, e2, e3⟩ := bind_some.mp (show (truM f st1 >>= fun b => if b = true then m st1 >>= whR f m n else pure (st1, .nx) : M (G.St × Fl)) k1 = some ((st', fl), k') from e1)
    refine ⟨T, k1, st1, b', k2, w1, r1.sr, e2, fun H2 g2 w2 => ?_⟩
    have r2 := r1.grow g2 w1.town
    have kp2 := kp1.trans (g2.keeps w1.town)
    cases b' with
    | false =>
      cases pure_some.mp (show (pure (st1, .nx) : M (G.St × Fl)) k2 = some ((st', fl), k') from e3)
      exact q σ1 H2 kp2 w2 r2
    | true =>
      obtain ⟨⟨s1, f1⟩, k3, e4, e5⟩ := bind_some.mp (show (m st1 >>= whR f m n : M (G.St × Fl)) k2 = some ((st', fl), k') from e3)
      refine ⟨fun σ' H' => ∃ m', m' < n + 1 ∧ ∃ st1 k1, WS T g.Tb H' k1 ∧ SO g T H0 st1 σ' H' ∧ Keeps H H' ∧ whM (truM f) m m' st1 k1 = some ((st', fl), k'), fun σ' H' h => h, ?_⟩
      refine ⟨T, H0, k2, st1, s1, f1, k3, w2, r2, e4, fun σ' H' kp3 w3 r3 => ?_⟩
      cases f1 with
      | nx => exact ⟨n, Nat.lt_succ_self n, s1, k3, w3, r3, kp2.trans kp3, e5⟩
      | ct => exact ⟨n, Nat.lt_succ_self n, s1, k3, w3, r3, kp2.trans kp3, e5⟩
      | bk => cases pure_some.mp e5; exact q σ' H' (kp2.trans kp3) w3 r3
      | rt d => cases pure_some.mp e5; exact fun v hv => q σ' H' (kp2.trans kp3) w3 r3 v hv
def forF (t : Tg) (ms : G.St → M (List D)) (m : G.St → M (G.St × Fl)) : G.St → M (G.St × Fl) := fun st => do
  let l ← ms st
  forM' (fun d st => do let st' ← bindTg t d st; m st') l st
theorem sm_for {t : Tg} {tg : TG} {ms : G.St → M (List D)} {tge iter : Expr} (hp : PassesOwn (model X.prog X.w) X.A X.env X.xe) (hc : X.calm = true) (hi : PI X tge iter (tI g ms)) (hG : GTg g t tg) (hg : PG X tge tg) (hb : PSs X body (tS g m)) (hs : ∀ x, foldedSetIterable iter X.env x = pure x) :
    PS X (.For tge iter body [] pos) (tS g (forF t ms m)) := PSi (ps_for hp hc hi hg hb hs) fun Dn σ H h => by
  obtain ⟨T, H0, k, st, st', fl, k', w, r, em, q⟩ := h
  obtain ⟨l, k1, e1, e2⟩ := bind_some.mp em
  refine ⟨T, k, st, l, k1, w, r.sr, e1, fun J H1 g1 w1 gi hl => ?_⟩
  refine ⟨fun i n σ2 H2 => n = l.length - i ∧ i ≤ l.length ∧ ∃ st2 k2, WS T g.Tb H2 k2 ∧ SO g T H0 st2 σ2 H2 ∧ Keeps H1 H2 ∧ forM' (fun d st => do let st' ← bindTg t d st; m st') (l.drop i) st2 k2 = some ((st', fl), k'),
    ⟨l.length, by simp, Nat.zero_le _, st, k1, w1, r.grow g1 w.town, Keeps.refl H1, by simpa using e2⟩, ?_⟩
  rintro i n σ2 H2 ⟨hn, hi, st2, k2, w2, r2, kp2, e3⟩
  obtain ⟨stop, go⟩ := gi H2 k2 kp2 w2
  by_cases hil : i = l.length
  · refine .inl ⟨stop i (Nat.le_of_eq hil.symm), ?_⟩
    rw [List.drop_eq_nil_of_le (Nat.le_of_eq hil.symm)] at e3
    cases pure_some.mp e3
    exact q σ2 H2 ((g1.keeps w.town).trans kp2) w2 r2
  · have hlt : i < l.length := Nat.lt_of_le_of_ne hi hil
    obtain ⟨go1, yl⟩ := go i l[i] (List.getElem?_eq_getElem hlt)
    refine .inr ⟨go1, fun σ' H' => ∃ m', m' < n ∧ (m' = l.length - (i + 1) ∧ i + 1 ≤ l.length ∧ ∃ st2 k2, WS T g.Tb H' k2 ∧ SO g T H0 st2 σ' H' ∧ Keeps H1 H' ∧ forM' (fun d st => do let st' ← bindTg t d st; m st') (l.drop (i + 1)) st2 k2 = some ((st', fl), k')), fun σ' H' h => h, fun x H3 hy => ?_⟩
    obtain ⟨g3, w3, d3⟩ := yl x H3 hy
    rw [List.drop_eq_getElem_cons hlt] at e3
    obtain ⟨⟨s1, f1⟩, k3, e4, e5⟩ := bind_some.mp (show (do
      let (st1, fl) ← (do let st' ← bindTg t l[i] st2; m st' : M (G.St × Fl))
      match fl with
      | .nx => forM' (fun d st => do let st' ← bindTg t d st; m st') (l.drop (i + 1)) st1
      | .ct => forM' (fun d st => do let st' ← bindTg t d st; m st') (l.drop (i + 1)) st1
      | .bk => pure (st1, .nx)
      | .rt d => pure (st1, .rt d) : M (G.St × Fl)) k2 = some ((st', fl), k') from e3)
    obtain ⟨s2, k4, e6, e7⟩ := bind_some.mp e4
    refine gtg_so hG w3 (r2.grow g3 w2.town) d3 e6 fun σ4 r4 ek => ?_
    subst ek
    refine ⟨T, H0, _, s2, s1, f1, k3, w3, r4, e7, fun σ' H' kp5 w5 r5 => ?_⟩
    have kp6 := (kp2.trans (g3.keeps w2.town)).trans kp5
    have hm : l.length - (i + 1) < n := by omega
    cases f1 with
    | nx => exact ⟨_, hm, rfl, hlt, s1, k3, w5, r5, kp6, e5⟩
    | ct => exact ⟨_, hm, rfl, hlt, s1, k3, w5, r5, kp6, e5⟩
    | bk => cases pure_some.mp e5; exact q σ' H' ((g1.keeps w.town).trans kp6) w5 r5
    | rt d => cases pure_some.mp e5; exact fun v hv => q σ' H' ((g1.keeps w.town).trans kp6) w5 r5 v hv
end
end G

namespace G
open PySem PySem.Spec PyProof.Rows L2

section
variable {g : Cf} {X : Cx}
variable {a b c e : Expr} {f f1 f2 f3 : G.St → M D} {m m1 m2 : G.St → M (G.St × Fl)} {pos p p1 p2 apos cpos : Pos} {i j : Nat} {x y z : Str}
theorem getO_some {st : G.St} {i k : Nat} {r : D × Nat} (h : getO st i k = some r) : st[i]? = some (.ow r.1) ∧ r.2 = k := by
  unfold getO at h
  cases e : st[i]? with
  | none => rw [e] at h; exact absurd h (no_some (k := k))
  | some sl =>
    rw [e] at h
    cases sl with
    | ow d => cases pure_some.mp h; exact ⟨rfl, rfl⟩
    | _ => exact absurd h (no_some (k := k))
/-- a method of a list in a slot, with one argument -/
theorem pe_lm {name : Str} {id : String} {r : V → List V → Hp → VK → Prop} {te : TE} (slot : Slot "list" name id) (ty : typeOf (.builtin id) = pure (.type "method_descriptor")) (hm : MtM X id r) (hN : X.N[i]? = some x) (hv : Vis X.env.scope x)
    (hd : (x == ("__debug__" : Str)) = false) (hcd : (x == ("__classdict__" : Str)) = false) (hs : ∀ v p, e ≠ .Starred v p) (he : PE X e te) (hline : (apos.endLine == cpos.line) = true) :
    PE X (.Call (.Attribute (.Name x p) name apos) [e] [] cpos) (tBM X.K "list" r (tVar i) (tCons te tNil)) :=
  pe_bm PySem.F.plainAttrs_list slot ty hm (pe_var hN hv hd hcd) (pa_cons he pa_nil (starEach_ok hs)) rfl (by rw [starEach_ok hs]; rfl) hline (starEach_ok hs) rfl
def appM (i : Nat) (f : G.St → M D) : G.St → M (G.St × Fl) := fun st => do
  let d ← f st
  let x ← getO st i
  let y ← appD x d
  pure (st.set i (.ow y), .nx)
theorem app_some {l : List D} {d y : D} {k k' : Nat} (h : appD (.lst l) d k = some (y, k')) : l.length < 16777216 ∧ y = .lst (l ++ [d]) ∧ k' = k := by
  obtain ⟨h1, h2⟩ := if_some (show (if l.length < 16777216 then (pure (.lst (l ++ [d])) : M D) else no) k = some (y, k') from h)
  cases pure_some.mp h2
  exact ⟨h1, rfl, rfl⟩
theorem sm_app (hN : X.N[i]? = some x) (hv : Vis X.env.scope x) (hd : (x == ("__debug__" : Str)) = false) (hcd : (x == ("__classdict__" : Str)) = false) (hs : ∀ v p, e ≠ .Starred v p) (he : PE X e (tM g f)) (hline : (apos.endLine == cpos.line) = true) :
    PS X (.Expr (.Call (.Attribute (.Name x p) "append" apos) [e] [] cpos) pos) (tS g (appM i f)) :=
  PSi (ps_expr (pe_lm PySem.F.slot_list_append PySem.F.type_list_append mt_append hN hv hd hcd hs he hline) rfl) fun Dn σ H h => by
    obtain ⟨T, H0, k, st, st', fl, k', w, r, em, q⟩ := h
    obtain ⟨d, k1, e1, e2⟩ := bind_some.mp em
    obtain ⟨xd, k2, e3, e4⟩ := bind_some.mp e2
    obtain ⟨y, k3, e5, e6⟩ := bind_some.mp e4
    cases pure_some.mp e6
    obtain ⟨e7, e8⟩ := getO_some e3
    cases e8
    obtain ⟨ds, a, xs, rfl, o1, o2, o3, o4, o5⟩ := r.own e7
    obtain ⟨z1, z2, z3⟩ := app_some e5
    subst z2 z3
    refine ⟨_, o1, .inl ⟨rfl, _, .inl (.inl o3)⟩, T, k, st, d, _, w, r.sr, e1, fun v H1 g1 w1 d1 => ?_⟩
    have o3' : H1 a = some (.lst xs) := g1.keep _ _ o3 o2 (fun _ z => nomatch z)
    have kp : Keeps H1 (upd H1 a (.lst (xs ++ [v]))) := keeps_upd o3' (fun _ z => nomatch z) (fun _ _ z => nomatch z)
    refine ⟨a, xs, v, rfl, rfl, o3', by rw [sizeLine_eq, o4.length]; exact z1, ?_⟩
    exact q σ _ ((g1.keeps w.town).trans kp) (w1.updL o3' o2) ((r.grow g1 w.town).upOw e7 o1 o3' o2 ((Dens.keep (g1.keeps w.town) _ _ o4).snoc d1))
def extM (i : Nat) (f : G.St → M D) : G.St → M (G.St × Fl) := fun st => do
  let d ← f st
  let x ← getO st i
  let y ← extD x d
  pure (st.set i (.ow y), .nx)
theorem ext_some {l : List D} {d y : D} {k k' : Nat} (h : extD (.lst l) d k = some (y, k')) : ∃ r, d = .lst r ∧ l.length + r.length ≤ 16777216 ∧ y = .lst (l ++ r) ∧ k' = k := by
  cases d with
  | lst r =>
    obtain ⟨h1, h2⟩ := if_some (show (if l.length + r.length ≤ 16777216 then (pure (.lst (l ++ r)) : M D) else no) k = some (y, k') from h)
    cases pure_some.mp h2
    exact ⟨r, rfl, h1, rfl, rfl⟩
  | _ => exact absurd h (no_some (k := k))
theorem sm_ext (hN : X.N[i]? = some x) (hv : Vis X.env.scope x) (hd : (x == ("__debug__" : Str)) = false) (hcd : (x == ("__classdict__" : Str)) = false) (hs : ∀ v p, e ≠ .Starred v p) (he : PE X e (tN g f)) (hline : (apos.endLine == cpos.line) = true) :
    PS X (.Expr (.Call (.Attribute (.Name x p) "extend" apos) [e] [] cpos) pos) (tS g (extM i f)) :=
  PSi (ps_expr (pe_lm PySem.F.slot_list_extend PySem.F.type_list_extend mt_extend hN hv hd hcd hs he hline) rfl) fun Dn σ H h => by
    obtain ⟨T, H0, k, st, st', fl, k', w, r, em, q⟩ := h
    obtain ⟨d, k1, e1, e2⟩ := bind_some.mp em
    obtain ⟨xd, k2, e3, e4⟩ := bind_some.mp e2
    obtain ⟨y, k3, e5, e6⟩ := bind_some.mp e4
    cases pure_some.mp e6
    obtain ⟨e7, e8⟩ := getO_some e3
    cases e8
    obtain ⟨ds, a, xs, rfl, o1, o2, o3, o4, o5⟩ := r.own e7
    obtain ⟨r0, rfl, z1, z2, z3⟩ := ext_some e5
    subst z2 z3
    refine ⟨_, o1, .inl ⟨rfl, _, .inl (.inl o3)⟩, T, k, st, _, _, w, r.sr, e1, fun b ys ds' H1 b1 b2 b3 g1 w1 b4 b5 => ?_⟩
    cases b1
    have o3' : H1 a = some (.lst xs) := g1.keep _ _ o3 o2 (fun _ z => nomatch z)
    have kp : Keeps H1 (upd H1 a (.lst (xs ++ ys))) := keeps_upd o3' (fun _ z => nomatch z) (fun _ _ z => nomatch z)
    refine ⟨a, b, xs, ys, rfl, rfl, o3', b4, by rw [sizeLine_eq, o4.length, b5.length]; exact z1, ?_⟩
    exact q σ _ ((g1.keeps w.town).trans kp) (w1.updL o3' o2) ((r.grow g1 w.town).upOw e7 o1 o3' o2 ((Dens.keep (g1.keeps w.town) _ _ o4).append b5))
/-- the town -/
def tickS (i : Nat) : G.St → M (G.St × Fl) := fun st => do let d ← getV st i; tickM d; pure (st, .nx)
theorem tick_some {d : D} {k : Nat} {r : Unit × Nat} (h : tickM d k = some r) : d = .town ∧ k < 16777216 ∧ r = ((), k + 1) := by
  cases d with
  | town =>
    by_cases z : k < 16777216
    · have := show (if k < 16777216 then some ((), k + 1) else none) = some r from h
      rw [if_pos z] at this
      exact ⟨rfl, z, (Option.some.inj this).symm⟩
    · have := show (if k < 16777216 then some ((), k + 1) else none) = some r from h
      rw [if_neg z] at this
      cases this
  | _ => exact absurd h (fun z => nomatch z)
theorem sm_tick {n : Nat} {q1 : Pos} (hN : X.N[i]? = some x) (hv : Vis X.env.scope x) (hd : (x == ("__debug__" : Str)) = false) (hcd : (x == ("__classdict__" : Str)) = false) (hline : (apos.endLine == cpos.line) = true) :
    PS X (.Expr (.Call (.Attribute (.Name x p) "append" apos) [.Constant (.int 0) n q1] [] cpos) pos) (tS g (tickS i)) :=
  PSi (ps_expr (pe_lm PySem.F.slot_list_append PySem.F.type_list_append mt_append hN hv hd hcd (by intro _ _ z; cases z) pe_int hline) rfl) fun Dn σ H h => by
    obtain ⟨T, H0, k, st, st', fl, k', w, r, em, q⟩ := h
    obtain ⟨d, k1, e1, e2⟩ := bind_some.mp em
    obtain ⟨u, k2, e3, e4⟩ := bind_some.mp e2
    cases pure_some.mp e4
    obtain ⟨rfl, hk, e5⟩ := tick_some e3
    cases e5
    obtain ⟨e6, e7, v, e8, e9⟩ := getV_sr r.sr e1
    cases e6
    cases e9
    refine ⟨_, e8, .inl ⟨rfl, _, .inl (.inl w.town.1)⟩, ?_⟩
    refine ⟨T, _, _, rfl, rfl, w.town.1, by rw [sizeLine_eq, List.length_replicate]; exact hk, ?_⟩
    exact q σ _ (keeps_upd w.town.1 (fun _ z => nomatch z) (fun _ _ z => nomatch z)) (w.tick hk) (r.grow (Grow.tick w.town) w.town)
/-- list[k] = e -/
def stiM (i : Nat) (f fk : G.St → M D) : G.St → M (G.St × Fl) := fun st => do
  let d ← f st
  let x ← getO st i
  let j ← fk st
  let y ← stiD x j d
  pure (st.set i (.ow y), .nx)
theorem ixN_eq2 (n : Nat) (i : Int) : L2.ixN n i = G.ixN n i := by
  unfold L2.ixN G.ixN
  by_cases h0 : 0 ≤ i
  · rw [if_pos h0, if_pos h0]
  · rw [if_neg h0, if_neg h0]
    by_cases h1 : 0 ≤ i + n
    · rw [if_pos (by omega), if_pos h1]
    · rw [if_neg (by omega), if_neg h1]
theorem sti_some {l : List D} {kd d y : D} {k k' : Nat} (h : stiD (.lst l) kd d k = some (y, k')) : ∃ i j, kd = .int i ∧ G.ixN l.length i = some j ∧ y = .lst (l.set j d) ∧ k' = k := by
  cases kd with
  | int i =>
    cases e : G.ixN l.length i with
    | none =>
      have h2 : (match G.ixN l.length i with | some j => (pure (.lst (l.set j d)) : M D) | none => no) k = some (y, k') := h
      rw [e] at h2
      exact absurd h2 (no_some (k := k))
    | some j =>
      have h2 : (match G.ixN l.length i with | some j => (pure (.lst (l.set j d)) : M D) | none => no) k = some (y, k') := h
      rw [e] at h2
      cases pure_some.mp h2
      exact ⟨i, j, rfl, e, rfl, rfl⟩
  | _ => exact absurd h (no_some (k := k))
theorem sm_sti {spos : Pos} (hN : X.N[i]? = some x) (hv : Vis X.env.scope x) (hd : (x == ("__debug__" : Str)) = false) (hcd : (x == ("__classdict__" : Str)) = false) (he : PE X e (tM g f1)) (hk : PE X c (tM g f2))
    (hs : swapsWithSole [.Subscript (.Name x p) c spos] e pos.line X.env = pure false) (hw : swappedStores [.Subscript (.Name x p) c spos] e X.env = pure none)
    (ha : ∀ v, assign (.Subscript (.Name x p) c spos) X.env v = (do
      let ov ← holding [v] (eval (.Name x p) X.env)
      let iv ← holding [v, ov] (eval c X.env)
      standAt spos
      holding [v, ov, iv] (setItem ov iv v)
      release [v, ov, iv] [])) (h1 : (assignEach [.Subscript (.Name x p) c spos] X.env).map (·.2) = [assign (.Subscript (.Name x p) c spos) X.env]) :
    PS X (.Assign [.Subscript (.Name x p) c spos] e pos) (tS g (stiM i f1 f2)) :=
  PSi (ps_asg he (pg_sub (pe_var hN hv hd hcd) hk set_list ha) hs hw h1) fun Dn σ H h => by
    obtain ⟨T, H0, k, st, st', fl, k', w, r, em, q⟩ := h
    obtain ⟨d, k1, e1, e2⟩ := bind_some.mp em
    obtain ⟨xd, k2, e3, e4⟩ := bind_some.mp e2
    obtain ⟨kd, k3, e5, e6⟩ := bind_some.mp e4
    obtain ⟨y, k4, e7, e8⟩ := bind_some.mp e6
    cases pure_some.mp e8
    obtain ⟨e9, e10⟩ := getO_some e3
    cases e10
    obtain ⟨ds, a, xs, rfl, o1, o2, o3, o4, o5⟩ := r.own e9
    obtain ⟨ii, jj, rfl, z1, z2, z3⟩ := sti_some e7
    subst z2 z3
    refine ⟨T, k, st, d, _, w, r.sr, e1, fun v H1 g1 w1 d1 => ⟨_, o1, T, _, st, _, _, w1, (r.grow g1 w.town).sr, e5, fun v2 H2 g2 w2 d2 => ?_⟩⟩
    have o3' : H2 a = some (.lst xs) := (g1.trans g2).keep _ _ o3 o2 (fun _ z => nomatch z)
    have kp : Keeps H2 (upd H2 a (.lst (xs.set jj v))) := keeps_upd o3' (fun _ z => nomatch z) (fun _ _ z => nomatch z)
    have g12 := g1.trans g2
    refine ⟨a, xs, ii, jj, rfl, int_den d2, o3', by rw [ixN_eq2, o4.length]; exact z1, ?_⟩
    exact q σ _ ((g12.keeps w.town).trans kp) (w2.updL o3' o2) ((r.grow g12 w.town).upOw e9 o1 o3' o2 (Dens.set (Den.keep (g2.keeps w1.town) _ _ d1) _ (Dens.keep (g12.keeps w.town) _ _ o4)))
/-- found.append(left.pop(e)) -/
def popM (i j : Nat) (f : G.St → M D) : G.St → M (G.St × Fl) := fun st => do
  let k ← f st
  let x ← getO st j
  let (d, x') ← popD x k
  let w ← getO st i
  let y ← appD w d
  pure ((st.set j (.ow x')).set i (.ow y), .nx)
theorem pop_some {l : List D} {kd : D} {k k' : Nat} {d y : D} (h : popD (.lst l) kd k = some ((d, y), k')) : ∃ i j, kd = .int i ∧ smallI i = true ∧ G.ixN l.length i = some j ∧ l[j]? = some d ∧ y = .lst (l.eraseIdx j) ∧ k' = k := by
  cases kd with
  | int i =>
    have h1 : (if ¬ smallI i = true then no else (match G.ixN l.length i with | some j => (match l[j]? with | some d => (pure (d, .lst (l.eraseIdx j)) : M (D × D)) | none => no) | none => no) : M (D × D)) k = some ((d, y), k') := h
    by_cases hi : ¬ smallI i = true
    · rw [if_pos hi] at h1
      exact absurd h1 (no_some (k := k))
    rw [if_neg hi] at h1
    have hi := Classical.not_not.mp hi
    have h2 := h1
    cases e : G.ixN l.length i with
    | none => rw [e] at h2; exact absurd h2 (no_some (k := k))
    | some j =>
      rw [e] at h2
      cases e2 : l[j]? with
      | none =>
        have h3 : (match l[j]? with | some d => (pure (d, .lst (l.eraseIdx j)) : M (D × D)) | none => no) k = some ((d, y), k') := h2
        rw [e2] at h3
        exact absurd h3 (no_some (k := k))
      | some d' =>
        have h3 : (match l[j]? with | some d => (pure (d, .lst (l.eraseIdx j)) : M (D × D)) | none => no) k = some ((d, y), k') := h2
        rw [e2] at h3
        cases pure_some.mp h3
        exact ⟨i, j, rfl, hi, e, e2, rfl, rfl⟩
  | _ => exact absurd h (no_some (k := k))
theorem seqIndex_ixN {n : Nat} {i : Int} {j : Nat} (h : G.ixN n i = some j) : seqIndex? i n = some j ∧ j < n ∧ -(n : Int) ≤ i ∧ i < n := ixN_seq (by rw [ixN_eq2]; exact h)
theorem sm_pop {a2 c2 q2 : Pos} (hij : i ≠ j) (hN : X.N[i]? = some x) (hv : Vis X.env.scope x) (hd : (x == ("__debug__" : Str)) = false) (hcd : (x == ("__classdict__" : Str)) = false)
    (hN' : X.N[j]? = some y) (hv' : Vis X.env.scope y) (hd' : (y == ("__debug__" : Str)) = false) (hcd' : (y == ("__classdict__" : Str)) = false) (hs : ∀ v p, e ≠ .Starred v p) (he : PE X e (tM g f)) (hline : (apos.endLine == cpos.line) = true) (hline' : (a2.endLine == c2.line) = true) :
    PS X (.Expr (.Call (.Attribute (.Name x p) "append" apos) [.Call (.Attribute (.Name y q2) "pop" a2) [e] [] c2] [] cpos) pos) (tS g (popM i j f)) :=
  PSi (ps_expr (pe_lm PySem.F.slot_list_append PySem.F.type_list_append mt_append hN hv hd hcd (by intro _ _ z; cases z) (pe_lm PySem.F.slot_list_pop PySem.F.type_list_pop mt_popAt hN' hv' hd' hcd' hs he hline') hline) rfl) fun Dn σ H h => by
    obtain ⟨T, H0, k, st, st', fl, k', w, r, em, q⟩ := h
    obtain ⟨kd, k1, e1, e2⟩ := bind_some.mp em
    obtain ⟨xd, k2, e3, e4⟩ := bind_some.mp e2
    obtain ⟨⟨d, x'⟩, k3, e5, e6⟩ := bind_some.mp e4
    obtain ⟨wd, k4, e7, e8⟩ := bind_some.mp e6
    obtain ⟨yd, k5, e9, e10⟩ := bind_some.mp e8
    cases pure_some.mp e10
    obtain ⟨f1, f2⟩ := getO_some e3
    cases f2
    obtain ⟨f3, f4⟩ := getO_some e7
    obtain ⟨ds, b, ys, rfl, o1, o2, o3, o4, o5⟩ := r.own f1
    obtain ⟨es, a, xs, eq, u1, u2, u3, u4, u5⟩ := r.own f3
    cases eq
    obtain ⟨ii, jj, rfl, z0, z1, z2, z3, z4⟩ := pop_some e5
    have z0 := smallI_of z0
    subst z3 z4
    cases f4
    obtain ⟨y1, y2, y3⟩ := app_some e9
    subst y2 y3
    have hab : a ≠ b := fun z => hij (r.sr.own i j _ _ a f3 f1 u1 (by rw [o1, z]))
    obtain ⟨s1, s2, s3, s4⟩ := seqIndex_ixN z1
    refine ⟨_, u1, .inl ⟨rfl, _, .inl (.inl u3)⟩, _, o1, .inl ⟨rfl, _, .inl (.inl o3)⟩, T, k, st, _, _, w, r.sr, e1, fun v H1 g1 w1 d1 => ?_⟩
    have o3' : H1 b = some (.lst ys) := g1.keep _ _ o3 o2 (fun _ z => nomatch z)
    have u3' : H1 a = some (.lst xs) := g1.keep _ _ u3 u2 (fun _ z => nomatch z)
    have o4' := Dens.keep (g1.keeps w.town) _ _ o4
    have u4' := Dens.keep (g1.keeps w.town) _ _ u4
    obtain ⟨v', v1, v2⟩ := o4'.get z2
    have hz : (ys.length : Int) = ds.length := by rw [o4.length]
    refine ⟨b, ys, ii, jj, v', rfl, by rw [int_den d1], o3', ?_, ?_, by rw [o4.length]; exact s1, v1, ?_⟩
    · omega
    · omega
    · have kp1 : Keeps H1 (upd H1 b (.lst (ys.eraseIdx jj))) := keeps_upd o3' (fun _ z => nomatch z) (fun _ _ z => nomatch z)
      have r1 := (r.grow g1 w.town).upOw f1 o1 o3' o2 (Dens.erase jj o4')
      have w2 := w1.updL (o := .lst (ys.eraseIdx jj)) o3' o2
      have u3'' : (upd H1 b (.lst (ys.eraseIdx jj))) a = some (.lst xs) := by rw [upd_ne hab]; exact u3'
      have kp2 : Keeps (upd H1 b (.lst (ys.eraseIdx jj))) (upd (upd H1 b (.lst (ys.eraseIdx jj))) a (.lst (xs ++ [v']))) := keeps_upd u3'' (fun _ z => nomatch z) (fun _ _ z => nomatch z)
      have f3' : (st.set j (.ow (.lst (ds.eraseIdx jj))))[i]? = some (.ow (.lst es)) := by rw [List.getElem?_set_ne (Ne.symm hij)]; exact f3
      refine ⟨a, xs, v', rfl, rfl, u3'', by rw [sizeLine_eq, u4.length]; exact y1, ?_⟩
      exact q σ _ (((g1.keeps w.town).trans kp1).trans kp2) (w2.updL u3'' u2) (r1.upOw f3' u1 u3'' u2 (Dens.snoc (Dens.keep kp1 _ _ u4') (Den.keep kp1 _ _ v2)))
end
end G

namespace G
open PySem PySem.Spec PyProof.Rows L2

section
variable {g : Cf} {X : Cx}
variable {a b c e : Expr} {f f1 f2 f3 : G.St → M D} {m m1 m2 : G.St → M (G.St × Fl)} {pos p p1 p2 apos cpos : Pos} {i j : Nat} {x y z : Str}
/-! ### isinstance -/
def tyS : Ty → String
  | .int => "int"
  | .bool => "bool"
  | .tuple => "tuple"
  | .str => "str"
theorem kitT : ∀ (t : Ty), (kitB "NoneType" (tyS t) = some false) ∧ (kitB "bool" (tyS t) = some (match t with | .int => true | .bool => true | _ => false)) ∧ (kitB "int" (tyS t) = some (match t with | .int => true | _ => false)) ∧
    (kitB "str" (tyS t) = some (match t with | .str => true | _ => false)) ∧ (kitB "tuple" (tyS t) = some (match t with | .tuple => true | _ => false)) ∧ (kitB "list" (tyS t) = some false)
  | .int => by refine ⟨?_, ?_, ?_, ?_, ?_, ?_⟩ <;> decide +kernel
  | .bool => by refine ⟨?_, ?_, ?_, ?_, ?_, ?_⟩ <;> decide +kernel
  | .tuple => by refine ⟨?_, ?_, ?_, ?_, ?_, ?_⟩ <;> decide +kernel
  | .str => by refine ⟨?_, ?_, ?_, ?_, ?_, ?_⟩ <;> decide +kernel
theorem isTy_tyX {t : Ty} {T : Addr} {H : Hp} {v : V} {d : D} {k k' : Nat} {r : Bool} (hd : Den T g.K H v d) (h : isTy t d k = some (r, k')) : k' = k ∧ ∃ u, TyX g.K H v (.type u) ∧ kitB u (tyS t) = some r := by
  obtain ⟨t1, t2, t3, t4, t5, t6⟩ := kitT t
  cases hd with
  | non => cases t <;> (cases pure_some.mp h; exact ⟨rfl, _, .base .non, t1⟩)
  | bl b => cases t <;> (cases pure_some.mp h; exact ⟨rfl, _, .base (.bl b), t2⟩)
  | int i => cases t <;> (cases pure_some.mp h; exact ⟨rfl, _, .base (.int i), t3⟩)
  | str s => cases t <;> (cases pure_some.mp h; exact ⟨rfl, _, .base (.str _), t4⟩)
  | tup h1 h2 => cases t <;> (cases pure_some.mp h; exact ⟨rfl, _, .base (.tup h1), t5⟩)
  | lst h1 h2 => cases t <;> (cases pure_some.mp h; exact ⟨rfl, _, .base (.frz h1), t6⟩)
  | town => cases t <;> exact absurd h (no_some (k := k))
  | scr h1 => cases t <;> exact absurd h (no_some (k := k))
theorem pm_isi {t : Ty} {q1 : Pos} (hK : X.K = g.K) (hg : Gl X "isinstance") (hm : X.mg "isinstance" = none) (hy : y = Str.ofString (tyS t)) (hg' : Gl X y) (hm' : X.mg y = none) (hs : ∀ v p, a ≠ .Starred v p) (ha : PE X a (tM g f)) :
    PE X (.Call (.Name "isinstance" p) [a, .Name y q1] [] pos) (tM g fun st => do let x ← f st; let r ← isTy t x; pure (.bl r)) := by
  have hv : bootBuiltins y = some (.type (tyS t)) := by
    subst hy
    cases t <;> decide +kernel
  have hn : y ≠ "__name__" := by
    subst hy
    cases t <;> decide
  have hd : (y == ("__debug__" : Str)) = false := by
    subst hy
    cases t <;> decide
  refine PEi (pe_callB call_isi hg hm (by decide +kernel) (pa_cons ha (pa_cons (pe_bltn hg' hm' hv (v := .ty (tyS t)) rfl hn hd) pa_nil (starEach_ok (by intro _ _ z; cases z))) (starEach_ok hs)) (by decide) (by decide) (starEach_ok hs) rfl) fun σ H Q q => ?_
  obtain ⟨T, k, st, d, k', w, r, em, q⟩ := q
  obtain ⟨y, k1, e1, e2⟩ := bind_some.mp em
  obtain ⟨z, k2, e3, e4⟩ := bind_some.mp e2
  cases pure_some.mp e4
  refine ⟨T, k, st, y, k1, w, r, e1, fun v1 H1 g1 w1 d1 => ?_⟩
  obtain ⟨e5, u, e6, e7⟩ := isTy_tyX d1 e3
  subst e5
  exact ⟨v1, .ty (tyS t), .type u, .type (tyS t), z, rfl, .ty _, by rw [hK]; exact e6, kit_ty e7, q _ H1 g1 w1 (.bl z)⟩
/-! ### functions -/
/-- what a def promises -/
def spF (g : Cf) (n : Nat) (h : List D → M D) : Sp := fun vs H Q E => ∃ T k ds d k', ds.length = n ∧ WS T g.Tb H k ∧ Dens T g.K H vs ds ∧ h ds k = some (d, k') ∧ ∀ v H', Grow T H H' → WS T g.Tb H' k' → Den T g.K H' v d → Q v H'
theorem pm_call {es : List Expr} {fs : G.St → M (List D)} {h : List D → M D} {CX : CXT} {E : XK} {n k : Nat} {fa : Addr} {fd : FuncData} {ps : List Str} (F : FnOk X.prog X.w X.K X.mg X.base CX k fa fd ps (spF g n h)) (hr : Room k X.A) (hg : Gl X x) (hm : X.mg x = some (.ref fa))
    (hk : PySem.W.keepIn X.K (.ref fa) = true) (hb : Binds X.K fd ps []) (hx : Passes CX X E) (hd : (x == ("__debug__" : Str)) = false) (hn : (e :: es).length = n) (hlen : ∀ st k ds k', fs st k = some (ds, k') → ds.length = (e :: es).length)
    (hs : ∀ e' ∈ e :: es, ∀ v p, e' ≠ .Starred v p) (ha : PA X (e :: es) (tMA g fs)) : PE X (.Call (.Name x p) (e :: es) [] pos) (tM g fun st => do let ds ← fs st; h ds) :=
  PEi (pe_call F hr hg hm hk hb .nil hx ha hd (starEach_ok (hs e List.mem_cons_self)) (noStars fun e' he => hs e' (List.mem_cons_of_mem _ he))) fun σ H Q q => by
    obtain ⟨T, k, st, d, k', w, r, em, q⟩ := q
    obtain ⟨ds, k1, e1, e2⟩ := bind_some.mp em
    refine ⟨T, k, st, ds, k1, w, r, e1, fun vs H1 g1 w1 d1 => ?_⟩
    show spF g n h (vs ++ []) H1 Q E
    rw [List.append_nil]
    exact ⟨T, k1, ds, d, k', (hlen _ _ _ _ e1).trans hn, w1, d1, e2, fun v H' g2 w2 d2 => q v H' (g1.trans g2) w2 d2⟩

/-! ### a, b = x, y -/
/-- a value for a slot: a new list of one's own, or one that stands -/
def DenG (o : Bool) (T : Addr) (K : PySem.W.Frag) (H0 H : Hp) (v : V) (d : D) : Prop := match o with
  | true => ∃ p xs ds, d = .lst ds ∧ v = .ref p ∧ H0 p = none ∧ p ≠ T ∧ H p = some (.lst xs) ∧ Dens T K H xs ds
  | false => Den T K H v d
def tG (g : Cf) (o : Bool) (m : G.St → M D) : TE := fun σ H Q => ∃ T k st d k', WS T g.Tb H k ∧ SR T g.K g.CL st σ H ∧ m st k = some (d, k') ∧ ∀ v H', Grow T H H' → WS T g.Tb H' k' → DenG o T g.K H H' v d → Q v H'
theorem pg_of_M (h : PE X e (tM g f)) : PE X e (tG g false f) := h
theorem pg_of_N (hl : ∀ st k d k', f st k = some (d, k') → ∃ ds, d = .lst ds) (h : PE X e (tN g f)) : PE X e (tG g true f) := PEi h fun σ H Q q => by
  obtain ⟨T, k, st, d, k', w, r, em, q⟩ := q
  exact ⟨T, k, st, d, k', w, r, em, fun p xs ds H' e1 e2 e3 e4 e5 e6 e7 => q _ H' e4 e5 ⟨p, xs, ds, e1, rfl, e2, e3, e6, e7⟩⟩
/-- a value goes to a slot -/
theorem SO.setG {o : Bool} {T : Addr} {H0 H H' : Hp} {st : G.St} {σ : L2.St} {d : D} {v : V} {k : Nat} (r : SO g T H0 st σ H) (t : Town T H k) (gr : Grow T H H') (hd : DenG o T g.K H H' v d) : SO g T H0 (st.set i (slOf o d)) (σ.set i (some v)) H' := by
  cases o with
  | false => exact (r.grow gr t).setFr hd
  | true =>
    obtain ⟨p, xs, ds, rfl, rfl, e1, e2, e3, e4⟩ := hd
    exact r.setOw t gr e1 e2 e3 e4
def par2M (i j : Nat) (o1 o2 : Bool) (f1 f2 : G.St → M D) : G.St → M (G.St × Fl) := fun st => do
  let d ← f1 st
  let e ← f2 st
  pure ((st.set i (slOf o1 d)).set j (slOf o2 e), .nx)
theorem sm_par2 {o1 o2 : Bool} {px py pt : Pos} {kt k2 pt2} (hc : X.calm = true) (hN : X.N.Nodup) (hi : X.N[i]? = some x) (hj : X.N[j]? = some y) (hij : i ≠ j)
    (hx : X.env.scope.names.lookup x = some .local) (hy : X.env.scope.names.lookup y = some .local) (hsa : ∀ v p, a ≠ .Starred v p) (hsb : ∀ v p, b ≠ .Starred v p) (ha : PE X a (tG g o1 f1)) (hb : PE X b (tG g o2 f2))
    (hw : swappedStores [.Tuple [.Name x px, .Name y py] kt pt] (.Tuple [a, b] k2 pt2) X.env = pure (some [x, y])) :
    PS X (.Assign [.Tuple [.Name x px, .Name y py] kt pt] (.Tuple [a, b] k2 pt2) pos) (tS g (par2M i j o1 o2 f1 f2)) :=
  PSi (ps_par hc hN hi hj hij hx hy (pa_cons ha (pa_cons hb pa_nil (starEach_ok hsb)) (starEach_ok hsa)) hw) fun Dn σ H h => by
    obtain ⟨T, H0, k, st, st', fl, k', w, r, em, q⟩ := h
    obtain ⟨d, k1, e1, e2⟩ := bind_some.mp em
    obtain ⟨e, k2, e3, e4⟩ := bind_some.mp e2
    cases pure_some.mp e4
    refine ⟨T, k, st, d, k1, w, r.sr, e1, fun v1 H1 g1 w1 d1 => ⟨T, k1, st, e, _, w1, (r.grow g1 w.town).sr, e3, fun v2 H2 g2 w2 d2 => ⟨v1, v2, rfl, ?_⟩⟩⟩
    have r1 := r.setG (i := i) w.town g1 d1
    exact q _ H2 ((g1.trans g2).keeps w.town) w2 (r1.setG w1.town g2 d2)
def par3M (i j l : Nat) (o1 o2 o3 : Bool) (f1 f2 f3 : G.St → M D) : G.St → M (G.St × Fl) := fun st => do
  let d ← f1 st
  let e ← f2 st
  let u ← f3 st
  pure (((st.set i (slOf o1 d)).set j (slOf o2 e)).set l (slOf o3 u), .nx)
theorem sm_par3 {l : Nat} {o1 o2 o3 : Bool} {px py pz pt : Pos} {kt k2 pt2} (hc : X.calm = true) (hN : X.N.Nodup) (hi : X.N[i]? = some x) (hj : X.N[j]? = some y) (hl : X.N[l]? = some z) (hij : i ≠ j) (hil : i ≠ l) (hjl : j ≠ l)
    (hx : X.env.scope.names.lookup x = some .local) (hy : X.env.scope.names.lookup y = some .local) (hz : X.env.scope.names.lookup z = some .local) (hsa : ∀ v p, a ≠ .Starred v p) (hsb : ∀ v p, b ≠ .Starred v p) (hsc : ∀ v p, c ≠ .Starred v p)
    (ha : PE X a (tG g o1 f1)) (hb : PE X b (tG g o2 f2)) (hc' : PE X c (tG g o3 f3))
    (hw : swappedStores [.Tuple [.Name x px, .Name y py, .Name z pz] kt pt] (.Tuple [a, b, c] k2 pt2) X.env = pure (some [x, y, z])) :
    PS X (.Assign [.Tuple [.Name x px, .Name y py, .Name z pz] kt pt] (.Tuple [a, b, c] k2 pt2) pos) (tS g (par3M i j l o1 o2 o3 f1 f2 f3)) :=
  PSi (ps_par3 hc hN hi hj hl hij hil hjl hx hy hz (pa_cons ha (pa_cons hb (pa_cons hc' pa_nil (starEach_ok hsc)) (starEach_ok hsb)) (starEach_ok hsa)) hw) fun Dn σ H h => by
    obtain ⟨T, H0, k, st, st', fl, k', w, r, em, q⟩ := h
    obtain ⟨d, k1, e1, e2⟩ := bind_some.mp em
    obtain ⟨e, k2, e3, e4⟩ := bind_some.mp e2
    obtain ⟨u, k3, e5, e6⟩ := bind_some.mp e4
    cases pure_some.mp e6
    refine ⟨T, k, st, d, k1, w, r.sr, e1, fun v1 H1 g1 w1 d1 => ⟨T, k1, st, e, k2, w1, (r.grow g1 w.town).sr, e3, fun v2 H2 g2 w2 d2 => ⟨T, k2, st, u, _, w2, ((r.grow g1 w.town).grow g2 w1.town).sr, e5, fun v3 H3 g3 w3 d3 => ⟨v1, v2, v3, rfl, ?_⟩⟩⟩⟩
    have r1 := r.setG (i := i) w.town g1 d1
    exact q _ H3 (((g1.trans g2).trans g3).keeps w.town) w3 ((r1.setG (i := j) w1.town g2 d2).setG w2.town g3 d3)
end
end G

namespace G
open PySem PySem.Spec PyProof.Rows L2

section
variable {g : Cf} {X : Cx}
variable {a b c e : Expr} {f f1 f2 f3 : G.St → M D} {pos p p1 p2 : Pos} {x y z : Str}
theorem pe_bool1 {op : BoolOp} {t : TE} (h : PE X a t) : PE X (.BoolOp op [a] pos) t := by
  refine ⟨fun pins s σ H Q I hq => ?_⟩
  have e : eval (.BoolOp op [a] pos) X.env = eval a X.env := by rfl
  rw [e]
  exact h.run pins s σ H Q I hq
def plainT : Expr → Bool
  | .UnaryOp .. => false
  | .BoolOp .. => false
  | .IfExp .. => false
  | .Compare .. => false
  | _ => true
theorem plainT_ok {a : Expr} {env : Env} (h : plainT a = true) : ∀ whole, isTrue a env whole = (do let v ← whole; standAt a.pos; holding [v] (truthy v)) := fun whole => by
  cases a <;> first | rfl | (simp [plainT] at h)
theorem pmt_plain (hK : X.K = g.K) (h : plainT a = true) (ha : PE X a (tO g f)) : PT X a (tMB g (truM f)) := pmt_truth hK ha (plainT_ok h)
/-- the same test -/
theorem PTm {m1 m2 : G.St → M Bool} (h : PT X a (tMB g m1)) (e : ∀ st k r, m2 st k = some r → m1 st k = some r) : PT X a (tMB g m2) := PTi h fun σ H Q q => by
  obtain ⟨T, k, st, b, k', w, r, em, q⟩ := q
  exact ⟨T, k, st, b, k', w, r, e _ _ _ em, q⟩
theorem PEm {m1 m2 : G.St → M D} (h : PE X a (tM g m1)) (e : ∀ st k r, m2 st k = some r → m1 st k = some r) : PE X a (tM g m2) := PEi h fun σ H Q q => by
  obtain ⟨T, k, st, b, k', w, r, em, q⟩ := q
  exact ⟨T, k, st, b, k', w, r, e _ _ _ em, q⟩
theorem bl_tru {m : G.St → M Bool} {st : G.St} {k : Nat} {r : Bool × Nat} (h : truM (fun st => do let b ← m st; pure (.bl b)) st k = some r) : m st k = some r := by
  obtain ⟨d, k1, e1, e2⟩ := bind_some.mp h
  obtain ⟨b, k2, e3, e4⟩ := bind_some.mp e1
  cases pure_some.mp e4
  cases pure_some.mp (show (pure b : M Bool) k1 = some r from e2)
  exact e3
theorem pmt_not' (ha : PT X a (tMB g (truM f))) : PT X (.UnaryOp .Not a pos) (tMB g (truM fun st => do let x ← f st; let r ← tru x; pure (.bl !r))) := PTm (pmt_not ha) fun st k r h => by
  obtain ⟨d, k1, e1, e2⟩ := bind_some.mp h
  obtain ⟨y, k2, e3, e4⟩ := bind_some.mp e1
  obtain ⟨b, k3, e5, e6⟩ := bind_some.mp e4
  cases pure_some.mp e6
  cases pure_some.mp (show (pure (!b) : M Bool) k1 = some r from e2)
  exact bind_some.mpr ⟨b, _, bind_some.mpr ⟨y, k2, e3, e5⟩, rfl⟩
/-! ### is None -/
theorem isn_key {n : Bool} {σ : L2.St} {H : Hp} {Q : VK} (h : tM g (fun st => do let x ← f st; pure (isnD n x)) σ H Q) : tM g f σ H fun x H1 => Q (.bl (xor n (decide (x = .non)))) H1 := by
  obtain ⟨T, k, st, d, k', w, r, em, q⟩ := h
  obtain ⟨x, k1, e1, e2⟩ := bind_some.mp em
  refine ⟨T, k, st, x, k1, w, r, e1, fun v H' gr w' hd => ?_⟩
  cases pure_some.mp e2
  refine q _ H' gr w' ?_
  rw [den_non hd]
  exact .bl _
theorem isn_bl {n : Bool} {st : G.St} {k k' : Nat} {d : D} (h : (do let x ← f st; pure (isnD n x) : M D) k = some (d, k')) : isBl d := by
  obtain ⟨x, k1, e1, e2⟩ := bind_some.mp h
  cases pure_some.mp e2
  cases x <;> exact ⟨_, rfl⟩
theorem pmt_isn {n : Bool} {j : Nat} (ha : PE X a (tM g f)) : PT X (.Compare a [isOp n] [.Constant .none j p] pos) (tMB g (truM fun st => do let x ← f st; pure (isnD n x))) := by
  refine pt_bool (fun st k d k' e => isn_bl e) ?_
  cases n with
  | false =>
    refine PTi (pt_cmp (pc_isN ha) rfl) fun σ H Q h => ?_
    have := isn_key h
    simpa [tIsN, tB, tTest] using this
  | true =>
    refine PTi (pt_cmp (pc_notN ha) rfl) fun σ H Q h => ?_
    have := isn_key h
    simpa [tNotN, tB, tTest] using this
/-! ### in -/
theorem in_key {n : Bool} {σ : L2.St} {H : Hp} {Q : VK} (h : tM g (fun st => do let x ← f1 st; let y ← f2 st; inM n x y) σ H Q) : tOp (rB2 g (inM n)) (tM g f1) (tO g f2) σ H Q := by
  obtain ⟨T, k, st, d, k', w, r, em, q⟩ := h
  obtain ⟨x, k1, e1, e2⟩ := bind_some.mp em
  obtain ⟨y, k2, e3, e4⟩ := bind_some.mp e2
  exact ⟨T, k, st, x, k1, w, r, e1, fun v1 H1 g1 w1 d1 => ⟨T, k1, st, y, k2, w1, r.grow g.stays g1 w.town, e3, fun v2 H2 g2 w2 d2 => ⟨T, k2, x, y, d, k', w2, Den.keep (g2.keeps w1.town) _ _ d1, d2, e4, fun v3 H3 g3 w3 d3 => q v3 H3 ((g1.trans g2).trans g3) w3 d3⟩⟩⟩
theorem pm_inn {n : Bool} (hK : X.K = g.K) (hu : X.A.units + 65 < cLine) (ha : PE X a (tM g f1)) (hb : PE X b (tO g f2)) (hm : behindInMarks (inOp n) b = false) : PE X (.Compare a [inOp n] [b] pos) (tM g fun st => do let x ← f1 st; let y ← f2 st; inM n x y) :=
  PEi (pe_cmpR (op_inM hK hu n) ha hb hm) fun σ H Q h => in_key h
theorem in_bl {n : Bool} {st : G.St} {k k' : Nat} {d : D} (h : (do let x ← f1 st; let y ← f2 st; inM n x y : M D) k = some (d, k')) : isBl d := by
  obtain ⟨x, k1, e1, e2⟩ := bind_some.mp h
  obtain ⟨y, k2, e3, e4⟩ := bind_some.mp e2
  obtain ⟨z, k3, e5, e6⟩ := bind_some.mp e4
  cases pure_some.mp e6
  exact ⟨_, rfl⟩
theorem pmt_inn {n : Bool} (hK : X.K = g.K) (hu : X.A.units + 65 < cLine) (ha : PE X a (tM g f1)) (hb : PE X b (tO g f2)) (hm : behindInMarks (inOp n) b = false) : PT X (.Compare a [inOp n] [b] pos) (tMB g (truM fun st => do let x ← f1 st; let y ← f2 st; inM n x y)) :=
  pt_bool (fun st k d k' e => in_bl e) (PTi (pt_cmpR (op_inM hK hu n) ha hb hm) fun σ H Q h => in_key h)
/-! ### is True -/
theorem isb_key {n bb : Bool} {j : Nat} {σ : L2.St} {H : Hp} {Q : VK} (h : tM g (fun st => do let x ← f st; isbD n bb x) σ H Q) : tOp (fun x y H Q => y = .bl bb ∧ rU1 g (isbD n bb) x H Q) (tM g f) (tC (.bl bb)) σ H Q := by
  obtain ⟨T, k, st, d, k', w, r, em, q⟩ := h
  obtain ⟨x, k1, e1, e2⟩ := bind_some.mp em
  exact ⟨T, k, st, x, k1, w, r, e1, fun v1 H1 g1 w1 d1 => ⟨rfl, T, k1, x, d, k', w1, d1, e2, fun v3 H3 g3 w3 d3 => q v3 H3 (g1.trans g3) w3 d3⟩⟩
theorem isb_nm {n : Bool} {cst : Const} {j : Nat} : behindInMarks (isOp n) (.Constant cst j p) = false := by cases n <;> rfl
theorem pm_isb {n bb : Bool} {cst : Const} {j : Nat} (hcst : cst = .bool bb) (hb : PE X (.Constant cst j p) (tC (.bl bb))) (ha : PE X a (tM g f)) : PE X (.Compare a [isOp n] [.Constant cst j p] pos) (tM g fun st => do let x ← f st; isbD n bb x) :=
  PEi (pe_cmpR (op_isbM n bb) ha hb isb_nm) fun σ H Q h => isb_key (j := 0) h
theorem pmt_isb {n bb : Bool} {cst : Const} {j : Nat} (hcst : cst = .bool bb) (hb : PE X (.Constant cst j p) (tC (.bl bb))) (ha : PE X a (tM g f)) : PT X (.Compare a [isOp n] [.Constant cst j p] pos) (tMB g (truM fun st => do let x ← f st; isbD n bb x)) :=
  pt_bool (fun st k d k' e => by
    obtain ⟨x, k1, e1, e2⟩ := bind_some.mp e
    cases x with
    | bl bv => cases pure_some.mp e2; exact ⟨_, rfl⟩
    | _ => exact absurd e2 (no_some (k := k1))) (PTi (pt_cmpR (op_isbM n bb) ha hb isb_nm) fun σ H Q h => isb_key (j := 0) h)
/-! ### comparisons as tests -/
theorem cmpM_bl {o : Cp} {x y : D} {k k' : Nat} {d : D} (h : cmpM o x y k = some (d, k')) : isBl d := by
  obtain ⟨z, k3, e5, e6⟩ := bind_some.mp h
  cases pure_some.mp e6
  exact ⟨_, rfl⟩
theorem pmt_cmp' {o : Cp} (hK : X.K = g.K) (hu : X.A.units + 64 < cLine) (ha : PE X a (tM g f1)) (hb : PE X b (tM g f2)) (hm : behindInMarks (cpOp o) b = false) : PT X (.Compare a [cpOp o] [b] pos) (tMB g (truM fun st => do let x ← f1 st; let y ← f2 st; cmpM o x y)) :=
  pmt_cmp (fun x y k d k' e => cmpM_bl e) (op_cmp hK hu o) ha hb hm
theorem chain_bl {o o' : Cp} {st : G.St} {k k' : Nat} {d : D} (h : (do let x ← f1 st; let y ← f2 st; let r ← cmpD o x y; if r then do let z ← f3 st; cmpM o' y z else pure (.bl false) : M D) k = some (d, k')) : isBl d := by
  obtain ⟨x, k1, e1, e2⟩ := bind_some.mp h
  obtain ⟨y, k2, e3, e4⟩ := bind_some.mp e2
  obtain ⟨r, k3, e5, e6⟩ := bind_some.mp e4
  cases r with
  | true =>
    obtain ⟨z, k4, e7, e8⟩ := bind_some.mp (show (do let z ← f3 st; cmpM o' y z : M D) k3 = some (d, k') from e6)
    exact cmpM_bl e8
  | false =>
    cases pure_some.mp (show (pure (.bl false) : M D) k3 = some (d, k') from e6)
    exact ⟨_, rfl⟩
end
end G

namespace G
open PySem PySem.Spec PyProof.Rows L2

/-- what is known of the names where an expression stands -/
structure Sc where
  N : List Str
  sc : Scope
  fns : List (Str × Nat × Nat)
  gls : List (Str × D)
  raw : Option Scope
def Sc.vis (c : Sc) (x : Str) : Bool := match c.sc.names.lookup x with
  | some .local => true
  | some .cell => true
  | some .free => true
  | _ => false
def Sc.slot (c : Sc) (i : Nat) (x : Str) : Bool := decide (c.N[i]? = some x) && c.vis x && !(x == ("__debug__" : Str)) && !(x == ("__classdict__" : Str))
def Sc.glob (c : Sc) (x : Str) : Bool := decide (c.sc.names.lookup x = some .globalImplicit)
def Sc.store (c : Sc) (i : Nat) (x : Str) : Bool := decide (c.N[i]? = some x) && (decide (c.sc.names.lookup x = some .local) || (decide (c.sc.names.lookup x = some .cell) && (match c.raw with | none => true | some s => s.names.lookup x == some .cell)))
def Sc.blk (c : Sc) (scope : Scope) : Sc := { c with sc := relS scope c.sc, raw := some scope }
def notStar : Expr → Bool
  | .Starred .. => false
  | _ => true
def notSet : Expr → Bool
  | .Set .. => false
  | _ => true
def constOk : D → Expr → Bool
  | .non, .Constant .none _ _ => true
  | .bl b, .Constant (.bool c) _ _ => b == c
  | .int b, .Constant (.int c) _ _ => b == c
  | .str b, .Constant (.str c) _ _ => decide (strOf b = c)
  | _, _ => false
def plainD : D → Bool
  | .int _ => true
  | .str _ => true
  | _ => false
def b1N : F1 → Str
  | .len => "len" | .all => "all" | .any => "any" | .tuple => "tuple" | .list => "list" | .sorted => "sorted" | .min => "min" | .max => "max" | .sum => "sum" | .int => "int" | .str => "str" | .dict => "dict"
def b1Ok : F1 → Bool
  | .str => false
  | .dict => false
  | .int => false
  | _ => true
def b1New : F1 → Bool
  | .list => true
  | .sorted => true
  | _ => false
def chkTg (c : Sc) : Tg → Expr → Bool
  | .one i, .Name n _ => c.store i n
  | .two i j, .Tuple [.Name a _, .Name b _] _ _ => c.store i a && c.store j b
  | _, _ => false
def isTupE : Expr → Bool
  | .Tuple .. => true
  | _ => false
def isNonE : E → Bool
  | .c .non => true
  | _ => false
def isYesE : E → Bool
  | .c (.bl true) => true
  | _ => false
def ownL (N : List Str) (own : List Nat) : List (Str × Nat) := own.filterMap fun i => (N[i]?).map fun x => (x, i)
def bvOk (c : Sc) (i : Nat) : Expr → Bool
  | .Name n _ => c.slot i n
  | _ => false
def eqC : D → D → Bool
  | .int a, .int b => a == b
  | .str a, .str b => decide (a = b)
  | _, _ => false
def chkAll (f : E → Expr → Bool) : List E → List Expr → Bool
  | [], [] => true
  | e :: es, x :: xs => notStar x && f e x && chkAll f es xs
  | _, _ => false
def chkAllT (f : E → Expr → Bool) : List E → List Expr → Bool
  | [], [] => true
  | e :: es, x :: xs => f e x && chkAllT f es xs
  | _, _ => false
def chkO (f : Sc → E → Expr → Bool) (c : Sc) : E → Expr → Bool
  | .bv i, x => bvOk c i x
  | e, x => f c e x
abbrev Ck := Sc → E → Expr → Bool
def chkSrc (m : Ck) (c : Sc) : Sk → E → E → E → Expr → Expr → Bool
  | .it, a, b, d, _, x => isNonE b && isNonE d && notSet x && m c a x
  | .r1, a, b, d, _, .Call (.Name n _) [x] [] _ => isNonE b && isNonE d && c.glob n && decide (n = "range") && notStar x && m c a x
  | .r2, a, b, d, _, .Call (.Name n _) [x, y] [] _ => isNonE d && c.glob n && decide (n = "range") && notStar x && notStar y && m c a x && m c b y
  | .en, a, b, d, tg, .Call (.Name n _) [x] [] _ => isNonE b && isNonE d && isTupE tg && c.glob n && decide (n = "enumerate") && notStar x && m c a x
  | .zp, a, b, d, tg, .Call (.Name n _) [x, y] [] _ => isNonE d && isTupE tg && c.glob n && decide (n = "zip") && notStar x && notStar y && m c a x && m c b y
  | _, _, _, _, _, _ => false
def chkLc (m t : Ck) (c : Sc) (tg : Tg) (k : Sk) (a b d cond elt : E) (own : List Nat) : Expr → Bool
  | .ListComp xe [⟨tge, iter, ifs, asy⟩] scope _ =>
    decide (asy = 0) && chkSrc m c k a b d tge iter && blkC c.N c.sc scope (ownL c.N own) && decide ((ownL c.N own).map (·.2) = own) && decide (∀ i ∈ tgIs tg, i ∈ own) && chkTg (c.blk scope) tg tge &&
      (match ifs with
        | [] => isYesE cond
        | [y] => t (c.blk scope) cond y
        | _ => false) && m (c.blk scope) elt xe
  | _ => false
def chk1 (m t : Ck) (c : Sc) : E → Expr → Bool
  | .v i, .Name n _ => c.slot i n
  | .c d, x => constOk d x
  | .gl k d, .Name n _ => c.glob n && (match c.gls[k]? with | some (n', d') => decide (n' = n) && eqC d d' | none => false) && !(n == ("__debug__" : Str))
  | .tup es, .Tuple xs _ _ => decide (xs.length ≤ 1000) && chkAll (m c) es xs
  | .lst es, .List xs _ => decide (xs.length ≤ 1000) && chkAll (m c) es xs
  | .add a b, .BinOp x .Add y _ => m c a x && m c b y
  | .sub a b, .BinOp x .Sub y _ => m c a x && m c b y
  | .mul a b, .BinOp x .Mult y _ => m c a x && m c b y
  | .fdv a b, .BinOp x .FloorDiv y _ => m c a x && m c b y
  | .mod a b, .BinOp x .Mod y _ => m c a x && m c b y
  | .neg a, .UnaryOp .USub x _ => m c a x
  | .cmp o a b, .Compare x [op] [y] _ => decide (op = cpOp o) && !behindInMarks op y && m c a x && m c b y
  | .chain o o' a b d, .Compare x [op, op'] [y, z] _ => decide (op = cpOp o) && decide (op' = cpOp o') && !lastMarks [op, op'] [y, z] && m c a x && m c b y && m c d z
  | .isn n a, .Compare x [op] [.Constant .none _ _] _ => decide (op = isOp n) && m c a x
  | .isb n a bb, .Compare x [op] [.Constant (.bool b2) _ _] _ => decide (op = isOp n) && decide (bb = b2) && m c a x
  | .inn n a b, .Compare x [op] [y] _ => decide (op = inOp n) && !behindInMarks op y && m c a x && chkO m c b y
  | .not a, .UnaryOp .Not x _ => chkO m c a x
  | .and es, .BoolOp .And xs _ => chkAll (m c) es xs && !es.isEmpty
  | .or es, .BoolOp .Or xs _ => chkAll (m c) es xs && !es.isEmpty
  | .ite q a b, .IfExp x y z _ => t c q x && m c a y && m c b z
  | .call f es, .Call (.Name n _) xs [] _ => c.glob n && decide (c.fns.lookup n = some (f, es.length)) && !(n == ("__debug__" : Str)) && !xs.isEmpty && chkAll (m c) es xs
  | .b1 f a, .Call (.Name n _) [x] [] _ => c.glob n && decide (n = b1N f) && b1Ok f && notStar x && chkO m c a x
  | .b2 f a b, .Call (.Name n _) [x, y] [] _ => c.glob n && (match f with | .min => decide (n = "min") | .max => decide (n = "max") | .sum => false) && notStar x && notStar y && m c a x && m c b y
  | .isi q a, .Call (.Name n _) [x, .Name u _] [] _ => c.glob n && decide (n = "isinstance") && c.glob u && decide (u = Str.ofString (tyS q)) && notStar x && m c a x
  | .ix a b, .Subscript x y _ => plainE y && chkO m c a x && m c b y
  | .slh a h, .Subscript x (.Slice none (some y) none _) _ => m c a x && m c h y
  | .sll a l, .Subscript x (.Slice (some y) none none _) _ => m c a x && m c l y
  | .slb a l h, .Subscript x (.Slice (some y) (some z) none _) _ => m c a x && m c l y && m c h z
  | .lc tg k a b d cond elt own, x => chkLc m t c tg k a b d cond elt own x
  | _, _ => false
def chkT1 (m t : Ck) (c : Sc) : E → Expr → Bool
  | .not a, .UnaryOp .Not x _ => t c a x
  | .and es, .BoolOp .And xs _ => chkAllT (t c) es xs && !es.isEmpty
  | .or es, .BoolOp .Or xs _ => chkAllT (t c) es xs && !es.isEmpty
  | .cmp o a b, .Compare x [op] [y] _ => decide (op = cpOp o) && !behindInMarks op y && m c a x && m c b y
  | .chain o o' a b d, .Compare x [op, op'] [y, z] _ => decide (op = cpOp o) && decide (op' = cpOp o') && !lastMarks [op, op'] [y, z] && m c a x && m c b y && m c d z
  | .isn n a, .Compare x [op] [.Constant .none _ _] _ => decide (op = isOp n) && m c a x
  | .isb n a bb, .Compare x [op] [.Constant (.bool b2) _ _] _ => decide (op = isOp n) && decide (bb = b2) && m c a x
  | .inn n a b, .Compare x [op] [y] _ => decide (op = inOp n) && !behindInMarks op y && m c a x && chkO m c b y
  | e, x => plainT x && chkO m c e x
mutual
def chk : Nat → Ck
  | 0 => fun _ _ _ => false
  | n + 1 => chk1 (chk n) (chkT n)
def chkT : Nat → Ck
  | 0 => fun _ _ _ => false
  | n + 1 => chkT1 (chk n) (chkT n)
end
/-- the built-in names that are used -/
def bltN : List Str := ["len", "all", "any", "tuple", "list", "sorted", "min", "max", "sum", "int", "str", "dict", "isinstance", "bool", "range", "enumerate", "zip"]
end G

namespace G
open PySem PySem.Spec PyProof.Rows L2

structure EnvOk (g : Cf) (C : Cs) (n : Nat) (c : Sc) (X : Cx) : Prop where
  K : X.K = g.K
  N : X.N = c.N
  nd : X.N.Nodup
  sc : X.env.scope = c.sc
  calm : X.calm = true
  room : Room n X.A
  fns : ∀ x i np, c.fns.lookup x = some (i, np) → ∃ fa fd ps, FnOk X.prog X.w X.K X.mg X.base L2.CX0 n fa fd ps (spF g np (C.cl i)) ∧ X.mg x = some (.ref fa) ∧ PySem.W.keepIn X.K (.ref fa) = true ∧ Binds X.K fd ps []
  blt : ∀ x ∈ bltN, X.mg x = none
  gls : ∀ (k : Nat) (x : Str) (d : D), c.gls[k]? = some (x, d) → ∃ v u, X.mg x = some u ∧ RelV v u ∧ ∀ T H, Den T g.K H v d
  top : ∀ x, X.fn x = (match c.raw with | none => true | some s => s.names.lookup x == some .cell)
def Snd (g : Cf) (C : Cs) (n : Nat) (m : Ck) : Prop := ∀ c X e x, EnvOk g C n c X → m c e x = true → PE X x (tM g (ev C e))
def SndT (g : Cf) (C : Cs) (n : Nat) (t : Ck) : Prop := ∀ c X e x, EnvOk g C n c X → t c e x = true → PT X x (tMB g (truM (ev C e)))
section
variable {g : Cf} {C : Cs} {n : Nat} {c : Sc} {X : Cx} {m t : Ck}
theorem EnvOk.gl (E : EnvOk g C n c X) {x : Str} (h : c.glob x = true) : Gl X x := by
  unfold Sc.glob at h
  unfold Gl Env.kindOf
  rw [E.sc]
  exact of_decide_eq_true h
theorem slot_of {i : Nat} {x : Str} (h : c.slot i x = true) : c.N[i]? = some x ∧ c.vis x = true ∧ (x == ("__debug__" : Str)) = false ∧ (x == ("__classdict__" : Str)) = false := by
  unfold Sc.slot at h
  simp only [Bool.and_eq_true, decide_eq_true_eq, Bool.not_eq_true'] at h
  exact ⟨h.1.1.1, h.1.1.2, h.1.2, h.2⟩
theorem vis_of (E : EnvOk g C n c X) {x : Str} (h : c.vis x = true) : Vis X.env.scope x := by
  unfold Sc.vis at h
  unfold Vis
  rw [E.sc]
  split at h
  · rename_i e; exact .inl e
  · rename_i e; exact .inr (.inl e)
  · rename_i e; exact .inr (.inr e)
  · cases h
theorem star_of {x : Expr} (h : notStar x = true) : ∀ v p, x ≠ .Starred v p := fun v p e => by rw [e] at h; cases h
theorem EnvOk.units (E : EnvOk g C n c X) : X.A.units + 64 < cLine := E.room.units
theorem EnvOk.units5 (E : EnvOk g C n c X) : X.A.units + 65 < cLine := by have := E.room.un; omega
theorem EnvOk.blk (E : EnvOk g C n c X) {scope : Scope} {s : Shared} {H : Hp} {Ca : Addr} {cl : List (Str × Addr)} {fp : List Addr} : EnvOk g C n (c.blk scope) (X.blk s H scope (compEnvC scope cl Ca X.env) fp) where
  K := E.K
  N := E.N
  nd := E.nd
  sc := by
    show relabel scope X.env = relS scope c.sc
    rw [← E.sc]
    rfl
  calm := E.calm
  room := E.room
  fns := E.fns
  blt := E.blt
  gls := E.gls
  top := fun x => rfl
theorem snd_o (hm : Snd g C n m) (E : EnvOk g C n c X) {e : G.E} {x : Expr} (h : chkO m c e x = true) : PE X x (tO g (ev C e)) := by
  unfold chkO at h
  split at h
  · rename_i i x
    unfold bvOk at h
    split at h
    · obtain ⟨h1, h2, h3, h4⟩ := slot_of h
      exact pm_bv (by rw [E.N]; exact h1) (vis_of E h2) h3 h4
    · cases h
  · exact pm_b (hm c X _ _ E h)
theorem evs_len {es : List G.E} {st : G.St} : ∀ {k : Nat} {ds : List D} {k' : Nat}, evs C es st k = some (ds, k') → ds.length = es.length := by
  induction es with
  | nil => intro k ds k' h; cases pure_some.mp h; rfl
  | cons e es ih =>
    intro k ds k' h
    obtain ⟨d, k1, e1, e2⟩ := bind_some.mp (show (do let d ← ev C e st; let ds ← evs C es st; pure (d :: ds) : M (List D)) k = some (ds, k') from h)
    obtain ⟨ds', k2, e3, e4⟩ := bind_some.mp e2
    cases pure_some.mp e4
    rw [List.length_cons, List.length_cons, ih e3]
theorem snd_all (hm : Snd g C n m) (E : EnvOk g C n c X) : ∀ {es : List G.E} {xs : List Expr}, chkAll (m c) es xs = true → PA X xs (tMA g (evs C es)) ∧ es.length = xs.length ∧ ∀ x ∈ xs, ∀ v p, x ≠ .Starred v p
  | [], [], _ => ⟨pam_nil, rfl, fun x hx => by cases hx⟩
  | e :: es, x :: xs, h => by
    unfold chkAll at h
    simp only [Bool.and_eq_true] at h
    obtain ⟨⟨h1, h2⟩, h3⟩ := h
    obtain ⟨i1, i2, i3⟩ := snd_all hm E h3
    refine ⟨pam_cons (star_of h1) (hm c X e x E h2) i1, by simp [i2], fun y hy => ?_⟩
    rcases List.mem_cons.mp hy with rfl | hy
    · exact star_of h1
    · exact i3 y hy
  | [], _ :: _, h => by simp [chkAll] at h
  | _ :: _, [], h => by simp [chkAll] at h
theorem ev_and1 {e : G.E} {st : G.St} : evAnd C [e] st = ev C e st := by rw [evAnd]
theorem ev_or1 {e : G.E} {st : G.St} : evOr C [e] st = ev C e st := by rw [evOr]
theorem ev_and2 {e e' : G.E} {es : List G.E} : evAnd C (e :: e' :: es) = andM (ev C e) (evAnd C (e' :: es)) := by
  funext st
  rw [evAnd]
  · rfl
  · intro h; cases h
theorem ev_or2 {e e' : G.E} {es : List G.E} : evOr C (e :: e' :: es) = orM (ev C e) (evOr C (e' :: es)) := by
  funext st
  rw [evOr]
  · rfl
  · intro h; cases h
theorem snd_and (hm : Snd g C n m) (E : EnvOk g C n c X) {pos : Pos} : ∀ {es : List G.E} {xs : List Expr}, chkAll (m c) es xs = true → es ≠ [] → PE X (.BoolOp .And xs pos) (tM g (evAnd C es))
  | [], _, _, hn => absurd rfl hn
  | [e], [x], h, _ => by
    unfold chkAll at h
    simp only [Bool.and_eq_true] at h
    have q := pe_bool1 (op := .And) (pos := pos) (hm c X e x E h.1.2)
    exact PEm q fun st k r h => by rw [ev_and1] at h; exact h
  | e :: e' :: es, x :: x' :: xs, h, _ => by
    unfold chkAll at h
    simp only [Bool.and_eq_true] at h
    rw [ev_and2]
    have ha := hm c X e x E h.1.2
    exact pm_and E.K (pm_b ha) (snd_and hm E h.2 (by simp)) ha
  | [e], [], h, _ => by simp [chkAll] at h
  | [e], _ :: _ :: _, h, _ => by simp [chkAll] at h
  | _ :: _ :: _, [], h, _ => by simp [chkAll] at h
  | _ :: _ :: _, [_], h, _ => by simp [chkAll] at h
theorem snd_or (hm : Snd g C n m) (E : EnvOk g C n c X) {pos : Pos} : ∀ {es : List G.E} {xs : List Expr}, chkAll (m c) es xs = true → es ≠ [] → PE X (.BoolOp .Or xs pos) (tM g (evOr C es))
  | [], _, _, hn => absurd rfl hn
  | [e], [x], h, _ => by
    unfold chkAll at h
    simp only [Bool.and_eq_true] at h
    have q := pe_bool1 (op := .Or) (pos := pos) (hm c X e x E h.1.2)
    exact PEm q fun st k r h => by rw [ev_or1] at h; exact h
  | e :: e' :: es, x :: x' :: xs, h, _ => by
    unfold chkAll at h
    simp only [Bool.and_eq_true] at h
    rw [ev_or2]
    exact pm_or E.K (hm c X e x E h.1.2) (snd_or hm E h.2 (by simp))
  | [e], [], h, _ => by simp [chkAll] at h
  | [e], _ :: _ :: _, h, _ => by simp [chkAll] at h
  | _ :: _ :: _, [], h, _ => by simp [chkAll] at h
  | _ :: _ :: _, [_], h, _ => by simp [chkAll] at h
theorem snd_andT (ht : SndT g C n t) (E : EnvOk g C n c X) {pos : Pos} : ∀ {es : List G.E} {xs : List Expr}, chkAllT (t c) es xs = true → es ≠ [] → PW X (.BoolOp .And xs pos) (tMB g (truM (evAnd C es)))
  | [], _, _, hn => absurd rfl hn
  | [e], [x], h, _ => by
    unfold chkAllT at h
    simp only [Bool.and_eq_true] at h
    have e1 : evAnd C [e] = ev C e := funext fun st => ev_and1
    rw [e1]
    exact pw_and1 (ht c X e x E h.1)
  | e :: e' :: es, x :: x' :: xs, h, _ => by
    unfold chkAllT at h
    simp only [Bool.and_eq_true] at h
    rw [ev_and2]
    exact pmw_and (ht c X e x E h.1) (snd_andT ht E h.2 (by simp))
  | [e], [], h, _ => by simp [chkAllT] at h
  | [e], _ :: _ :: _, h, _ => by simp [chkAllT] at h
  | _ :: _ :: _, [], h, _ => by simp [chkAllT] at h
  | _ :: _ :: _, [_], h, _ => by simp [chkAllT] at h
theorem snd_orT (ht : SndT g C n t) (E : EnvOk g C n c X) {pos : Pos} : ∀ {es : List G.E} {xs : List Expr}, chkAllT (t c) es xs = true → es ≠ [] → PW X (.BoolOp .Or xs pos) (tMB g (truM (evOr C es)))
  | [], _, _, hn => absurd rfl hn
  | [e], [x], h, _ => by
    unfold chkAllT at h
    simp only [Bool.and_eq_true] at h
    have e1 : evOr C [e] = ev C e := funext fun st => ev_or1
    rw [e1]
    exact pw_or1 (ht c X e x E h.1)
  | e :: e' :: es, x :: x' :: xs, h, _ => by
    unfold chkAllT at h
    simp only [Bool.and_eq_true] at h
    rw [ev_or2]
    exact pmw_or (ht c X e x E h.1) (snd_orT ht E h.2 (by simp))
  | [e], [], h, _ => by simp [chkAllT] at h
  | [e], _ :: _ :: _, h, _ => by simp [chkAllT] at h
  | _ :: _ :: _, [], h, _ => by simp [chkAllT] at h
  | _ :: _ :: _, [_], h, _ => by simp [chkAllT] at h
/-! ### targets, sources -/
def tgOf (g : Cf) : Tg → TG
  | .one i => gName i
  | .two i j => gTup g.K 2 (gCons (gName i) (gCons (gName j) gNil))
theorem gtg_of : ∀ t : Tg, GTg g t (tgOf g t)
  | .one _ => gtg_one
  | .two _ _ => gtg_two
theorem store_of (E : EnvOk g C n c X) {i : Nat} {x : Str} (h : c.store i x = true) : X.N[i]? = some x ∧ Loc X.env.scope x ∧ (X.fn x = true ∨ X.env.scope.names.lookup x = some .local) := by
  unfold Sc.store at h
  simp only [Bool.and_eq_true, Bool.or_eq_true, decide_eq_true_eq] at h
  unfold L2.Loc
  rw [E.sc, E.N]
  obtain ⟨h1, h2⟩ := h
  rcases h2 with h2 | h2
  · exact ⟨h1, .inl h2, .inr h2⟩
  · exact ⟨h1, .inr h2.1, .inl ((E.top x).trans h2.2)⟩
theorem tg_ok (E : EnvOk g C n c X) {tg : Tg} {x : Expr} (h : chkTg c tg x = true) : PG X x (tgOf g tg) := by
  unfold chkTg at h
  split at h
  · obtain ⟨h1, h2, h3⟩ := store_of E h
    exact pg_name E.nd h1 h2 h3
  · simp only [Bool.and_eq_true] at h
    obtain ⟨h1, h2, h3⟩ := store_of E h.1
    obtain ⟨h4, h5, h6⟩ := store_of E h.2
    show PG X _ (gTup g.K 2 _)
    rw [← E.K]
    exact pg_tup E.calm (pgs_cons (pg_name E.nd h1 h2 h3) (pgs_cons (pg_name E.nd h4 h5 h6) pgs_nil))
  · cases h
theorem isNonE_of {e : G.E} (h : isNonE e = true) : ev C e = fun _ => pure .non := by
  unfold isNonE at h
  split at h
  · funext st; rw [ev]
  · cases h
def srcF (C : Cs) (k : Sk) (a b d : G.E) : G.St → M (List D) := fun st => do let x ← ev C a st; let y ← ev C b st; let z ← ev C d st; srcD k x y z
theorem notSet_ok {x : Expr} {env : Env} (h : notSet x = true) : ∀ v, foldedSetIterable x env v = pure v := fun v => by
  cases x <;> first | rfl | (simp [notSet] at h)
theorem PIm {tg iter : Expr} {m1 m2 : G.St → M (List D)} (h : PI X tg iter (tI g m1)) (e : ∀ st k r, m2 st k = some r → m1 st k = some r) : PI X tg iter (tI g m2) := PIi h fun σ H R q => by
  obtain ⟨T, k, st, b, k', w, r, em, q⟩ := q
  exact ⟨T, k, st, b, k', w, r, e _ _ _ em, q⟩
theorem pure_bind_some {α β : Type} {a : α} {f : α → M β} {k : Nat} {r : β × Nat} (h : (pure a >>= f) k = some r) : f a k = some r := h
theorem src_ok (hm : Snd g C n m) (E : EnvOk g C n c X) {k : Sk} {a b d : G.E} {tg iter : Expr} (h : chkSrc m c k a b d tg iter = true) : PI X tg iter (tI g (srcF C k a b d)) ∧ ∀ v, foldedSetIterable iter X.env v = pure v := by
  unfold chkSrc at h
  split at h
  · simp only [Bool.and_eq_true] at h
    obtain ⟨⟨⟨h1, h2⟩, h3⟩, h4⟩ := h
    refine ⟨PIm (pit_it E.K (hm c X _ _ E h4)) fun st k r q => ?_, notSet_ok h3⟩
    unfold srcF at q
    rw [isNonE_of h1, isNonE_of h2] at q
    exact q
  · simp only [Bool.and_eq_true, decide_eq_true_eq] at h
    obtain ⟨⟨⟨⟨⟨h1, h2⟩, h3⟩, h4⟩, h5⟩, h6⟩ := h
    subst h4
    refine ⟨PIm (pit_r1 (E.gl h3) (E.blt _ (by decide)) (star_of h5) (hm c X _ _ E h6)) fun st k r q => ?_, fun v => rfl⟩
    unfold srcF at q
    rw [isNonE_of h1, isNonE_of h2] at q
    exact q
  · simp only [Bool.and_eq_true, decide_eq_true_eq] at h
    obtain ⟨⟨⟨⟨⟨⟨h2, h3⟩, h4⟩, h5⟩, h6⟩, h7⟩, h8⟩ := h
    subst h4
    refine ⟨PIm (pit_r2 (E.gl h3) (E.blt _ (by decide)) (star_of h5) (star_of h6) (hm c X _ _ E h7) (hm c X _ _ E h8)) fun st k r q => ?_, fun v => rfl⟩
    unfold srcF at q
    rw [isNonE_of h2] at q
    exact q
  · simp only [Bool.and_eq_true, decide_eq_true_eq] at h
    obtain ⟨⟨⟨⟨⟨⟨h1, h2⟩, h0⟩, h3⟩, h4⟩, h5⟩, h6⟩ := h
    subst h4
    refine ⟨?_, fun v => rfl⟩
    unfold isTupE at h0
    split at h0
    · refine PIm (pit_en E.K (E.gl h3) (E.blt _ (by decide)) (star_of h5) (hm c X _ _ E h6)) fun st k r q => ?_
      unfold srcF at q
      rw [isNonE_of h1, isNonE_of h2] at q
      exact q
    · cases h0
  · simp only [Bool.and_eq_true, decide_eq_true_eq] at h
    obtain ⟨⟨⟨⟨⟨⟨⟨h2, h0⟩, h3⟩, h4⟩, h5⟩, h6⟩, h7⟩, h8⟩ := h
    subst h4
    refine ⟨?_, fun v => rfl⟩
    unfold isTupE at h0
    split at h0
    · refine PIm (pit_zp E.K (E.gl h3) (E.blt _ (by decide)) (star_of h5) (star_of h6) (hm c X _ _ E h7) (hm c X _ _ E h8)) fun st k r q => ?_
      unfold srcF at q
      rw [isNonE_of h2] at q
      exact q
    · cases h0
  · cases h
/-! ### comprehensions -/
theorem ev_lc {tg : Tg} {k : Sk} {a b d cond elt : G.E} {own : List Nat} : ev C (.lc tg k a b d cond elt own) = lcF tg (srcF C k a b d) (ev C cond) (ev C elt) own := by
  funext st
  rw [ev]
  unfold lcF srcF
  funext j
  show _ = _
  simp only [bind_assoc]
theorem ts_ok (ht : SndT g C n t) (E : EnvOk g C n c X) {ifs : List Expr} {cond : G.E} (h : (match ifs with | [] => isYesE cond | [y] => t c cond y | _ => false) = true) : PTs X ifs (tMB g (truM (ev C cond))) := by
  split at h
  · unfold isYesE at h
    split at h
    · have e : ev C (.c (.bl true)) = fun _ => pure (.bl true) := by funext st; rw [ev]
      rw [e]
      exact ptsm_nil
    · cases h
  · exact pts_one (ht c X _ _ E h)
  · cases h
theorem lc_ok (hm : Snd g C n m) (ht : SndT g C n t) (E : EnvOk g C n c X) {tg : Tg} {k : Sk} {a b d cond elt : G.E} {own : List Nat} {x : Expr} (h : chkLc m t c tg k a b d cond elt own x = true) : PE X x (tN g (ev C (.lc tg k a b d cond elt own))) := by
  unfold chkLc at h
  split at h
  · simp only [Bool.and_eq_true, decide_eq_true_eq] at h
    obtain ⟨⟨⟨⟨⟨⟨⟨h1, h2⟩, h3⟩, h4⟩, h5⟩, h6⟩, h7⟩, h8⟩ := h
    subst h1
    obtain ⟨i1, i2⟩ := src_ok hm E h2
    rw [ev_lc, ← h4]
    refine pn_lc E.calm E.nd i1 (blkOk_by (by rw [E.N, E.sc]; exact h3)) (gtg_of tg) (by rw [h4]; exact h5) (fun s H Ca cl fp => tg_ok E.blk h6) (fun s H Ca cl fp => ts_ok ht E.blk h7) (fun s H Ca cl fp => hm _ _ _ _ E.blk h8) i2
  · cases h
end
end G

namespace G
open PySem PySem.Spec PyProof.Rows L2

section
variable {g : Cf} {C : Cs} {n : Nat} {c : Sc} {X : Cx} {m t : Ck}
theorem const_ok {d : D} {x : Expr} (h : constOk d x = true) : PE X x (tM g fun _ => pure d) := by
  unfold constOk at h
  split at h
  · exact pm_c (fun T H => .non) pe_non
  · rename_i b c _ _
    have e : b = c := by simpa using h
    subst e
    exact pm_c (fun T H => .bl _) pe_bl
  · rename_i b c _ _
    have e : b = c := by simpa using h
    subst e
    exact pm_c (fun T H => .int _) pe_int
  · rename_i b c _ _
    have e := of_decide_eq_true h
    subst e
    exact pm_c (fun T H => .str _) pe_str
  · cases h
theorem eqC_eq {d d' : D} (h : eqC d d' = true) : d = d' := by
  unfold eqC at h
  split at h
  · rw [beq_iff_eq.mp h]
  · rw [of_decide_eq_true h]
  · cases h
theorem lst_out {m : G.St → M (List D)} {st : G.St} {k : Nat} {d : D} {k' : Nat} (h : (do let ds ← m st; pure (.lst ds) : M D) k = some (d, k')) : ∃ ds, d = .lst ds := by
  obtain ⟨x, k1, e1, e2⟩ := bind_some.mp h
  cases pure_some.mp e2
  exact ⟨_, rfl⟩
theorem lc_out {tg : Tg} {k : Sk} {a b d cond elt : G.E} {own : List Nat} {st : G.St} {j : Nat} {r : D} {k' : Nat} (h : ev C (.lc tg k a b d cond elt own) st j = some (r, k')) : ∃ ds, r = .lst ds := by
  rw [ev_lc] at h
  obtain ⟨l, k1, e1, e2⟩ := bind_some.mp h
  obtain ⟨l2, k2, e3, e4⟩ := bind_some.mp e2
  cases pure_some.mp e4
  exact ⟨_, rfl⟩
theorem list_out {d : D} {k : Nat} {r : D} {k' : Nat} (h : f1D .list d k = some (r, k')) : ∃ ds, r = .lst ds := by
  cases d with
  | lst l => cases pure_some.mp h; exact ⟨_, rfl⟩
  | tup l => cases pure_some.mp h; exact ⟨_, rfl⟩
  | _ => exact absurd h (no_some (k := k))
theorem sorted_out {d : D} {k : Nat} {r : D} {k' : Nat} (h : f1D .sorted d k = some (r, k')) : ∃ ds, r = .lst ds := by
  cases d with
  | lst l =>
    obtain ⟨_, e2⟩ := if_some (show (if sortable l then (pure (.lst (sortL l)) : M D) else no) k = some (r, k') from h)
    cases pure_some.mp e2
    exact ⟨_, rfl⟩
  | _ => exact absurd h (no_some (k := k))
theorem bind_out {m : G.St → M D} {h : D → M D} (hh : ∀ d k r k', h d k = some (r, k') → ∃ ds, r = .lst ds) {st : G.St} {k : Nat} {r : D} {k' : Nat} (q : (do let d ← m st; h d : M D) k = some (r, k')) : ∃ ds, r = .lst ds := by
  obtain ⟨x, k1, e1, e2⟩ := bind_some.mp q
  exact hh _ _ _ _ e2
/-- a new list: a display, a comprehension, list(x), sorted(x) -/
def isN : G.E → Bool
  | .lst _ => true
  | .lc .. => true
  | .b1 f _ => b1New f
  | _ => false
theorem isN_out {e : G.E} (h : isN e = true) {st : G.St} {k : Nat} {d : D} {k' : Nat} (q : ev C e st k = some (d, k')) : ∃ ds, d = .lst ds := by
  unfold isN at h
  split at h
  · rw [ev] at q; exact lst_out (m := fun st => evs C _ st) q
  · exact lc_out q
  · rename_i f a
    rw [ev] at q
    cases f <;> first
      | exact bind_out (m := fun st => ev C a st) (fun _ _ _ _ => list_out) q
      | exact bind_out (m := fun st => ev C a st) (fun _ _ _ _ => sorted_out) q
      | cases h
  · cases h
theorem evq_v {i : Nat} : ev C (.v i) = fun st => getV st i := funext fun st => by rw [ev]
theorem evq_bv {i : Nat} : ev C (.bv i) = fun st => getB st i := funext fun st => by rw [ev]
theorem evq_c {d : D} : ev C (.c d) = fun st => pure d := funext fun st => by rw [ev]
theorem evq_gl {i : Nat} {d : D} : ev C (.gl i d) = fun st => pure d := funext fun st => by rw [ev]
theorem evq_tup {es : List G.E} : ev C (.tup es) = fun st => (do let ds ← evs C es st; pure (.tup ds)) := funext fun st => by rw [ev]
theorem evq_lst {es : List G.E} : ev C (.lst es) = fun st => (do let ds ← evs C es st; pure (.lst ds)) := funext fun st => by rw [ev]
theorem evq_neg {a : G.E} : ev C (.neg a) = fun st => (do let x ← ev C a st; negD x) := funext fun st => by rw [ev]
theorem evq_cmp {o : Cp} {a b : G.E} : ev C (.cmp o a b) = fun st => (do let x ← ev C a st; let y ← ev C b st; cmpM o x y) := funext fun st => by rw [ev]
theorem evq_chain {o o' : Cp} {a b c : G.E} : ev C (.chain o o' a b c) = fun st => (do let x ← ev C a st; let y ← ev C b st; let r ← cmpD o x y; if r then do let z ← ev C c st; cmpM o' y z else pure (.bl false)) := funext fun st => by rw [ev]
theorem evq_isn {q : Bool} {a : G.E} : ev C (.isn q a) = fun st => (do let x ← ev C a st; pure (isnD q x)) := funext fun st => by rw [ev]
theorem evq_isb {q bb : Bool} {a : G.E} : ev C (.isb q a bb) = fun st => (do let x ← ev C a st; isbD q bb x) := funext fun st => by rw [ev]
theorem evq_inn {q : Bool} {a b : G.E} : ev C (.inn q a b) = fun st => (do let x ← ev C a st; let y ← ev C b st; inM q x y) := funext fun st => by rw [ev]
theorem evq_not {a : G.E} : ev C (.not a) = fun st => (do let x ← ev C a st; let r ← tru x; pure (.bl !r)) := funext fun st => by rw [ev]
theorem evq_and {es : List G.E} : ev C (.and es) = evAnd C es := funext fun st => by rw [ev]
theorem evq_or {es : List G.E} : ev C (.or es) = evOr C es := funext fun st => by rw [ev]
theorem evq_ite {q a b : G.E} : ev C (.ite q a b) = iteM (ev C q) (ev C a) (ev C b) := funext fun st => by rw [ev]; rfl
theorem evq_call {f : Nat} {es : List G.E} : ev C (.call f es) = fun st => (do let ds ← evs C es st; C.cl f ds) := funext fun st => by rw [ev]
theorem evq_b1 {f : F1} {a : G.E} : ev C (.b1 f a) = fun st => (do let d ← ev C a st; f1D f d) := funext fun st => by rw [ev]
theorem evq_b2 {f : F2} {a b : G.E} : ev C (.b2 f a b) = fun st => (do let d ← ev C a st; let d' ← ev C b st; f2D f d d') := funext fun st => by rw [ev]
theorem evq_isi {q : Ty} {a : G.E} : ev C (.isi q a) = fun st => (do let x ← ev C a st; let r ← isTy q x; pure (.bl r)) := funext fun st => by rw [ev]
theorem evq_ix {a b : G.E} : ev C (.ix a b) = fun st => (do let x ← ev C a st; let y ← ev C b st; ixD x y) := funext fun st => by rw [ev]
theorem evq_slh {a b : G.E} : ev C (.slh a b) = fun st => (do let x ← ev C a st; let y ← ev C b st; slhD x y) := funext fun st => by rw [ev]
theorem evq_sll {a b : G.E} : ev C (.sll a b) = fun st => (do let x ← ev C a st; let y ← ev C b st; sllD x y) := funext fun st => by rw [ev]
theorem evq_slb {a b c : G.E} : ev C (.slb a b c) = fun st => (do let x ← ev C a st; let y ← ev C b st; let z ← ev C c st; slbD x y z) := funext fun st => by rw [ev]
theorem evq_add {a b : G.E} : ev C (.add a b) = fun st => (do let x ← ev C a st; let y ← ev C b st; addD x y) := funext fun st => by rw [ev]
theorem evq_sub {a b : G.E} : ev C (.sub a b) = fun st => (do let x ← ev C a st; let y ← ev C b st; subD x y) := funext fun st => by rw [ev]
theorem evq_mul {a b : G.E} : ev C (.mul a b) = fun st => (do let x ← ev C a st; let y ← ev C b st; mulD x y) := funext fun st => by rw [ev]
theorem evq_fdv {a b : G.E} : ev C (.fdv a b) = fun st => (do let x ← ev C a st; let y ← ev C b st; fdvD x y) := funext fun st => by rw [ev]
theorem evq_mod {a b : G.E} : ev C (.mod a b) = fun st => (do let x ← ev C a st; let y ← ev C b st; modD x y) := funext fun st => by rw [ev]
theorem ev_f {e : G.E} {f : G.St → M D} (h : ∀ st, ev C e st = f st) : ev C e = f := funext h
/-- built-ins of one value -/
theorem b1_ok (E : EnvOk g C n c X) {f : F1} {x : Str} {a : Expr} {p pos : Pos} {ma : G.St → M D} (hg : c.glob x = true) (hx : x = b1N f) (hf : b1Ok f = true) (hs : notStar a = true) (ha : PE X a (tO g ma)) :
    (PE X (.Call (.Name x p) [a] [] pos) (tM g fun st => do let d ← ma st; f1D f d)) ∧ (b1New f = true → PE X (.Call (.Name x p) [a] [] pos) (tN g fun st => do let d ← ma st; f1D f d)) := by
  subst hx
  have G := E.gl hg
  have S := star_of hs
  cases f with
  | len => exact ⟨pm_b1 (call_lenD E.K) G (E.blt _ (by decide)) (by decide +kernel) (by decide) (by decide) S ha, fun z => by cases z⟩
  | all => exact ⟨pm_b1 (call_allD E.K E.calm) G (E.blt _ (by decide)) (by decide +kernel) (by decide) (by decide) S ha, fun z => by cases z⟩
  | any => exact ⟨pm_b1 (call_anyD E.K E.calm) G (E.blt _ (by decide)) (by decide +kernel) (by decide) (by decide) S ha, fun z => by cases z⟩
  | sum => exact ⟨pm_b1 (call_sumD E.K E.calm) G (E.blt _ (by decide)) (by decide +kernel) (by decide) (by decide) S ha, fun z => by cases z⟩
  | min => exact ⟨pm_b1 (call_minD E.K E.calm E.units) G (E.blt _ (by decide)) (by decide +kernel) (by decide) (by decide) S ha, fun z => by cases z⟩
  | max => exact ⟨pm_b1 (call_maxD E.K E.calm E.units) G (E.blt _ (by decide)) (by decide +kernel) (by decide) (by decide) S ha, fun z => by cases z⟩
  | tuple => exact ⟨pm_t1 (call_tupleD E.K) G (E.blt _ (by decide)) (by decide +kernel) (by decide) (by decide) S ha, fun z => by cases z⟩
  | list =>
    have q := pn_t1 (call_listN E.K) (p := p) (pos := pos) G (E.blt _ (by decide)) (by decide +kernel) (by decide) (by decide) S ha
    exact ⟨PE.lockN (fun _ _ _ _ => bind_out fun _ _ _ _ => list_out) q, fun _ => q⟩
  | sorted =>
    have q := pn_b1 (call_sortedN E.K E.units) (p := p) (pos := pos) G (E.blt _ (by decide)) (by decide +kernel) (by decide) (by decide) S ha
    exact ⟨PE.lockN (fun _ _ _ _ => bind_out fun _ _ _ _ => sorted_out) q, fun _ => q⟩
  | int => cases hf
  | str => cases hf
  | dict => cases hf
theorem snd1 (hm : Snd g C n m) (ht : SndT g C n t) (E : EnvOk g C n c X) {e : G.E} {x : Expr} (h : chk1 m t c e x = true) : PE X x (tM g (ev C e)) ∧ (isN e = true → PE X x (tN g (ev C e))) := by
  have no : ∀ {e : G.E} {P : Prop}, isN e = false → (isN e = true → P) := fun h z => by rw [h] at z; cases z
  unfold chk1 at h
  split at h
  · -- v
    obtain ⟨h1, h2, h3, h4⟩ := slot_of h
    rw [evq_v]
    exact ⟨pm_v (by rw [E.N]; exact h1) (vis_of E h2) h3 h4, no rfl⟩
  · rw [evq_c]
    exact ⟨const_ok h, no rfl⟩
  · -- gl
    rename_i k d nm p
    simp only [Bool.and_eq_true, Bool.not_eq_true'] at h
    obtain ⟨⟨h1, h2⟩, h3⟩ := h
    split at h2
    · rename_i n' d' hk
      rw [Bool.and_eq_true] at h2
      have e1 := of_decide_eq_true h2.1
      have e2 := eqC_eq h2.2
      subst e1 e2
      obtain ⟨v, u, g1, g2, g3⟩ := E.gls _ _ _ hk
      rw [evq_gl]
      exact ⟨pm_c g3 (pe_glob (E.gl h1) g1 g2 h3), no rfl⟩
    · cases h2
  · -- tup
    simp only [Bool.and_eq_true, decide_eq_true_eq] at h
    obtain ⟨i1, i2, i3⟩ := snd_all hm E h.2
    rw [evq_tup]
    exact ⟨pm_tup h.1 (fun st k ds k' e => by rw [evs_len e, i2]) i1, no rfl⟩
  · -- lst
    simp only [Bool.and_eq_true, decide_eq_true_eq] at h
    obtain ⟨i1, i2, i3⟩ := snd_all hm E h.2
    have q := pn_lst (pos := by assumption) h.1 (fun st k ds k' e => by rw [evs_len e, i2]) i1
    rw [evq_lst]
    exact ⟨PE.lockN (fun _ _ _ _ => lst_out) q, fun _ => q⟩
  · rw [Bool.and_eq_true] at h
    rw [evq_add]
    exact ⟨pm_op (op_addD E.K) (hm _ _ _ _ E h.1) (hm _ _ _ _ E h.2), no rfl⟩
  · rw [Bool.and_eq_true] at h
    rw [evq_sub]
    exact ⟨pm_op op_subD (hm _ _ _ _ E h.1) (hm _ _ _ _ E h.2), no rfl⟩
  · rw [Bool.and_eq_true] at h
    rw [evq_mul]
    exact ⟨pm_op op_mulD (hm _ _ _ _ E h.1) (hm _ _ _ _ E h.2), no rfl⟩
  · rw [Bool.and_eq_true] at h
    rw [evq_fdv]
    exact ⟨pm_op op_fdvD (hm _ _ _ _ E h.1) (hm _ _ _ _ E h.2), no rfl⟩
  · rw [Bool.and_eq_true] at h
    rw [evq_mod]
    exact ⟨pm_op op_modD (hm _ _ _ _ E h.1) (hm _ _ _ _ E h.2), no rfl⟩
  · rw [evq_neg]
    exact ⟨pm_un un_negD (hm _ _ _ _ E h), no rfl⟩
  · -- cmp
    simp only [Bool.and_eq_true, decide_eq_true_eq, Bool.not_eq_true'] at h
    obtain ⟨⟨⟨h1, h2⟩, h3⟩, h4⟩ := h
    subst h1
    rw [evq_cmp]
    exact ⟨pm_cmp (op_cmp E.K E.units _) (hm _ _ _ _ E h3) (hm _ _ _ _ E h4) h2, no rfl⟩
  · -- chain
    simp only [Bool.and_eq_true, decide_eq_true_eq, Bool.not_eq_true'] at h
    obtain ⟨⟨⟨⟨⟨h1, h2⟩, h3⟩, h4⟩, h5⟩, h6⟩ := h
    subst h1 h2
    refine ⟨?_, no rfl⟩
    rw [evq_chain]
    exact (pm_chain E.K E.units (hm _ _ _ _ E h4) (hm _ _ _ _ E h5) (hm _ _ _ _ E h6) h3).1
  · -- isn
    simp only [Bool.and_eq_true, decide_eq_true_eq] at h
    obtain ⟨h1, h2⟩ := h
    subst h1
    rw [evq_isn]
    exact ⟨pm_isn (hm _ _ _ _ E h2), no rfl⟩
  · -- isb
    simp only [Bool.and_eq_true, decide_eq_true_eq] at h
    obtain ⟨⟨h1, h0⟩, h2⟩ := h
    subst h1 h0
    rw [evq_isb]
    exact ⟨pm_isb rfl pe_bl (hm _ _ _ _ E h2), no rfl⟩
  · -- inn
    simp only [Bool.and_eq_true, decide_eq_true_eq, Bool.not_eq_true'] at h
    obtain ⟨⟨⟨h1, h2⟩, h3⟩, h4⟩ := h
    subst h1
    rw [evq_inn]
    exact ⟨pm_inn E.K E.units5 (hm _ _ _ _ E h3) (snd_o hm E h4) h2, no rfl⟩
  · -- not
    rw [evq_not]
    exact ⟨pm_not E.K (snd_o hm E h), no rfl⟩
  · simp only [Bool.and_eq_true, Bool.not_eq_true'] at h
    rw [evq_and]
    exact ⟨snd_and hm E h.1 (fun z => by rw [z] at h; exact absurd h.2 (by simp)), no rfl⟩
  · simp only [Bool.and_eq_true, Bool.not_eq_true'] at h
    rw [evq_or]
    exact ⟨snd_or hm E h.1 (fun z => by rw [z] at h; exact absurd h.2 (by simp)), no rfl⟩
  · -- ite
    simp only [Bool.and_eq_true] at h
    rw [evq_ite]
    exact ⟨pm_ite (ht _ _ _ _ E h.1.1) (hm _ _ _ _ E h.1.2) (hm _ _ _ _ E h.2), no rfl⟩
  · -- call
    rename_i f es nm p xs pos
    simp only [Bool.and_eq_true, decide_eq_true_eq, Bool.not_eq_true'] at h
    obtain ⟨⟨⟨⟨h1, h2⟩, h3⟩, h4⟩, h5⟩ := h
    obtain ⟨i1, i2, i3⟩ := snd_all hm E h5
    obtain ⟨fa, fd, ps, F, f1, f2, f3⟩ := E.fns _ _ _ h2
    cases xs with
    | nil => simp at h4
    | cons x xs =>
      rw [evq_call]
      exact ⟨pm_call (E := L2.E0) F E.room (E.gl h1) f1 f2 f3 L2.pass0 h3 i2.symm (fun st k ds k' e => by rw [evs_len e, i2]) i3 i1, no rfl⟩
  · -- b1
    rename_i f a nm p x pos
    simp only [Bool.and_eq_true, decide_eq_true_eq] at h
    obtain ⟨⟨⟨⟨h1, h2⟩, h3⟩, h4⟩, h5⟩ := h
    rw [evq_b1]
    exact b1_ok E h1 h2 h3 h4 (snd_o hm E h5)
  · -- b2
    rename_i f a b nm p x y pos
    simp only [Bool.and_eq_true] at h
    obtain ⟨⟨⟨⟨⟨h1, h2⟩, h3⟩, h4⟩, h5⟩, h6⟩ := h
    rw [evq_b2]
    cases f with
    | min =>
      have e := of_decide_eq_true h2
      subst e
      exact ⟨pm_b2 (call_min2D E.calm) (E.gl h1) (E.blt _ (by decide)) (by decide +kernel) (by decide) (by decide) (star_of h3) (star_of h4) (hm _ _ _ _ E h5) (hm _ _ _ _ E h6), no rfl⟩
    | max =>
      have e := of_decide_eq_true h2
      subst e
      exact ⟨pm_b2 (call_max2D E.calm) (E.gl h1) (E.blt _ (by decide)) (by decide +kernel) (by decide) (by decide) (star_of h3) (star_of h4) (hm _ _ _ _ E h5) (hm _ _ _ _ E h6), no rfl⟩
    | sum => cases h2
  · -- isi
    rename_i q a nm p x u p2 k2
    simp only [Bool.and_eq_true, decide_eq_true_eq] at h
    obtain ⟨⟨⟨⟨⟨h1, h2⟩, h3⟩, h4⟩, h5⟩, h6⟩ := h
    subst h2
    have hb : X.mg u = none := by
      subst h4
      cases q <;> exact E.blt _ (by decide)
    rw [evq_isi]
    exact ⟨pm_isi E.K (E.gl h1) (E.blt _ (by decide)) h4 (E.gl h3) hb (star_of h5) (hm _ _ _ _ E h6), no rfl⟩
  · -- ix
    rename_i a b x y pos
    simp only [Bool.and_eq_true] at h
    obtain ⟨⟨h1, h2⟩, h3⟩ := h
    refine ⟨?_, no rfl⟩
    rw [evq_ix]
    unfold chkO at h2
    split at h2
    · rename_i i x
      unfold bvOk at h2
      split at h2
      · obtain ⟨j1, j2, j3, j4⟩ := slot_of h2
        rw [evq_bv]
        exact pm_ixB E.K (by rw [E.N]; exact j1) (vis_of E j2) j3 j4 (hm _ _ _ _ E h3) h1
      · cases h2
    · exact pm_ix E.K (hm _ _ _ _ E h2) (hm _ _ _ _ E h3) h1
  · rw [Bool.and_eq_true] at h
    rw [evq_slh]
    exact ⟨pm_slh E.K (hm _ _ _ _ E h.1) (hm _ _ _ _ E h.2), no rfl⟩
  · rw [Bool.and_eq_true] at h
    rw [evq_sll]
    exact ⟨pm_sll E.K (hm _ _ _ _ E h.1) (hm _ _ _ _ E h.2), no rfl⟩
  · rw [Bool.and_eq_true, Bool.and_eq_true] at h
    rw [evq_slb]
    exact ⟨pm_slb E.K (hm _ _ _ _ E h.1.1) (hm _ _ _ _ E h.1.2) (hm _ _ _ _ E h.2), no rfl⟩
  · -- lc
    have q := lc_ok hm ht E h
    exact ⟨PE.lockN (fun _ _ _ _ => lc_out) q, fun _ => q⟩
  · cases h
theorem sndT1 (hm : Snd g C n m) (ht : SndT g C n t) (E : EnvOk g C n c X) {e : G.E} {x : Expr} (h : chkT1 m t c e x = true) : PT X x (tMB g (truM (ev C e))) := by
  unfold chkT1 at h
  split at h
  · rw [evq_not]
    exact pmt_not' (ht _ _ _ _ E h)
  · simp only [Bool.and_eq_true, Bool.not_eq_true'] at h
    rw [evq_and]
    exact (snd_andT ht E h.1 (fun z => by rw [z] at h; exact absurd h.2 (by simp))).pt
  · simp only [Bool.and_eq_true, Bool.not_eq_true'] at h
    rw [evq_or]
    exact (snd_orT ht E h.1 (fun z => by rw [z] at h; exact absurd h.2 (by simp))).pt
  · simp only [Bool.and_eq_true, decide_eq_true_eq, Bool.not_eq_true'] at h
    obtain ⟨⟨⟨h1, h2⟩, h3⟩, h4⟩ := h
    subst h1
    rw [evq_cmp]
    exact pmt_cmp' E.K E.units (hm _ _ _ _ E h3) (hm _ _ _ _ E h4) h2
  · simp only [Bool.and_eq_true, decide_eq_true_eq, Bool.not_eq_true'] at h
    obtain ⟨⟨⟨⟨⟨h1, h2⟩, h3⟩, h4⟩, h5⟩, h6⟩ := h
    subst h1 h2
    rw [evq_chain]
    exact pt_bool (fun st k d k' e => chain_bl e) (pm_chain E.K E.units (hm _ _ _ _ E h4) (hm _ _ _ _ E h5) (hm _ _ _ _ E h6) h3).2
  · simp only [Bool.and_eq_true, decide_eq_true_eq] at h
    obtain ⟨h1, h2⟩ := h
    subst h1
    rw [evq_isn]
    exact pmt_isn (hm _ _ _ _ E h2)
  · simp only [Bool.and_eq_true, decide_eq_true_eq] at h
    obtain ⟨⟨h1, h0⟩, h2⟩ := h
    subst h1 h0
    rw [evq_isb]
    exact pmt_isb rfl pe_bl (hm _ _ _ _ E h2)
  · simp only [Bool.and_eq_true, decide_eq_true_eq, Bool.not_eq_true'] at h
    obtain ⟨⟨⟨h1, h2⟩, h3⟩, h4⟩ := h
    subst h1
    rw [evq_inn]
    exact pmt_inn E.K E.units5 (hm _ _ _ _ E h3) (snd_o hm E h4) h2
  · rw [Bool.and_eq_true] at h
    exact pmt_plain E.K h.1 (snd_o hm E h.2)
theorem snd_both : ∀ k, Snd g C n (chk k) ∧ SndT g C n (chkT k)
  | 0 => by
    refine ⟨?_, ?_⟩
    · intro c X e x _ h
      simp [chk] at h
    · intro c X e x _ h
      simp [chkT] at h
  | k + 1 => by
    obtain ⟨i1, i2⟩ := snd_both k
    refine ⟨?_, ?_⟩
    · intro c X e x E h
      unfold chk at h
      exact (snd1 i1 i2 E h).1
    · intro c X e x E h
      unfold chkT at h
      exact sndT1 i1 i2 E h
theorem snd_N {k : Nat} (E : EnvOk g C n c X) {e : G.E} {x : Expr} (h : chk k c e x = true) (hn : isN e = true) : PE X x (tN g (ev C e)) := by
  cases k with
  | zero => simp [chk] at h
  | succ k =>
    unfold chk at h
    exact (snd1 (snd_both k).1 (snd_both k).2 E h).2 hn
end
end G

namespace G
open PySem PySem.Spec PyProof.Rows L2

/-- not a comprehension -/
def notComp : Expr → Bool
  | .ListComp .. => false
  | .SetComp .. => false
  | .DictComp .. => false
  | _ => true
def notTupE : Expr → Bool
  | .Tuple .. => false
  | _ => true
def blockK (sc : Scope) : ScopeKind := if sc.kind.isAnnotationScope then .function else sc.kind
/-- a comprehension that is stored at once -/
def swC (sc : Scope) (t : Str) (p : Pos) (v : Expr) : Bool := match v with
  | .ListComp _ _ s vp => (blockK sc == .function && sc.names.lookup t == some .local && p.line == vp.line) && !(s.names.any fun (n, k) => n == t && (k == .local || k == .cell))
  | .SetComp _ _ s vp => (blockK sc == .function && sc.names.lookup t == some .local && p.line == vp.line) && !(s.names.any fun (n, k) => n == t && (k == .local || k == .cell))
  | .DictComp _ _ _ s vp => (blockK sc == .function && sc.names.lookup t == some .local && p.line == vp.line) && !(s.names.any fun (n, k) => n == t && (k == .local || k == .cell))
  | _ => false
theorem swaps_eq {v : Expr} {t : Str} {p : Pos} {l : Nat} {env : Env} : swapsWith v (some (.Name t p)) l env = pure (swC env.scope t p v) := by
  cases v <;> rfl
theorem swapsS_eq {v : Expr} {t : Expr} {l : Nat} {env : Env} (h : ∀ n p, t ≠ .Name n p) : swapsWithSole [t] v l env = pure false := by
  cases v <;> first | rfl | (cases t <;> first | rfl | exact absurd rfl (h _ _))
theorem swapsN_eq {v : Expr} {l : Nat} {env : Env} (h : notComp v = true) : swapsWith v none l env = pure false := by
  cases v <;> first | rfl | (simp [notComp] at h)
/-- two names at once -/
def par2C (sc : Scope) (x y : Str) (px py : Pos) (a b : Expr) : Bool :=
  blockK sc == .function && notStar a && notStar b && sc.names.lookup x == some .local && sc.names.lookup y == some .local && px.line == py.line && !(x == y) && !([a, b].all (foldedForSure 8)) && !([a, b].all (constantsAlone 8))
theorem er2 {x y : Str} (h : (x == y) = false) : [x, y].eraseDups.length = 2 := by
  have h' : (y == x) = false := by rw [← h]; exact Bool.eq_iff_iff.mpr ⟨fun e => by rw [beq_iff_eq] at e ⊢; exact e.symm, fun e => by rw [beq_iff_eq] at e ⊢; exact e.symm⟩
  simp [List.eraseDups_cons, h']
theorem er3 {x y z : Str} (h1 : (x == y) = false) (h2 : (x == z) = false) (h3 : (y == z) = false) : [x, y, z].eraseDups.length = 3 := by
  have sy : ∀ {x y : Str}, (x == y) = false → (y == x) = false := fun {x y} h => by rw [← h]; exact Bool.eq_iff_iff.mpr ⟨fun e => by rw [beq_iff_eq] at e ⊢; exact e.symm, fun e => by rw [beq_iff_eq] at e ⊢; exact e.symm⟩
  simp [List.eraseDups_cons, sy h1, sy h2, sy h3]
theorem par2_eq {env : Env} {x y : Str} {px py pt pt2 : Pos} {kt k2 : Nat} {a b : Expr} (h : par2C env.scope x y px py a b = true) : swappedStores [.Tuple [.Name x px, .Name y py] kt pt] (.Tuple [a, b] k2 pt2) env = pure (some [x, y]) := by
  unfold par2C at h
  simp only [Bool.and_eq_true, Bool.not_eq_true', beq_iff_eq] at h
  obtain ⟨⟨⟨⟨⟨⟨⟨⟨h1, h2⟩, h3⟩, h4⟩, h5⟩, h6⟩, h7⟩, h8⟩, h9⟩ := h
  have k1 : env.blockKind = .function := h1
  have k4 : env.kindOf x = some .local := h4
  have k5 : env.kindOf y = some .local := h5
  have st : ∀ e : Expr, notStar e = true → (match e with | .Starred .. => true | _ => false) = false := fun e h => by
    cases e <;> first | rfl | cases h
  unfold swappedStores
  simp [k1, st a h2, st b h3, k4, k5, h6, h7, h8, h9, Expr.pos]
  rw [if_neg (fun q => q.elim (fun q => Bool.noConfusion ((st a h2).symm.trans q)) (fun q => Bool.noConfusion ((st b h3).symm.trans q))), if_pos (er2 h7)]
/-- three names at once -/
def par3C (sc : Scope) (x y z : Str) (px py pz : Pos) (a b c : Expr) : Bool :=
  blockK sc == .function && notStar a && notStar b && notStar c && sc.names.lookup x == some .local && sc.names.lookup y == some .local && sc.names.lookup z == some .local && px.line == py.line && px.line == pz.line && !(x == y) && !(x == z) && !(y == z) && !([a, b, c].all (foldedForSure 8)) && !([a, b, c].all (constantsAlone 8))
theorem par3_eq {env : Env} {x y z : Str} {px py pz pt pt2 : Pos} {kt k2 : Nat} {a b c : Expr} (h : par3C env.scope x y z px py pz a b c = true) : swappedStores [.Tuple [.Name x px, .Name y py, .Name z pz] kt pt] (.Tuple [a, b, c] k2 pt2) env = pure (some [x, y, z]) := by
  unfold par3C at h
  simp only [Bool.and_eq_true, Bool.not_eq_true', beq_iff_eq] at h
  obtain ⟨⟨⟨⟨⟨⟨⟨⟨⟨⟨⟨⟨⟨h1, h2⟩, h3⟩, h3'⟩, h4⟩, h5⟩, h5'⟩, h6⟩, h6'⟩, h7⟩, h7'⟩, h7''⟩, h8⟩, h9⟩ := h
  have k1 : env.blockKind = .function := h1
  have k4 : env.kindOf x = some .local := h4
  have k5 : env.kindOf y = some .local := h5
  have k6 : env.kindOf z = some .local := h5'
  have st : ∀ e : Expr, notStar e = true → (match e with | .Starred .. => true | _ => false) = false := fun e h => by
    cases e <;> first | rfl | cases h
  unfold swappedStores
  simp [k1, st a h2, st b h3, st c h3', k4, k5, k6, ← h6, ← h6', h8, h9, Expr.pos]
  rw [if_neg (fun q => q.elim (fun q => Bool.noConfusion ((st a h2).symm.trans q)) (fun q => q.elim (fun q => Bool.noConfusion ((st b h3).symm.trans q)) (fun q => Bool.noConfusion ((st c h3').symm.trans q)))), if_pos (er3 h7 h7' h7'')]

def lineOk (a c : Pos) : Bool := a.endLine == c.line
/-- statements, one by one -/
def chkSs (one : S → Stmt → Bool) : List S → List Stmt → Bool
  | .fz _ :: ss, xs => chkSs one ss xs
  | s :: ss, x :: xs => one s x && chkSs one ss xs
  | [], [] => true
  | _, _ => false
/-- a value for a slot: a new list, or one that stands -/
def chkG (k : Nat) (c : Sc) (o : Bool) (e : E) (x : Expr) : Bool := chk k c e x && (!o || isN e)
def chkS1 (k : Nat) (rec : List S → List Stmt → Bool) (c : Sc) : S → Stmt → Bool
  | .set i e, .Assign [.Name n p] v _ => c.store i n && !swC c.sc n p v && chk k c e v
  | .own i e, .Assign [.Name n p] v _ => c.store i n && isN e && (if swC c.sc n p v then decide (c.sc.names.lookup n = some .local) && (match e with | .lc tg q a b d cond elt own => chkLc (chk k) (chkT k) c tg q a b d cond elt own v | _ => false) else chk k c e v)
  | .tgt t e, .Assign [.Tuple [.Name a p, .Name b p2] q p3] v _ => chkTg c t (.Tuple [.Name a p, .Name b p2] q p3) && notTupE v && chk k c e v
  | .par [(i, o1), (j, o2)] [a, b], .Assign [.Tuple [.Name x px, .Name y py] _ _] (.Tuple [u, v] _ _) _ => decide (c.N[i]? = some x) && decide (c.N[j]? = some y) && decide (i ≠ j) && par2C c.sc x y px py u v && chkG k c o1 a u && chkG k c o2 b v
  | .par [(i, o1), (j, o2), (l, o3)] [a, b, d], .Assign [.Tuple [.Name x px, .Name y py, .Name z pz] _ _] (.Tuple [u, v, w] _ _) _ => decide (c.N[i]? = some x) && decide (c.N[j]? = some y) && decide (c.N[l]? = some z) && decide (i ≠ j) && decide (i ≠ l) && decide (j ≠ l) &&
      par3C c.sc x y z px py pz u v w && chkG k c o1 a u && chkG k c o2 b v && chkG k c o3 d w
  | .exp e, .Expr v _ => notComp v && chk k c e v
  | .app i e, .Expr (.Call (.Attribute (.Name n _) at' ap) [x] [] cp) _ => decide (at' = "append") && c.slot i n && notStar x && lineOk ap cp && chk k c e x
  | .ext i e, .Expr (.Call (.Attribute (.Name n _) at' ap) [x] [] cp) _ => decide (at' = "extend") && c.slot i n && notStar x && lineOk ap cp && isN e && chk k c e x
  | .tick i, .Expr (.Call (.Attribute (.Name n _) at' ap) [.Constant (.int 0) _ _] [] cp) _ => decide (at' = "append") && c.slot i n && lineOk ap cp
  | .popa i j e, .Expr (.Call (.Attribute (.Name n _) at' ap) [.Call (.Attribute (.Name u _) at2 ap2) [x] [] cp2] [] cp) _ => decide (at' = "append") && decide (at2 = "pop") && c.slot i n && c.slot j u && decide (i ≠ j) && notStar x && lineOk ap cp && lineOk ap2 cp2 && chk k c e x
  | .sti i q e, .Assign [.Subscript (.Name n _) x _] v _ => c.slot i n && chk k c e v && chk k c q x && plainE x
  | .for t q a b d body, .For tge iter xs [] _ => chkSrc (chk k) c q a b d tge iter && chkTg c t tge && rec body xs
  | .whl e body, .While x xs [] _ => chkT k c e x && rec body xs
  | .ite e a b, .If x xs ys _ => chkT k c e x && rec a xs && rec b ys
  | .ret e, .Return (some x) _ => chk k c e x
  | .retN, .Return none _ => true
  | .brk, .Break _ => true
  | .cnt, .Continue _ => true
  | .pass, .Pass _ => true
  | .pass, .Expr (.Constant (.str _) _ _) _ => true
  | _, _ => false
def chkS (k : Nat) (c : Sc) : Nat → List S → List Stmt → Bool
  | 0 => fun _ _ => false
  | n + 1 => chkSs (chkS1 k (chkS k c n) c)
end G

namespace G
open PySem PySem.Spec PyProof.Rows L2

section
variable {g : Cf} {C : Cs} {n k : Nat} {c : Sc} {X : Cx}
theorem exq_set {i : Nat} {e : G.E} : ex C (.set i e) = setM i (ev C e) := funext fun st => by rw [ex]; rfl
theorem exq_own {i : Nat} {e : G.E} : ex C (.own i e) = ownM i (ev C e) := funext fun st => by rw [ex]; rfl
theorem exq_tgt {t : Tg} {e : G.E} : ex C (.tgt t e) = tgtM t (ev C e) := funext fun st => by rw [ex]; rfl
theorem exq_exp {e : G.E} : ex C (.exp e) = fun st => (do let d ← ev C e st; pure (st, .nx)) := funext fun st => by rw [ex]
theorem exq_app {i : Nat} {e : G.E} : ex C (.app i e) = appM i (ev C e) := funext fun st => by rw [ex]; rfl
theorem exq_ext {i : Nat} {e : G.E} : ex C (.ext i e) = extM i (ev C e) := funext fun st => by rw [ex]; rfl
theorem exq_sti {i : Nat} {q e : G.E} : ex C (.sti i q e) = stiM i (ev C e) (ev C q) := funext fun st => by rw [ex]; rfl
theorem exq_popa {i j : Nat} {e : G.E} : ex C (.popa i j e) = popM i j (ev C e) := funext fun st => by rw [ex]; rfl
theorem exq_tick {i : Nat} : ex C (.tick i) = tickS i := funext fun st => by rw [ex]; rfl
theorem exq_for {t : Tg} {q : Sk} {a b d : G.E} {body : List S} : ex C (.for t q a b d body) = forF t (srcF C q a b d) (exs C body) := by
  funext st
  rw [ex]
  unfold forF srcF
  funext j
  simp only [bind_assoc]
theorem exq_whl {e : G.E} {body : List S} : ex C (.whl e body) = fun st => whM (truM (ev C e)) (exs C body) fuel st := funext fun st => by rw [ex]; rfl
theorem exq_ite {e : G.E} {a b : List S} : ex C (.ite e a b) = iteS (ev C e) (exs C a) (exs C b) := funext fun st => by rw [ex]; rfl
theorem exq_ret {e : G.E} : ex C (.ret e) = fun st => (do let d ← ev C e st; pure (st, .rt d)) := funext fun st => by rw [ex]
theorem exq_retN : ex C .retN = fun st => pure (st, .rt .non) := funext fun st => by rw [ex]
theorem exq_brk : ex C .brk = fun st => pure (st, .bk) := funext fun st => by rw [ex]
theorem exq_cnt : ex C .cnt = fun st => pure (st, .ct) := funext fun st => by rw [ex]
theorem exq_pass : ex C .pass = fun st => pure (st, .nx) := funext fun st => by rw [ex]
theorem exq_par2 {i j : Nat} {o1 o2 : Bool} {a b : G.E} : ex C (.par [(i, o1), (j, o2)] [a, b]) = par2M i j o1 o2 (ev C a) (ev C b) := by
  funext st
  rw [ex, evs, evs, evs]
  unfold par2M
  funext q
  simp only [bind_assoc, pure_bind, setAll]
theorem exq_par3 {i j l : Nat} {o1 o2 o3 : Bool} {a b d : G.E} : ex C (.par [(i, o1), (j, o2), (l, o3)] [a, b, d]) = par3M i j l o1 o2 o3 (ev C a) (ev C b) (ev C d) := by
  funext st
  rw [ex, evs, evs, evs, evs]
  unfold par3M
  funext q
  simp only [bind_assoc, pure_bind, setAll]
theorem exsq_nil : exs C [] = fun st => pure (st, .nx) := funext fun st => by rw [exs]
theorem exsq_cons {s : S} {ss : List S} : exs C (s :: ss) = seqM (ex C s) (exs C ss) := funext fun st => by
  rw [exs]
  unfold seqM
  congr 1
theorem exsq_fz {is : List Nat} {ss : List S} : exs C (.fz is :: ss) = fun st => exs C ss (fz st is) := by
  funext st
  rw [exsq_cons]
  unfold seqM
  rw [ex]
  rfl
/-- statements do what they say -/
def SndS (g : Cf) (C : Cs) (n : Nat) (c : Sc) (X : Cx) (rec : List S → List Stmt → Bool) : Prop := ∀ ss xs, rec ss xs = true → PSs X xs (tS g (exs C ss))
theorem g_ok (E : EnvOk g C n c X) {o : Bool} {e : G.E} {x : Expr} (h : chkG k c o e x = true) : PE X x (tG g o (ev C e)) := by
  unfold chkG at h
  rw [Bool.and_eq_true, Bool.or_eq_true] at h
  cases o with
  | false => exact pg_of_M ((snd_both k).1 _ _ _ _ E h.1)
  | true =>
    have hn : isN e = true := h.2.elim (fun z => by cases z) id
    exact pg_of_N (fun st k d k' q => isN_out hn q) (snd_N E h.1 hn)
theorem par_star {sc : Scope} {x y : Str} {px py : Pos} {a b : Expr} (h : par2C sc x y px py a b = true) : notStar a = true ∧ notStar b = true ∧ sc.names.lookup x = some .local ∧ sc.names.lookup y = some .local := by
  unfold par2C at h
  simp only [Bool.and_eq_true, beq_iff_eq] at h
  obtain ⟨⟨⟨⟨⟨⟨⟨⟨h1, h2⟩, h3⟩, h4⟩, h5⟩, h6⟩, h7⟩, h8⟩, h9⟩ := h
  exact ⟨h2, h3, h4, h5⟩
theorem par_star3 {sc : Scope} {x y z : Str} {px py pz : Pos} {a b d : Expr} (h : par3C sc x y z px py pz a b d = true) : notStar a = true ∧ notStar b = true ∧ notStar d = true ∧ sc.names.lookup x = some .local ∧ sc.names.lookup y = some .local ∧ sc.names.lookup z = some .local := by
  unfold par3C at h
  simp only [Bool.and_eq_true, beq_iff_eq] at h
  obtain ⟨⟨⟨⟨⟨⟨⟨⟨⟨⟨⟨⟨⟨h1, h2⟩, h3⟩, h3'⟩, h4⟩, h5⟩, h5'⟩, h6⟩, h6'⟩, h7⟩, h7'⟩, h7''⟩, h8⟩, h9⟩ := h
  exact ⟨h2, h3, h3', h4, h5, h5'⟩
theorem s1_ok (E : EnvOk g C n c X) (hp : PassesOwn (model X.prog X.w) X.A X.env X.xe) {rec : List S → List Stmt → Bool} (hr : SndS g C n c X rec) {s : S} {x : Stmt} (h : chkS1 k rec c s x = true) : PS X x (tS g (ex C s)) := by
  have hm : Snd g C n (chk k) := (snd_both k).1
  have ht : SndT g C n (chkT k) := (snd_both k).2
  unfold chkS1 at h
  split at h
  · -- set
    simp only [Bool.and_eq_true, Bool.not_eq_true'] at h
    obtain ⟨⟨h1, h2⟩, h3⟩ := h
    obtain ⟨j1, j2, j3⟩ := store_of E h1
    rw [exq_set]
    exact sm_set E.nd j1 j2 (hm _ _ _ _ E h3) (by rw [swaps_eq, E.sc, h2]) j3
  · -- own
    simp only [Bool.and_eq_true] at h
    obtain ⟨⟨h1, h2⟩, h3⟩ := h
    obtain ⟨j1, j2, j3⟩ := store_of E h1
    rw [exq_own]
    split at h3
    · rename_i hsw
      rw [Bool.and_eq_true] at h3
      have hl := of_decide_eq_true h3.1
      have h4 := h3.2
      split at h4
      · rename_i tg q a b d cond elt own
        unfold chkLc at h4
        split at h4
        · simp only [Bool.and_eq_true, decide_eq_true_eq] at h4
          obtain ⟨⟨⟨⟨⟨⟨⟨u1, u2⟩, u3⟩, u4⟩, u5⟩, u6⟩, u7⟩, u8⟩ := h4
          subst u1
          obtain ⟨i1, i2⟩ := src_ok hm E u2
          rw [ev_lc, ← u4]
          exact sm_ownLc E.calm E.nd j1 (by rw [E.sc]; exact hl) (by rw [swaps_eq, E.sc, hsw]) i1 (blkOk_by (by rw [E.N, E.sc]; exact u3)) (gtg_of tg) (by rw [u4]; exact u5) (fun s H Ca cl fp => tg_ok E.blk u6) (fun s H Ca cl fp => ts_ok ht E.blk u7) (fun s H Ca cl fp => hm _ _ _ _ E.blk u8) i2
        · cases h4
      · cases h4
    · rename_i hsw
      exact sm_own (fun st k d k' q => isN_out h2 q) E.nd j1 j2 (snd_N E h3 h2) (by rw [swaps_eq, E.sc, Bool.eq_false_iff.mpr hsw]) j3
  · -- tgt
    simp only [Bool.and_eq_true] at h
    obtain ⟨⟨h1, h2⟩, h3⟩ := h
    rw [exq_tgt]
    refine sm_tgt (gtg_of _) (tg_ok E h1) (hm _ _ _ _ E h3) (swapsS_eq (by intro _ _ z; cases z)) ?_ rfl
    rename_i v _
    cases v <;> first | rfl | (simp [notTupE] at h2)
  · -- par2
    rename_i i o1 j o2 a b x px y py q1 q2 u v q3 q4 q5
    simp only [Bool.and_eq_true, decide_eq_true_eq] at h
    obtain ⟨⟨⟨⟨⟨h1, h2⟩, h3⟩, h4⟩, h5⟩, h6⟩ := h
    obtain ⟨s1, s2, s3, s4⟩ := par_star h4
    rw [exq_par2]
    exact sm_par2 E.calm E.nd (by rw [E.N]; exact h1) (by rw [E.N]; exact h2) h3 (by rw [E.sc]; exact s3) (by rw [E.sc]; exact s4) (star_of s1) (star_of s2) (g_ok E h5) (g_ok E h6) (par2_eq (by rw [E.sc]; exact h4))
  · -- par3
    rename_i i o1 j o2 l o3 a b d x px y py z pz q1 q2 u v w q3 q4 q5
    simp only [Bool.and_eq_true, decide_eq_true_eq] at h
    obtain ⟨⟨⟨⟨⟨⟨⟨⟨⟨h1, h2⟩, h3⟩, h4⟩, h5⟩, h6⟩, h7⟩, h8⟩, h9⟩, h10⟩ := h
    obtain ⟨s1, s2, s3, s4, s5, s6⟩ := par_star3 h7
    rw [exq_par3]
    exact sm_par3 E.calm E.nd (by rw [E.N]; exact h1) (by rw [E.N]; exact h2) (by rw [E.N]; exact h3) h4 h5 h6 (by rw [E.sc]; exact s4) (by rw [E.sc]; exact s5) (by rw [E.sc]; exact s6) (star_of s1) (star_of s2) (star_of s3) (g_ok E h8) (g_ok E h9) (g_ok E h10) (par3_eq (by rw [E.sc]; exact h7))
  · -- exp
    rw [Bool.and_eq_true] at h
    rw [exq_exp]
    exact sm_exp (hm _ _ _ _ E h.2) (swapsN_eq h.1)
  · -- app
    simp only [Bool.and_eq_true, decide_eq_true_eq] at h
    obtain ⟨⟨⟨⟨h1, h2⟩, h3⟩, h4⟩, h5⟩ := h
    subst h1
    obtain ⟨j1, j2, j3, j4⟩ := slot_of h2
    rw [exq_app]
    exact sm_app (by rw [E.N]; exact j1) (vis_of E j2) j3 j4 (star_of h3) (hm _ _ _ _ E h5) h4
  · -- ext
    simp only [Bool.and_eq_true, decide_eq_true_eq] at h
    obtain ⟨⟨⟨⟨⟨h1, h2⟩, h3⟩, h4⟩, h5⟩, h6⟩ := h
    subst h1
    obtain ⟨j1, j2, j3, j4⟩ := slot_of h2
    rw [exq_ext]
    exact sm_ext (by rw [E.N]; exact j1) (vis_of E j2) j3 j4 (star_of h3) (snd_N E h6 h5) h4
  · -- tick
    simp only [Bool.and_eq_true, decide_eq_true_eq] at h
    obtain ⟨⟨h1, h2⟩, h3⟩ := h
    subst h1
    obtain ⟨j1, j2, j3, j4⟩ := slot_of h2
    rw [exq_tick]
    exact sm_tick (by rw [E.N]; exact j1) (vis_of E j2) j3 j4 h3
  · -- popa
    simp only [Bool.and_eq_true, decide_eq_true_eq] at h
    obtain ⟨⟨⟨⟨⟨⟨⟨⟨h1, h2⟩, h3⟩, h4⟩, h5⟩, h6⟩, h7⟩, h8⟩, h9⟩ := h
    subst h1 h2
    obtain ⟨j1, j2, j3, j4⟩ := slot_of h3
    obtain ⟨l1, l2, l3, l4⟩ := slot_of h4
    rw [exq_popa]
    exact sm_pop h5 (by rw [E.N]; exact j1) (vis_of E j2) j3 j4 (by rw [E.N]; exact l1) (vis_of E l2) l3 l4 (star_of h6) (hm _ _ _ _ E h9) h7 h8
  · -- sti
    simp only [Bool.and_eq_true] at h
    obtain ⟨⟨⟨h1, h2⟩, h3⟩, h4⟩ := h
    obtain ⟨j1, j2, j3, j4⟩ := slot_of h1
    rw [exq_sti]
    refine sm_sti (by rw [E.N]; exact j1) (vis_of E j2) j3 j4 (hm _ _ _ _ E h2) (hm _ _ _ _ E h3) (swapsS_eq (by intro _ _ z; cases z)) rfl (fun v => ?_) rfl
    rename_i x _ _ _
    cases x <;> first | rfl | (simp [plainE] at h4)
  · -- for
    simp only [Bool.and_eq_true] at h
    obtain ⟨⟨h1, h2⟩, h3⟩ := h
    obtain ⟨i1, i2⟩ := src_ok hm E h1
    rw [exq_for]
    exact sm_for hp E.calm i1 (gtg_of _) (tg_ok E h2) (hr _ _ h3) i2
  · -- while
    rw [Bool.and_eq_true] at h
    rw [exq_whl]
    exact sm_while hp (ht _ _ _ _ E h.1) (hr _ _ h.2)
  · -- if
    rw [Bool.and_eq_true, Bool.and_eq_true] at h
    rw [exq_ite]
    exact sm_if (ht _ _ _ _ E h.1.1) (hr _ _ h.1.2) (hr _ _ h.2)
  · rw [exq_ret]
    exact sm_ret (hm _ _ _ _ E h)
  · rw [exq_retN]
    exact sm_retN
  · rw [exq_brk]
    exact sm_brk
  · rw [exq_cnt]
    exact sm_cnt
  · rw [exq_pass]
    exact sm_pass
  · rw [exq_pass]
    exact sm_doc
  · cases h
theorem ss_ok {one : S → Stmt → Bool} (h1 : ∀ s x, one s x = true → PS X x (tS g (ex C s))) : ∀ (ss : List S) (xs : List Stmt), chkSs one ss xs = true → PSs X xs (tS g (exs C ss))
  | [], [], _ => by
    rw [exsq_nil]
    exact sm_nil
  | [], _ :: _, h => by simp [chkSs] at h
  | .fz is :: ss, xs, h => by
    rw [exsq_fz]
    exact sm_fz (ss_ok h1 ss xs (by simpa [chkSs] using h))
  | s :: ss, [], h => by
    cases s <;> first
      | (simp [chkSs] at h; done)
      | (rename_i is
         rw [exsq_fz]
         exact sm_fz (ss_ok h1 ss [] (by simpa [chkSs] using h)))
  | s :: ss, x :: xs, h => by
    by_cases hf : ∃ is, s = .fz is
    · obtain ⟨is, rfl⟩ := hf
      rw [exsq_fz]
      exact sm_fz (ss_ok h1 ss (x :: xs) (by simpa [chkSs] using h))
    · have h' : (one s x && chkSs one ss xs) = true := by
        cases s <;> first | exact h | exact absurd ⟨_, rfl⟩ hf
      rw [Bool.and_eq_true] at h'
      rw [exsq_cons]
      exact sm_cons (h1 s x h'.1) (ss_ok h1 ss xs h'.2)
theorem sS_ok (E : EnvOk g C n c X) (hp : PassesOwn (model X.prog X.w) X.A X.env X.xe) : ∀ j, SndS g C n c X (chkS k c j)
  | 0 => fun ss xs h => by simp [chkS] at h
  | j + 1 => fun ss xs h => by
    unfold chkS at h
    exact ss_ok (fun s x q => s1_ok E hp (sS_ok E hp j) q) ss xs h
end
end G

namespace G
open PySem PySem.Spec PyProof.Rows L2

def fscB (N ps : List Str) (sc : Scope) : Bool := decide (sc.kind = .function) && !sc.isCoroutine && !sc.isGenerator && decide N.Nodup && decide (N.take ps.length = ps) &&
  (ps.all fun x => decide (sc.names.lookup x = some .local) || decide (sc.names.lookup x = some .cell)) && sc.names.all fun y => !decide (y.2 = .free)
theorem fscope_by {N ps : List Str} {sc : Scope} (h : fscB N ps sc = true) : FnScope N ps sc := by
  unfold fscB at h
  simp only [Bool.and_eq_true, Bool.not_eq_true', decide_eq_true_eq, List.all_eq_true, Bool.or_eq_true, decide_eq_false_iff_not] at h
  obtain ⟨⟨⟨⟨⟨⟨h1, h2⟩, h3⟩, h4⟩, h5⟩, h6⟩, h7⟩ := h
  exact ⟨h1, h2, h3, h4, h5, h6, h7⟩
def ckDeep : Nat := 64
def ckDeepS : Nat := 32
/-- the def st is the i-th function -/
def chkFn (P : Pr) (fns : List (Str × Nat × Nat)) (gls : List (Str × D)) (N ps : List Str) (i np : Nat) (st : Stmt) : Bool := match P.fns[i]? with
  | some (.py np' ns body) => decide (np' = np) && decide (ns = N.length) && decide (ps.length = np) && fscB N ps (defScope st) && chkS ckDeep ⟨N, defScope st, fns, gls, none⟩ ckDeepS body (defBody st)
  | _ => false
/-- a def of the top, by its text -/
abbrev FnT (K : PySem.W.Frag) (x : Str) (st : Stmt) (f : Addr) (fd : FuncData) : Prop := FunD K x x (defArgs st) (defBody st) (defScope st) [] [] f fd
section
variable {g : Cf} {P : Pr} {fns : List (Str × Nat × Nat)} {gls : List (Str × D)}
variable {prog : Program} {w : World} {mg : Str → Option Value} {base : Heap}
/-- what is known of the functions, n deep -/
def TblOk (g : Cf) (P : Pr) (fns : List (Str × Nat × Nat)) (prog : Program) (w : World) (mg : Str → Option Value) (base : Heap) (n : Nat) : Prop :=
  ∀ x i np, fns.lookup x = some (i, np) → ∃ fa fd ps, FnOk prog w g.K mg base L2.CX0 n fa fd ps (spF g np ((calls P n).cl i)) ∧ mg x = some (.ref fa) ∧ PySem.W.keepIn g.K (.ref fa) = true ∧ Binds g.K fd ps []
structure Mg (g : Cf) (gls : List (Str × D)) (mg : Str → Option Value) : Prop where
  blt : ∀ x ∈ bltN, mg x = none
  gls : ∀ (k : Nat) (x : Str) (d : D), gls[k]? = some (x, d) → ∃ v u, mg x = some u ∧ RelV v u ∧ ∀ T H, Den T g.K H v d
theorem start_sr {T : Addr} {H : Hp} {N : List Str} {vs : List V} {ds : List D} (hl : ds.length ≤ N.length) (hd : Dens T g.K H vs ds) : SR T g.K g.CL (ds.map Sl.fr ++ List.replicate (N.length - ds.length) .un) (L2.start N vs) H := by
  unfold L2.start
  have hv := hd.length
  refine ⟨by simp [hv], fun i s e => ?_, fun i j d1 d2 a e1 e2 => ?_⟩
  · by_cases h : i < ds.length
    · rw [List.getElem?_append_left (by simpa using h), List.getElem?_map] at e
      rw [List.getElem?_append_left (by simpa [hv] using h), List.getElem?_map]
      rw [List.getElem?_eq_getElem h] at e
      cases e
      obtain ⟨v, h1, h2⟩ := hd.get (List.getElem?_eq_getElem h)
      rw [h1]
      exact h2
    · rw [List.getElem?_append_right (by simpa using h), List.getElem?_replicate] at e
      split at e
      · cases e; exact True.intro
      · cases e
  · exfalso
    by_cases h : i < ds.length
    · rw [List.getElem?_append_left (by simpa using h), List.getElem?_map, List.getElem?_eq_getElem h] at e1
      cases e1
    · rw [List.getElem?_append_right (by simpa using h), List.getElem?_replicate] at e1
      split at e1 <;> cases e1
theorem start_ow {ds : List D} {m : Nat} {i : Nat} {d : D} (e : (ds.map Sl.fr ++ List.replicate m Sl.un)[i]? = some (.ow d)) : False := by
  by_cases h : i < ds.length
  · rw [List.getElem?_append_left (by simpa using h), List.getElem?_map, List.getElem?_eq_getElem h] at e
    cases e
  · rw [List.getElem?_append_right (by simpa using h), List.getElem?_replicate] at e
    split at e <;> cases e
theorem fn_step {x : Str} {st : Stmt} {fa : Addr} {fd : FuncData} {N ps : List Str} {i np n : Nat} (F : FnT g.K x st fa fd) (h : chkFn P fns gls N ps i np st = true) (hT : TblOk g P fns prog w mg base n) (hM : Mg g gls mg) :
    FnOk prog w g.K mg base L2.CX0 (n + 1) fa fd ps (spF g np ((calls P (n + 1)).cl i)) := by
  unfold chkFn at h
  split at h
  · rename_i np' ns body hP
    simp only [Bool.and_eq_true, decide_eq_true_eq] at h
    obtain ⟨⟨⟨⟨h1, h2⟩, h3⟩, h4⟩, h5⟩ := h
    subst h1 h2
    have S := fscope_by h4
    have hpl : ps.length ≤ N.length := by have := congrArg List.length S.pre; rw [List.length_take] at this; omega
    refine F.ok S (fun vs H Q E q => ?_) (fun cdv A outer s H vs Q E hr q => ?_)
    · obtain ⟨T, k, ds, d, k', hl, w', hd, _⟩ := q
      rw [hd.length, hl, h3]
    · obtain ⟨T, k, ds, d, k', hl, w', hd, em, q⟩ := q
      have E' : EnvOk g (calls P n) n ⟨N, defScope st, fns, gls, none⟩ (cxOf L2.CX0 prog w g.K mg base N x (defScope st) fa cdv A outer s H E).nox := by
        refine ⟨rfl, rfl, S.nd, rfl, rfl, hr, ?_, hM.blt, hM.gls, fun _ => rfl⟩
        intro y j m' hy
        exact hT y j m' hy
      refine ⟨_, PSs.nox (sS_ok E' PassesOwn.never ckDeepS body (defBody st) h5), ?_⟩
      have em2 : runF (calls P n) (.py np' N.length body) ds k = some (d, k') := by
        have e : (calls P (n + 1)).cl i ds = runF (calls P n) (.py np' N.length body) ds := by
          show (match P.fns[i]? with | some fd => runF (calls P n) fd ds | none => no) = _
          rw [hP]
        rw [e] at em
        exact em
      obtain ⟨_, em3⟩ := if_some (show (if ds.length = np' then runB (calls P n) N.length body (ds.map .fr) else no : M D) k = some (d, k') from em2)
      obtain ⟨⟨s1, fl⟩, k1, e1, e2⟩ := bind_some.mp (show ((exs (calls P n) body (ds.map .fr ++ List.replicate (N.length - (ds.map Sl.fr).length) .un)) >>= (fun p => match p.2 with | .rt d => pure d | .nx => pure .non | _ => no) : M D) k = some (d, k') from em3)
      rw [List.length_map] at e1
      refine ⟨T, H, k, _, s1, fl, k1, w', ⟨start_sr (by omega) hd, Grow.refl T H, fun i d a e _ => (start_ow e).elim⟩, e1, fun σ' H' kp w2 r2 => ?_⟩
      cases fl with
      | nx =>
        cases pure_some.mp e2
        exact q .non H' r2.gr w2 .non
      | rt d' =>
        cases pure_some.mp e2
        exact fun v hv => q v H' r2.gr w2 hv
      | bk => exact absurd e2 (no_some (k := k1))
      | ct => exact absurd e2 (no_some (k := k1))
  · cases h
/-- a function of the table, by its text -/
structure FnI (g : Cf) (P : Pr) (fns : List (Str × Nat × Nat)) (gls : List (Str × D)) (mg : Str → Option Value) (x : Str) (i np : Nat) : Prop where
  ex : ∃ (st : Stmt) (fa : Addr) (fd : FuncData) (N ps : List Str), FnT g.K x st fa fd ∧ mg x = some (.ref fa) ∧ Binds g.K fd ps [] ∧ chkFn P fns gls N ps i np st = true
theorem tbl_all (hF : ∀ x i np, fns.lookup x = some (i, np) → FnI g P fns gls mg x i np) (hM : Mg g gls mg) : ∀ n, TblOk g P fns prog w mg base n
  | 0 => fun x i np hx => by
    obtain ⟨st, fa, fd, N, ps, F, h1, h2, h3⟩ := (hF x i np hx).ex
    refine ⟨fa, fd, ps, ⟨fun vs H Q E q => ?_, fun A outer s H args us vs Q E _ _ _ _ q => ?_⟩, h1, F.kp, h2⟩
    · obtain ⟨T, k, ds, d, k', hl, w', hd, em, q⟩ := q
      exact absurd em (no_some (k := k))
    · obtain ⟨T, k, ds, d, k', hl, w', hd, em, q⟩ := q
      exact absurd em (no_some (k := k))
  | n + 1 => fun x i np hx => by
    obtain ⟨st, fa, fd, N, ps, F, h1, h2, h3⟩ := (hF x i np hx).ex
    exact ⟨fa, fd, ps, fn_step F h3 (tbl_all hF hM n) hM, h1, F.kp, h2⟩
/-! ### the law -/
def chkLaw (fns : List (Str × Nat × Nat)) (gls : List (Str × D)) (N : List Str) (x : Str) (it : Nat) (body : List S) (st : Stmt) : Bool := match defBody st with
  | .Assign [.Name tn _] (.List [] _) _ :: xs => decide (N[it]? = some tn) && decide ((defScope st).names.lookup tn = some .local) && fscB N [x] (defScope st) && chkS ckDeep ⟨N, defScope st, fns, gls, none⟩ ckDeepS body xs
  | _ => false
def spLaw (K : PySem.W.Frag) : Sp := fun vs H Q _ => ∃ (a : Addr) (ns : List Int), vs = [.ref a] ∧ SqL K H a (ns.map V.int) ∧ Only H ∧ ns.length ≤ 63 ∧ ∀ H', Q (.bl true) H'
theorem law_step {x y : Str} {st : Stmt} {fa : Addr} {fd : FuncData} {N : List Str} {it n : Nat} {body : List S} (F : FnT g.K x st fa fd) (h : chkLaw fns gls N y it body st = true) (hT : TblOk g P fns prog w mg base n) (hM : Mg g gls mg) (hTb : g.Tb = [])
    (hrun : ∀ ns : List Int, ns.length ≤ 63 → ∃ k, lawRun (calls P n) N.length it body ns 0 = some (.bl true, k)) :
    FnOk prog w g.K mg base L2.CX0 (n + 1) fa fd [y] (spLaw g.K) := by
  unfold chkLaw at h
  split at h
  · rename_i tn tp lp ap xs hbody
    simp only [Bool.and_eq_true, decide_eq_true_eq] at h
    obtain ⟨⟨⟨h1, h2⟩, h3⟩, h4⟩ := h
    have S := fscope_by h3
    refine F.ok S (fun vs H Q E q => ?_) (fun cdv A outer s H vs Q E hr q => ?_)
    · obtain ⟨a, ns, rfl, _⟩ := q
      rfl
    · obtain ⟨a, ns, rfl, hS, hO, hl, q⟩ := q
      have E' : EnvOk g (calls P n) n ⟨N, defScope st, fns, gls, none⟩ (cxOf L2.CX0 prog w g.K mg base N x (defScope st) fa cdv A outer s H E).nox := by
        refine ⟨rfl, rfl, S.nd, rfl, rfl, hr, ?_, hM.blt, hM.gls, fun _ => rfl⟩
        intro y j m' hy
        exact hT y j m' hy
      rw [hbody]
      refine ⟨_, PSs.nox (pss_cons (ps_set (i := it) S.nd h1 (.inl h2) (pe_lst pa_nil) rfl (.inl rfl)) (sS_ok E' PassesOwn.never ckDeepS body xs h4)), ?_⟩
      obtain ⟨k', hk⟩ := hrun ns hl
      obtain ⟨⟨s1, fl⟩, k1, e1, e2⟩ := bind_some.mp (show ((exs (calls P n) body (lawSt N.length it ns)) >>= (fun p => match p.2 with | .rt d => pure d | .nx => pure .non | _ => no) : M D) 0 = some (.bl true, k') from hk)
      refine ⟨Nat.zero_le _, fun p hp => ?_⟩
      have hsc : ScrL g.K H a (ns.map V.int) := by
        rcases hS with hS | hS
        · rcases hS with hS | ⟨o, hS⟩
          · exfalso
            rcases hO a with e | ⟨o, ys, e⟩
            · rw [e] at hS; cases hS
            · rw [e] at hS; cases hS
          · exact .inl ⟨o, hS⟩
        · exact .inr hS
      have hN : 1 ≤ N.length := by have := congrArg List.length S.pre; rw [List.length_take] at this; simp at this; omega
      have w0 : WS p g.Tb (upd H p (.lst [])) 0 := ⟨⟨upd_same, Nat.zero_le _⟩, by rw [hTb]; intro q hq; cases hq⟩
      have r0 : SR p g.K g.CL (([D.scr ns]).map Sl.fr ++ List.replicate (N.length - 1) Sl.un) (L2.start N [.ref a]) (upd H p (.lst [])) := start_sr (ds := [D.scr ns]) hN (.cons (.scr (hsc.keep (keeps_new hp))) .nil)
      have so : SO g p (upd H p (.lst [])) (lawSt N.length it ns) ((L2.start N [.ref a]).set it (some (.ref p))) (upd H p (.lst [])) := (⟨r0, Grow.refl _ _, fun i d a e _ => (start_ow (ds := [D.scr ns]) e).elim⟩ : SO g p (upd H p (.lst [])) _ _ _).setFr .town
      refine ⟨p, upd H p (.lst []), 0, _, s1, fl, k1, w0, so, e1, fun σ' H' kp w2 r2 => ?_⟩
      cases fl with
      | nx => cases pure_some.mp e2
      | rt d' =>
        cases pure_some.mp e2
        intro v hv
        cases hv
        exact q H'
      | bk => exact absurd e2 (no_some (k := k1))
      | ct => exact absurd e2 (no_some (k := k1))
  · cases h
/-! ### the facts that the head tells -/
def defName (s : Stmt) : Str := match s with
  | .FunctionDef n _ _ _ _ _ _ _ _ _ => n
  | _ => Str.empty
def dOf (st : Stmt) : He.DefD := ⟨(defName st, none), defName st, defName st, defArgs st, defBody st, defScope st, [], []⟩
def glFa : Str × D → He.Fa
  | (x, .int i) => .int x i
  | (x, .str s) => .str x (strOf s)
  | (x, _) => .free x
theorem app_mid {α : Type} {A B C : List α} {j : Nat} (h : j < B.length) : (A ++ B ++ C)[A.length + j]? = B[j]? := by
  rw [List.getElem?_append_left (by rw [List.length_append]; omega), List.getElem?_append_right (by omega), Nat.add_sub_cancel_left]
theorem app_end {α : Type} {A B C : List α} {j : Nat} : (A ++ B ++ C)[A.length + B.length + j]? = C[j]? := by
  rw [List.getElem?_append_right (by rw [List.length_append]; omega), List.length_append, Nat.add_sub_cancel_left]
theorem mg_facts {K : PySem.W.Frag} {h : Heap} {CL : CloT} {st : CloStays CL} {Tb : List NdefX.NTab} {A : List He.Fa} {fn : List He.DefD} (X : K.In h) (G : h.Ns mainGlobals mg) (c : He.SaysD (A ++ bltN.map He.Fa.free ++ gls.map glFa) fn K) (hg : gls.all (fun q => plainD q.2) = true) : Mg ⟨K, Tb, CL, st⟩ gls mg := by
  refine ⟨fun x hx => ?_, fun k x d hk => ?_⟩
  · obtain ⟨j, hj⟩ := List.getElem?_of_mem hx
    have hlt : j < bltN.length := by
      rcases Nat.lt_or_ge j bltN.length with z | z
      · exact z
      · rw [List.getElem?_eq_none z] at hj; cases hj
    exact He.free_ok X G (c.fact (A.length + j) (by rw [app_mid (by simpa using hlt), List.getElem?_map, hj]; rfl))
  · have h1 : (A ++ bltN.map He.Fa.free ++ gls.map glFa)[A.length + (bltN.map He.Fa.free).length + k]? = some (glFa (x, d)) := by
      rw [app_end, List.getElem?_map, hk]
      rfl
    have h2 : plainD d = true := (List.all_eq_true.mp hg) (x, d) (List.mem_of_getElem? hk)
    cases d with
    | int i =>
      obtain ⟨t, ht⟩ := He.int_ok X G (c.fact _ h1)
      exact ⟨.int i, _, ht, ⟨t, rfl⟩, fun T H => .int i⟩
    | str s =>
      obtain ⟨t, ht⟩ := He.str_ok X G (c.fact _ h1)
      exact ⟨.str (strOf s), _, ht, ⟨t, rfl⟩, fun T H => .str s⟩
    | _ => cases h2
theorem look_all {α : Type} {Pp : Str → α → Prop} : ∀ {l : List (Str × α)}, (∀ q ∈ l, Pp q.1 q.2) → ∀ x a, l.lookup x = some a → Pp x a := fun {l} h x a e => h (x, a) (PySem.mem_of_lookup e)
end
end G

namespace G
open PySem PySem.Spec PyProof.Rows L2

section
variable {P : Pr} {fns : List (Str × Nat × Nat)} {gls : List (Str × D)} {mg : Str → Option Value}
theorem fnI_mk {K : PySem.W.Frag} {h : Heap} {CL : CloT} {hst : CloStays CL} {Tb : List NdefX.NTab} {fa : List He.Fa} {fn : List He.DefD} (X : K.In h) (G : h.Ns mainGlobals mg) (c : He.SaysD fa fn K) (st : Stmt) (j f i np : Nat) (N ps : List Str) (hj : fn[j]? = some (dOf st)) (hf : fa[f]? = some (.glo (defName st)))
    (hck : chkFn P fns gls N ps i np st = true)
    (hb : ∀ (kV doc pm : Value) (an : Option Addr) (cdv ct : Value) (us : List Value), us.length = ps.length → bindArgs (PySem.W.fnOf (defName st) (defName st) (defArgs st) (defBody st) (defScope st) .none kV doc pm an cdv ct) ⟨us, []⟩ = pure (ps.zip us)) :
    FnI ⟨K, Tb, CL, hst⟩ P fns gls mg (defName st) i np := by
  obtain ⟨fd, F⟩ := c.def_ j hj
  have hm := He.glo_ok X G (c.fact f hf)
  exact ⟨st, _, fd, N, ps, F, hm, FunD.bindsN F hb, hck⟩
def noCL : CloT := fun _ _ _ _ _ => False
theorem noCL_stays : CloStays noCL := fun _ _ _ _ _ _ _ h => h
abbrev cf0 (K : PySem.W.Frag) : Cf := ⟨K, [], noCL, noCL_stays⟩
/-- the law's promise from the facts -/
theorem law_facts {prog : Program} {w : World} {K : PySem.W.Frag} {h : Heap} {f : Addr} {fa : List He.Fa} {fn : List He.DefD} (X : K.In h) (G : h.Ns mainGlobals mg) (c : He.SaysD fa fn K) (st : Stmt) (y : Str) (j fi it n : Nat) (N : List Str) (body : List S)
    (hfa : mg (defName st) = some (.ref f)) (hj : fn[j]? = some (dOf st)) (hf : fa[fi]? = some (.glo (defName st))) (hck : chkLaw fns gls N y it body st = true)
    (hb : ∀ (kV doc pm : Value) (an : Option Addr) (cdv ct : Value) (us : List Value), us.length = [y].length → bindArgs (PySem.W.fnOf (defName st) (defName st) (defArgs st) (defBody st) (defScope st) .none kV doc pm an cdv ct) ⟨us, []⟩ = pure ([y].zip us))
    (hM : Mg (cf0 K) gls mg) (hF : ∀ q ∈ fns, FnI (cf0 K) P fns gls mg q.1 q.2.1 q.2.2) (hrun : ∀ ns : List Int, ns.length ≤ 63 → ∃ k, lawRun (calls P n) N.length it body ns 0 = some (.bl true, k)) :
    ∃ fd : FuncData, (∀ (s : Shared) (v : Value), BindsTo s fd ⟨[v], []⟩ [(y, v)]) ∧ ∀ base : Heap, K.In base → base.Ns mainGlobals mg → FnOk prog w K mg base L2.CX0 (n + 1) f fd [y] (spLaw K) := by
  obtain ⟨fd, F⟩ := c.def_ j hj
  have e := hfa.symm.trans (He.glo_ok X G (c.fact fi hf))
  cases e
  refine ⟨fd, fun s v => FunD.bindsA (ps := [y]) F hb s [v] rfl, fun base _ _ => ?_⟩
  have hF' : ∀ x i np, fns.lookup x = some (i, np) → FnI (cf0 K) P fns gls mg x i np := fun x i np e => hF (x, i, np) (PySem.mem_of_lookup e)
  exact law_step (g := cf0 K) F hck (tbl_all hF' hM n) hM rfl hrun
end
end G

set_option maxHeartbeats 0
namespace G
/-- is_whole -/
def p_is_whole : Fd := .py 3 3 [.ret (.and [.isi .int (.v 0), .not (.isi .bool (.v 0)), .chain .le .le (.v 1) (.v 0) (.v 2)])]
/-- are_rising -/
def p_are_rising : Fd := .py 1 3 [.ret (.b1 .all (.lc (.two 1 2) .zp (.slh (.v 0) (.neg (.c (.int 1)))) (.sll (.v 0) (.c (.int 1))) (.c .non) (.c (.bl true)) (.cmp .lt (.v 1) (.v 2)) [1, 2]))]
/-- is_pair -/
def p_is_pair : Fd := .py 2 3 [.ite (.or [.not (.isi .tuple (.v 0)), .cmp .ne (.b1 .len (.v 0)) (.c (.int 2)), .not (.b1 .all (.lc (.one 2) .it (.v 0) (.c .non) (.c .non) (.c (.bl true)) (.call 0 [.v 2, .c (.int 0), .sub (.v 1) (.c (.int 1))]) [2]))]) [.ret (.c (.bl false))] [],
    .ret (.cmp .lt (.ix (.v 0) (.c (.int 0))) (.ix (.v 0) (.c (.int 1))))]
/-- is_table -/
def p_is_table : Fd := .py 1 4 [.ite (.or [.not (.isi .tuple (.v 0)), .cmp .ne (.b1 .len (.v 0)) (.c (.int 2)), .not (.call 0 [.ix (.v 0) (.c (.int 0)), .c (.int 1), .gl 0 ((.int 6))])]) [.ret (.c (.bl false))] [],
    .tgt (.two 1 2) (.v 0),
    .ret (.and [.isi .tuple (.v 2), .b1 .all (.lc (.one 3) .it (.v 2) (.c .non) (.c .non) (.c (.bl true)) (.call 2 [.v 3, .v 1]) [3]), .call 1 [.v 2]])]
/-- is_channel -/
def p_is_channel : Fd := .py 1 3 [.ite (.or [.not (.isi .tuple (.v 0)), .not (.chain .le .le (.c (.int 1)) (.b1 .len (.v 0)) (.gl 0 ((.int 6))))]) [.ret (.c (.bl false))] [],
    .for (.one 1) .it (.v 0) (.c .non) (.c .non) [.ite (.or [.not (.isi .tuple (.v 1)), .cmp .eq (.v 1) (.tup []), .not (.b1 .all (.lc (.one 2) .it (.v 1) (.c .non) (.c .non) (.c (.bl true)) (.call 0 [.v 2, .c (.int 0), .sub (.gl 0 ((.int 6))) (.c (.int 1))]) [2]))]) [.ret (.c (.bl false))] [], .ite (.not (.call 1 [.v 1])) [.ret (.c (.bl false))] []],
    .ret (.c (.bl true))]
/-- mixed -/
def p_mixed : Fd := .py 3 3 [.ret (.or [.cmp .eq (.v 1) (.v 2), .inn false (.tup [.b2 .min (.v 1) (.v 2), .b2 .max (.v 1) (.v 2)]) (.ix (.v 0) (.c (.int 1)))])]
/-- near -/
def p_near : Fd := .py 2 3 [.ret (.b1 .tuple (.lc (.one 2) .r1 (.ix (.v 0) (.c (.int 0))) (.c .non) (.c .non) (.call 5 [.v 0, .v 1, .v 2]) (.v 2) [2]))]
/-- table_by: not yet (callv) -/
def p_table_by : Fd := .prim 99 fun _ _ => no
/-- turned: not yet (lambda) -/
def p_turned : Fd := .prim 99 fun _ _ => no
/-- part: not yet (lambda) -/
def p_part : Fd := .prim 99 fun _ _ => no
/-- renamed -/
def p_renamed : Fd := .py 2 5 [.own 2 (.lc (.two 3 4) .it (.ix (.v 0) (.c (.int 1))) (.c .non) (.c .non) (.c (.bl true)) (.tup [.b2 .min (.ix (.v 1) (.v 3)) (.ix (.v 1) (.v 4)), .b2 .max (.ix (.v 1) (.v 3)) (.ix (.v 1) (.v 4))]) [3, 4]),
    .fz [2],
    .ret (.tup [.ix (.v 0) (.c (.int 0)), .b1 .tuple (.b1 .sorted (.v 2))])]
/-- words -/
def p_words : Fd := .py 2 7 [.set 2 (.lst [.tup []]),
    .for (.one 3) .r1 (.v 1) (.c .non) (.c .non) [.own 4 (.lst []), .for (.one 5) .it (.v 2) (.c .non) (.c .non) [.ext 4 (.lc (.one 6) .r1 (.v 0) (.c .non) (.c .non) (.c (.bl true)) (.add (.v 5) (.tup [.v 6])) [6])], .fz [4], .set 2 (.v 4)],
    .ret (.b1 .tuple (.v 2))]
/-- mixed_words -/
def p_mixed_words : Fd := .py 3 5 [.ret (.b1 .all (.lc (.two 3 4) .zp (.v 1) (.v 2) (.c .non) (.c (.bl true)) (.call 5 [.v 0, .v 3, .v 4]) [3, 4]))]
/-- power: not yet (lambda) -/
def p_power : Fd := .prim 99 fun _ _ => no
/-- clash -/
def p_clash : Fd := .py 2 5 [.for (.two 2 3) .en (.v 1) (.c .non) (.c .non) [.for (.one 4) .r2 (.add (.v 2) (.c (.int 1))) (.b1 .len (.v 1)) (.c .non) [.ite (.call 12 [.v 0, .v 3, .ix (.v 1) (.v 4)]) [.ret (.tup [.v 2, .v 4])] []]],
    .ret (.c .non)]
/-- is_code -/
def p_is_code : Fd := .py 2 2 [.ret (.isn false (.call 14 [.v 0, .v 1]))]
/-- addable -/
def p_addable : Fd := .py 3 5 [.ret (.b1 .tuple (.lc (.one 3) .it (.call 11 [.ix (.v 0) (.c (.int 0)), .v 2]) (.c .non) (.c .non) (.not (.b1 .any (.lc (.one 4) .it (.v 1) (.c .non) (.c .non) (.c (.bl true)) (.call 12 [.v 0, .v 3, .v 4]) [4]))) (.v 3) [3]))]
/-- is_full -/
def p_is_full : Fd := .py 3 3 [.ret (.cmp .eq (.call 16 [.v 0, .v 1, .v 2]) (.tup []))]
/-- grown -/
def p_grown : Fd := .py 3 5 [.for (.one 3) .it (.call 11 [.ix (.v 0) (.c (.int 0)), .v 2]) (.c .non) (.c .non) [.ite (.not (.b1 .any (.lc (.one 4) .it (.v 1) (.c .non) (.c .non) (.c (.bl true)) (.call 12 [.v 0, .v 3, .v 4]) [4]))) [.set 1 (.add (.v 1) (.tup [.v 3]))] []],
    .ret (.v 1)]
/-- bin_ones -/
def p_bin_ones : Fd := .py 1 2 [.set 1 (.c (.int 0)),
    .whl (.cmp .gt (.v 0) (.c (.int 0))) [.set 1 (.add (.v 1) (.mod (.v 0) (.c (.int 2)))), .set 0 (.fdv (.v 0) (.c (.int 2)))],
    .ret (.v 1)]
/-- most: not yet (method .many) -/
def p_most : Fd := .prim 99 fun _ _ => no
/-- best_code: not yet (method .first) -/
def p_best_code : Fd := .prim 99 fun _ _ => no
/-- choices -/
def p_choices : Fd := .py 1 4 [.set 1 (.lst [.tup []]),
    .for (.one 2) .r1 (.v 0) (.c .non) (.c .non) [.set 1 (.add (.v 1) (.lc (.one 3) .it (.v 1) (.c .non) (.c .non) (.c (.bl true)) (.add (.v 3) (.tup [.v 2])) [3]))],
    .ret (.b1 .sorted (.v 1))]
/-- all_best -/
def p_all_best : Fd := .py 1 4 [.own 1 (.lc (.one 3) .it (.call 22 [.ix (.v 0) (.c (.int 0))]) (.c .non) (.c .non) (.cmp .eq (.ix (.call 9 [.v 0, .v 3]) (.c (.int 1))) (.tup [])) (.v 3) [3]),
    .fz [1],
    .set 2 (.b1 .max (.lc (.one 3) .it (.v 1) (.c .non) (.c .non) (.c (.bl true)) (.b1 .len (.v 3)) [3])),
    .ret (.b1 .tuple (.lc (.one 3) .it (.v 1) (.c .non) (.c .non) (.cmp .eq (.b1 .len (.v 3)) (.v 2)) (.v 3) [3]))]
/-- needed -/
def p_needed : Fd := .py 1 4 [.set 1 (.call 23 [.v 0]),
    .ret (.b1 .tuple (.lc (.one 2) .r1 (.ix (.v 0) (.c (.int 0))) (.c .non) (.c .non) (.b1 .all (.lc (.one 3) .it (.v 1) (.c .non) (.c .non) (.c (.bl true)) (.inn false (.v 2) (.v 3)) [3])) (.v 2) [2]))]
/-- _wall -/
def p__wall : Fd := .py 1 1 [.whl (.c (.bl true)) [.pass]]
/-- is_group -/
def p_is_group : Fd := .py 2 5 [.for (.two 2 3) .en (.v 1) (.c .non) (.c .non) [.ite (.not (.b1 .all (.lc (.one 4) .it (.sll (.v 1) (.add (.v 2) (.c (.int 1)))) (.c .non) (.c .non) (.c (.bl true)) (.call 5 [.v 0, .v 3, .v 4]) [4]))) [.ret (.c (.bl false))] []],
    .ret (.c (.bl true))]
/-- groups -/
def p_groups : Fd := .py 1 6 [.own 1 (.lc (.one 3) .it (.call 22 [.ix (.v 0) (.c (.int 0))]) (.c .non) (.c .non) (.and [.cmp .ne (.v 3) (.tup []), .call 26 [.v 0, .v 3]]) (.v 3) [3]),
    .fz [1],
    .own 2 (.lst []),
    .for (.one 3) .it (.v 1) (.c .non) (.c .non) [.ite (.not (.b1 .any (.lc (.one 4) .it (.v 1) (.c .non) (.c .non) (.c (.bl true)) (.and [.cmp .gt (.b1 .len (.v 4)) (.b1 .len (.v 3)), .b1 .all (.lc (.one 5) .it (.v 3) (.c .non) (.c .non) (.c (.bl true)) (.inn false (.v 5) (.v 4)) [5])]) [4]))) [.app 2 (.v 3)] []],
    .ret (.b1 .tuple (.bv 2))]
/-- partings -/
def p_partings : Fd := .py 2 7 [.ite (.not (.v 1)) [.ret (.lst [.tup []])] [],
    .own 2 (.lst []),
    .for (.one 3) .it (.call 28 [.v 0, .slh (.v 1) (.neg (.c (.int 1)))]) (.c .non) (.c .non) [.set 4 (.ix (.v 1) (.neg (.c (.int 1)))), .for (.two 5 6) .en (.v 3) (.c .non) (.c .non) [.ite (.call 26 [.v 0, .add (.v 6) (.tup [.v 4])]) [.app 2 (.add (.add (.slh (.v 3) (.v 5)) (.tup [.add (.v 6) (.tup [.v 4])])) (.sll (.v 3) (.add (.v 5) (.c (.int 1)))))] []], .app 2 (.add (.v 3) (.tup [.tup [.v 4]]))],
    .fz [2],
    .ret (.v 2)]
/-- least_cover: not yet (tuple(range)) -/
def p_least_cover : Fd := .prim 99 fun _ _ => no
/-- fewest -/
def p_fewest : Fd := .py 1 1 [.ret (.b1 .len (.call 29 [.v 0]))]
/-- is_tight -/
def p_is_tight : Fd := .py 1 1 [.ret (.cmp .eq (.call 20 [.v 0, .c (.int 1)]) (.call 30 [.v 0]))]
/-- is_cover: not yet (owned from Dict) -/
def p_is_cover : Fd := .prim 99 fun _ _ => no
/-- is_word -/
def p_is_word : Fd := .py 3 4 [.ret (.and [.isi .tuple (.v 2), .cmp .eq (.b1 .len (.v 2)) (.v 1), .b1 .all (.lc (.one 3) .it (.v 2) (.c .non) (.c .non) (.c (.bl true)) (.call 0 [.v 3, .c (.int 0), .sub (.ix (.v 0) (.c (.int 0))) (.c (.int 1))]) [3])])]
/-- cover_words -/
def p_cover_words : Fd := .py 2 10 [.set 2 (.lst [.tup [.tup []]]),
    .for (.one 3) .r1 (.v 1) (.c .non) (.c .non) [.own 4 (.lst []), .for (.one 5) .it (.v 2) (.c .non) (.c .non) [.for (.one 6) .it (.call 29 [.v 0]) (.c .non) (.c .non) [.set 7 (.tup []), .for (.one 8) .it (.v 5) (.c .non) (.c .non) [.set 7 (.add (.v 7) (.b1 .tuple (.lc (.one 9) .it (.v 6) (.c .non) (.c .non) (.c (.bl true)) (.add (.v 8) (.tup [.v 9])) [9])))], .app 4 (.v 7)]], .fz [4], .set 2 (.v 4)],
    .ret (.b1 .tuple (.v 2))]
/-- is_shares: not yet (owned from BinOp) -/
def p_is_shares : Fd := .prim 99 fun _ _ => no
/-- least_shares: not yet (owned from Dict) -/
def p_least_shares : Fd := .prim 99 fun _ _ => no
/-- orders -/
def p_orders : Fd := .py 1 4 [.ite (.cmp .eq (.v 0) (.c (.int 0))) [.ret (.lst [.tup []])] [],
    .own 1 (.lst []),
    .for (.one 2) .it (.call 37 [.sub (.v 0) (.c (.int 1))]) (.c .non) (.c .non) [.for (.one 3) .r1 (.v 0) (.c .non) (.c .non) [.app 1 (.add (.add (.slh (.v 2) (.v 3)) (.tup [.sub (.v 0) (.c (.int 1))])) (.sll (.v 2) (.v 3)))]],
    .ret (.b1 .sorted (.bv 1))]
/-- form -/
def p_form : Fd := .py 1 2 [.ret (.b1 .min (.lc (.one 1) .it (.call 37 [.ix (.v 0) (.c (.int 0))]) (.c .non) (.c .non) (.c (.bl true)) (.call 10 [.v 0, .v 1]) [1]))]
/-- renaming -/
def p_renaming : Fd := .py 2 3 [.ite (.or [.cmp .ne (.ix (.v 0) (.c (.int 0))) (.ix (.v 1) (.c (.int 0))), .cmp .ne (.b1 .len (.ix (.v 0) (.c (.int 1)))) (.b1 .len (.ix (.v 1) (.c (.int 1))))]) [.ret (.c .non)] [],
    .for (.one 2) .it (.call 37 [.ix (.v 0) (.c (.int 0))]) (.c .non) (.c .non) [.ite (.cmp .eq (.call 10 [.v 0, .v 2]) (.v 1)) [.ret (.v 2)] []],
    .ret (.c .non)]
/-- alike -/
def p_alike : Fd := .py 2 2 [.ret (.isn true (.call 39 [.v 0, .v 1]))]
/-- turns -/
def p_turns : Fd := .py 1 2 [.ret (.b1 .len (.lc (.one 1) .it (.call 37 [.ix (.v 0) (.c (.int 0))]) (.c .non) (.c .non) (.cmp .eq (.call 10 [.v 0, .v 1]) (.v 0)) (.v 1) [1]))]
/-- all_kinds: not yet (lambda) -/
def p_all_kinds : Fd := .prim 99 fun _ _ => no
/-- beside -/
def p_beside : Fd := .py 2 5 [.set 2 (.b1 .tuple (.lc (.two 3 4) .it (.ix (.v 1) (.c (.int 1))) (.c .non) (.c .non) (.c (.bl true)) (.tup [.add (.v 3) (.ix (.v 0) (.c (.int 0))), .add (.v 4) (.ix (.v 0) (.c (.int 0)))]) [3, 4])),
    .ret (.tup [.add (.ix (.v 0) (.c (.int 0))) (.ix (.v 1) (.c (.int 0))), .add (.ix (.v 0) (.c (.int 1))) (.v 2)])]
/-- times: not yet (lambda) -/
def p_times : Fd := .prim 99 fun _ _ => no
/-- table_of: not yet (lambda) -/
def p_table_of : Fd := .prim 99 fun _ _ => no
/-- channel_of -/
def p_channel_of : Fd := .py 1 6 [.set 1 (.tup []),
    .for (.one 2) .r1 (.ix (.v 0) (.c (.int 0))) (.c .non) (.c .non) [.set 3 (.add (.lst [.v 2]) (.lc (.two 4 5) .en (.ix (.v 0) (.c (.int 1))) (.c .non) (.c .non) (.inn false (.v 2) (.v 5)) (.add (.ix (.v 0) (.c (.int 0))) (.v 4)) [4, 5])), .set 1 (.add (.v 1) (.tup [.b1 .tuple (.v 3)]))],
    .ret (.v 1)]
/-- may_be_heard -/
def p_may_be_heard : Fd := .py 3 5 [.ret (.b1 .all (.lc (.two 3 4) .zp (.v 1) (.v 2) (.c .non) (.c (.bl true)) (.inn false (.v 4) (.ix (.v 0) (.v 3))) [3, 4]))]
/-- sent -/
def p_sent : Fd := .py 3 5 [.ret (.b1 .tuple (.lc (.two 3 4) .en (.v 1) (.c .non) (.c .non) (.call 47 [.v 0, .v 4, .v 2]) (.v 3) [3, 4]))]
/-- told: not yet (stmt Raise) -/
def p_told : Fd := .prim 99 fun _ _ => no
/-- is_sure -/
def p_is_sure : Fd := .py 2 2 [.ret (.call 15 [.call 45 [.v 0], .v 1])]
/-- heard_all -/
def p_heard_all : Fd := .py 2 7 [.set 2 (.lst [.tup []]),
    .for (.one 3) .it (.v 1) (.c .non) (.c .non) [.own 4 (.lst []), .for (.one 5) .it (.v 2) (.c .non) (.c .non) [.ext 4 (.lc (.one 6) .it (.ix (.v 0) (.v 3)) (.c .non) (.c .non) (.c (.bl true)) (.add (.v 5) (.tup [.v 6])) [6])], .fz [4], .set 2 (.v 4)],
    .ret (.b1 .tuple (.v 2))]
/-- most_heard: not yet (owned from Dict) -/
def p_most_heard : Fd := .prim 99 fun _ _ => no
/-- listed -/
def p_listed : Fd := .py 2 6 [.set 2 (.c (.int 0)),
    .set 3 (.lst [.tup []]),
    .for (.one 4) .r1 (.b1 .len (.v 0)) (.c .non) (.c .non) [.set 3 (.add (.v 3) (.lc (.one 5) .it (.v 3) (.c .non) (.c .non) (.c (.bl true)) (.add (.v 5) (.tup [.v 4])) [5]))],
    .for (.one 5) .it (.v 3) (.c .non) (.c .non) [.ite (.cmp .le (.call 52 [.v 0, .lc (.one 4) .it (.v 5) (.c .non) (.c .non) (.c (.bl true)) (.tup [.v 4]) [4]]) (.v 1)) [.set 2 (.b2 .max (.v 2) (.b1 .len (.v 5)))] []],
    .ret (.v 2)]
/-- written: not yet (call str/1) -/
def p_written : Fd := .prim 99 fun _ _ => no
/-- read: not yet (method .split) -/
def p_read : Fd := .prim 99 fun _ _ => no
def progFns : List Fd := [p_is_whole, p_are_rising, p_is_pair, p_is_table, p_is_channel, p_mixed, p_near, p_table_by, p_turned, p_part, p_renamed, p_words, p_mixed_words, p_power, p_clash, p_is_code, p_addable, p_is_full, p_grown, p_bin_ones, p_most, p_best_code, p_choices, p_all_best, p_needed, p__wall, p_is_group, p_groups, p_partings, p_least_cover, p_fewest, p_is_tight, p_is_cover, p_is_word, p_cover_words, p_is_shares, p_least_shares, p_orders, p_form, p_renaming, p_alike, p_turns, p_all_kinds, p_beside, p_times, p_table_of, p_channel_of, p_may_be_heard, p_sent, p_told, p_is_sure, p_heard_all, p_most_heard, p_listed, p_written, p_read]
/-- the program and a law -/
def PR (ex : List Fd) : Pr := ⟨progFns ++ ex, []⟩
end G
namespace L_k04
open G
def q_law_same : Fd := .py 2 4 [.ite (.isn false (.v 1)) [.ret (.isn false (.v 0))] [],
    .ite (.isi .bool (.v 1)) [.ret (.and [.isi .bool (.v 0), .cmp .eq (.v 0) (.v 1)])] [],
    .ite (.isi .tuple (.v 1)) [.ite (.or [.not (.isi .tuple (.v 0)), .cmp .ne (.b1 .len (.v 0)) (.b1 .len (.v 1))]) [.ret (.c (.bl false))] [], .ret (.b1 .all (.lc (.two 2 3) .zp (.v 0) (.v 1) (.c .non) (.c (.bl true)) (.call 56 [.v 2, .v 3]) [2, 3]))] [],
    .ite (.isi .str (.v 1)) [.ret (.and [.isi .str (.v 0), .cmp .eq (.v 0) (.v 1)])] [],
    .ret (.and [.isi .int (.v 0), .not (.isi .bool (.v 0)), .cmp .eq (.v 0) (.v 1)])]
def q_law_draw : Fd := .py 3 6 [.tick 1,
    .set 3 (.b1 .len (.v 1)),
    .set 4 (.c (.int 0)),
    .ite (.v 0) [.set 4 (.ix (.v 0) (.mod (.v 3) (.b1 .len (.v 0))))] [],
    .set 5 (.mod (.add (.v 4) (.mul (.c (.int 104729)) (.v 3))) (.c (.int 4294967291))),
    .set 5 (.mod (.mul (.mod (.mul (.v 5) (.v 5)) (.c (.int 4294967279))) (.c (.int 48271))) (.c (.int 4294967291))),
    .ret (.mod (.fdv (.v 5) (.c (.int 64))) (.v 2))]
def q_law_pick : Fd := .py 3 3 [.ret (.ix (.v 2) (.call 57 [.v 0, .v 1, .b1 .len (.v 2)]))]
def q_law_table : Fd := .py 3 9 [.set 3 (.add (.c (.int 1)) (.call 57 [.v 0, .v 1, .v 2])),
    .set 4 (.call 57 [.v 0, .v 1, .c (.int 4)]),
    .set 5 (.tup []),
    .for (.one 6) .r1 (.v 3) (.c .non) (.c .non) [.for (.one 7) .r2 (.add (.v 6) (.c (.int 1))) (.v 3) (.c .non) [.ite (.cmp .le (.call 57 [.v 0, .v 1, .c (.int 4)]) (.v 4)) [.set 5 (.add (.v 5) (.tup [.tup [.v 6, .v 7]]))] []]],
    .ite (.and [.cmp .gt (.v 3) (.c (.int 2)), .cmp .eq (.call 57 [.v 0, .v 1, .c (.int 4)]) (.c (.int 0))]) [.set 5 (.b1 .tuple (.b1 .sorted (.add (.lc (.one 8) .r1 (.sub (.v 3) (.c (.int 1))) (.c .non) (.c .non) (.c (.bl true)) (.tup [.v 8, .add (.v 8) (.c (.int 1))]) [8]) (.lst [.tup [.c (.int 0), .sub (.v 3) (.c (.int 1))]]))))] [],
    .ret (.tup [.v 3, .v 5])]
def q_law_near : Fd := .py 3 3 [.ret (.or [.cmp .eq (.v 1) (.v 2), .inn false (.tup [.v 1, .v 2]) (.ix (.v 0) (.c (.int 1))), .inn false (.tup [.v 2, .v 1]) (.ix (.v 0) (.c (.int 1)))])]
def q_law_words : Fd := .py 2 7 [.own 2 (.lst []),
    .set 3 (.c (.int 1)),
    .for (.one 4) .r1 (.v 1) (.c .non) (.c .non) [.set 3 (.mul (.v 3) (.v 0))],
    .for (.one 5) .r1 (.v 3) (.c .non) (.c .non) [.set 6 (.tup []), .for (.one 4) .r1 (.v 1) (.c .non) (.c .non) [.set 6 (.add (.tup [.mod (.v 5) (.v 0)]) (.v 6)), .set 5 (.fdv (.v 5) (.v 0))], .app 2 (.v 6)],
    .fz [2],
    .ret (.v 2)]
def q_law_mixed : Fd := .py 3 4 [.ret (.inn true (.c (.bl false)) (.lc (.one 3) .r1 (.b1 .len (.v 1)) (.c .non) (.c .non) (.c (.bl true)) (.call 60 [.v 0, .ix (.v 1) (.v 3), .ix (.v 2) (.v 3)]) [3]))]
def q_law_long : Fd := .py 4 7 [.set 4 (.call 57 [.v 0, .v 1, .c (.int 4)]),
    .set 5 (.c (.int 1)),
    .for (.one 6) .r1 (.v 4) (.c .non) (.c .non) [.set 5 (.mul (.v 5) (.v 2))],
    .whl (.cmp .gt (.v 5) (.v 3)) [.set 5 (.fdv (.v 5) (.v 2)), .set 4 (.sub (.v 4) (.c (.int 1)))],
    .ret (.v 4)]
def lawFns : List Fd := [q_law_same, q_law_draw, q_law_pick, q_law_table, q_law_near, q_law_words, q_law_mixed, q_law_long]
def lawBody : List S := [.for (.one 2) .r1 (.c (.int 8)) (.c .non) (.c .non) [.set 3 (.call 59 [.v 0, .v 1, .c (.int 6)]), .set 4 (.call 63 [.v 0, .v 1, .ix (.v 3) (.c (.int 0)), .c (.int 216)]), .set 5 (.call 61 [.ix (.v 3) (.c (.int 0)), .v 4]), .set 6 (.tup []), .for (.one 7) .r1 (.call 57 [.v 0, .v 1, .c (.int 7)]) (.c .non) (.c .non) [.set 10 (.call 58 [.v 0, .v 1, .v 5]), .ite (.inn true (.c (.bl true)) (.lc (.one 12) .it (.v 6) (.c .non) (.c .non) (.c (.bl true)) (.call 62 [.v 3, .v 10, .v 12]) [12])) [.set 6 (.add (.v 6) (.tup [.v 10]))] []], .own 8 (.lc (.one 10) .it (.v 5) (.c .non) (.c .non) (.inn true (.c (.bl true)) (.lc (.one 12) .it (.v 6) (.c .non) (.c .non) (.c (.bl true)) (.call 62 [.v 3, .v 10, .v 12]) [12])) (.v 10) [10]), .fz [8], .ite (.not (.call 56 [.tup [.call 16 [.v 3, .v 6, .v 4], .call 17 [.v 3, .v 6, .v 4]], .tup [.b1 .tuple (.v 8), .cmp .eq (.v 8) (.lst [])]])) [.ret (.c (.bl false))] [], .set 9 (.v 6), .for (.one 10) .it (.v 8) (.c .non) (.c .non) [.ite (.inn true (.c (.bl true)) (.lc (.one 12) .it (.sll (.v 9) (.b1 .len (.v 6))) (.c .non) (.c .non) (.c (.bl true)) (.call 62 [.v 3, .v 10, .v 12]) [12])) [.set 9 (.add (.v 9) (.tup [.v 10]))] []], .set 11 (.call 18 [.v 3, .v 6, .v 4]), .ite (.or [.not (.call 56 [.v 11, .v 9]), .isb true (.call 15 [.v 3, .v 11]) true, .isb true (.call 17 [.v 3, .v 11, .v 4]) true]) [.ret (.c (.bl false))] []],
    .ret (.c (.bl true))]
abbrev PL : Pr := PR lawFns
end L_k04
namespace G
/-! plain evaluation -/
theorem kb {α β : Type} (x : M α) (f : α → M β) (k : Nat) : (x >>= f) k = (x k).bind fun p => f p.1 p.2 := rfl
theorem kp {α : Type} (a : α) (k : Nat) : (pure a : M α) k = some (a, k) := rfl
theorem kif {α : Type} (c : Prop) [Decidable c] (a b : M α) (k : Nat) : (if c then a else b) k = if c then a k else b k := by split <;> rfl
/-- m gives a and ticks nothing -/
def Gv {α : Type} (m : M α) (a : α) : Prop := ∀ k, m k = some (a, k)
theorem Gv.bind {α β : Type} {m : M α} {f : α → M β} {a : α} {b : β} (h : Gv m a) (h' : Gv (f a) b) : Gv (m >>= f) b := fun k => by rw [kb, h k]; exact h' k
theorem Gv.pure {α : Type} {a : α} : Gv (pure a : M α) a := fun _ => rfl
theorem lcM_fm {f : D → M (Option D)} {o : D → Option D} : ∀ {l : List D}, (∀ d ∈ l, Gv (f d) (o d)) → Gv (lcM f l) (l.filterMap o)
  | [], _ => fun _ => rfl
  | x :: xs, h => fun k => by
    have h1 := h x List.mem_cons_self k
    have h2 := lcM_fm (f := f) (o := o) (l := xs) (fun d hd => h d (List.mem_cons_of_mem _ hd)) k
    unfold lcM
    rw [kb, h1]
    show ((lcM f xs) >>= _) k = _
    rw [kb, h2]
    cases e : o x <;> simp [e, kp]
theorem for_inv {body : D → St → M (St × Fl)} (I : Nat → St → Prop) : ∀ (l : List D) (i : Nat) (st : St), I i st → (∀ j d st, l[j]? = some d → I (i + j) st → ∃ st', Gv (body d st) (st', .nx) ∧ I (i + j + 1) st') → ∃ st', Gv (forM' body l st) (st', .nx) ∧ I (i + l.length) st'
  | [], i, st, h0, _ => ⟨st, fun _ => rfl, h0⟩
  | x :: xs, i, st, h0, hs => by
    obtain ⟨st1, h1, h2⟩ := hs 0 x st rfl h0
    obtain ⟨st2, h3, h4⟩ := for_inv I xs (i + 1) st1 h2 (fun j d st hd hI => by
      obtain ⟨st', a, b⟩ := hs (j + 1) d st (by simpa using hd) (by rw [show i + (j + 1) = i + 1 + j by omega]; exact hI)
      exact ⟨st', a, by rw [show i + 1 + j + 1 = i + (j + 1) + 1 by omega]; exact b⟩)
    refine ⟨st2, fun k => ?_, by rw [List.length_cons, show i + (xs.length + 1) = i + 1 + xs.length by omega]; exact h4⟩
    unfold forM'
    rw [kb, h1 k]
    exact h3 k
/-! ### lists of data -/
theorem okds_all {n : Nat} : ∀ {l : List D}, okds n l = true ↔ ∀ d ∈ l, okd n d = true
  | [] => by simp [okds]
  | x :: xs => by simp [okds, okds_all (l := xs)]
theorem boolsL_map {α : Type} {f : α → Bool} : ∀ {l : List α}, Gv (boolsL (l.map fun a => D.bl (f a))) (l.map f)
  | [] => fun _ => rfl
  | x :: xs => fun k => by
    show ((boolsL (xs.map fun a => D.bl (f a))) >>= fun bs => pure (f x :: bs)) k = _
    rw [kb, boolsL_map k]
    rfl
theorem has_any {l : List D} {x : D} : has l x = l.any fun y => eqv y x := by
  induction l with
  | nil => rfl
  | cons y ys ih => show (eqv y x || has ys x) = _; rw [ih]; rfl
/-! ### words and tables -/
/-- a row of ints -/
def wD (w : List Nat) : D := .tup (w.map fun (i : Nat) => .int i)
def pD (p : Nat × Nat) : D := .tup [.int p.1, .int p.2]
def tD (m : Nat) (ps : List (Nat × Nat)) : D := .tup [.int m, .tup (ps.map pD)]
theorem okd_wD {n : Nat} (w : List Nat) : okd (n + 1) (wD w) = true := by
  show okds n _ = true
  rw [okds_all]
  intro d hd
  obtain ⟨i, _, rfl⟩ := List.mem_map.mp hd
  cases n <;> rfl
theorem okd_pD {n : Nat} (p : Nat × Nat) : okd (n + 1) (pD p) = true := by
  cases n <;> rfl
theorem eqvs_w : ∀ {a b : List Nat}, eqvs (a.map fun (i : Nat) => D.int i) (b.map fun (i : Nat) => D.int i) = decide (a = b)
  | [], [] => rfl
  | [], _ :: _ => rfl
  | _ :: _, [] => rfl
  | x :: xs, y :: ys => by
    show ((x : Int) == y && eqvs _ _) = _
    rw [eqvs_w]
    by_cases h1 : x = y <;> by_cases h2 : xs = ys <;> simp [h1, h2]
    omega
theorem eqv_pD (p q : Nat × Nat) : eqv (pD p) (pD q) = decide (p = q) := by
  show (((p.1 : Int) == q.1) && (((p.2 : Int) == q.2) && true)) = _
  rcases p with ⟨a, b⟩
  rcases q with ⟨c, d⟩
  by_cases h1 : a = c <;> by_cases h2 : b = d <;> simp [h1, h2] <;> omega
theorem has_pairs (ps : List (Nat × Nat)) (q : Nat × Nat) : has (ps.map pD) (pD q) = decide (q ∈ ps) := by
  rw [has_any, List.any_map]
  induction ps with
  | nil => simp
  | cons p ps ih =>
    rw [List.any_cons, ih]
    show (eqv (pD p) (pD q) || _) = _
    rw [eqv_pD]
    by_cases h1 : p = q <;> by_cases h2 : q ∈ ps <;> simp [h1, h2]
    · exact fun z => h1 z.symm
theorem okds_pairs (ps : List (Nat × Nat)) {n : Nat} : okds (n + 1) (ps.map pD) = true := by
  rw [okds_all]
  intro d hd
  obtain ⟨p, _, rfl⟩ := List.mem_map.mp hd
  exact okd_pD p
def mixB (ps : List (Nat × Nat)) (a b : Nat) : Bool := decide (a = b) || decide ((min a b, max a b) ∈ ps)
theorem PR_fn {ex : List Fd} {i : Nat} {f : Fd} (h : progFns[i]? = some f) : (PR ex).fns[i]? = some f := by
  show (progFns ++ ex)[i]? = some f
  rcases Nat.lt_or_ge i progFns.length with z | z
  · rw [List.getElem?_append_left z]; exact h
  · rw [List.getElem?_eq_none z] at h; cases h
theorem cl_eq {P : Pr} {n i : Nat} {f : Fd} (h : P.fns[i]? = some f) (ds : List D) : (calls P (n + 1)).cl i ds = runF (calls P n) f ds := by
  show (match P.fns[i]? with | some fd => runF (calls P n) fd ds | none => no) = _
  rw [h]
theorem lcM_eq {α : Type} {f : D → M (Option D)} {c : α → D} {o : α → Option D} : ∀ {l : List α}, (∀ a ∈ l, Gv (f (c a)) (o a)) → ∀ k, lcM f (l.map c) k = some (l.filterMap o, k)
  | [], _, _ => rfl
  | x :: xs, h, k => by
    have h1 := h x List.mem_cons_self k
    have h2 := lcM_eq (f := f) (c := c) (o := o) (l := xs) (fun d hd => h d (List.mem_cons_of_mem _ hd)) k
    rw [List.map_cons]
    unfold lcM
    rw [kb, h1]
    show ((lcM f (xs.map c)) >>= _) k = _
    rw [kb, h2]
    cases e : o x <;> simp [e, kp]
theorem boolsL_eq {α : Type} {f : α → Bool} {l : List α} (k : Nat) : boolsL (l.map fun a => D.bl (f a)) k = some (l.map f, k) := boolsL_map k
theorem zipW_w : ∀ (u v : List Nat), List.zipWith (fun a b => D.tup [a, b]) (u.map fun (i : Nat) => .int i) (v.map fun (i : Nat) => .int i) = (u.zip v).map pD
  | [], _ => rfl
  | _ :: _, [] => rfl
  | a :: u, b :: v => by
    show _ :: List.zipWith _ _ _ = _
    rw [zipW_w u v]
    rfl
theorem zipW2 : ∀ (u v : List Nat), List.zipWith (fun (a b : Nat) => D.tup [.int a, .int b]) u v = (u.zip v).map pD
  | [], _ => rfl
  | _ :: _, [] => rfl
  | a :: u, b :: v => by
    show _ :: List.zipWith _ _ _ = _
    rw [zipW2 u v]
    rfl
theorem fmap_some {α β : Type} {g : α → β} {l : List α} : l.filterMap (fun a => some (g a)) = l.map g := by
  induction l with
  | nil => rfl
  | cons x xs ih => simp [ih]
def mwB (ps : List (Nat × Nat)) (u v : List Nat) : Bool := (u.zip v).all fun p => mixB ps p.1 p.2
variable {lf : List Fd} {n m : Nat} {ps : List (Nat × Nat)}
theorem call_mixed (a b : Nat) : Gv ((calls (PR lf) (n + 1)).cl 5 [tD m ps, .int a, .int b]) (.bl (mixB ps a b)) := fun k => by
  rw [cl_eq (PR_fn (f := p_mixed) rfl)]
  have hmin : (if b < a then (b : Int) else a) = ((min a b : Nat) : Int) := by split <;> omega
  have hmax : (if a < b then (b : Int) else a) = ((max a b : Nat) : Int) := by split <;> omega
  have hp : D.tup [D.int ((min a b : Nat) : Int), D.int ((max a b : Nat) : Int)] = pD (min a b, max a b) := rfl
  have ho : okds 39 [D.int ((min a b : Nat) : Int), D.int ((max a b : Nat) : Int)] = true := rfl
  have hq : okds 40 (ps.map pD) = true := okds_pairs ps
  by_cases h : a = b
  · subst h
    simp [runF, p_mixed, runB, exs, ex, ev, evs, evOr, kb, kp, kif, getV, cmpM, cmpD, eqD, okd, deep, eqv, tru, tD, mixB, -bind_pure_comp, -map_pure]
  · have h' : ¬ (a : Int) = b := by omega
    simp [runF, p_mixed, runB, exs, ex, ev, evs, evOr, kb, kp, kif, getV, cmpM, cmpD, eqD, okd, deep, eqv, tru, tD, f2D, inM, inD, ixD, atI, opt, mixB, h, h', hmin, hmax, hp, ho, hq, has_pairs, okd_pD, -bind_pure_comp, -map_pure]
theorem call_mixed_words (u v : List Nat) : Gv ((calls (PR lf) (n + 2)).cl 12 [tD m ps, wD u, wD v]) (.bl (mwB ps u v)) := fun k => by
  rw [cl_eq (PR_fn (f := p_mixed_words) rfl)]
  simp [runF, p_mixed_words, runB, exs, ex, ev, evs, kb, kp, kif, getV, wD, srcD, zipW2, -bind_pure_comp, -map_pure]
  rw [lcM_eq (o := fun p => some (.bl (mixB ps p.1 p.2)))]
  · simp [f1D, kb, kp, fmap_some, boolsL_eq, mwB, -bind_pure_comp, -map_pure]
  · intro p hp k
    simp [bindTg, pD, kb, kp, tru, G.wipe, -bind_pure_comp, -map_pure]
    rw [call_mixed]
    rfl
def wordsN (m : Nat) : Nat → List (List Nat)
  | 0 => [[]]
  | L + 1 => (wordsN m L).flatMap fun w => (List.range m).map fun s => w ++ [s]
theorem wordsN_len (m : Nat) : ∀ L, (wordsN m L).length = m ^ L
  | 0 => rfl
  | L + 1 => by
    show ((wordsN m L).flatMap _).length = _
    rw [List.length_flatMap]
    simp [wordsN_len m L, Nat.pow_succ, List.map_const', List.sum_replicate_nat]
theorem wordsN_mem {m : Nat} : ∀ {L : Nat} {w : List Nat}, w ∈ wordsN m L → w.length = L
  | 0, w, h => by simp [wordsN] at h; rw [h]; rfl
  | L + 1, w, h => by
    simp only [wordsN, List.mem_flatMap, List.mem_map] at h
    obtain ⟨v, hv, s, _, rfl⟩ := h
    rw [List.length_append, wordsN_mem hv]
    rfl
theorem rangeL_eq (m : Nat) : rangeL 0 m 1 = (List.range m).map fun (i : Nat) => .int i := by
  unfold rangeL
  congr 1
  funext i
  simp
theorem smallI_nat {m : Nat} (h : m ≤ 8388608) : smallI (m : Int) = true := absLe_of.mpr h
theorem pow_small {m L : Nat} (hm : m ≤ 6) (hL : L ≤ 4) : m ^ L ≤ 1296 := Nat.le_trans (Nat.pow_le_pow_left hm L) (Nat.le_trans (Nat.pow_le_pow_right (by omega) hL) (by decide))
def wBody : List S := [.ext 4 (.lc (.one 6) .r1 (.v 0) (.c .non) (.c .non) (.c (.bl true)) (.add (.v 5) (.tup [.v 6])) [6])]
theorem words_in (C : Cs) (hm : m ≤ 6) (L i : Nat) (hi : i < L) (hL : L ≤ 4) (a2 a3 a5 : Sl) : ∃ a5', Gv (forM' (fun d st => exs C wBody (st.set 5 (.fr d))) ((wordsN m i).map wD) [.fr (.int m), .fr (.int L), a2, a3, .ow (.lst []), a5, .un])
    ([.fr (.int m), .fr (.int L), a2, a3, .ow (.lst ((wordsN m (i + 1)).map wD)), a5', .un], .nx) := by
  have hp : m ^ (i + 1) ≤ 1296 := pow_small hm (by omega)
  have hlen := wordsN_len m (i + 1)
  obtain ⟨st', h1, h2⟩ := for_inv (body := fun d st => exs C wBody (st.set 5 (.fr d)))
    (fun j st => ∃ a5', st = [.fr (.int m), .fr (.int L), a2, a3, .ow (.lst (((((wordsN m i).take j).flatMap fun w => (List.range m).map fun s => w ++ [s])).map wD)), a5', .un])
    ((wordsN m i).map wD) 0 [.fr (.int m), .fr (.int L), a2, a3, .ow (.lst []), a5, .un] ⟨a5, by simp⟩ (fun j d st hd hI => by
      obtain ⟨a5', rfl⟩ := hI
      rw [Nat.zero_add]
      rw [List.getElem?_map] at hd
      cases hw : (wordsN m i)[j]? with
      | none => rw [hw] at hd; cases hd
      | some w =>
        rw [hw] at hd
        cases hd
        have hwl : w.length = i := wordsN_mem (List.mem_of_getElem? hw)
        have htk : (wordsN m i).take (j + 1) = (wordsN m i).take j ++ [w] := by rw [List.take_add_one, hw]; rfl
        have hle : ((((wordsN m i).take (j + 1)).flatMap fun w => (List.range m).map fun s => w ++ [s])).length ≤ 1296 := by
          refine Nat.le_trans ?_ hp
          rw [← hlen]
          show _ ≤ ((wordsN m i).flatMap _).length
          conv => rhs; rw [← List.take_append_drop (j + 1) (wordsN m i), List.flatMap_append, List.length_append]
          omega
        refine ⟨[.fr (.int m), .fr (.int L), a2, a3, .ow (.lst (((((wordsN m i).take (j + 1)).flatMap fun w => (List.range m).map fun s => w ++ [s])).map wD)), .fr (wD w), .un], fun k => ?_, _, rfl⟩
        simp [bindTg, wBody, exs, ex, ev, evs, kb, kp, kif, getV, srcD, smallI_nat (show m ≤ 8388608 by omega), rangeL_eq, -bind_pure_comp, -map_pure]
        rw [lcM_eq (o := fun s => some (wD (w ++ [s])))]
        · rw [fmap_some]
          rw [htk] at hle ⊢
          rw [List.flatMap_append, List.length_append] at hle
          simp [kb, kp, kif, getO, extD, List.flatMap_append, -bind_pure_comp, -map_pure] at hle ⊢
          rw [if_pos (by omega)]
          rfl
        · intro s hs k
          simp [bindTg, kb, kp, kif, tru, G.wipe, wD, addD, hwl, -bind_pure_comp, -map_pure]
          rw [if_pos (by omega)]
          rfl)
  obtain ⟨a5', rfl⟩ := h2
  refine ⟨a5', fun k => ?_⟩
  rw [h1 k]
  simp [wordsN]
def wOut : List S := [.own 4 (.lst []), .for (.one 5) .it (.v 2) (.c .non) (.c .non) wBody, .fz [4], .set 2 (.v 4)]
theorem p_words_eq : p_words = .py 2 7 [.set 2 (.lst [.tup []]), .for (.one 3) .r1 (.v 1) (.c .non) (.c .non) wOut, .ret (.b1 .tuple (.v 2))] := rfl
theorem call_words (hm : m ≤ 6) {L : Nat} (hL : L ≤ 4) : Gv ((calls (PR lf) (n + 1)).cl 11 [.int m, .int L]) (.tup ((wordsN m L).map wD)) := fun k => by
  rw [cl_eq (PR_fn (f := p_words) rfl)]
  obtain ⟨st', h1, h2⟩ := for_inv (body := fun d st => exs (calls (PR lf) n) wOut (st.set 3 (.fr d)))
    (fun i st => ∃ a3 a4 a5, st = [.fr (.int m), .fr (.int L), .fr (.lst ((wordsN m i).map wD)), a3, a4, a5, .un])
    ((List.range L).map fun (i : Nat) => .int i) 0 [.fr (.int m), .fr (.int L), .fr (.lst [.tup []]), .un, .un, .un, .un] ⟨_, _, _, rfl⟩ (fun j d st hd hI => by
      obtain ⟨a3, a4, a5, rfl⟩ := hI
      rw [Nat.zero_add]
      have hj : j < L := by
        rcases Nat.lt_or_ge j L with z | z
        · exact z
        · rw [List.getElem?_eq_none (by simpa using z)] at hd; cases hd
      obtain ⟨a5', hin⟩ := words_in (calls (PR lf) n) hm L j hj hL (.fr (.lst ((wordsN m j).map wD))) (.fr d) a5
      refine ⟨[.fr (.int m), .fr (.int L), .fr (.lst ((wordsN m (j + 1)).map wD)), .fr d, .fr (.lst ((wordsN m (j + 1)).map wD)), a5', .un], fun k => ?_, _, _, _, rfl⟩
      simp [wOut, bindTg, exs, ex, ev, evs, kb, kp, kif, getV, srcD, items, -bind_pure_comp, -map_pure]
      rw [hin k]
      simp [kb, kp, fz, frz1, -bind_pure_comp, -map_pure])
  obtain ⟨a3, a4, a5, rfl⟩ := h2
  have hr : rangeL 0 L 1 = (List.range L).map fun (i : Nat) => .int i := rangeL_eq L
  rw [p_words_eq]
  simp [runF, runB, bindTg, exs, ex, ev, evs, kb, kp, kif, getV, srcD, smallI_nat (show L ≤ 8388608 by omega), hr, -bind_pure_comp, -map_pure]
  rw [h1 k]
  simp [kb, kp, getV, f1D, -bind_pure_comp, -map_pure]
/-! ### codes -/
def freeB (ps : List (Nat × Nat)) (some : List (List Nat)) (w : List Nat) : Bool := !(some.any fun o => mwB ps w o)
theorem tru_bl (b : Bool) (k : Nat) : tru (.bl b) k = some (b, k) := rfl
theorem any_eq (l : List Bool) : l.any id = l.any (· == true) := by
  congr 1
  funext b
  cases b <;> rfl
theorem fmap_if {α β : Type} {p : α → Bool} {f : α → β} {l : List α} : l.filterMap (fun w => if p w = true then some (f w) else none) = (l.filter p).map f := by
  induction l with
  | nil => rfl
  | cons x xs ih =>
    rw [List.filterMap_cons, List.filter_cons]
    by_cases h : p x = true
    · simp [h, ih]
    · simp [h, ih]
theorem call_addable (hm : m ≤ 6) {L : Nat} (hL : L ≤ 4) (some : List (List Nat)) : Gv ((calls (PR lf) (n + 3)).cl 16 [tD m ps, .tup (some.map wD), .int L]) (.tup (((wordsN m L).filter (freeB ps some)).map wD)) := fun k => by
  rw [cl_eq (PR_fn (f := p_addable) rfl)]
  simp [runF, p_addable, runB, exs, ex, ev, evs, kb, kp, kif, getV, tD, ixD, atI, opt, srcD, items, -bind_pure_comp, -map_pure]
  rw [call_words hm hL]
  simp [kb, kp, items, srcD, -bind_pure_comp, -map_pure]
  rw [lcM_eq (o := fun w => if freeB ps some w then Option.some (wD w) else none)]
  · simp [f1D, kb, kp, -bind_pure_comp, -map_pure]
    exact fmap_if
  · intro w hw k
    simp [bindTg, kb, kp, tru, G.wipe, items, -bind_pure_comp, -map_pure]
    rw [lcM_eq (o := fun o => Option.some (.bl (mwB ps w o)))]
    · simp [f1D, kb, kp, tru, fmap_some, boolsL_eq, freeB, -bind_pure_comp, -map_pure]
      split <;> rfl
    · intro o ho k
      simp [bindTg, kb, kp, tru, G.wipe, -bind_pure_comp, -map_pure]
      rw [show D.tup [.int m, .tup (ps.map pD)] = tD m ps from rfl, call_mixed_words]
      rfl
theorem okd_words {n : Nat} (l : List (List Nat)) : okd (n + 2) (.tup (l.map wD)) = true := by
  show okds (n + 1) _ = true
  rw [okds_all]
  intro d hd
  obtain ⟨i, _, rfl⟩ := List.mem_map.mp hd
  exact okd_wD i
theorem call_is_full (hm : m ≤ 6) {L : Nat} (hL : L ≤ 4) (some : List (List Nat)) : Gv ((calls (PR lf) (n + 4)).cl 17 [tD m ps, .tup (some.map wD), .int L]) (.bl ((wordsN m L).filter (freeB ps some)).isEmpty) := fun k => by
  rw [cl_eq (PR_fn (f := p_is_full) rfl)]
  simp [runF, p_is_full, runB, exs, ex, ev, evs, kb, kp, kif, getV, -bind_pure_comp, -map_pure]
  rw [call_addable hm hL]
  have h1 : okd deep (.tup (((wordsN m L).filter (freeB ps some)).map wD)) = true := okd_words _
  have h2 : okd deep (.tup []) = true := rfl
  have h3 : ∀ l : List D, eqv (.tup l) (.tup []) = l.isEmpty := fun l => by cases l <;> rfl
  simp [cmpM, cmpD, eqD, kb, kp, kif, h1, h2, h3, -bind_pure_comp, -map_pure]
def growN (ps : List (Nat × Nat)) (ws some : List (List Nat)) : List (List Nat) := ws.foldl (fun acc w => if freeB ps acc w then acc ++ [w] else acc) some
theorem growN_len (ps : List (Nat × Nat)) : ∀ (ws some : List (List Nat)), (growN ps ws some).length ≤ some.length + ws.length
  | [], acc => Nat.le_refl _
  | w :: ws, acc => by
    show (growN ps ws _).length ≤ _
    refine Nat.le_trans (growN_len ps ws _) ?_
    show (if freeB ps acc w = true then acc ++ [w] else acc).length + ws.length ≤ _
    split
    · simp; omega
    · simp
def gBody : List S := [.ite (.not (.b1 .any (.lc (.one 4) .it (.v 1) (.c .non) (.c .non) (.c (.bl true)) (.call 12 [.v 0, .v 3, .v 4]) [4]))) [.set 1 (.add (.v 1) (.tup [.v 3]))] []]
theorem p_grown_eq : p_grown = .py 3 5 [.for (.one 3) .it (.call 11 [.ix (.v 0) (.c (.int 0)), .v 2]) (.c .non) (.c .non) gBody, .ret (.v 1)] := rfl
theorem grow_loop (L : Nat) : ∀ (ws acc : List (List Nat)) (a3 : Sl), acc.length + ws.length ≤ 16777216 → ∃ a3', Gv (forM' (fun d st => exs (calls (PR lf) (n + 2)) gBody (st.set 3 (.fr d))) (ws.map wD) [.fr (tD m ps), .fr (.tup (acc.map wD)), .fr (.int L), a3, .un])
    ([.fr (tD m ps), .fr (.tup ((growN ps ws acc).map wD)), .fr (.int L), a3', .un], .nx)
  | [], acc, a3, _ => ⟨a3, fun _ => rfl⟩
  | w :: ws, acc, a3, hz => by
    obtain ⟨a3', h⟩ := grow_loop L ws (if freeB ps acc w then acc ++ [w] else acc) (.fr (wD w)) (by split <;> simp at hz ⊢ <;> omega)
    refine ⟨a3', fun k => ?_⟩
    rw [List.map_cons]
    unfold forM'
    have hb : exs (calls (PR lf) (n + 2)) gBody ([.fr (tD m ps), .fr (.tup (acc.map wD)), .fr (.int L), a3, .un].set 3 (.fr (wD w))) k = Option.some (([.fr (tD m ps), .fr (.tup ((if freeB ps acc w then acc ++ [w] else acc).map wD)), .fr (.int L), .fr (wD w), .un], .nx), k) := by
      simp [gBody, bindTg, exs, ex, ev, evs, kb, kp, kif, getV, srcD, items, tD, -bind_pure_comp, -map_pure]
      rw [lcM_eq (o := fun o => Option.some (.bl (mwB ps w o)))]
      · simp [f1D, kb, kp, kif, tru, fmap_some, boolsL_eq, addD, -bind_pure_comp, -map_pure]
        have hf : freeB ps acc w = decide (∀ (x : List Nat), x ∈ acc → mwB ps w x = false) := by
          rw [Bool.eq_iff_iff]
          simp [freeB]
        rw [hf]
        by_cases hc : ∀ (x : List Nat), x ∈ acc → mwB ps w x = false
        · have hz' : acc.length ≤ 16777215 := by simp at hz; omega
          rw [if_pos hc, if_pos hz']
          simp only [decide_eq_true hc]
          simp [kb, kp, kif, -bind_pure_comp, -map_pure]
        · rw [if_neg hc]
          simp only [decide_eq_false hc]
          simp [kb, kp, kif, -bind_pure_comp, -map_pure]
      · intro o ho k
        simp [bindTg, kb, kp, tru, G.wipe, -bind_pure_comp, -map_pure]
        rw [show D.tup [.int m, .tup (ps.map pD)] = tD m ps from rfl, call_mixed_words]
        rfl
    rw [kb]
    show (exs (calls (PR lf) (n + 2)) gBody ([.fr (tD m ps), .fr (.tup (acc.map wD)), .fr (.int L), a3, .un].set 3 (.fr (wD w))) k).bind _ = _
    rw [hb]
    exact h k
theorem call_grown (hm : m ≤ 6) {L : Nat} (hL : L ≤ 4) (some : List (List Nat)) (hs : some.length ≤ 10000) : Gv ((calls (PR lf) (n + 3)).cl 18 [tD m ps, .tup (some.map wD), .int L]) (.tup ((growN ps (wordsN m L) some).map wD)) := fun k => by
  rw [cl_eq (PR_fn (f := p_grown) rfl), p_grown_eq]
  obtain ⟨a3, h⟩ := grow_loop (lf := lf) (n := n) (m := m) (ps := ps) L (wordsN m L) some .un (by rw [wordsN_len]; have := pow_small hm hL; omega)
  simp [runF, runB, bindTg, exs, ex, ev, evs, kb, kp, kif, getV, tD, ixD, atI, opt, srcD, items, -bind_pure_comp, -map_pure]
  rw [call_words hm hL]
  simp [kb, kp, items, srcD, -bind_pure_comp, -map_pure]
  rw [show D.tup [.int m, .tup (ps.map pD)] = tD m ps from rfl, h k]
  simp [kb, kp, getV, -bind_pure_comp, -map_pure]
/-- no two are mixed -/
def apart (ps : List (Nat × Nat)) (l : List (List Nat)) : Prop := ∀ (i j : Nat) (u v : List Nat), i < j → l[i]? = some u → l[j]? = some v → mwB ps u v = false
def cIn : List S := [.ite (.call 12 [.v 0, .v 3, .ix (.v 1) (.v 4)]) [.ret (.tup [.v 2, .v 4])] []]
def cOut : List S := [.for (.one 4) .r2 (.add (.v 2) (.c (.int 1))) (.b1 .len (.v 1)) (.c .non) cIn]
theorem p_clash_eq : p_clash = .py 2 5 [.for (.two 2 3) .en (.v 1) (.c .non) (.c .non) cOut, .ret (.c .non)] := rfl
end G

namespace G
variable {lf : List Fd} {n m : Nat} {ps : List (Nat × Nat)}
theorem bt1 {β : Type} {i : Nat} {d : D} {st : St} {F : St → M β} : (bindTg (.one i) d st >>= F) = F (st.set i (.fr d)) := by
  rw [show bindTg (.one i) d st = pure (st.set i (.fr d)) from rfl, pure_bind]
theorem runF_py {C : Cs} {np ns : Nat} {body : List S} {args : List D} (h : args.length = np) : runF C (.py np ns body) args = runB C ns body (args.map .fr) := by
  show (if args.length = np then runB C ns body (args.map .fr) else no) = _
  rw [if_pos h]
theorem clash_in (l : List (List Nat)) (hl : l.length ≤ 100000) (hA : apart ps l) (i : Nat) (u : List Nat) (hu : l[i]? = some u) (a4 : Sl) : ∃ a4', Gv (forM' (fun d st => exs (calls (PR lf) (n + 2)) cIn (st.set 4 (.fr d))) (rangeL ((i : Int) + 1) (l.length - (i + 1)) 1) [.fr (tD m ps), .fr (.tup (l.map wD)), .fr (.int i), .fr (wD u), a4])
    ([.fr (tD m ps), .fr (.tup (l.map wD)), .fr (.int i), .fr (wD u), a4'], .nx) := by
  obtain ⟨st', h1, h2⟩ := for_inv (body := fun d st => exs (calls (PR lf) (n + 2)) cIn (st.set 4 (.fr d))) (fun j st => ∃ a4', st = [.fr (tD m ps), .fr (.tup (l.map wD)), .fr (.int i), .fr (wD u), a4'])
    (rangeL ((i : Int) + 1) (l.length - (i + 1)) 1) 0 [.fr (tD m ps), .fr (.tup (l.map wD)), .fr (.int i), .fr (wD u), a4] ⟨a4, rfl⟩ (fun j d st hd hI => by
      obtain ⟨a4', rfl⟩ := hI
      have hj : j < l.length - (i + 1) := by
        rcases Nat.lt_or_ge j (l.length - (i + 1)) with z | z
        · exact z
        · rw [List.getElem?_eq_none (by simpa [rangeL] using z)] at hd; cases hd
      have hd' : d = .int ((i + 1 + j : Nat) : Int) := by
        unfold rangeL at hd
        rw [List.getElem?_map, List.getElem?_range hj] at hd
        cases hd
        show D.int ((i : Int) + 1 + (j : Int) * 1) = D.int ((i + 1 + j : Nat) : Int)
        congr 1
        omega
      subst hd'
      obtain ⟨v, hv⟩ : ∃ v, l[i + 1 + j]? = some v := ⟨_, List.getElem?_eq_getElem (by omega)⟩
      have hmw := hA i (i + 1 + j) u v (by omega) hu hv
      have hat : atI (l.map wD) ((i + 1 + j : Nat) : Int) = some (wD v) := by
        unfold atI
        rw [if_pos (by omega)]
        show (l.map wD)[i + 1 + j]? = _
        rw [List.getElem?_map, hv]
        rfl
      refine ⟨[.fr (tD m ps), .fr (.tup (l.map wD)), .fr (.int i), .fr (wD u), .fr (.int ((i + 1 + j : Nat) : Int))], fun k => ?_, _, rfl⟩
      simp only [cIn, List.set_cons_succ, List.set_cons_zero]
      simp [exs, ex, ev, evs, kb, kp, kif, getV, ixD, opt, tru, -bind_pure_comp, -map_pure, -Int.natCast_add]
      rw [hat]
      simp [kb, kp, opt, -bind_pure_comp, -map_pure]
      rw [call_mixed_words]
      simp [kb, kp, kif, tru, hmw, -bind_pure_comp, -map_pure])
  obtain ⟨a4', rfl⟩ := h2
  exact ⟨a4', h1⟩
end G

namespace G
variable {lf : List Fd} {n m : Nat} {ps : List (Nat × Nat)}
theorem kb' {α β : Type} (x : M α) (f : α → M β) (k : Nat) : (x >>= f) k = (x k).bind fun p => f p.1 p.2 := congrArg (fun z => z) (kb x f k)
theorem kp' {α : Type} (a : α) (k : Nat) : (pure a : M α) k = some (a, k) := congrArg (fun z => z) (kp a k)
theorem sm1 {j : Nat} (h : j ≤ 8388600) : smallI ((j : Int) + 1) = true := by
  have e : ((j : Int) + 1) = ((j + 1 : Nat) : Int) := by omega
  rw [e]
  exact smallI_nat (by omega)
theorem sm3 {j l : Nat} : ((l : Int) - ((j : Int) + 1)).toNat = l - (j + 1) := by omega
theorem clash_out (l : List (List Nat)) (hl : l.length ≤ 100000) (hA : apart ps l) (j : Nat) (u : List Nat) (hu : l[j]? = some u) (a2 a3 a4 : Sl) : ∃ a4', Gv (do let st' ← bindTg (.two 2 3) (.tup [.int (j : Nat), wD u]) [.fr (tD m ps), .fr (.tup (l.map wD)), a2, a3, a4]; exs (calls (PR lf) (n + 2)) cOut st')
    ([.fr (tD m ps), .fr (.tup (l.map wD)), .fr (.int j), .fr (wD u), a4'], .nx) := by
  have hjl : j < l.length := by
    rcases Nat.lt_or_ge j l.length with z | z
    · exact z
    · rw [List.getElem?_eq_none z] at hu; cases hu
  obtain ⟨a4', h⟩ := clash_in (lf := lf) (n := n) (m := m) l hl hA j u hu a4
  refine ⟨a4', fun k => ?_⟩
  have hs1 : smallI ((j : Int) + 1) = true := sm1 (by omega)
  have hs2 : smallI (l.length : Int) = true := smallI_nat (by omega)
  have hs3 : ((l.length : Int) - ((j : Int) + 1)).toNat = l.length - (j + 1) := sm3
  have e2 : (bindTg (.two 2 3) (.tup [.int (j : Nat), wD u]) [.fr (tD m ps), .fr (.tup (l.map wD)), a2, a3, a4] : M St) = pure [.fr (tD m ps), .fr (.tup (l.map wD)), .fr (.int j), .fr (wD u), a4] := rfl
  rw [e2, pure_bind]
  have e3 : (ev (calls (PR lf) (n + 2)) (.add (.v 2) (.c (.int 1))) [.fr (tD m ps), .fr (.tup (l.map wD)), .fr (.int j), .fr (wD u), a4] : M D) = pure (.int ((j : Int) + 1)) := by
    rw [ev, ev, ev]
    rfl
  have e4 : (ev (calls (PR lf) (n + 2)) (.b1 .len (.v 1)) [.fr (tD m ps), .fr (.tup (l.map wD)), .fr (.int j), .fr (wD u), a4] : M D) = pure (.int (l.length : Int)) := by
    rw [ev, ev]
    show (pure (.int ((l.map wD).length : Int)) : M D) = _
    rw [List.length_map]
  have e5 : srcD .r2 (.int ((j : Int) + 1)) (.int (l.length : Int)) .non = (pure (rangeL ((j : Int) + 1) (l.length - (j + 1)) 1) : M (List D)) := by
    show (if (smallI ((j : Int) + 1) && smallI (l.length : Int)) = true then (pure (rangeL ((j : Int) + 1) ((l.length : Int) - ((j : Int) + 1)).toNat 1) : M (List D)) else no) = _
    rw [hs1, hs2, hs3]
    rfl
  have e6 : ev (calls (PR lf) (n + 2)) (.c .non) [.fr (tD m ps), .fr (.tup (l.map wD)), .fr (.int j), .fr (wD u), a4] = pure .non := by rw [ev]
  unfold cOut
  rw [exs, ex, e3, pure_bind, e4, pure_bind, e6, pure_bind, e5, pure_bind, kb']
  simp only [bt1]
  rw [h k]
  show exs (calls (PR lf) (n + 2)) [] _ k = _
  rw [exs]
  rfl
end G

namespace G
variable {lf : List Fd} {n m : Nat} {ps : List (Nat × Nat)}
theorem call_clash_none (l : List (List Nat)) (hl : l.length ≤ 100000) (hA : apart ps l) : Gv ((calls (PR lf) (n + 3)).cl 14 [tD m ps, .tup (l.map wD)]) .non := fun k => by
  rw [cl_eq (PR_fn (f := p_clash) rfl), p_clash_eq]
  obtain ⟨st', h1, h2⟩ := for_inv (body := fun d st => do let st' ← bindTg (.two 2 3) d st; exs (calls (PR lf) (n + 2)) cOut st') (fun j st => ∃ a2 a3 a4', st = [.fr (tD m ps), .fr (.tup (l.map wD)), a2, a3, a4'])
    ((l.map wD).zipIdx.map fun p => .tup [.int p.2, p.1]) 0 [.fr (tD m ps), .fr (.tup (l.map wD)), .un, .un, .un] ⟨_, _, _, rfl⟩ (fun j d st hd hI => by
      obtain ⟨a2, a3, a4, rfl⟩ := hI
      rw [List.getElem?_map, List.getElem?_zipIdx, List.getElem?_map] at hd
      cases hu : l[j]? with
      | none => rw [hu] at hd; cases hd
      | some u =>
        rw [hu] at hd
        cases hd
        obtain ⟨a4', h⟩ := clash_out (lf := lf) (n := n) (m := m) l hl hA j u hu a2 a3 a4
        refine ⟨[.fr (tD m ps), .fr (.tup (l.map wD)), .fr (.int j), .fr (wD u), a4'], ?_, _, _, _, rfl⟩
        show Gv (do let st' ← bindTg (.two 2 3) (.tup [.int ((0 + j : Nat) : Int), wD u]) [.fr (tD m ps), .fr (.tup (l.map wD)), a2, a3, a4]; exs (calls (PR lf) (n + 2)) cOut st') _
        rw [Nat.zero_add]
        exact h)
  obtain ⟨a2, a3, a4, rfl⟩ := h2
  rw [runF_py (args := [tD m ps, .tup (l.map wD)]) (np := 2) rfl]
  unfold runB
  have h1' := h1 k
  simp only [exs, ex, ev, kb, kp, getV, List.map_cons, List.map_nil, List.length_cons, List.length_nil, List.replicate, List.cons_append, List.nil_append, List.getElem?_cons_succ, List.getElem?_cons_zero, Option.bind_some, srcD]
  rw [h1']
  rfl
theorem call_is_code (l : List (List Nat)) (hl : l.length ≤ 100000) (hA : apart ps l) : Gv ((calls (PR lf) (n + 4)).cl 15 [tD m ps, .tup (l.map wD)]) (.bl true) := fun k => by
  rw [cl_eq (PR_fn (f := p_is_code) rfl)]
  rw [show p_is_code = .py 2 2 [.ret (.isn false (.call 14 [.v 0, .v 1]))] from rfl, runF_py (args := [tD m ps, .tup (l.map wD)]) (np := 2) rfl]
  unfold runB
  simp only [exs, ex, ev, evs, kb, kp, getV, List.map_cons, List.map_nil, List.length_cons, List.length_nil, List.replicate, List.cons_append, List.nil_append, List.getElem?_cons_succ, List.getElem?_cons_zero, Option.bind_some]
  rw [call_clash_none l hl hA]
  rfl
end G

namespace L_k04
open G
variable {n m : Nat} {ps : List (Nat × Nat)}
theorem PL_fn {i : Nat} {f : Fd} (h : lawFns[i]? = some f) : PL.fns[56 + i]? = some f := by
  show (progFns ++ lawFns)[56 + i]? = some f
  rw [List.getElem?_append_right (by show progFns.length ≤ 56 + i; show 56 ≤ 56 + i; omega)]
  show lawFns[56 + i - 56]? = _
  rw [Nat.add_sub_cancel_left]
  exact h
theorem mixB_near {a b : Nat} (hps : ∀ p ∈ ps, p.1 < p.2) : (decide (a = b) || (decide ((a, b) ∈ ps) || decide ((b, a) ∈ ps))) = mixB ps a b := by
  unfold mixB
  by_cases h : a = b
  · simp [h]
  · rcases Nat.lt_or_ge a b with z | z
    · have h1 : min a b = a := by omega
      have h2 : max a b = b := by omega
      have h3 : (b, a) ∉ ps := fun q => by have := hps _ q; simp at this; omega
      simp [h, h1, h2, h3]
    · have h1 : min a b = b := by omega
      have h2 : max a b = a := by omega
      have h3 : (a, b) ∉ ps := fun q => by have := hps _ q; simp at this; omega
      simp [h, h1, h2, h3]
theorem call_near (hps : ∀ p ∈ ps, p.1 < p.2) (a b : Nat) : Gv ((calls PL (n + 1)).cl 60 [tD m ps, .int a, .int b]) (.bl (mixB ps a b)) := fun k => by
  rw [cl_eq (PL_fn (i := 4) (f := q_law_near) rfl)]
  rw [← mixB_near hps]
  have hq : okds 40 (ps.map pD) = true := okds_pairs ps
  have hp1 : D.tup [D.int (a : Int), D.int (b : Int)] = pD (a, b) := rfl
  have hp2 : D.tup [D.int (b : Int), D.int (a : Int)] = pD (b, a) := rfl
  have ho1 : okd 40 (pD (a, b)) = true := okd_pD _
  have ho2 : okd 40 (pD (b, a)) = true := okd_pD _
  by_cases h : a = b
  · subst h
    simp [runF, q_law_near, runB, exs, ex, ev, evs, evOr, kb, kp, kif, getV, cmpM, cmpD, eqD, okd, deep, eqv, tru, tD, -bind_pure_comp, -map_pure]
  · have h' : ¬ (a : Int) = b := by omega
    by_cases h1 : (a, b) ∈ ps
    · simp [runF, q_law_near, runB, exs, ex, ev, evs, evOr, kb, kp, kif, getV, cmpM, cmpD, eqD, okd, deep, eqv, tru, tD, inM, inD, ixD, atI, opt, h, h', hp1, hp2, ho1, ho2, hq, has_pairs, h1, -bind_pure_comp, -map_pure]
    · simp [runF, q_law_near, runB, exs, ex, ev, evs, evOr, kb, kp, kif, getV, cmpM, cmpD, eqD, okd, deep, eqv, tru, tD, inM, inD, ixD, atI, opt, h, h', hp1, hp2, ho1, ho2, hq, has_pairs, h1, -bind_pure_comp, -map_pure]
theorem zip_range : ∀ (u v : List Nat), u.length = v.length → (List.range u.length).map (fun i => mixB ps (u.getD i 0) (v.getD i 0)) = (u.zip v).map fun p => mixB ps p.1 p.2 := by
  intro u v h
  apply List.ext_getElem
  · simp [h]
  · intro i h1 h2
    have hu : i < u.length := by simpa using h1
    have hv : i < v.length := h ▸ hu
    simp [hu, hv]
theorem call_lmixed (hps : ∀ p ∈ ps, p.1 < p.2) (u v : List Nat) (h : u.length = v.length) (hu : u.length ≤ 1000) : Gv ((calls PL (n + 2)).cl 62 [tD m ps, wD u, wD v]) (.bl (mwB ps u v)) := fun k => by
  rw [cl_eq (PL_fn (i := 6) (f := q_law_mixed) rfl)]
  have hs : smallI (u.length : Int) = true := smallI_nat (by omega)
  have hr : rangeL 0 u.length 1 = (List.range u.length).map fun (i : Nat) => .int i := rangeL_eq u.length
  have hh : ∀ l : List Bool, has (l.map fun b => D.bl b) (.bl false) = !(l.all id) := fun l => by
    rw [has_any]
    induction l with
    | nil => rfl
    | cons b l ih =>
      rw [List.map_cons, List.any_cons, ih]
      cases b <;> rfl
  have ho : ∀ l : List Bool, okds deep (l.map fun b => D.bl b) = true := fun l => by
    rw [okds_all]
    intro d hd
    obtain ⟨b, _, rfl⟩ := List.mem_map.mp hd
    rfl
  simp [runF, q_law_mixed, runB, exs, ex, ev, evs, kb, kp, kif, getV, f1D, wD, srcD, hs, hr, -bind_pure_comp, -map_pure]
  rw [lcM_eq (o := fun i => some (.bl (mixB ps (u.getD i 0) (v.getD i 0))))]
  · have e1 : (List.range u.length).filterMap (fun i => some (D.bl (mixB ps (u.getD i 0) (v.getD i 0)))) = ((u.zip v).map fun p => mixB ps p.1 p.2).map fun b => D.bl b := by
      rw [← zip_range u v h, fmap_some, List.map_map]
      rfl
    rw [e1]
    have h1 := ho ((u.zip v).map fun p => mixB ps p.1 p.2)
    have h2 := hh ((u.zip v).map fun p => mixB ps p.1 p.2)
    have h3 : (((u.zip v).map fun p => mixB ps p.1 p.2).all id) = mwB ps u v := by
      unfold mwB
      rw [List.all_map]
      rfl
    rw [h3] at h2
    simp only [kb, kp, Option.bind_some, inM, inD, h1, h2]
    show ((((if (okd deep (.bl false) && true) = true then (pure (!mwB ps u v) : M Bool) else no) k).bind _).bind _).bind _ = _
    cases mwB ps u v <;> rfl
  · intro i hi k
    have hi' : i < u.length := by simpa using hi
    have g1 : atI (u.map fun (i : Nat) => D.int i) (i : Int) = some (.int (u.getD i 0 : Nat)) := by
      unfold atI
      rw [if_pos (by omega)]
      show (u.map _)[i]? = _
      rw [List.getElem?_map, List.getElem?_eq_getElem hi', List.getD_eq_getElem?_getD, List.getElem?_eq_getElem hi']
      rfl
    have g2 : atI (v.map fun (i : Nat) => D.int i) (i : Int) = some (.int (v.getD i 0 : Nat)) := by
      unfold atI
      rw [if_pos (by omega)]
      show (v.map _)[i]? = _
      rw [List.getElem?_map, List.getElem?_eq_getElem (h ▸ hi'), List.getD_eq_getElem?_getD, List.getElem?_eq_getElem (h ▸ hi')]
      rfl
    simp [bindTg, kb, kp, kif, tru, G.wipe, ixD, -bind_pure_comp, -map_pure, -List.getD_eq_getElem?_getD]
    rw [g1]
    simp [kb, kp, opt, -bind_pure_comp, -map_pure, -List.getD_eq_getElem?_getD]
    rw [g2]
    simp [kb, kp, opt, -bind_pure_comp, -map_pure, -List.getD_eq_getElem?_getD]
    rw [call_near hps]
    rfl
/-! ### words by their numbers -/
def digW (m : Nat) : Nat → Nat → List Nat
  | 0, _ => []
  | L + 1, N => digW m L (N / m) ++ [N % m]
theorem digW_front (m : Nat) : ∀ (L N : Nat), digW m (L + 1) N = (N / m ^ L % m) :: digW m L N
  | 0, N => by simp [digW]
  | L + 1, N => by
    show digW m (L + 1) (N / m) ++ [N % m] = _
    rw [digW_front m L (N / m)]
    show (N / m / m ^ L % m) :: (digW m L (N / m) ++ [N % m]) = (N / m ^ (L + 1) % m) :: (digW m L (N / m) ++ [N % m])
    rw [Nat.div_div_eq_div_mul, Nat.pow_succ, Nat.mul_comm (m ^ L) m]
theorem range_mul {α : Type} (a b : Nat) (f : Nat → α) : (List.range (a * b)).map f = (List.range a).flatMap fun i => (List.range b).map fun j => f (i * b + j) := by
  induction a with
  | zero => simp
  | succ a ih =>
    rw [Nat.succ_mul, List.range_add, List.map_append, ih, List.range_succ, List.flatMap_append]
    simp
theorem wordsN_dig {m : Nat} (hm : 0 < m) : ∀ L, wordsN m L = (List.range (m ^ L)).map (digW m L)
  | 0 => rfl
  | L + 1 => by
    show (wordsN m L).flatMap _ = _
    rw [Nat.pow_succ, range_mul, wordsN_dig hm L, List.flatMap_map]
    congr 1
    funext i
    apply List.map_congr_left
    intro j hj
    have hj' : j < m := by simpa using hj
    show _ = digW m L ((i * m + j) / m) ++ [(i * m + j) % m]
    rw [Nat.mul_comm i m, Nat.mul_add_div hm, Nat.div_eq_of_lt hj', Nat.add_zero, Nat.mul_add_mod, Nat.mod_eq_of_lt hj']
def lwIn : List S := [.set 6 (.add (.tup [.mod (.v 5) (.v 0)]) (.v 6)), .set 5 (.fdv (.v 5) (.v 0))]
def lwOut : List S := [.set 6 (.tup []), .for (.one 4) .r1 (.v 1) (.c .non) (.c .non) lwIn, .app 2 (.v 6)]
def lwMul : List S := [.set 3 (.mul (.v 3) (.v 0))]
theorem q_words_eq : q_law_words = .py 2 7 [.own 2 (.lst []), .set 3 (.c (.int 1)), .for (.one 4) .r1 (.v 1) (.c .non) (.c .non) lwMul, .for (.one 5) .r1 (.v 3) (.c .non) (.c .non) lwOut, .fz [2], .ret (.v 2)] := rfl
theorem digW_len (m : Nat) : ∀ L N, (digW m L N).length = L
  | 0, _ => rfl
  | L + 1, N => by
    show (digW m L _ ++ [_]).length = _
    rw [List.length_append, digW_len m L]
    rfl
theorem lw_in (C : Cs) (hm : 0 < m) (hm6 : m ≤ 6) {L : Nat} (hL : L ≤ 4) (N : Nat) (a2 a3 a4 : Sl) : ∃ a4' a5', Gv (forM' (fun d st => exs C lwIn (st.set 4 (.fr d))) ((List.range L).map fun (i : Nat) => .int i) [.fr (.int m), .fr (.int L), a2, a3, a4, .fr (.int N), .fr (.tup [])])
    ([.fr (.int m), .fr (.int L), a2, a3, a4', a5', .fr (wD (digW m L N))], .nx) := by
  obtain ⟨st', h1, h2⟩ := for_inv (body := fun d st => exs C lwIn (st.set 4 (.fr d))) (fun t st => ∃ a4', st = [.fr (.int m), .fr (.int L), a2, a3, a4', .fr (.int ((N / m ^ t : Nat) : Int)), .fr (wD (digW m t N))])
    ((List.range L).map fun (i : Nat) => .int i) 0 [.fr (.int m), .fr (.int L), a2, a3, a4, .fr (.int N), .fr (.tup [])] ⟨a4, by simp [digW, wD]⟩ (fun j d st hd hI => by
      obtain ⟨a4', rfl⟩ := hI
      rw [Nat.zero_add]
      have hj : j < L := by
        rcases Nat.lt_or_ge j L with z | z
        · exact z
        · rw [List.getElem?_eq_none (by simpa using z)] at hd; cases hd
      refine ⟨[.fr (.int m), .fr (.int L), a2, a3, .fr d, .fr (.int ((N / m ^ (j + 1) : Nat) : Int)), .fr (wD (digW m (j + 1) N))], fun k => ?_, _, rfl⟩
      have e1 : (((N / m ^ j : Nat) : Int) % (m : Int)) = ((N / m ^ j % m : Nat) : Int) := rfl
      have e2 : (((N / m ^ j : Nat) : Int) / (m : Int)) = ((N / m ^ (j + 1) : Nat) : Int) := by
        rw [Nat.pow_succ, ← Nat.div_div_eq_div_mul]
        rfl
      have e3 : D.tup (D.int ((N / m ^ j % m : Nat) : Int) :: (digW m j N).map fun (i : Nat) => D.int i) = wD (digW m (j + 1) N) := by
        rw [digW_front]
        rfl
      have hm' : (0 : Int) < m := by omega
      have hm'' : absLe (m : Int) 1073741823 = true := absLe_of.mpr (show m ≤ 1073741823 by omega)
      have hl := digW_len m j N
      have a1 : ∀ k, modD (.int ((N / m ^ j : Nat) : Int)) (.int m) k = some (.int ((N / m ^ j % m : Nat) : Int), k) := fun k => by
        show (if (0 : Int) < m then (pure (.int (((N / m ^ j : Nat) : Int) % (m : Int))) : M D) else no) k = _
        rw [if_pos hm', e1]
        rfl
      have a2' : ∀ k, fdvD (.int ((N / m ^ j : Nat) : Int)) (.int m) k = some (.int ((N / m ^ (j + 1) : Nat) : Int), k) := fun k => by
        show (if (0 : Int) < m ∧ absLe (m : Int) 1073741823 = true then (pure (.int (((N / m ^ j : Nat) : Int) / (m : Int))) : M D) else no) k = _
        rw [if_pos ⟨hm', hm''⟩, e2]
        rfl
      have a3' : ∀ k, addD (.tup [.int ((N / m ^ j % m : Nat) : Int)]) (wD (digW m j N)) k = some (wD (digW m (j + 1) N), k) := fun k => by
        show (if ([D.int ((N / m ^ j % m : Nat) : Int)] : List D).length + ((digW m j N).map fun (i : Nat) => D.int i).length ≤ 16777216 then (pure (.tup ([D.int ((N / m ^ j % m : Nat) : Int)] ++ (digW m j N).map fun (i : Nat) => D.int i)) : M D) else no) k = _
        rw [if_pos (by rw [List.length_map, hl]; simp; omega)]
        show some (D.tup (D.int ((N / m ^ j % m : Nat) : Int) :: (digW m j N).map fun (i : Nat) => D.int i), k) = _
        rw [e3]
      show exs C lwIn [.fr (.int m), .fr (.int L), a2, a3, .fr d, .fr (.int ((N / m ^ j : Nat) : Int)), .fr (wD (digW m j N))] k = _
      unfold lwIn
      simp only [exs, ex, ev, evs, kb, kp, getV, List.getElem?_cons_succ, List.getElem?_cons_zero, Option.bind_some, a1, a2', a3', List.set_cons_succ, List.set_cons_zero])
  obtain ⟨a4', rfl⟩ := h2
  have e : 0 + ((List.range L).map fun (i : Nat) => D.int i).length = L := by simp
  rw [e] at h1
  exact ⟨a4', _, h1⟩
theorem lw_mul (C : Cs) (hm6 : m ≤ 6) {L : Nat} (hL : L ≤ 4) (a2 a4 a5 a6 : Sl) : ∃ a4', Gv (forM' (fun d st => exs C lwMul (st.set 4 (.fr d))) ((List.range L).map fun (i : Nat) => .int i) [.fr (.int m), .fr (.int L), a2, .fr (.int 1), a4, a5, a6])
    ([.fr (.int m), .fr (.int L), a2, .fr (.int ((m ^ L : Nat) : Int)), a4', a5, a6], .nx) := by
  obtain ⟨st', h1, h2⟩ := for_inv (body := fun d st => exs C lwMul (st.set 4 (.fr d))) (fun t st => ∃ a4', st = [.fr (.int m), .fr (.int L), a2, .fr (.int ((m ^ t : Nat) : Int)), a4', a5, a6])
    ((List.range L).map fun (i : Nat) => .int i) 0 [.fr (.int m), .fr (.int L), a2, .fr (.int 1), a4, a5, a6] ⟨a4, by simp⟩ (fun j d st hd hI => by
      obtain ⟨a4', rfl⟩ := hI
      rw [Nat.zero_add]
      refine ⟨[.fr (.int m), .fr (.int L), a2, .fr (.int ((m ^ (j + 1) : Nat) : Int)), .fr d, a5, a6], fun k => ?_, _, rfl⟩
      have a1 : ∀ k, mulD (.int ((m ^ j : Nat) : Int)) (.int m) k = some (.int ((m ^ (j + 1) : Nat) : Int), k) := fun k => by
        have hz : (absLe ((m ^ j : Nat) : Int) 18446744073709551615 || absLe (m : Int) 18446744073709551615) = true := Bool.or_eq_true_iff.mpr (.inr (absLe_of.mpr (show m ≤ 18446744073709551615 by omega)))
        rw [mulD, if_pos hz, Nat.pow_succ, Int.natCast_mul]
        rfl
      show exs C lwMul [.fr (.int m), .fr (.int L), a2, .fr (.int ((m ^ j : Nat) : Int)), .fr d, a5, a6] k = _
      unfold lwMul
      simp only [exs, ex, ev, evs, kb, kp, getV, List.getElem?_cons_succ, List.getElem?_cons_zero, Option.bind_some, a1, List.set_cons_succ, List.set_cons_zero])
  obtain ⟨a4', rfl⟩ := h2
  have e : 0 + ((List.range L).map fun (i : Nat) => D.int i).length = L := by simp
  rw [e] at h1
  exact ⟨a4', h1⟩
theorem lw_out (C : Cs) (hm : 0 < m) (hm6 : m ≤ 6) {L : Nat} (hL : L ≤ 4) (a4 a5 a6 : Sl) : ∃ a4' a5' a6', Gv (forM' (fun d st => exs C lwOut (st.set 5 (.fr d))) ((List.range (m ^ L)).map fun (i : Nat) => .int i) [.fr (.int m), .fr (.int L), .ow (.lst []), .fr (.int ((m ^ L : Nat) : Int)), a4, a5, a6])
    ([.fr (.int m), .fr (.int L), .ow (.lst ((wordsN m L).map wD)), .fr (.int ((m ^ L : Nat) : Int)), a4', a5', a6'], .nx) := by
  have hp := pow_small hm6 hL
  obtain ⟨st', h1, h2⟩ := for_inv (body := fun d st => exs C lwOut (st.set 5 (.fr d))) (fun t st => ∃ a4' a5' a6', st = [.fr (.int m), .fr (.int L), .ow (.lst (((List.range t).map (digW m L)).map wD)), .fr (.int ((m ^ L : Nat) : Int)), a4', a5', a6'])
    ((List.range (m ^ L)).map fun (i : Nat) => .int i) 0 [.fr (.int m), .fr (.int L), .ow (.lst []), .fr (.int ((m ^ L : Nat) : Int)), a4, a5, a6] ⟨a4, a5, a6, rfl⟩ (fun j d st hd hI => by
      obtain ⟨a4', a5', a6', rfl⟩ := hI
      rw [Nat.zero_add]
      have hj : j < m ^ L := by
        rcases Nat.lt_or_ge j (m ^ L) with z | z
        · exact z
        · rw [List.getElem?_eq_none (by simpa using z)] at hd; cases hd
      have hd' : d = .int (j : Nat) := by
        rw [List.getElem?_map, List.getElem?_range hj] at hd
        cases hd
        rfl
      subst hd'
      obtain ⟨b4, b5, hin⟩ := lw_in C hm hm6 hL j (.ow (.lst (((List.range j).map (digW m L)).map wD))) (.fr (.int ((m ^ L : Nat) : Int))) a4'
      refine ⟨[.fr (.int m), .fr (.int L), .ow (.lst (((List.range (j + 1)).map (digW m L)).map wD)), .fr (.int ((m ^ L : Nat) : Int)), b4, b5, .fr (wD (digW m L j))], fun k => ?_, _, _, _, rfl⟩
      have a1 : ∀ k, srcD .r1 (.int (L : Int)) .non .non k = some ((List.range L).map fun (i : Nat) => D.int i, k) := fun k => by
        show (if smallI (L : Int) = true then (pure (rangeL 0 (L : Int).toNat 1) : M (List D)) else no) k = _
        rw [if_pos (smallI_nat (by omega))]
        show some (rangeL 0 L 1, k) = _
        rw [rangeL_eq]
      have a2' : ∀ k, appD (.lst (((List.range j).map (digW m L)).map wD)) (wD (digW m L j)) k = some (.lst (((List.range (j + 1)).map (digW m L)).map wD), k) := fun k => by
        show (if (((List.range j).map (digW m L)).map wD).length < 16777216 then (pure (.lst (((List.range j).map (digW m L)).map wD ++ [wD (digW m L j)])) : M D) else no) k = _
        rw [if_pos (by simp; omega), List.range_succ, List.map_append, List.map_append]
        rfl
      show exs C lwOut [.fr (.int m), .fr (.int L), .ow (.lst (((List.range j).map (digW m L)).map wD)), .fr (.int ((m ^ L : Nat) : Int)), a4', .fr (.int (j : Nat)), a6'] k = _
      unfold lwOut
      simp only [exs, ex, ev, evs, kb, kp, getV, getO, List.getElem?_cons_succ, List.getElem?_cons_zero, Option.bind_some, a1, List.set_cons_succ, List.set_cons_zero, bt1]
      rw [hin k]
      simp only [exs, ex, ev, evs, kb, kp, getV, getO, List.getElem?_cons_succ, List.getElem?_cons_zero, Option.bind_some, a2', List.set_cons_succ, List.set_cons_zero, bt1])
  obtain ⟨a4', a5', a6', rfl⟩ := h2
  have e : 0 + ((List.range (m ^ L)).map fun (i : Nat) => D.int i).length = m ^ L := by simp
  rw [e, ← wordsN_dig hm] at h1
  exact ⟨a4', a5', a6', h1⟩
theorem call_lwords (hm : 0 < m) (hm6 : m ≤ 6) {L : Nat} (hL : L ≤ 4) : Gv ((calls PL (n + 1)).cl 61 [.int m, .int L]) (.lst ((wordsN m L).map wD)) := fun k => by
  rw [cl_eq (PL_fn (i := 5) (f := q_law_words) rfl), q_words_eq, runF_py (args := [.int m, .int L]) (np := 2) rfl]
  have hp := pow_small hm6 hL
  obtain ⟨b4, h1⟩ := lw_mul (calls PL n) hm6 hL (.ow (.lst [])) .un .un .un
  obtain ⟨c4, c5, c6, h2⟩ := lw_out (calls PL n) hm hm6 hL b4 .un .un
  have a1 : ∀ k, srcD .r1 (.int (L : Int)) .non .non k = some ((List.range L).map fun (i : Nat) => D.int i, k) := fun k => by
    show (if smallI (L : Int) = true then (pure (rangeL 0 (L : Int).toNat 1) : M (List D)) else no) k = _
    rw [if_pos (smallI_nat (by omega))]
    show some (rangeL 0 L 1, k) = _
    rw [rangeL_eq]
  have a2 : ∀ k, srcD .r1 (.int ((m ^ L : Nat) : Int)) .non .non k = some ((List.range (m ^ L)).map fun (i : Nat) => D.int i, k) := fun k => by
    show (if smallI ((m ^ L : Nat) : Int) = true then (pure (rangeL 0 ((m ^ L : Nat) : Int).toNat 1) : M (List D)) else no) k = _
    rw [if_pos (smallI_nat (by omega))]
    show some (rangeL 0 (m ^ L) 1, k) = _
    rw [rangeL_eq]
  unfold runB
  simp only [exs, ex, ev, evs, kb, kp, getV, getO, List.map_cons, List.map_nil, List.length_cons, List.length_nil, List.replicate, List.cons_append, List.nil_append, List.getElem?_cons_succ, List.getElem?_cons_zero, Option.bind_some, a1, List.set_cons_succ, List.set_cons_zero, bt1]
  rw [h1 k]
  simp only [exs, ex, ev, evs, kb, kp, getV, getO, List.getElem?_cons_succ, List.getElem?_cons_zero, Option.bind_some, a2, List.set_cons_succ, List.set_cons_zero, bt1]
  rw [h2 k]
  rfl
/-! ### the same twice -/
/-- ints, truths and rows of such -/
def plain : Nat → D → Bool
  | _, .int _ => true
  | _, .bl _ => true
  | t + 1, .tup l => l.all (plain t)
  | _, _ => false
theorem plain_okd : ∀ (t : Nat) (d : D), plain t d = true → okd t d = true
  | 0, .int _, _ => rfl
  | 0, .bl _, _ => rfl
  | t + 1, .int _, _ => rfl
  | t + 1, .bl _, _ => rfl
  | t + 1, .tup l, h => by
    show okds t l = true
    rw [okds_all]
    intro d hd
    exact plain_okd t d (List.all_eq_true.mp h d hd)
  | 0, .tup _, h => by cases h
  | 0, .non, h => by cases h
  | t + 1, .non, h => by cases h
  | 0, .str _, h => by cases h
  | t + 1, .str _, h => by cases h
  | 0, .lst _, h => by cases h
  | t + 1, .lst _, h => by cases h
  | 0, .dic _ _, h => by cases h
  | t + 1, .dic _ _, h => by cases h
  | 0, .town, h => by cases h
  | t + 1, .town, h => by cases h
  | 0, .scr _, h => by cases h
  | t + 1, .scr _, h => by cases h
theorem zip_self : ∀ l : List D, List.zipWith (fun a b => D.tup [a, b]) l l = l.map fun d => D.tup [d, d]
  | [] => rfl
  | d :: l => by
    show _ :: List.zipWith _ l l = _
    rw [zip_self l]
    rfl
theorem call_same : ∀ (t : Nat) (d : D), plain t d = true → Gv ((calls PL (n + t + 1)).cl 56 [d, d]) (.bl true) := by
  intro t
  induction t with
  | zero =>
    intro d h k
    rw [cl_eq (PL_fn (i := 0) (f := q_law_same) rfl)]
    cases d with
    | int i => simp [runF, q_law_same, runB, exs, ex, ev, evs, evAnd, kb, kp, kif, getV, isnD, tru, isTy, cmpM, cmpD, eqD, okd, deep, eqv, -bind_pure_comp, -map_pure]
    | bl b => simp [runF, q_law_same, runB, exs, ex, ev, evs, evAnd, kb, kp, kif, getV, isnD, tru, isTy, cmpM, cmpD, eqD, okd, deep, eqv, -bind_pure_comp, -map_pure]
    | _ => cases h
  | succ t ih =>
    intro d h k
    rw [cl_eq (PL_fn (i := 0) (f := q_law_same) rfl)]
    cases d with
    | int i => simp [runF, q_law_same, runB, exs, ex, ev, evs, evAnd, kb, kp, kif, getV, isnD, tru, isTy, cmpM, cmpD, eqD, okd, deep, eqv, -bind_pure_comp, -map_pure]
    | bl b => simp [runF, q_law_same, runB, exs, ex, ev, evs, evAnd, kb, kp, kif, getV, isnD, tru, isTy, cmpM, cmpD, eqD, okd, deep, eqv, -bind_pure_comp, -map_pure]
    | tup l =>
      simp [runF, q_law_same, runB, exs, ex, ev, evs, evAnd, evOr, kb, kp, kif, getV, isnD, tru, isTy, cmpM, cmpD, neD, f1D, okd, deep, eqv, srcD, zip_self, -bind_pure_comp, -map_pure]
      rw [lcM_eq (o := fun _ => some (.bl true))]
      · rw [fmap_some]
        have e : boolsL (l.map fun _ => D.bl true) = boolsL (l.map fun a => D.bl ((fun _ => true) a)) := rfl
        simp [f1D, kb, kp, -bind_pure_comp, -map_pure]
        rw [e, boolsL_eq]
        simp [kb, kp]
      · intro d hd k
        simp [bindTg, kb, kp, kif, tru, G.wipe, -bind_pure_comp, -map_pure]
        rw [show n + (t + 1) = n + t + 1 by omega, ih d (List.all_eq_true.mp h d hd) k]
        rfl
    | _ => cases h
/-! ### draws -/
theorem mul_r {a b : Int} (h : absLe b 18446744073709551615 = true) (k : Nat) : mulD (.int a) (.int b) k = some (.int (a * b), k) := by
  rw [mulD, if_pos (Bool.or_eq_true_iff.mpr (.inr h))]
  rfl
theorem mul_l {a b : Int} (h : absLe a 18446744073709551615 = true) (k : Nat) : mulD (.int a) (.int b) k = some (.int (a * b), k) := by
  rw [mulD, if_pos (Bool.or_eq_true_iff.mpr (.inl h))]
  rfl
theorem mod_p {a b : Int} (h : 0 < b) (k : Nat) : modD (.int a) (.int b) k = some (.int (a % b), k) := by
  rw [modD, if_pos h]
  rfl
theorem fdv_p {a b : Int} (h : 0 < b ∧ absLe b 1073741823 = true) (k : Nat) : fdvD (.int a) (.int b) k = some (.int (a / b), k) := by
  rw [fdvD, if_pos h]
  rfl
theorem add_i {a b : Int} (k : Nat) : addD (.int a) (.int b) k = some (.int (a + b), k) := rfl
theorem tick_t {k : Nat} (h : k < 16777216) : tickM .town k = some ((), k + 1) := by
  show (if k < 16777216 then some ((), k + 1) else none) = _
  rw [if_pos h]
theorem sq_ok (x : Int) : absLe (x % 4294967291) 18446744073709551615 = true := by
  have h1 : 0 ≤ x % 4294967291 := Int.emod_nonneg _ (by decide)
  have h2 : x % 4294967291 < 4294967291 := Int.emod_lt_of_pos _ (by decide)
  exact absLe_of.mpr (by omega)
def dTail : List S := [.set 5 (.mod (.add (.v 4) (.mul (.c (.int 104729)) (.v 3))) (.c (.int 4294967291))),
    .set 5 (.mod (.mul (.mod (.mul (.v 5) (.v 5)) (.c (.int 4294967279))) (.c (.int 48271))) (.c (.int 4294967291))),
    .ret (.mod (.fdv (.v 5) (.c (.int 64))) (.v 2))]
theorem q_draw_eq : q_law_draw = .py 3 6 (.tick 1 :: .set 3 (.b1 .len (.v 1)) :: .set 4 (.c (.int 0)) :: .ite (.v 0) [.set 4 (.ix (.v 0) (.mod (.v 3) (.b1 .len (.v 0))))] [] :: dTail) := rfl
theorem draw_tail (C : Cs) (ns : List Int) {many : Int} (hm : 0 < many) (c kk : Int) (k : Nat) : ∃ (r : Int) (st' : St), 0 ≤ r ∧ r < many ∧ exs C dTail [.fr (.scr ns), .fr .town, .fr (.int many), .fr (.int kk), .fr (.int c), .un] k = some ((st', .rt (.int r)), k) := by
  have b1 : ∀ x : Int, ∀ k, modD (.int x) (.int 4294967291) k = some (.int (x % 4294967291), k) := fun x k => mod_p (by decide) k
  have b2 : ∀ x : Int, ∀ k, modD (.int x) (.int 4294967279) k = some (.int (x % 4294967279), k) := fun x k => mod_p (by decide) k
  have b3 : ∀ x : Int, ∀ k, mulD (.int 104729) (.int x) k = some (.int (104729 * x), k) := fun x k => mul_l (absLe_of.mpr (by decide)) k
  have b4 : ∀ x : Int, ∀ k, mulD (.int x) (.int 48271) k = some (.int (x * 48271), k) := fun x k => mul_r (absLe_of.mpr (by decide)) k
  have b5 : ∀ x : Int, ∀ k, mulD (.int (x % 4294967291)) (.int (x % 4294967291)) k = some (.int (x % 4294967291 * (x % 4294967291)), k) := fun x k => mul_l (sq_ok x) k
  have b6 : ∀ x : Int, ∀ k, fdvD (.int x) (.int 64) k = some (.int (x / 64), k) := fun x k => fdv_p ⟨by decide, absLe_of.mpr (by decide)⟩ k
  have b7 : ∀ x : Int, ∀ k, modD (.int x) (.int many) k = some (.int (x % many), k) := fun x k => mod_p hm k
  refine ⟨(((c + 104729 * kk) % 4294967291 * ((c + 104729 * kk) % 4294967291) % 4294967279 * 48271) % 4294967291) / 64 % many,
    [.fr (.scr ns), .fr .town, .fr (.int many), .fr (.int kk), .fr (.int c), .fr (.int (((c + 104729 * kk) % 4294967291 * ((c + 104729 * kk) % 4294967291) % 4294967279 * 48271) % 4294967291))], Int.emod_nonneg _ (by omega), Int.emod_lt_of_pos _ hm, ?_⟩
  unfold dTail
  simp only [exs, ex, ev, evs, kb, kp, getV, List.getElem?_cons_succ, List.getElem?_cons_zero, Option.bind_some, add_i, b1, b2, b3, b4, b5, b6, b7, List.set_cons_succ, List.set_cons_zero]
theorem atI_mod {α : Type} (l : List α) (h : l ≠ []) (x : Int) : ∃ a, atI l (x % (l.length : Int)) = some a := by
  have hp : 0 < l.length := List.length_pos_iff.mpr h
  have h1 : 0 ≤ x % (l.length : Int) := Int.emod_nonneg _ (by omega)
  have h2 : x % (l.length : Int) < l.length := Int.emod_lt_of_pos _ (by omega)
  unfold atI
  rw [if_pos h1]
  exact ⟨_, List.getElem?_eq_getElem (by omega)⟩
/-- the draws: any number below what is asked -/
theorem call_draw (ns : List Int) {many : Int} (hm : 0 < many) {k : Nat} (hk : k < 16777215) : ∃ r : Int, 0 ≤ r ∧ r < many ∧ (calls PL (n + 1)).cl 57 [.scr ns, .town, .int many] k = some (.int r, k + 1) := by
  rw [cl_eq (PL_fn (i := 1) (f := q_law_draw) rfl), q_draw_eq, runF_py (args := [.scr ns, .town, .int many]) (np := 3) rfl]
  have t1 := tick_t (k := k) (by omega)
  by_cases hn : ns = []
  · subst hn
    obtain ⟨r, st', r1, r2, r3⟩ := draw_tail (calls PL n) [] hm 0 ((k + 1 : Nat) : Int) (k + 1)
    refine ⟨r, r1, r2, ?_⟩
    unfold runB
    have hl : ∀ j, f1D .len .town j = some (.int (j : Nat), j) := fun j => rfl
    have ht : ∀ j, tru (.scr []) j = some (false, j) := fun j => rfl
    simp only [exs, ex, ev, evs, kb, kp, getV, List.map_cons, List.map_nil, List.length_cons, List.length_nil, List.replicate, List.cons_append, List.nil_append, List.getElem?_cons_succ, List.getElem?_cons_zero, Option.bind_some, List.set_cons_succ, List.set_cons_zero, t1, hl, ht, Bool.false_eq_true, if_false]
    rw [r3]
    rfl
  · obtain ⟨c, hc⟩ := atI_mod ns hn ((k + 1 : Nat) : Int)
    obtain ⟨r, st', r1, r2, r3⟩ := draw_tail (calls PL n) ns hm c ((k + 1 : Nat) : Int) (k + 1)
    refine ⟨r, r1, r2, ?_⟩
    unfold runB
    have hp : 0 < ns.length := List.length_pos_iff.mpr hn
    have hl : ∀ j, f1D .len .town j = some (.int (j : Nat), j) := fun j => rfl
    have hl2 : ∀ j, f1D .len (.scr ns) j = some (.int ns.length, j) := fun j => rfl
    have ht : ∀ j, tru (.scr ns) j = some (true, j) := fun j => by
      cases ns with
      | nil => exact absurd rfl hn
      | cons a l => rfl
    have hmd : ∀ j, modD (.int ((k + 1 : Nat) : Int)) (.int ns.length) j = some (.int (((k + 1 : Nat) : Int) % (ns.length : Int)), j) := fun j => mod_p (by omega) j
    have hix : ∀ j, ixD (.scr ns) (.int (((k + 1 : Nat) : Int) % (ns.length : Int))) j = some (.int c, j) := fun j => by
      show (opt ((atI ns _).map .int) : M D) j = _
      rw [hc]
      rfl
    simp only [exs, ex, ev, evs, kb, kp, getV, List.map_cons, List.map_nil, List.length_cons, List.length_nil, List.replicate, List.cons_append, List.nil_append, List.getElem?_cons_succ, List.getElem?_cons_zero, Option.bind_some, List.set_cons_succ, List.set_cons_zero, t1, hl, hl2, ht, if_true, hmd, hix]
    rw [r3]
    rfl
end L_k04

namespace L_k04
open G
variable {n m : Nat} {ps : List (Nat × Nat)}
theorem call_pick (ns : List Int) (l : List D) (hl : l ≠ []) {k : Nat} (hk : k < 16777215) : ∃ d ∈ l, (calls PL (n + 2)).cl 58 [.scr ns, .town, .lst l] k = some (d, k + 1) := by
  have hp : 0 < l.length := List.length_pos_iff.mpr hl
  obtain ⟨r, r1, r2, r3⟩ := call_draw (n := n) ns (many := (l.length : Int)) (by omega) hk
  have hr : r.toNat < l.length := by omega
  refine ⟨l[r.toNat], List.getElem_mem hr, ?_⟩
  rw [cl_eq (PL_fn (i := 2) (f := q_law_pick) rfl), show q_law_pick = .py 3 3 [.ret (.ix (.v 2) (.call 57 [.v 0, .v 1, .b1 .len (.v 2)]))] from rfl, runF_py (args := [.scr ns, .town, .lst l]) (np := 3) rfl]
  have h2 : ∀ j, f1D .len (.lst l) j = some (.int l.length, j) := fun j => rfl
  have h3 : ∀ j, ixD (.lst l) (.int r) j = some (l[r.toNat], j) := fun j => by
    show (opt (atI l r) : M D) j = _
    unfold atI
    rw [if_pos r1, List.getElem?_eq_getElem hr]
    rfl
  unfold runB
  simp only [exs, ex, ev, evs, kb, kp, getV, List.map_cons, List.map_nil, List.length_cons, List.length_nil, List.replicate, List.cons_append, List.nil_append, List.getElem?_cons_succ, List.getElem?_cons_zero, Option.bind_some, h2, r3, h3]
/-- a loop that may tick -/
theorem for_invK {body : D → St → M (St × Fl)} (I : Nat → St → Nat → Prop) : ∀ (l : List D) (i : Nat) (st : St) (k : Nat), I i st k → (∀ j d st k, l[j]? = some d → I (i + j) st k → ∃ st' k', body d st k = some ((st', .nx), k') ∧ I (i + j + 1) st' k') → ∃ st' k', forM' body l st k = some ((st', .nx), k') ∧ I (i + l.length) st' k'
  | [], i, st, k, h0, _ => ⟨st, k, rfl, h0⟩
  | x :: xs, i, st, k, h0, hs => by
    obtain ⟨st1, k1, h1, h2⟩ := hs 0 x st k rfl h0
    obtain ⟨st2, k2, h3, h4⟩ := for_invK I xs (i + 1) st1 k1 h2 (fun j d st k hd hI => by
      obtain ⟨st', k', a, b⟩ := hs (j + 1) d st k (by simpa using hd) (by rw [show i + (j + 1) = i + 1 + j by omega]; exact hI)
      exact ⟨st', k', a, by rw [show i + 1 + j + 1 = i + (j + 1) + 1 by omega]; exact b⟩)
    refine ⟨st2, k2, ?_, by rw [List.length_cons, show i + (xs.length + 1) = i + 1 + xs.length by omega]; exact h4⟩
    unfold forM'
    rw [kb, h1]
    exact h3
/-! ### tables -/
def tIn : List S := [.ite (.cmp .le (.call 57 [.v 0, .v 1, .c (.int 4)]) (.v 4)) [.set 5 (.add (.v 5) (.tup [.tup [.v 6, .v 7]]))] []]
def tOut : List S := [.for (.one 7) .r2 (.add (.v 6) (.c (.int 1))) (.v 3) (.c .non) tIn]
/-- rising, below m, and not too many -/
structure Up (m : Nat) (ps : List (Nat × Nat)) : Prop where
  lt : ∀ p ∈ ps, p.1 < p.2
  top : ∀ p ∈ ps, p.2 < m
theorem t_in (ns : List Int) (dn : Int) (a b8 : Nat) (hm6 : m ≤ 6) (a8 : Sl) (ps : List (Nat × Nat)) (hu : Up m ps) (hz : ps.length ≤ 100) (a7 : Sl) (k : Nat) (hk : k + 10 < 16777215) :
    ∃ st' k', forM' (fun d st => exs (calls PL (n + 1)) tIn (st.set 7 (.fr d))) (rangeL ((a : Int) + 1) (m - (a + 1)) 1) [.fr (.scr ns), .fr .town, .fr (.int 6), .fr (.int m), .fr (.int dn), .fr (.tup (ps.map pD)), .fr (.int a), a7, a8] k = some ((st', .nx), k') ∧
      k' ≤ k + (m - (a + 1)) ∧ ∃ ps' a7', Up m ps' ∧ ps'.length ≤ ps.length + (m - (a + 1)) ∧ st' = [.fr (.scr ns), .fr .town, .fr (.int 6), .fr (.int m), .fr (.int dn), .fr (.tup (ps'.map pD)), .fr (.int a), a7', a8] := by
  obtain ⟨st', k', h1, h2, h3⟩ := for_invK (body := fun d st => exs (calls PL (n + 1)) tIn (st.set 7 (.fr d)))
    (fun i st kk => kk ≤ k + i ∧ ∃ ps' a7', Up m ps' ∧ ps'.length ≤ ps.length + i ∧ st = [.fr (.scr ns), .fr .town, .fr (.int 6), .fr (.int m), .fr (.int dn), .fr (.tup (ps'.map pD)), .fr (.int a), a7', a8])
    (rangeL ((a : Int) + 1) (m - (a + 1)) 1) 0 [.fr (.scr ns), .fr .town, .fr (.int 6), .fr (.int m), .fr (.int dn), .fr (.tup (ps.map pD)), .fr (.int a), a7, a8] k ⟨by omega, ps, a7, hu, by omega, rfl⟩ (fun j d st kk hd hI => by
      obtain ⟨hkk, ps', a7', hu', hl', rfl⟩ := hI
      have hj : j < m - (a + 1) := by
        rcases Nat.lt_or_ge j (m - (a + 1)) with z | z
        · exact z
        · rw [List.getElem?_eq_none (by simpa [rangeL] using z)] at hd; cases hd
      have hd' : d = .int ((a + 1 + j : Nat) : Int) := by
        unfold rangeL at hd
        rw [List.getElem?_map, List.getElem?_range hj] at hd
        cases hd
        show D.int ((a : Int) + 1 + (j : Int) * 1) = D.int ((a + 1 + j : Nat) : Int)
        congr 1
        omega
      subst hd'
      obtain ⟨r, r1, r2, r3⟩ := call_draw (n := n) ns (many := 4) (by decide) (k := kk) (by omega)
      show ∃ st' k', exs (calls PL (n + 1)) tIn [.fr (.scr ns), .fr .town, .fr (.int 6), .fr (.int m), .fr (.int dn), .fr (.tup (ps'.map pD)), .fr (.int a), .fr (.int ((a + 1 + j : Nat) : Int)), a8] kk = some ((st', .nx), k') ∧ _
      have hc : ∀ q, cmpM .le (.int r) (.int dn) q = some (.bl (decide (r ≤ dn)), q) := fun q => rfl
      have ht : ∀ q, tru (.bl (decide (r ≤ dn))) q = some (decide (r ≤ dn), q) := fun q => rfl
      have ha : ∀ q, addD (.tup (ps'.map pD)) (.tup [.tup [.int (a : Int), .int ((a + 1 + j : Nat) : Int)]]) q = some (.tup ((ps' ++ [(a, a + 1 + j)]).map pD), q) := fun q => by
        show (if (ps'.map pD).length + 1 ≤ 16777216 then (pure (.tup (ps'.map pD ++ [.tup [.int (a : Int), .int ((a + 1 + j : Nat) : Int)]])) : M D) else no) q = _
        rw [if_pos (by rw [List.length_map]; omega), List.map_append]
        rfl
      unfold tIn
      by_cases hq : r ≤ dn
      · refine ⟨[.fr (.scr ns), .fr .town, .fr (.int 6), .fr (.int m), .fr (.int dn), .fr (.tup ((ps' ++ [(a, a + 1 + j)]).map pD)), .fr (.int a), .fr (.int ((a + 1 + j : Nat) : Int)), a8], kk + 1, ?_, by omega, _, _, ⟨fun p hp => ?_, fun p hp => ?_⟩, ?_, rfl⟩
        · simp only [exs, ex, ev, evs, kb, kp, getV, List.getElem?_cons_succ, List.getElem?_cons_zero, Option.bind_some, List.set_cons_succ, List.set_cons_zero, r3, hc, tru_bl, decide_eq_true hq, if_true, ha]
        · rcases List.mem_append.mp hp with z | z
          · exact hu'.lt p z
          · rw [List.mem_singleton.mp z]; show a < a + 1 + j; omega
        · rcases List.mem_append.mp hp with z | z
          · exact hu'.top p z
          · rw [List.mem_singleton.mp z]; show a + 1 + j < m; omega
        · rw [List.length_append]; simp; omega
      · refine ⟨[.fr (.scr ns), .fr .town, .fr (.int 6), .fr (.int m), .fr (.int dn), .fr (.tup (ps'.map pD)), .fr (.int a), .fr (.int ((a + 1 + j : Nat) : Int)), a8], kk + 1, ?_, by omega, _, _, hu', by omega, rfl⟩
        simp only [exs, ex, ev, evs, kb, kp, getV, List.getElem?_cons_succ, List.getElem?_cons_zero, Option.bind_some, List.set_cons_succ, List.set_cons_zero, r3, hc, tru_bl, decide_eq_false hq, Bool.false_eq_true, if_false])
  have e : 0 + (rangeL ((a : Int) + 1) (m - (a + 1)) 1).length = m - (a + 1) := by simp [rangeL]
  rw [e] at h2 h3
  exact ⟨st', k', h1, h2, h3⟩
theorem t_out (ns : List Int) (dn : Int) (hm6 : m ≤ 6) (a8 a6 a7 : Sl) (k : Nat) (hk : k + 100 < 16777215) :
    ∃ st' k', forM' (fun d st => exs (calls PL (n + 1)) tOut (st.set 6 (.fr d))) ((List.range m).map fun (i : Nat) => .int i) [.fr (.scr ns), .fr .town, .fr (.int 6), .fr (.int m), .fr (.int dn), .fr (.tup []), a6, a7, a8] k = some ((st', .nx), k') ∧
      k' ≤ k + 36 ∧ ∃ ps' a6' a7', Up m ps' ∧ ps'.length ≤ 36 ∧ st' = [.fr (.scr ns), .fr .town, .fr (.int 6), .fr (.int m), .fr (.int dn), .fr (.tup (ps'.map pD)), a6', a7', a8] := by
  obtain ⟨st', k', h1, h2, ps', a6', a7', h3, h4, h5⟩ := for_invK (body := fun d st => exs (calls PL (n + 1)) tOut (st.set 6 (.fr d)))
    (fun i st kk => kk ≤ k + 6 * i ∧ ∃ ps' a6' a7', Up m ps' ∧ ps'.length ≤ 6 * i ∧ st = [.fr (.scr ns), .fr .town, .fr (.int 6), .fr (.int m), .fr (.int dn), .fr (.tup (ps'.map pD)), a6', a7', a8])
    ((List.range m).map fun (i : Nat) => .int i) 0 [.fr (.scr ns), .fr .town, .fr (.int 6), .fr (.int m), .fr (.int dn), .fr (.tup []), a6, a7, a8] k ⟨by omega, [], a6, a7, ⟨by simp, by simp⟩, by simp, rfl⟩ (fun j d st kk hd hI => by
      obtain ⟨hkk, ps', a6', a7', hu', hl', rfl⟩ := hI
      rw [Nat.zero_add] at hkk hl' ⊢
      have hj : j < m := by
        rcases Nat.lt_or_ge j m with z | z
        · exact z
        · rw [List.getElem?_eq_none (by simpa using z)] at hd; cases hd
      have hd' : d = .int (j : Nat) := by
        rw [List.getElem?_map, List.getElem?_range hj] at hd
        cases hd
        rfl
      subst hd'
      obtain ⟨st', k', g1, g2, ps2, a72, g3, g4, rfl⟩ := t_in (n := n) ns dn j 0 hm6 a8 ps' hu' (by omega) a7' kk (by omega)
      refine ⟨_, k', ?_, by omega, ps2, .fr (.int j), a72, g3, by omega, rfl⟩
      have hs : ∀ q, srcD .r2 (.int ((j : Int) + 1)) (.int (m : Int)) .non q = some (rangeL ((j : Int) + 1) (m - (j + 1)) 1, q) := fun q => by
        have e1 : smallI ((j : Int) + 1) = true := absLe_of.mpr (by omega)
        have e2 : smallI (m : Int) = true := smallI_nat (by omega)
        have e3 : ((m : Int) - ((j : Int) + 1)).toNat = m - (j + 1) := by omega
        show (if (smallI ((j : Int) + 1) && smallI (m : Int)) = true then (pure (rangeL ((j : Int) + 1) ((m : Int) - ((j : Int) + 1)).toNat 1) : M (List D)) else no) q = _
        rw [e1, e2, e3]
        rfl
      show exs (calls PL (n + 1)) tOut [.fr (.scr ns), .fr .town, .fr (.int 6), .fr (.int m), .fr (.int dn), .fr (.tup (ps'.map pD)), .fr (.int (j : Nat)), a7', a8] kk = _
      unfold tOut
      simp only [exs, ex, ev, evs, kb, kp, getV, List.getElem?_cons_succ, List.getElem?_cons_zero, Option.bind_some, List.set_cons_succ, List.set_cons_zero, add_i, hs, bt1]
      rw [g1]
      rfl)
  have e : 0 + ((List.range m).map fun (i : Nat) => D.int i).length = m := by simp
  rw [e] at h2 h4
  exact ⟨st', k', h1, by omega, ps', a6', a7', h3, by omega, h5⟩
end L_k04

namespace L_k04
open G
variable {n m : Nat}
def ringP (m : Nat) : List (Nat × Nat) := ((List.range (m - 1)).map fun i => (i, i + 1)) ++ [(0, m - 1)]
theorem ring_sortable : ∀ m, m ≤ 6 → sortable ((ringP m).map pD) = true
  | 0, _ => rfl
  | 1, _ => rfl
  | 2, _ => rfl
  | 3, _ => rfl
  | 4, _ => rfl
  | 5, _ => rfl
  | 6, _ => rfl
  | m + 7, h => absurd h (by omega)
theorem back_pairs : ∀ (L : List D) (l : List (Nat × Nat)), (∀ d ∈ L, ∃ p ∈ l, d = pD p) → ∃ ps' : List (Nat × Nat), L = ps'.map pD ∧ ∀ p ∈ ps', p ∈ l
  | [], _, _ => ⟨[], rfl, by simp⟩
  | d :: L, l, h => by
    obtain ⟨p, hp, rfl⟩ := h d List.mem_cons_self
    obtain ⟨ps', h1, h2⟩ := back_pairs L l fun d hd => h d (List.mem_cons_of_mem _ hd)
    refine ⟨p :: ps', by rw [h1]; rfl, fun q hq => ?_⟩
    rcases List.mem_cons.mp hq with rfl | hq
    · exact hp
    · exact h2 q hq
theorem ring_sorted {m : Nat} (hm : 2 < m) : ∃ ps' : List (Nat × Nat), sortL ((ringP m).map pD) = ps'.map pD ∧ Up m ps' := by
  obtain ⟨ps', h1, h2⟩ := back_pairs (sortL ((ringP m).map pD)) (ringP m) fun d hd => by
    have := (List.mergeSort_perm ((ringP m).map pD) leD).mem_iff.mp hd
    obtain ⟨p, hp, rfl⟩ := List.mem_map.mp this
    exact ⟨p, hp, rfl⟩
  have key : ∀ p ∈ ringP m, p.1 < p.2 ∧ p.2 < m := fun p hp => by
    unfold ringP at hp
    rcases List.mem_append.mp hp with z | z
    · obtain ⟨i, hi, rfl⟩ := List.mem_map.mp z
      have : i < m - 1 := by simpa using hi
      exact ⟨by show i < i + 1; omega, by show i + 1 < m; omega⟩
    · rw [List.mem_singleton.mp z]
      exact ⟨by show 0 < m - 1; omega, by show m - 1 < m; omega⟩
  exact ⟨ps', h1, fun p hp => (key p (h2 p hp)).1, fun p hp => (key p (h2 p hp)).2⟩
def ringE : E := .b1 .tuple (.b1 .sorted (.add (.lc (.one 8) .r1 (.sub (.v 3) (.c (.int 1))) (.c .non) (.c .non) (.c (.bl true)) (.tup [.v 8, .add (.v 8) (.c (.int 1))]) [8]) (.lst [.tup [.c (.int 0), .sub (.v 3) (.c (.int 1))]])))
theorem ring_ev (C : Cs) (hm : 2 < m) (hm6 : m ≤ 6) (a0 a1 a2 a4 a5 a6 a7 a8 : Sl) (k : Nat) : ev C ringE [a0, a1, a2, .fr (.int m), a4, a5, a6, a7, a8] k = some (.tup (sortL ((ringP m).map pD)), k) := by
  have e1 : ((m : Int) - 1) = ((m - 1 : Nat) : Int) := by omega
  have s1 : ∀ q, subD (.int m) (.int 1) q = some (.int ((m - 1 : Nat) : Int), q) := fun q => by
    show some (D.int ((m : Int) - 1), q) = _
    rw [e1]
  have hr : ∀ q, srcD .r1 (.int ((m - 1 : Nat) : Int)) .non .non q = some ((List.range (m - 1)).map fun (i : Nat) => D.int i, q) := fun q => by
    show (if smallI ((m - 1 : Nat) : Int) = true then (pure (rangeL 0 ((m - 1 : Nat) : Int).toNat 1) : M (List D)) else no) q = _
    rw [if_pos (smallI_nat (by omega))]
    show some (rangeL 0 (m - 1) 1, q) = _
    rw [rangeL_eq]
  unfold ringE
  rw [ev, kb, ev, kb, ev, kb, ev]
  simp only [ev, evs, kb, kp, getV, List.getElem?_cons_succ, List.getElem?_cons_zero, Option.bind_some, s1, hr]
  rw [lcM_eq (o := fun i => some (pD (i, i + 1)))]
  · rw [fmap_some]
    have a1 : ∀ q, addD (.lst ((List.range (m - 1)).map fun i => pD (i, i + 1))) (.lst [.tup [.int 0, .int ((m - 1 : Nat) : Int)]]) q = some (.lst ((ringP m).map pD), q) := fun q => by
      show (if ((List.range (m - 1)).map fun i => pD (i, i + 1)).length + 1 ≤ 16777216 then (pure (.lst (((List.range (m - 1)).map fun i => pD (i, i + 1)) ++ [.tup [.int 0, .int ((m - 1 : Nat) : Int)]])) : M D) else no) q = _
      rw [if_pos (by simp; omega)]
      unfold ringP
      rw [List.map_append, List.map_map]
      rfl
    have a2 : ∀ q, f1D .sorted (.lst ((ringP m).map pD)) q = some (.lst (sortL ((ringP m).map pD)), q) := fun q => by
      show (if sortable ((ringP m).map pD) = true then (pure (.lst (sortL ((ringP m).map pD))) : M D) else no) q = _
      rw [if_pos (ring_sortable m hm6)]
      rfl
    have a3 : ∀ l q, f1D .tuple (.lst l) q = some (.tup l, q) := fun l q => rfl
    simp only [Option.bind_some, a1, a2, a3]
  · intro i hi q
    rfl
end L_k04

namespace L_k04
open G
variable {n m : Nat}
def tHead : List S := [.set 3 (.add (.c (.int 1)) (.call 57 [.v 0, .v 1, .v 2])), .set 4 (.call 57 [.v 0, .v 1, .c (.int 4)]), .set 5 (.tup [])]
def tRing : S := .ite (.and [.cmp .gt (.v 3) (.c (.int 2)), .cmp .eq (.call 57 [.v 0, .v 1, .c (.int 4)]) (.c (.int 0))]) [.set 5 ringE] []
theorem q_table_eq : q_law_table = .py 3 9 [.set 3 (.add (.c (.int 1)) (.call 57 [.v 0, .v 1, .v 2])), .set 4 (.call 57 [.v 0, .v 1, .c (.int 4)]), .set 5 (.tup []), .for (.one 6) .r1 (.v 3) (.c .non) (.c .non) tOut, tRing, .ret (.tup [.v 3, .v 5])] := rfl
theorem t_ring (ns : List Int) (dn : Int) (hm6 : m ≤ 6) (ps : List (Nat × Nat)) (hu : Up m ps) (a6 a7 a8 : Sl) (k : Nat) (hk : k + 10 < 16777215) :
    ∃ k' ps', ex (calls PL (n + 1)) tRing [.fr (.scr ns), .fr .town, .fr (.int 6), .fr (.int m), .fr (.int dn), .fr (.tup (ps.map pD)), a6, a7, a8] k = some (([.fr (.scr ns), .fr .town, .fr (.int 6), .fr (.int m), .fr (.int dn), .fr (.tup (ps'.map pD)), a6, a7, a8], .nx), k') ∧ k' ≤ k + 1 ∧ Up m ps' := by
  have hg : ∀ q, cmpM .gt (.int m) (.int 2) q = some (.bl (decide ((2 : Int) < m)), q) := fun q => rfl
  by_cases h2 : 2 < m
  · have h2' : (2 : Int) < m := by omega
    obtain ⟨r, r1, r2, r3⟩ := call_draw (n := n) ns (many := 4) (by decide) (k := k) (by omega)
    have he : ∀ q, cmpM .eq (.int r) (.int 0) q = some (.bl (r == 0), q) := fun q => rfl
    by_cases hr : r = 0
    · obtain ⟨ps', p1, p2⟩ := ring_sorted h2
      refine ⟨k + 1, ps', ?_, by omega, p2⟩
      have hre := fun q => ring_ev (m := m) (calls PL (n + 1)) h2 hm6 (.fr (.scr ns)) (.fr .town) (.fr (.int 6)) (.fr (.int dn)) (.fr (.tup (ps.map pD))) a6 a7 a8 q
      have he' : ∀ q, cmpM .eq (.int r) (.int 0) q = some (.bl true, q) := fun q => by
        rw [he, hr]
        rfl
      unfold tRing
      simp only [exs, ex, ev, evs, evAnd, kb, kp, getV, List.getElem?_cons_succ, List.getElem?_cons_zero, Option.bind_some, hg, tru_bl, decide_eq_true h2', if_true, r3, he', hre, List.set_cons_succ, List.set_cons_zero, p1]
    · have hr' : (r == 0) = false := by simpa using hr
      refine ⟨k + 1, ps, ?_, by omega, hu⟩
      unfold tRing
      simp only [exs, ex, ev, evs, evAnd, kb, kp, getV, List.getElem?_cons_succ, List.getElem?_cons_zero, Option.bind_some, hg, tru_bl, decide_eq_true h2', if_true, r3, he, hr', Bool.false_eq_true, if_false]
  · have h2' : ¬ (2 : Int) < m := by omega
    refine ⟨k, ps, ?_, by omega, hu⟩
    unfold tRing
    simp only [exs, ex, ev, evs, evAnd, kb, kp, getV, List.getElem?_cons_succ, List.getElem?_cons_zero, Option.bind_some, hg, tru_bl, decide_eq_false h2', Bool.false_eq_true, if_false]
theorem call_table (ns : List Int) (k : Nat) (hk : k + 200 < 16777215) : ∃ m ps k', 0 < m ∧ m ≤ 6 ∧ Up m ps ∧ k' ≤ k + 50 ∧ (calls PL (n + 2)).cl 59 [.scr ns, .town, .int 6] k = some (tD m ps, k') := by
  obtain ⟨r, r1, r2, r3⟩ := call_draw (n := n) ns (many := 6) (by decide) (k := k) (by omega)
  obtain ⟨dn, d1, d2, d3⟩ := call_draw (n := n) ns (many := 4) (by decide) (k := k + 1) (by omega)
  have hm : (1 : Int) + r = ((r.toNat + 1 : Nat) : Int) := by omega
  have hm6 : r.toNat + 1 ≤ 6 := by omega
  obtain ⟨st', k1, g1, g2, ps1, a6, a7, g3, g4, rfl⟩ := t_out (n := n) (m := r.toNat + 1) ns dn hm6 .un .un .un (k + 1 + 1) (by omega)
  obtain ⟨k2, ps2, e1, e2, e3⟩ := t_ring (n := n) (m := r.toNat + 1) ns dn hm6 ps1 g3 a6 a7 .un k1 (by omega)
  refine ⟨r.toNat + 1, ps2, k2, by omega, hm6, e3, by omega, ?_⟩
  rw [cl_eq (PL_fn (i := 3) (f := q_law_table) rfl), q_table_eq, runF_py (args := [.scr ns, .town, .int 6]) (np := 3) rfl]
  have ha : ∀ q, addD (.int 1) (.int r) q = some (.int ((r.toNat + 1 : Nat) : Int), q) := fun q => by rw [add_i, hm]
  have hs : ∀ q, srcD .r1 (.int ((r.toNat + 1 : Nat) : Int)) .non .non q = some ((List.range (r.toNat + 1)).map fun (i : Nat) => D.int i, q) := fun q => by
    show (if smallI ((r.toNat + 1 : Nat) : Int) = true then (pure (rangeL 0 ((r.toNat + 1 : Nat) : Int).toNat 1) : M (List D)) else no) q = _
    rw [if_pos (smallI_nat (by omega))]
    show some (rangeL 0 (r.toNat + 1) 1, q) = _
    rw [rangeL_eq]
  unfold runB
  rw [exs, ex]
  simp only [exs, ev, evs, kb, kp, getV, List.map_cons, List.map_nil, List.length_cons, List.length_nil, List.replicate, List.cons_append, List.nil_append, List.getElem?_cons_succ, List.getElem?_cons_zero, Option.bind_some, List.set_cons_succ, List.set_cons_zero, r3, ha]
  rw [ex]
  simp only [ev, evs, kb, kp, getV, List.getElem?_cons_succ, List.getElem?_cons_zero, Option.bind_some, List.set_cons_succ, List.set_cons_zero, d3]
  rw [ex]
  simp only [ev, evs, kb, kp, getV, List.getElem?_cons_succ, List.getElem?_cons_zero, Option.bind_some, List.set_cons_succ, List.set_cons_zero]
  rw [ex]
  simp only [ev, evs, kb, kp, getV, List.getElem?_cons_succ, List.getElem?_cons_zero, Option.bind_some, List.set_cons_succ, List.set_cons_zero, hs, bt1]
  rw [g1]
  simp only [Option.bind_some]
  rw [kb, e1]
  simp only [kb, kp, Option.bind_some]
  rw [ex]
  rfl
end L_k04

namespace L_k04
open G
variable {n m : Nat}
def gMul : List S := [.set 5 (.mul (.v 5) (.v 2))]
def gWhl : List S := [.set 5 (.fdv (.v 5) (.v 2)), .set 4 (.sub (.v 4) (.c (.int 1)))]
theorem q_long_eq : q_law_long = .py 4 7 [.set 4 (.call 57 [.v 0, .v 1, .c (.int 4)]), .set 5 (.c (.int 1)), .for (.one 6) .r1 (.v 4) (.c .non) (.c .non) gMul, .whl (.cmp .gt (.v 5) (.v 3)) gWhl, .ret (.v 4)] := rfl
theorem g_mul (C : Cs) (hm6 : m ≤ 6) (L : Nat) (a0 a1 a3 a4 a6 : Sl) : ∃ a6', Gv (forM' (fun d st => exs C gMul (st.set 6 (.fr d))) ((List.range L).map fun (i : Nat) => .int i) [a0, a1, .fr (.int m), a3, a4, .fr (.int 1), a6])
    ([a0, a1, .fr (.int m), a3, a4, .fr (.int ((m ^ L : Nat) : Int)), a6'], .nx) := by
  obtain ⟨st', h1, h2⟩ := for_inv (body := fun d st => exs C gMul (st.set 6 (.fr d))) (fun t st => ∃ a6', st = [a0, a1, .fr (.int m), a3, a4, .fr (.int ((m ^ t : Nat) : Int)), a6'])
    ((List.range L).map fun (i : Nat) => .int i) 0 [a0, a1, .fr (.int m), a3, a4, .fr (.int 1), a6] ⟨a6, by simp⟩ (fun j d st hd hI => by
      obtain ⟨a6', rfl⟩ := hI
      rw [Nat.zero_add]
      refine ⟨[a0, a1, .fr (.int m), a3, a4, .fr (.int ((m ^ (j + 1) : Nat) : Int)), .fr d], fun k => ?_, _, rfl⟩
      have e1 : ∀ k, mulD (.int ((m ^ j : Nat) : Int)) (.int m) k = some (.int ((m ^ (j + 1) : Nat) : Int), k) := fun k => by
        have hb : absLe (m : Int) 18446744073709551615 = true := absLe_of.mpr (show m ≤ 18446744073709551615 by omega)
        rw [mul_r hb, Nat.pow_succ, Int.natCast_mul]
      show exs C gMul [a0, a1, .fr (.int m), a3, a4, .fr (.int ((m ^ j : Nat) : Int)), .fr d] k = _
      unfold gMul
      simp only [exs, ex, ev, evs, kb, kp, getV, List.getElem?_cons_succ, List.getElem?_cons_zero, Option.bind_some, e1, List.set_cons_succ, List.set_cons_zero])
  obtain ⟨a6', rfl⟩ := h2
  have e : 0 + ((List.range L).map fun (i : Nat) => D.int i).length = L := by simp
  rw [e] at h1
  exact ⟨a6', h1⟩
theorem call_long (ns : List Int) (hm6 : m ≤ 6) (k : Nat) (hk : k + 10 < 16777215) : ∃ L : Nat, L ≤ 3 ∧ (calls PL (n + 2)).cl 63 [.scr ns, .town, .int m, .int 216] k = some (.int L, k + 1) := by
  obtain ⟨r, r1, r2, r3⟩ := call_draw (n := n) ns (many := 4) (by decide) (k := k) (by omega)
  have hr : r = ((r.toNat : Nat) : Int) := by omega
  have hL : r.toNat ≤ 3 := by omega
  generalize r.toNat = L at hr hL
  subst hr
  refine ⟨L, hL, ?_⟩
  rw [cl_eq (PL_fn (i := 7) (f := q_law_long) rfl), q_long_eq, runF_py (args := [.scr ns, .town, .int m, .int 216]) (np := 4) rfl]
  obtain ⟨a6, g1⟩ := g_mul (calls PL (n + 1)) hm6 L (.fr (.scr ns)) (.fr .town) (.fr (.int 216)) (.fr (.int (L : Int))) .un
  have hs : ∀ q, srcD .r1 (.int (L : Int)) .non .non q = some ((List.range L).map fun (i : Nat) => D.int i, q) := fun q => by
    show (if smallI (L : Int) = true then (pure (rangeL 0 (L : Int).toNat 1) : M (List D)) else no) q = _
    rw [if_pos (smallI_nat (by omega))]
    show some (rangeL 0 L 1, q) = _
    rw [rangeL_eq]
  have hp : m ^ L ≤ 216 := Nat.le_trans (Nat.pow_le_pow_left hm6 L) (Nat.le_trans (Nat.pow_le_pow_right (by omega) hL) (by decide))
  have hc : ∀ q, cmpM .gt (.int ((m ^ L : Nat) : Int)) (.int 216) q = some (.bl false, q) := fun q => by
    have e : decide ((216 : Int) < ((m ^ L : Nat) : Int)) = false := decide_eq_false (by omega)
    show some (D.bl (decide ((216 : Int) < ((m ^ L : Nat) : Int))), q) = _
    rw [e]
  have hw : ∀ (bd : St → M (St × Fl)) (st : St) (q : Nat), ev (calls PL (n + 1)) (.cmp .gt (.v 5) (.v 3)) st q = some (.bl false, q) → whM (fun st => do let d ← ev (calls PL (n + 1)) (.cmp .gt (.v 5) (.v 3)) st; tru d) bd fuel st q = some ((st, .nx), q) := fun bd st q h => by
    show whM _ bd (1048575 + 1) st q = _
    rw [whM, kb, kb, h]
    rfl
  unfold runB
  rw [exs, ex]
  simp only [ev, evs, kb, kp, getV, List.map_cons, List.map_nil, List.length_cons, List.length_nil, List.replicate, List.cons_append, List.nil_append, List.getElem?_cons_succ, List.getElem?_cons_zero, Option.bind_some, List.set_cons_succ, List.set_cons_zero, r3]
  rw [exs, ex]
  simp only [ev, evs, kb, kp, getV, List.getElem?_cons_succ, List.getElem?_cons_zero, Option.bind_some, List.set_cons_succ, List.set_cons_zero]
  rw [exs, ex]
  simp only [ev, evs, kb, kp, getV, List.getElem?_cons_succ, List.getElem?_cons_zero, Option.bind_some, List.set_cons_succ, List.set_cons_zero, hs, bt1]
  rw [g1]
  simp only [Option.bind_some]
  rw [exs, ex, kb, hw _ _ _ (by
    simp only [ev, kb, kp, getV, List.getElem?_cons_succ, List.getElem?_cons_zero, Option.bind_some, hc])]
  simp only [Option.bind_some]
  rw [exs, ex]
  rfl
end L_k04

namespace L_k04
open G
variable {n m : Nat} {ps : List (Nat × Nat)}
def notIn (X : E) : E := .inn true (.c (.bl true)) (.lc (.one 12) .it X (.c .non) (.c .non) (.c (.bl true)) (.call 62 [.v 3, .v 10, .v 12]) [12])
theorem notin_ev (hps : ∀ p ∈ ps, p.1 < p.2) (X : E) (w : List Nat) (acc : List (List Nat)) (hl : ∀ o ∈ acc, w.length = o.length) (hw : w.length ≤ 1000) (a0 a1 a2 a4 a5 a6 a7 a8 a9 a11 a12 : Sl) (k : Nat)
    (hX : ∀ q, ev (calls PL (n + 2)) X [a0, a1, a2, .fr (tD m ps), a4, a5, a6, a7, a8, a9, .fr (wD w), a11, a12] q = some (.tup (acc.map wD), q)) :
    ev (calls PL (n + 2)) (notIn X) [a0, a1, a2, .fr (tD m ps), a4, a5, a6, a7, a8, a9, .fr (wD w), a11, a12] k = some (.bl (freeB ps acc w), k) := by
  have hi : ∀ q, srcD .it (.tup (acc.map wD)) .non .non q = some (acc.map wD, q) := fun q => rfl
  unfold notIn
  rw [ev]
  simp only [ev, evs, kb, kp, Option.bind_some, hX, hi]
  rw [lcM_eq (o := fun o => some (.bl (mwB ps w o)))]
  · rw [fmap_some]
    have ho : okds deep (acc.map fun o => D.bl (mwB ps w o)) = true := by
      rw [okds_all]
      intro d hd
      obtain ⟨b, _, rfl⟩ := List.mem_map.mp hd
      rfl
    have hh : has (acc.map fun o => D.bl (mwB ps w o)) (.bl true) = !(freeB ps acc w) := by
      rw [has_any]
      unfold freeB
      rw [Bool.not_not]
      clear hX hl hi ho
      induction acc with
      | nil => rfl
      | cons o acc ih =>
        rw [List.map_cons, List.any_cons, ih, List.any_cons]
        congr 1
        cases mwB ps w o <;> rfl
    have hin : ∀ q, inM true (.bl true) (.lst (acc.map fun o => D.bl (mwB ps w o))) q = some (.bl (freeB ps acc w), q) := fun q => by
      show ((if (okd deep (.bl true) && okds deep (acc.map fun o => D.bl (mwB ps w o))) = true then (pure (has (acc.map fun o => D.bl (mwB ps w o)) (.bl true)) : M Bool) else no) >>= fun r => (pure (.bl (xor true r)) : M D)) q = _
      rw [ho, if_pos (show (okd deep (.bl true) && true) = true from rfl), hh]
      show some (D.bl (xor true (!freeB ps acc w)), q) = _
      cases freeB ps acc w <;> rfl
    simp only [kp, Option.bind_some, hin]
  · intro o ho q
    have hc := call_lmixed (n := n) (m := m) hps w o (hl o ho) hw q
    show ((calls PL (n + 2)).cl 62 [tD m ps, wD w, wD o] >>= fun e => (pure (some e) : M (Option D))) q = _
    rw [kb, hc]
    rfl
end L_k04

namespace L_k04
open G
variable {n m L : Nat} {ps : List (Nat × Nat)}
def pickBody : List S := [.set 10 (.call 58 [.v 0, .v 1, .v 5]), .ite (notIn (.v 6)) [.set 6 (.add (.v 6) (.tup [.v 10]))] []]
/-- words of the table, each free of those ahead -/
def Code (ps : List (Nat × Nat)) (m L : Nat) (acc : List (List Nat)) : Prop := (∀ o ∈ acc, o ∈ wordsN m L) ∧ ∀ (i j : Nat) (u v : List Nat), i < j → acc[i]? = some u → acc[j]? = some v → mwB ps v u = false
theorem Code.snoc {acc : List (List Nat)} {w : List Nat} (h : Code ps m L acc) (hw : w ∈ wordsN m L) (hf : freeB ps acc w = true) : Code ps m L (acc ++ [w]) := by
  have hfree : ∀ o ∈ acc, mwB ps w o = false := fun o ho => by
    unfold freeB at hf
    have := (List.any_eq_false.mp (by simpa using hf)) o ho
    simpa using this
  refine ⟨fun o ho => ?_, fun i j u v hij hu hv => ?_⟩
  · rcases List.mem_append.mp ho with z | z
    · exact h.1 o z
    · rw [List.mem_singleton.mp z]; exact hw
  · rcases Nat.lt_or_ge j acc.length with z | z
    · rw [List.getElem?_append_left (by omega)] at hu
      rw [List.getElem?_append_left z] at hv
      exact h.2 i j u v hij hu hv
    · rcases Nat.lt_or_ge j (acc.length + 1) with y | y
      · have ej : j = acc.length := by omega
        subst ej
        rw [List.getElem?_append_right (Nat.le_refl _), Nat.sub_self] at hv
        cases hv
        rw [List.getElem?_append_left hij] at hu
        exact hfree u (List.mem_of_getElem? hu)
      · rw [List.getElem?_eq_none (by simp; omega)] at hv
        cases hv
theorem pick_loop (ns : List Int) (hps : ∀ p ∈ ps, p.1 < p.2) (hm : 0 < m) (hm6 : m ≤ 6) (hL : L ≤ 4) (c : Nat) (hc : c ≤ 10) (a2 a8 a9 a11 a12 : Sl) (a7 a10 : Sl) (k : Nat) (hk : k + 20 < 16777215) :
    ∃ st' k', forM' (fun d st => exs (calls PL (n + 2)) pickBody (st.set 7 (.fr d))) ((List.range c).map fun (i : Nat) => .int i) [.fr (.scr ns), .fr .town, a2, .fr (tD m ps), .fr (.int L), .fr (.lst ((wordsN m L).map wD)), .fr (.tup []), a7, a8, a9, a10, a11, a12] k = some ((st', .nx), k') ∧ k' ≤ k + c ∧
      ∃ acc a7' a10', Code ps m L acc ∧ acc.length ≤ c ∧ st' = [.fr (.scr ns), .fr .town, a2, .fr (tD m ps), .fr (.int L), .fr (.lst ((wordsN m L).map wD)), .fr (.tup (acc.map wD)), a7', a8, a9, a10', a11, a12] := by
  obtain ⟨st', k', h1, h2, acc, a7', a10', h3, h4, h5⟩ := for_invK (body := fun d st => exs (calls PL (n + 2)) pickBody (st.set 7 (.fr d)))
    (fun i st kk => kk ≤ k + i ∧ ∃ acc a7' a10', Code ps m L acc ∧ acc.length ≤ i ∧ st = [.fr (.scr ns), .fr .town, a2, .fr (tD m ps), .fr (.int L), .fr (.lst ((wordsN m L).map wD)), .fr (.tup (acc.map wD)), a7', a8, a9, a10', a11, a12])
    ((List.range c).map fun (i : Nat) => .int i) 0 _ k ⟨by omega, [], a7, a10, ⟨by simp, by simp⟩, by simp, rfl⟩ (fun j d st kk hd hI => by
      obtain ⟨hkk, acc, b7, b10, hC, hl, rfl⟩ := hI
      have hj : j < c := by
        rcases Nat.lt_or_ge j c with z | z
        · exact z
        · rw [List.getElem?_eq_none (by simpa using z)] at hd; cases hd
      have hne : (wordsN m L).map wD ≠ [] := by
        intro z
        have := congrArg List.length z
        rw [List.length_map, wordsN_len] at this
        have := Nat.pow_pos (n := L) hm
        simp at *
        omega
      obtain ⟨w', hw', hpk⟩ := call_pick (n := n) ns ((wordsN m L).map wD) hne (k := kk) (by omega)
      obtain ⟨w, hw, rfl⟩ := List.mem_map.mp hw'
      have hwl : ∀ o ∈ acc, w.length = o.length := fun o ho => by rw [wordsN_mem hw, wordsN_mem (hC.1 o ho)]
      have hni := fun q => notin_ev (n := n) (m := m) hps (.v 6) w acc hwl (by rw [wordsN_mem hw]; omega) (.fr (.scr ns)) (.fr .town) a2 (.fr (.int L)) (.fr (.lst ((wordsN m L).map wD))) (.fr (.tup (acc.map wD))) (.fr d) a8 a9 a11 a12 q (fun q => by rw [ev]; rfl)
      have ha : ∀ q, addD (.tup (acc.map wD)) (.tup [wD w]) q = some (.tup ((acc ++ [w]).map wD), q) := fun q => by
        show (if (acc.map wD).length + 1 ≤ 16777216 then (pure (.tup (acc.map wD ++ [wD w])) : M D) else no) q = _
        rw [if_pos (by rw [List.length_map]; omega), List.map_append]
        rfl
      show ∃ st' k', exs (calls PL (n + 2)) pickBody [.fr (.scr ns), .fr .town, a2, .fr (tD m ps), .fr (.int L), .fr (.lst ((wordsN m L).map wD)), .fr (.tup (acc.map wD)), .fr d, a8, a9, b10, a11, a12] kk = some ((st', .nx), k') ∧ _
      unfold pickBody
      cases hf : freeB ps acc w with
      | true =>
        refine ⟨[.fr (.scr ns), .fr .town, a2, .fr (tD m ps), .fr (.int L), .fr (.lst ((wordsN m L).map wD)), .fr (.tup ((acc ++ [w]).map wD)), .fr d, a8, a9, .fr (wD w), a11, a12], kk + 1, ?_, by omega, acc ++ [w], .fr d, .fr (wD w), hC.snoc hw hf, by rw [List.length_append]; simp; omega, rfl⟩
        rw [hf] at hni
        simp only [exs, ex, ev, evs, kb, kp, getV, List.getElem?_cons_succ, List.getElem?_cons_zero, Option.bind_some, List.set_cons_succ, List.set_cons_zero, hpk, hni, tru_bl, if_true, ha]
      | false =>
        refine ⟨[.fr (.scr ns), .fr .town, a2, .fr (tD m ps), .fr (.int L), .fr (.lst ((wordsN m L).map wD)), .fr (.tup (acc.map wD)), .fr d, a8, a9, .fr (wD w), a11, a12], kk + 1, ?_, by omega, acc, .fr d, .fr (wD w), hC, by omega, rfl⟩
        rw [hf] at hni
        simp only [exs, ex, ev, evs, kb, kp, getV, List.getElem?_cons_succ, List.getElem?_cons_zero, Option.bind_some, List.set_cons_succ, List.set_cons_zero, hpk, hni, tru_bl, Bool.false_eq_true, if_false])
  have e : 0 + ((List.range c).map fun (i : Nat) => D.int i).length = c := by simp
  rw [e] at h2 h4
  exact ⟨st', k', h1, h2, acc, a7', a10', h3, h4, h5⟩
end L_k04

namespace L_k04
open G
variable {n m L : Nat} {ps : List (Nat × Nat)}
theorem free_app (a b : List (List Nat)) (w : List Nat) : freeB ps (a ++ b) w = (freeB ps a w && freeB ps b w) := by
  unfold freeB
  rw [List.any_append, Bool.not_or]
/-- by hand: what is left is walked, against the new words alone -/
theorem grow_split (some : List (List Nat)) : ∀ (ws e : List (List Nat)), growN ps ws (some ++ e) = some ++ growN ps (ws.filter (freeB ps some)) e
  | [], e => rfl
  | w :: ws, e => by
    show growN ps ws (if freeB ps (some ++ e) w = true then some ++ e ++ [w] else some ++ e) = _
    rw [free_app]
    by_cases h : freeB ps some w = true
    · rw [List.filter_cons_of_pos h, h, Bool.true_and]
      show _ = some ++ growN ps _ (if freeB ps e w = true then e ++ [w] else e)
      by_cases h2 : freeB ps e w = true
      · rw [if_pos h2, if_pos h2, List.append_assoc, grow_split some ws]
      · rw [if_neg h2, if_neg h2, grow_split some ws]
    · rw [List.filter_cons_of_neg h]
      have hf : freeB ps some w = false := by simpa using h
      rw [hf, Bool.false_and, if_neg (by simp), grow_split some ws]
/-- grown words make a code -/
theorem grow_code : ∀ (ws acc : List (List Nat)), (∀ w ∈ ws, w ∈ wordsN m L) → Code ps m L acc → Code ps m L (growN ps ws acc)
  | [], acc, _, h => h
  | w :: ws, acc, hw, h => by
    show Code ps m L (growN ps ws (if freeB ps acc w = true then acc ++ [w] else acc))
    refine grow_code ws _ (fun v hv => hw v (List.mem_cons_of_mem _ hv)) ?_
    split
    · exact h.snoc (hw w List.mem_cons_self) (by assumption)
    · exact h
theorem mixB_refl (a : Nat) : mixB ps a a = true := by unfold mixB; simp
theorem mixB_symm (a b : Nat) : mixB ps a b = mixB ps b a := by
  unfold mixB
  rw [Nat.min_comm, Nat.max_comm]
  congr 1
  exact decide_eq_decide.mpr ⟨Eq.symm, Eq.symm⟩
theorem mwB_refl (w : List Nat) : mwB ps w w = true := by
  unfold mwB
  rw [List.all_eq_true]
  intro p hp
  have : p.1 = p.2 := by
    rw [List.mem_iff_getElem?] at hp
    obtain ⟨i, hi⟩ := hp
    rw [List.getElem?_zip_eq_some] at hi
    have := hi.1.symm.trans hi.2
    exact Option.some.inj this
  rw [this]
  exact mixB_refl _
theorem mwB_symm : ∀ (u v : List Nat), mwB ps u v = mwB ps v u
  | [], [] => rfl
  | [], _ :: _ => rfl
  | _ :: _, [] => rfl
  | a :: u, b :: v => by
    show (mixB ps a b && mwB ps u v) = (mixB ps b a && mwB ps v u)
    rw [mixB_symm a b, mwB_symm u v]
theorem code_apart {acc : List (List Nat)} (h : Code ps m L acc) : apart ps acc := fun i j u v hij hu hv => by
  rw [mwB_symm]
  exact h.2 i j u v hij hu hv
/-- what was free stays out or is in -/
theorem grow_mono : ∀ (ws acc : List (List Nat)), ∀ o ∈ acc, o ∈ growN ps ws acc
  | [], _, o, ho => ho
  | w :: ws, acc, o, ho => by
    show o ∈ growN ps ws (if freeB ps acc w = true then acc ++ [w] else acc)
    refine grow_mono ws _ o ?_
    split
    · exact List.mem_append_left _ ho
    · exact ho
theorem free_false_iff (acc : List (List Nat)) (w : List Nat) : freeB ps acc w = false ↔ ∃ o ∈ acc, mwB ps w o = true := by
  unfold freeB
  simp
/-- behind growing nothing is free -/
theorem grow_full : ∀ (ws acc : List (List Nat)), ∀ w ∈ ws, freeB ps (growN ps ws acc) w = false
  | v :: ws, acc, w, hw => by
    show freeB ps (growN ps ws (if freeB ps acc v = true then acc ++ [v] else acc)) w = false
    rcases List.mem_cons.mp hw with e | hw
    · subst e
      rw [free_false_iff]
      by_cases h : freeB ps acc w = true
      · rw [if_pos h]
        exact ⟨w, grow_mono ws _ w (List.mem_append_right _ (List.mem_singleton.mpr rfl)), mwB_refl w⟩
      · rw [if_neg h]
        obtain ⟨o, ho, h2⟩ := (free_false_iff acc w).mp (by simpa using h)
        exact ⟨o, grow_mono ws _ o ho, h2⟩
    · exact grow_full ws _ w hw
theorem grow_full' (acc : List (List Nat)) : ((wordsN m L).filter (freeB ps (growN ps (wordsN m L) acc))).isEmpty = true := by
  rw [List.isEmpty_iff, List.filter_eq_nil_iff]
  intro w hw
  rw [grow_full _ _ w hw]
  simp
end L_k04

namespace L_k04
open G
variable {n m L : Nat} {ps : List (Nat × Nat)}
def dueX : E := .sll (.v 9) (.b1 .len (.v 6))
def dueBody : List S := [.ite (notIn dueX) [.set 9 (.add (.v 9) (.tup [.v 10]))] []]
theorem due_loop (hps : ∀ p ∈ ps, p.1 < p.2) (hL : L ≤ 4) (some : List (List Nat)) (a0 a1 a2 a4 a5 a7 a8 a11 a12 : Sl) : ∀ (ws e : List (List Nat)) (a10 : Sl), (∀ w ∈ ws, w ∈ wordsN m L) → (∀ w ∈ e, w ∈ wordsN m L) → some.length + e.length + ws.length ≤ 100000 →
    ∃ a10', Gv (forM' (fun d st => exs (calls PL (n + 2)) dueBody (st.set 10 (.fr d))) (ws.map wD) [a0, a1, a2, .fr (tD m ps), a4, a5, .fr (.tup (some.map wD)), a7, a8, .fr (.tup ((some ++ e).map wD)), a10, a11, a12])
      ([a0, a1, a2, .fr (tD m ps), a4, a5, .fr (.tup (some.map wD)), a7, a8, .fr (.tup ((some ++ growN ps ws e).map wD)), a10', a11, a12], .nx)
  | [], e, a10, _, _, _ => ⟨a10, fun _ => rfl⟩
  | w :: ws, e, a10, hw, he, hz => by
    have hww := hw w List.mem_cons_self
    obtain ⟨a10', h⟩ := due_loop hps hL some a0 a1 a2 a4 a5 a7 a8 a11 a12 ws (if freeB ps e w = true then e ++ [w] else e) (.fr (wD w)) (fun v hv => hw v (List.mem_cons_of_mem _ hv))
      (by
        intro v hv
        split at hv
        · rcases List.mem_append.mp hv with z | z
          · exact he v z
          · rw [List.mem_singleton.mp z]; exact hww
        · exact he v hv) (by
        simp at hz
        split
        · simp; omega
        · omega)
    refine ⟨a10', fun k => ?_⟩
    have hX : ∀ q, ev (calls PL (n + 2)) dueX [a0, a1, a2, .fr (tD m ps), a4, a5, .fr (.tup (some.map wD)), a7, a8, .fr (.tup ((some ++ e).map wD)), .fr (wD w), a11, a12] q = Option.some (.tup (e.map wD), q) := fun q => by
      have hcut : cut ((some ++ e).map wD) (Option.some ((some.map wD).length : Int)) none = e.map wD := by
        have e1 : cutIx ((some ++ e).map wD).length 0 (Option.some ((some.map wD).length : Int)) = (some.map wD).length := by
          have e0 : ∀ (a b : Nat), cutIx b 0 (Option.some (a : Int)) = min a b := fun a b => by
            show (if (0 : Int) ≤ (a : Int) then min (a : Int).toNat b else ((a : Int) + b).toNat) = _
            rw [if_pos (by omega)]
            rfl
          rw [e0]
          simp
        have e2 : cutIx ((some ++ e).map wD).length ((some ++ e).map wD).length none = ((some ++ e).map wD).length := rfl
        unfold cut
        rw [e1, e2, List.map_append, List.drop_left]
        exact List.take_of_length_le (by simp)
      have h1 : ∀ q, sllD (.tup ((some ++ e).map wD)) (.int ((some.map wD).length : Int)) q = Option.some (.tup (e.map wD), q) := fun q => by
        show Option.some (D.tup (cut ((some ++ e).map wD) (Option.some ((some.map wD).length : Int)) none), q) = _
        rw [hcut]
      have h2 : ∀ q, f1D .len (.tup (some.map wD)) q = Option.some (.int ((some.map wD).length : Int), q) := fun q => rfl
      unfold dueX
      simp only [ev, kb, kp, getV, List.getElem?_cons_succ, List.getElem?_cons_zero, Option.bind_some, h2, h1]
    have hni := fun q => notin_ev (n := n) (m := m) hps dueX w e (fun o ho => by rw [wordsN_mem hww, wordsN_mem (he o ho)]) (by rw [wordsN_mem hww]; omega) a0 a1 a2 a4 a5 (.fr (.tup (some.map wD))) a7 a8 (.fr (.tup ((some ++ e).map wD))) a11 a12 q hX
    have ha : ∀ q, addD (.tup ((some ++ e).map wD)) (.tup [wD w]) q = Option.some (.tup ((some ++ (e ++ [w])).map wD), q) := fun q => by
      show (if ((some ++ e).map wD).length + 1 ≤ 16777216 then (pure (.tup ((some ++ e).map wD ++ [wD w])) : M D) else no) q = _
      rw [if_pos (by rw [List.length_map, List.length_append]; simp at hz; omega), ← List.append_assoc]
      have e : (some ++ e ++ [w]).map wD = (some ++ e).map wD ++ [wD w] := by rw [List.map_append]; rfl
      rw [e]
      rfl
    rw [List.map_cons]
    unfold forM'
    have hb : exs (calls PL (n + 2)) dueBody [a0, a1, a2, .fr (tD m ps), a4, a5, .fr (.tup (some.map wD)), a7, a8, .fr (.tup ((some ++ e).map wD)), .fr (wD w), a11, a12] k = Option.some (([a0, a1, a2, .fr (tD m ps), a4, a5, .fr (.tup (some.map wD)), a7, a8, .fr (.tup ((some ++ (if freeB ps e w = true then e ++ [w] else e)).map wD)), .fr (wD w), a11, a12], .nx), k) := by
      unfold dueBody
      cases hf : freeB ps e w with
      | true =>
        rw [hf] at hni
        simp only [exs, ex, ev, evs, kb, kp, getV, List.getElem?_cons_succ, List.getElem?_cons_zero, Option.bind_some, List.set_cons_succ, List.set_cons_zero, hni, tru_bl, if_true, ha]
      | false =>
        rw [hf] at hni
        simp only [exs, ex, ev, evs, kb, kp, getV, List.getElem?_cons_succ, List.getElem?_cons_zero, Option.bind_some, List.set_cons_succ, List.set_cons_zero, hni, tru_bl, Bool.false_eq_true, if_false]
    rw [kb]
    show (exs (calls PL (n + 2)) dueBody [a0, a1, a2, .fr (tD m ps), a4, a5, .fr (.tup (some.map wD)), a7, a8, .fr (.tup ((some ++ e).map wD)), .fr (wD w), a11, a12] k).bind _ = _
    rw [hb]
    exact h k
end L_k04

namespace L_k04
open G
def partA : List S := [.set 3 (.call 59 [.v 0, .v 1, .c (.int 6)]), .set 4 (.call 63 [.v 0, .v 1, .ix (.v 3) (.c (.int 0)), .c (.int 216)]), .set 5 (.call 61 [.ix (.v 3) (.c (.int 0)), .v 4]), .set 6 (.tup []), .for (.one 7) .r1 (.call 57 [.v 0, .v 1, .c (.int 7)]) (.c .non) (.c .non) pickBody]
def partB : List S := [.own 8 (.lc (.one 10) .it (.v 5) (.c .non) (.c .non) (notIn (.v 6)) (.v 10) [10]), .fz [8], .ite (.not (.call 56 [.tup [.call 16 [.v 3, .v 6, .v 4], .call 17 [.v 3, .v 6, .v 4]], .tup [.b1 .tuple (.v 8), .cmp .eq (.v 8) (.lst [])]])) [.ret (.c (.bl false))] []]
def partC : List S := [.set 9 (.v 6), .for (.one 10) .it (.v 8) (.c .non) (.c .non) dueBody, .set 11 (.call 18 [.v 3, .v 6, .v 4]), .ite (.or [.not (.call 56 [.v 11, .v 9]), .isb true (.call 15 [.v 3, .v 11]) true, .isb true (.call 17 [.v 3, .v 11, .v 4]) true]) [.ret (.c (.bl false))] []]
def turn : List S := partA ++ (partB ++ partC)
theorem body_eq : lawBody = [.for (.one 2) .r1 (.c (.int 8)) (.c .non) (.c .non) turn, .ret (.c (.bl true))] := rfl
theorem exs_app {C : Cs} : ∀ (a b : List S) {st st' : St} {k k' : Nat}, exs C a st k = some ((st', .nx), k') → exs C (a ++ b) st k = exs C b st' k'
  | [], b, st, st', k, k', h => by
    rw [exs] at h
    cases h
    rfl
  | s :: a, b, st, st', k, k', h => by
    rw [exs, kb] at h
    rw [List.cons_append, exs, kb]
    cases e : ex C s st k with
    | none => rw [e] at h; cases h
    | some r =>
      obtain ⟨⟨s1, fl⟩, k1⟩ := r
      rw [e] at h
      cases fl with
      | nx => exact exs_app a b h
      | rt d => cases h
      | bk => cases h
      | ct => cases h
theorem partA_ok (ns : List Int) (a2 a3 a4 a5 a6 a7 a8 a9 a10 a11 a12 : Sl) (k : Nat) (hk : k + 300 < 16777215) : ∃ m ps L acc b7 b10 k', 0 < m ∧ m ≤ 6 ∧ Up m ps ∧ L ≤ 3 ∧ Code ps m L acc ∧ acc.length ≤ 6 ∧ k' ≤ k + 70 ∧
    exs (calls PL 24) partA [.fr (.scr ns), .fr .town, a2, a3, a4, a5, a6, a7, a8, a9, a10, a11, a12] k = some (([.fr (.scr ns), .fr .town, a2, .fr (tD m ps), .fr (.int (L : Nat)), .fr (.lst ((wordsN m L).map wD)), .fr (.tup (acc.map wD)), b7, a8, a9, b10, a11, a12], .nx), k') := by
  obtain ⟨m, ps, k1, m0, m6, hu, hk1, e1⟩ := call_table (n := 22) ns k (by omega)
  obtain ⟨L, hL, e2⟩ := call_long (n := 22) ns m6 k1 (by omega)
  have e3 := call_lwords (n := 23) m0 m6 (show L ≤ 4 by omega)
  obtain ⟨r, r1, r2, e4⟩ := call_draw (n := 23) ns (many := 7) (by decide) (k := k1 + 1) (by omega)
  have hr : r = ((r.toNat : Nat) : Int) := by omega
  have hc : r.toNat ≤ 6 := by omega
  generalize r.toNat = c at hr hc
  subst hr
  obtain ⟨st', k2, g1, g2, acc, b7, b10, g3, g4, rfl⟩ := pick_loop (n := 22) (L := L) ns hu.lt m0 m6 (by omega) c (by omega) a2 a8 a9 a11 a12 a7 a10 (k1 + 1 + 1) (by omega)
  refine ⟨m, ps, L, acc, b7, b10, k2, m0, m6, hu, hL, g3, by omega, by omega, ?_⟩
  have f1 : (calls PL 24).cl 59 [.scr ns, .town, .int 6] k = some (tD m ps, k1) := e1
  have f2 : (calls PL 24).cl 63 [.scr ns, .town, .int m, .int 216] k1 = some (.int L, k1 + 1) := e2
  have f3 : ∀ q, (calls PL 24).cl 61 [.int m, .int L] q = some (.lst ((wordsN m L).map wD), q) := e3
  have f4 : (calls PL 24).cl 57 [.scr ns, .town, .int 7] (k1 + 1) = some (.int (c : Nat), k1 + 1 + 1) := e4
  have f5 : ∀ q, ixD (tD m ps) (.int 0) q = some (.int m, q) := fun q => rfl
  have hs : ∀ q, srcD .r1 (.int (c : Nat)) .non .non q = some ((List.range c).map fun (i : Nat) => D.int i, q) := fun q => by
    show (if smallI (c : Int) = true then (pure (rangeL 0 (c : Int).toNat 1) : M (List D)) else no) q = _
    rw [if_pos (smallI_nat (by omega))]
    show some (rangeL 0 c 1, q) = _
    rw [rangeL_eq]
  have g1' : forM' (fun d st => exs (calls PL 24) pickBody (st.set 7 (.fr d))) ((List.range c).map fun (i : Nat) => .int i) [.fr (.scr ns), .fr .town, a2, .fr (tD m ps), .fr (.int L), .fr (.lst ((wordsN m L).map wD)), .fr (.tup []), a7, a8, a9, a10, a11, a12] (k1 + 1 + 1) = some (([.fr (.scr ns), .fr .town, a2, .fr (tD m ps), .fr (.int L), .fr (.lst ((wordsN m L).map wD)), .fr (.tup (acc.map wD)), b7, a8, a9, b10, a11, a12], .nx), k2) := g1
  unfold partA
  simp only [exs, ex, ev, evs, kb, kp, getV, List.getElem?_cons_succ, List.getElem?_cons_zero, Option.bind_some, List.set_cons_succ, List.set_cons_zero, f1, f2, f3, f4, f5, hs, bt1, g1']
end L_k04

namespace L_k04
open G
variable {m L : Nat} {ps : List (Nat × Nat)}
theorem plain_w (w : List Nat) : plain 1 (wD w) = true := by
  show ((w.map fun (i : Nat) => D.int i).all (plain 0)) = true
  rw [List.all_map, List.all_eq_true]
  intro i _
  rfl
theorem plain_ws (l : List (List Nat)) : plain 2 (.tup (l.map wD)) = true := by
  show ((l.map wD).all (plain 1)) = true
  rw [List.all_map, List.all_eq_true]
  intro i _
  exact plain_w i
theorem partB_ok (hu : Up m ps) (m6 : m ≤ 6) (hL : L ≤ 3) (acc : List (List Nat)) (hC : Code ps m L acc) (a0 a1 a2 a7 a8 a9 a10 a11 a12 : Sl) (k : Nat) :
    exs (calls PL 24) partB [a0, a1, a2, .fr (tD m ps), .fr (.int (L : Nat)), .fr (.lst ((wordsN m L).map wD)), .fr (.tup (acc.map wD)), a7, a8, a9, a10, a11, a12] k = some (([a0, a1, a2, .fr (tD m ps), .fr (.int (L : Nat)), .fr (.lst ((wordsN m L).map wD)), .fr (.tup (acc.map wD)), a7, .fr (.lst (((wordsN m L).filter (freeB ps acc)).map wD)), a9, a10, a11, a12], .nx), k) := by
  have hlc : ∀ q, ev (calls PL 24) (.lc (.one 10) .it (.v 5) (.c .non) (.c .non) (notIn (.v 6)) (.v 10) [10]) [a0, a1, a2, .fr (tD m ps), .fr (.int (L : Nat)), .fr (.lst ((wordsN m L).map wD)), .fr (.tup (acc.map wD)), a7, a8, a9, a10, a11, a12] q = some (.lst (((wordsN m L).filter (freeB ps acc)).map wD), q) := fun q => by
    have hi : ∀ q, srcD .it (.lst ((wordsN m L).map wD)) .non .non q = some ((wordsN m L).map wD, q) := fun q => rfl
    rw [ev]
    simp only [ev, kb, kp, getV, List.getElem?_cons_succ, List.getElem?_cons_zero, Option.bind_some, hi]
    rw [lcM_eq (o := fun w => if freeB ps acc w then some (wD w) else none)]
    · rw [fmap_if]
      rfl
    · intro w hw q
      have hni := notin_ev (n := 22) (m := m) hu.lt (.v 6) w acc (fun o ho => by rw [wordsN_mem hw, wordsN_mem (hC.1 o ho)]) (by rw [wordsN_mem hw]; omega) a0 a1 a2 (.fr (.int (L : Nat))) (.fr (.lst ((wordsN m L).map wD))) (.fr (.tup (acc.map wD))) a7 a8 a9 a11 a12 q (fun q => by rw [ev]; rfl)
      have hni' : ev (calls PL 24) (notIn (.v 6)) [a0, a1, a2, .fr (tD m ps), .fr (.int (L : Nat)), .fr (.lst ((wordsN m L).map wD)), .fr (.tup (acc.map wD)), a7, a8, a9, .fr (wD w), a11, a12] q = some (.bl (freeB ps acc w), q) := hni
      rw [bt1]
      show ((ev (calls PL 24) (notIn (.v 6)) [a0, a1, a2, .fr (tD m ps), .fr (.int (L : Nat)), .fr (.lst ((wordsN m L).map wD)), .fr (.tup (acc.map wD)), a7, a8, a9, .fr (wD w), a11, a12]) >>= _) q = _
      rw [kb, hni']
      cases freeB ps acc w <;> rfl
  have e1 : ∀ q, (calls PL 24).cl 16 [tD m ps, .tup (acc.map wD), .int L] q = some (.tup (((wordsN m L).filter (freeB ps acc)).map wD), q) := call_addable (n := 21) m6 (by omega) acc
  have e2 : ∀ q, (calls PL 24).cl 17 [tD m ps, .tup (acc.map wD), .int L] q = some (.bl ((wordsN m L).filter (freeB ps acc)).isEmpty, q) := call_is_full (n := 20) m6 (by omega) acc
  have e3 : ∀ q, (calls PL 24).cl 56 [.tup [.tup (((wordsN m L).filter (freeB ps acc)).map wD), .bl ((wordsN m L).filter (freeB ps acc)).isEmpty], .tup [.tup (((wordsN m L).filter (freeB ps acc)).map wD), .bl ((wordsN m L).filter (freeB ps acc)).isEmpty]] q = some (.bl true, q) :=
    call_same (n := 20) 3 _ (by
      show (plain 2 _ && (true && true)) = true
      rw [plain_ws]
      rfl)
  have e4 : ∀ l q, f1D .tuple (.lst l) q = some (.tup l, q) := fun l q => rfl
  have e5 : ∀ q, cmpM .eq (.lst (((wordsN m L).filter (freeB ps acc)).map wD)) (.lst []) q = some (.bl ((wordsN m L).filter (freeB ps acc)).isEmpty, q) := fun q => by
    have h1 : okd deep (.lst (((wordsN m L).filter (freeB ps acc)).map wD)) = true := okd_words _
    have h2 : okd deep (.lst []) = true := rfl
    show ((if (okd deep (.lst (((wordsN m L).filter (freeB ps acc)).map wD)) && okd deep (.lst [])) = true then (pure (eqv (.lst (((wordsN m L).filter (freeB ps acc)).map wD)) (.lst [])) : M Bool) else no) >>= fun r => (pure (.bl r) : M D)) q = _
    rw [h1, h2, if_pos (show (true && true) = true from rfl)]
    cases (wordsN m L).filter (freeB ps acc) <;> rfl
  unfold partB
  simp only [exs, ex, kb, kp, hlc, Option.bind_some, List.set_cons_succ, List.set_cons_zero, fz, frz1, List.getElem?_cons_succ, List.getElem?_cons_zero]
  simp only [ev, evs, kb, kp, getV, List.getElem?_cons_succ, List.getElem?_cons_zero, Option.bind_some, e1, e2, e3, e4, e5, tru_bl, Bool.not_true, Bool.false_eq_true, if_false]
end L_k04

namespace L_k04
open G
variable {m L : Nat} {ps : List (Nat × Nat)}
theorem partC_ok (hu : Up m ps) (m6 : m ≤ 6) (hL : L ≤ 3) (acc : List (List Nat)) (hC : Code ps m L acc) (ha : acc.length ≤ 6) (a0 a1 a2 a7 a9 a10 a11 a12 : Sl) (k : Nat) :
    ∃ b9 b10 b11, exs (calls PL 24) partC [a0, a1, a2, .fr (tD m ps), .fr (.int (L : Nat)), .fr (.lst ((wordsN m L).map wD)), .fr (.tup (acc.map wD)), a7, .fr (.lst (((wordsN m L).filter (freeB ps acc)).map wD)), a9, a10, a11, a12] k = some (([a0, a1, a2, .fr (tD m ps), .fr (.int (L : Nat)), .fr (.lst ((wordsN m L).map wD)), .fr (.tup (acc.map wD)), a7, .fr (.lst (((wordsN m L).filter (freeB ps acc)).map wD)), b9, b10, b11, a12], .nx), k) := by
  have hp := pow_small m6 (show L ≤ 4 by omega)
  have hlen := wordsN_len m L
  have hfl : ((wordsN m L).filter (freeB ps acc)).length ≤ (wordsN m L).length := List.length_filter_le _ _
  obtain ⟨b10, hd⟩ := due_loop (n := 22) (m := m) hu.lt (show L ≤ 4 by omega) acc a0 a1 a2 (.fr (.int (L : Nat))) (.fr (.lst ((wordsN m L).map wD))) a7 (.fr (.lst (((wordsN m L).filter (freeB ps acc)).map wD))) a11 a12 ((wordsN m L).filter (freeB ps acc)) [] a10 (fun w hw => (List.mem_filter.mp hw).1) (by simp) (by simp at *; omega)
  have hg := grow_split (ps := ps) acc (wordsN m L) []
  rw [List.append_nil] at hg
  rw [← hg, List.append_nil] at hd
  have hcode := grow_code (L := L) (m := m) (ps := ps) (wordsN m L) acc (fun w hw => hw) hC
  have hgl := growN_len ps (wordsN m L) acc
  refine ⟨.fr (.tup ((growN ps (wordsN m L) acc).map wD)), b10, .fr (.tup ((growN ps (wordsN m L) acc).map wD)), ?_⟩
  have d1 : forM' (fun d st => exs (calls PL 24) dueBody (st.set 10 (.fr d))) (((wordsN m L).filter (freeB ps acc)).map wD) [a0, a1, a2, .fr (tD m ps), .fr (.int (L : Nat)), .fr (.lst ((wordsN m L).map wD)), .fr (.tup (acc.map wD)), a7, .fr (.lst (((wordsN m L).filter (freeB ps acc)).map wD)), .fr (.tup (acc.map wD)), a10, a11, a12] k = _ := hd k
  have e1 : ∀ q, (calls PL 24).cl 18 [tD m ps, .tup (acc.map wD), .int L] q = some (.tup ((growN ps (wordsN m L) acc).map wD), q) := call_grown (n := 21) m6 (by omega) acc (by omega)
  have e2 : ∀ q, (calls PL 24).cl 56 [.tup ((growN ps (wordsN m L) acc).map wD), .tup ((growN ps (wordsN m L) acc).map wD)] q = some (.bl true, q) := call_same (n := 21) 2 _ (plain_ws _)
  have e3 : ∀ q, (calls PL 24).cl 15 [tD m ps, .tup ((growN ps (wordsN m L) acc).map wD)] q = some (.bl true, q) := call_is_code (n := 20) _ (by omega) (code_apart hcode)
  have e4 : ∀ q, (calls PL 24).cl 17 [tD m ps, .tup ((growN ps (wordsN m L) acc).map wD), .int L] q = some (.bl true, q) := fun q => by
    have := call_is_full (lf := lawFns) (n := 20) (ps := ps) m6 (show L ≤ 4 by omega) (growN ps (wordsN m L) acc) q
    rw [grow_full'] at this
    exact this
  have hi : ∀ l q, srcD .it (.lst l) .non .non q = some (l, q) := fun l q => rfl
  have hb : ∀ q, isbD true true (.bl true) q = some (.bl false, q) := fun q => rfl
  unfold partC
  simp only [exs, ex, ev, evs, evOr, kb, kp, getV, List.getElem?_cons_succ, List.getElem?_cons_zero, Option.bind_some, List.set_cons_succ, List.set_cons_zero, hi, bt1, d1, e1, e2, e3, e4, hb, tru_bl, Bool.not_true, Bool.false_eq_true, if_false]
theorem turn_ok (ns : List Int) (a2 a3 a4 a5 a6 a7 a8 a9 a10 a11 a12 : Sl) (k : Nat) (hk : k + 300 < 16777215) : ∃ k' b3 b4 b5 b6 b7 b8 b9 b10 b11, k' ≤ k + 70 ∧
    exs (calls PL 24) turn [.fr (.scr ns), .fr .town, a2, a3, a4, a5, a6, a7, a8, a9, a10, a11, a12] k = some (([.fr (.scr ns), .fr .town, a2, b3, b4, b5, b6, b7, b8, b9, b10, b11, a12], .nx), k') := by
  obtain ⟨m, ps, L, acc, b7, b10, k', m0, m6, hu, hL, hC, ha, hk', e1⟩ := partA_ok ns a2 a3 a4 a5 a6 a7 a8 a9 a10 a11 a12 k hk
  have e2 := partB_ok hu m6 hL acc hC (.fr (.scr ns)) (.fr .town) a2 b7 a8 a9 b10 a11 a12 k'
  obtain ⟨c9, c10, c11, e3⟩ := partC_ok hu m6 hL acc hC ha (.fr (.scr ns)) (.fr .town) a2 b7 a9 b10 a11 a12 k'
  refine ⟨k', .fr (tD m ps), .fr (.int (L : Nat)), .fr (.lst ((wordsN m L).map wD)), .fr (.tup (acc.map wD)), b7, .fr (.lst (((wordsN m L).filter (freeB ps acc)).map wD)), c9, c10, c11, hk', ?_⟩
  unfold turn
  rw [exs_app partA _ e1, exs_app partB _ e2]
  exact e3
theorem claim (ns : List Int) : ∃ k, lawRun (calls PL 24) 13 1 lawBody ns 0 = some (.bl true, k) := by
  obtain ⟨st', k', h1, h2, b2, b3, b4, b5, b6, b7, b8, b9, b10, b11, h3⟩ := for_invK (body := fun d st => exs (calls PL 24) turn (st.set 2 (.fr d)))
    (fun i st kk => kk ≤ 70 * i ∧ ∃ a2 a3 a4 a5 a6 a7 a8 a9 a10 a11, st = [.fr (.scr ns), .fr .town, a2, a3, a4, a5, a6, a7, a8, a9, a10, a11, .un])
    ((List.range 8).map fun (i : Nat) => .int i) 0 [.fr (.scr ns), .fr .town, .un, .un, .un, .un, .un, .un, .un, .un, .un, .un, .un] 0 ⟨by omega, _, _, _, _, _, _, _, _, _, _, rfl⟩ (fun j d st kk hd hI => by
      obtain ⟨hkk, a2, a3, a4, a5, a6, a7, a8, a9, a10, a11, rfl⟩ := hI
      have hj : j < 8 := by
        rcases Nat.lt_or_ge j 8 with z | z
        · exact z
        · rw [List.getElem?_eq_none (by simpa using z)] at hd; cases hd
      obtain ⟨k', b3, b4, b5, b6, b7, b8, b9, b10, b11, e1, e2⟩ := turn_ok ns (.fr d) a3 a4 a5 a6 a7 a8 a9 a10 a11 .un kk (by omega)
      exact ⟨_, k', e2, by omega, _, _, _, _, _, _, _, _, _, _, rfl⟩)
  subst h3
  refine ⟨k', ?_⟩
  have hs : ∀ q, srcD .r1 (.int 8) .non .non q = some ((List.range 8).map fun (i : Nat) => D.int i, q) := fun q => rfl
  rw [body_eq]
  unfold lawRun
  rw [kb]
  have e : exs (calls PL 24) [.for (.one 2) .r1 (.c (.int 8)) (.c .non) (.c .non) turn, .ret (.c (.bl true))] (lawSt 13 1 ns) 0 = some (([.fr (.scr ns), .fr .town, b2, b3, b4, b5, b6, b7, b8, b9, b10, b11, .un], .rt (.bl true)), k') := by
    show exs (calls PL 24) [.for (.one 2) .r1 (.c (.int 8)) (.c .non) (.c .non) turn, .ret (.c (.bl true))] [.fr (.scr ns), .fr .town, .un, .un, .un, .un, .un, .un, .un, .un, .un, .un, .un] 0 = _
    simp only [exs, ex, ev, kb, kp, Option.bind_some, hs, bt1, h1]
  rw [e]
  rfl
end L_k04

namespace L_k04
open G
open PySem PySem.Spec PyProof.Rows L2
def top (i : Nat) : Stmt := PySem.Challenge.pw_mistakesigns_k04_whole_codes_that_grow.main.body.getD i (.Pass ⟨0, 0, 0, 0⟩)
def fns : List (Str × Nat × Nat) := [("mixed", 5, 3), ("words", 11, 2), ("mixed_words", 12, 3), ("clash", 14, 2), ("is_code", 15, 2), ("addable", 16, 3), ("is_full", 17, 3), ("grown", 18, 3), ("_law_same", 56, 2), ("_law_draw", 57, 3), ("_law_pick", 58, 3), ("_law_table", 59, 3), ("_law_near", 60, 3), ("_law_words", 61, 2), ("_law_mixed", 62, 3), ("_law_long", 63, 4)]
def gls : List (Str × D) := []
def fn : List He.DefD := [dOf (top 1), dOf (top 3), dOf (top 4), dOf (top 5), dOf (top 6), dOf (top 7), dOf (top 8), dOf (top 9), dOf (top 11), dOf (top 12), dOf (top 13), dOf (top 14), dOf (top 15), dOf (top 16), dOf (top 17), dOf (top 18), dOf (top 19)]
def fa : List He.Fa := [.glo "mixed", .glo "words", .glo "mixed_words", .glo "clash", .glo "is_code", .glo "addable", .glo "is_full", .glo "grown", .glo "_law_same", .glo "_law_draw", .glo "_law_pick", .glo "_law_table", .glo "_law_near", .glo "_law_words", .glo "_law_mixed", .glo "_law_long", .glo "law"] ++ bltN.map He.Fa.free ++ gls.map glFa
theorem ck_mixed : chkFn PL fns gls ["table", "one", "other"] ["table", "one", "other"] 5 3 (top 1) = true := by decide +kernel
theorem ck_words : chkFn PL fns gls ["many", "long", "found", "turn", "longer", "word", "sign"] ["many", "long"] 11 2 (top 3) = true := by decide +kernel
theorem ck_mixed_words : chkFn PL fns gls ["table", "one", "other", "mine", "yours"] ["table", "one", "other"] 12 3 (top 4) = true := by decide +kernel
theorem ck_clash : chkFn PL fns gls ["table", "some", "at", "one", "place"] ["table", "some"] 14 2 (top 5) = true := by decide +kernel
theorem ck_is_code : chkFn PL fns gls ["table", "some"] ["table", "some"] 15 2 (top 6) = true := by decide +kernel
theorem ck_addable : chkFn PL fns gls ["table", "some", "long", "word", "one"] ["table", "some", "long"] 16 3 (top 7) = true := by decide +kernel
theorem ck_is_full : chkFn PL fns gls ["table", "some", "long"] ["table", "some", "long"] 17 3 (top 8) = true := by decide +kernel
theorem ck_grown : chkFn PL fns gls ["table", "some", "long", "word", "one"] ["table", "some", "long"] 18 3 (top 9) = true := by decide +kernel
theorem ck__law_same : chkFn PL fns gls ["_law_got", "_law_due", "_law_one", "_law_other"] ["_law_got", "_law_due"] 56 2 (top 11) = true := by decide +kernel
theorem ck__law_draw : chkFn PL fns gls ["_law_script", "_law_town", "_law_many", "_law_k", "_law_cell", "_law_number"] ["_law_script", "_law_town", "_law_many"] 57 3 (top 12) = true := by decide +kernel
theorem ck__law_pick : chkFn PL fns gls ["_law_script", "_law_town", "_law_some"] ["_law_script", "_law_town", "_law_some"] 58 3 (top 13) = true := by decide +kernel
theorem ck__law_table : chkFn PL fns gls ["_law_script", "_law_town", "_law_top", "_law_many", "_law_dense", "_law_pairs", "_law_one", "_law_other", "_law_at"] ["_law_script", "_law_town", "_law_top"] 59 3 (top 14) = true := by decide +kernel
theorem ck__law_near : chkFn PL fns gls ["_law_table_here", "_law_one", "_law_other"] ["_law_table_here", "_law_one", "_law_other"] 60 3 (top 15) = true := by decide +kernel
theorem ck__law_words : chkFn PL fns gls ["_law_many", "_law_long_here", "_law_got", "_law_total", "_law_turn", "_law_number", "_law_word"] ["_law_many", "_law_long_here"] 61 2 (top 16) = true := by decide +kernel
theorem ck__law_mixed : chkFn PL fns gls ["_law_table_here", "_law_one", "_law_other", "_law_at"] ["_law_table_here", "_law_one", "_law_other"] 62 3 (top 17) = true := by decide +kernel
theorem ck__law_long : chkFn PL fns gls ["_law_script", "_law_town", "_law_many", "_law_top", "_law_long_here", "_law_total", "_law_turn"] ["_law_script", "_law_town", "_law_many", "_law_top"] 63 4 (top 18) = true := by decide +kernel
theorem ck_law : chkLaw fns gls ["_law_script", "_law_town", "_law_k", "_law_table_here", "_law_long_here", "_law_every", "_law_some", "_law_j", "_law_left", "_law_due", "_law_word", "_law_said", "_law_one"] "_law_script" 1 lawBody (top 19) = true := by decide +kernel
/-- what is left: plain Lean -/
def Claim : Prop := ∀ ns : List Int, ns.length ≤ 63 → ∃ k, lawRun (calls PL 24) 13 1 lawBody ns 0 = some (.bl true, k)
abbrev R : PySem.W.OpenRow := PySem.W.OpenLaw.row PySem.Challenge.rw_mistakesigns_k04_whole_codes_that_grow
abbrev hk : PySem.W.Hook := He.hookD 4 fa fn
def ob (s : PySem.W.SharedT) : He.AlD := He.obsDG 4 fa fn (HandSHeadRun.getT s)
theorem ob_eq (s : PySem.W.SharedT) : ob s = hk.obs s.abs := He.obsDG_eq (HandSHeadRun.getT_eq s)
def loose : List PySem.Str := ["mixed", "words", "mixed_words", "clash", "is_code", "addable", "is_full", "grown", "_law_same", "_law_draw", "_law_pick", "_law_table", "_law_near", "_law_words", "_law_mixed", "_law_long"]
theorem run (w : World) : HandSHeadRun.RunEq R (PySem.W.view R.prog [19]) hk ob 4000 loose w := by
  intro os
  kernel_rfl
section
variable {mg : Str → Option Value} {K : PySem.W.Frag} {h : Heap}
theorem mgs (X : K.In h) (G : h.Ns mainGlobals mg) (c : He.SaysD fa fn K) : Mg (cf0 K) gls mg := mg_facts X G c (by rfl)
theorem fnis (X : K.In h) (G : h.Ns mainGlobals mg) (c : He.SaysD fa fn K) : ∀ q ∈ fns, FnI (cf0 K) PL fns gls mg q.1 q.2.1 q.2.2 := by
  intro q hq
  simp only [fns, List.mem_cons, List.not_mem_nil, or_false] at hq
  rcases hq with rfl | rfl | rfl | rfl | rfl | rfl | rfl | rfl | rfl | rfl | rfl | rfl | rfl | rfl | rfl | rfl
  · exact fnI_mk X G c (top 1) 0 0 5 3 ["table", "one", "other"] ["table", "one", "other"] rfl rfl ck_mixed (fun _ _ _ _ _ _ us hl => match us, hl with | [_, _, _], _ => rfl)
  · exact fnI_mk X G c (top 3) 1 1 11 2 ["many", "long", "found", "turn", "longer", "word", "sign"] ["many", "long"] rfl rfl ck_words (fun _ _ _ _ _ _ us hl => match us, hl with | [_, _], _ => rfl)
  · exact fnI_mk X G c (top 4) 2 2 12 3 ["table", "one", "other", "mine", "yours"] ["table", "one", "other"] rfl rfl ck_mixed_words (fun _ _ _ _ _ _ us hl => match us, hl with | [_, _, _], _ => rfl)
  · exact fnI_mk X G c (top 5) 3 3 14 2 ["table", "some", "at", "one", "place"] ["table", "some"] rfl rfl ck_clash (fun _ _ _ _ _ _ us hl => match us, hl with | [_, _], _ => rfl)
  · exact fnI_mk X G c (top 6) 4 4 15 2 ["table", "some"] ["table", "some"] rfl rfl ck_is_code (fun _ _ _ _ _ _ us hl => match us, hl with | [_, _], _ => rfl)
  · exact fnI_mk X G c (top 7) 5 5 16 3 ["table", "some", "long", "word", "one"] ["table", "some", "long"] rfl rfl ck_addable (fun _ _ _ _ _ _ us hl => match us, hl with | [_, _, _], _ => rfl)
  · exact fnI_mk X G c (top 8) 6 6 17 3 ["table", "some", "long"] ["table", "some", "long"] rfl rfl ck_is_full (fun _ _ _ _ _ _ us hl => match us, hl with | [_, _, _], _ => rfl)
  · exact fnI_mk X G c (top 9) 7 7 18 3 ["table", "some", "long", "word", "one"] ["table", "some", "long"] rfl rfl ck_grown (fun _ _ _ _ _ _ us hl => match us, hl with | [_, _, _], _ => rfl)
  · exact fnI_mk X G c (top 11) 8 8 56 2 ["_law_got", "_law_due", "_law_one", "_law_other"] ["_law_got", "_law_due"] rfl rfl ck__law_same (fun _ _ _ _ _ _ us hl => match us, hl with | [_, _], _ => rfl)
  · exact fnI_mk X G c (top 12) 9 9 57 3 ["_law_script", "_law_town", "_law_many", "_law_k", "_law_cell", "_law_number"] ["_law_script", "_law_town", "_law_many"] rfl rfl ck__law_draw (fun _ _ _ _ _ _ us hl => match us, hl with | [_, _, _], _ => rfl)
  · exact fnI_mk X G c (top 13) 10 10 58 3 ["_law_script", "_law_town", "_law_some"] ["_law_script", "_law_town", "_law_some"] rfl rfl ck__law_pick (fun _ _ _ _ _ _ us hl => match us, hl with | [_, _, _], _ => rfl)
  · exact fnI_mk X G c (top 14) 11 11 59 3 ["_law_script", "_law_town", "_law_top", "_law_many", "_law_dense", "_law_pairs", "_law_one", "_law_other", "_law_at"] ["_law_script", "_law_town", "_law_top"] rfl rfl ck__law_table (fun _ _ _ _ _ _ us hl => match us, hl with | [_, _, _], _ => rfl)
  · exact fnI_mk X G c (top 15) 12 12 60 3 ["_law_table_here", "_law_one", "_law_other"] ["_law_table_here", "_law_one", "_law_other"] rfl rfl ck__law_near (fun _ _ _ _ _ _ us hl => match us, hl with | [_, _, _], _ => rfl)
  · exact fnI_mk X G c (top 16) 13 13 61 2 ["_law_many", "_law_long_here", "_law_got", "_law_total", "_law_turn", "_law_number", "_law_word"] ["_law_many", "_law_long_here"] rfl rfl ck__law_words (fun _ _ _ _ _ _ us hl => match us, hl with | [_, _], _ => rfl)
  · exact fnI_mk X G c (top 17) 14 14 62 3 ["_law_table_here", "_law_one", "_law_other", "_law_at"] ["_law_table_here", "_law_one", "_law_other"] rfl rfl ck__law_mixed (fun _ _ _ _ _ _ us hl => match us, hl with | [_, _, _], _ => rfl)
  · exact fnI_mk X G c (top 18) 15 15 63 4 ["_law_script", "_law_town", "_law_many", "_law_top", "_law_long_here", "_law_total", "_law_turn"] ["_law_script", "_law_town", "_law_many", "_law_top"] rfl rfl ck__law_long (fun _ _ _ _ _ _ us hl => match us, hl with | [_, _, _, _], _ => rfl)
theorem facts {prog : Program} {w : World} {f : Addr} (X : K.In h) (G : h.Ns mainGlobals mg) (hfa : mg ("law" : Str) = some (.ref f)) (c : He.SaysD fa fn K) (hc : Claim) :
    ∃ fd : FuncData, (∀ (s : Shared) (v : Value), BindsTo s fd ⟨[v], []⟩ [("_law_script", v)]) ∧ ∀ base : Heap, K.In base → base.Ns mainGlobals mg → FnOk prog w K mg base L2.CX0 25 f fd ["_law_script"] (spLaw K) :=
  law_facts X G c (top 19) "_law_script" 16 16 1 24 ["_law_script", "_law_town", "_law_k", "_law_table_here", "_law_long_here", "_law_every", "_law_some", "_law_j", "_law_left", "_law_due", "_law_word", "_law_said", "_law_one"] lawBody hfa rfl rfl ck_law (fun _ _ _ _ _ _ us hl => match us, hl with | [_], _ => rfl) (mgs X G c) (fnis X G c) hc
end
end L_k04
open PySem PySem.W PySem.Calls PyProof.Rows
theorem law_holds_k04 (hc : L_k04.Claim) : PySem.Challenge.rw_mistakesigns_k04_whole_codes_that_grow.Holds := by
  w_on; o_law
  refine HandSHeadRun.head_any (r := OpenLaw.row PySem.Challenge.rw_mistakesigns_k04_whole_codes_that_grow) (q := view (OpenLaw.row PySem.Challenge.rw_mistakesigns_k04_whole_codes_that_grow).prog [19]) (H := L_k04.hk) (ob := L_k04.ob) (M := 4000) (loose := L_k04.loose) (d := HandSHeadRun.topDef (OpenLaw.row PySem.Challenge.rw_mistakesigns_k04_whole_codes_that_grow).prog 19) (kwd := []) L_k04.ob_eq
    (by kernel_rfl) (fun s => by kernel_rfl) L_k04.run (by kernel_rfl) (by kernel_rfl) (by kernel_rfl) (by rfl) (by first | assumption | decide +kernel) (by decide +kernel) ⟨rfl, rfl, rfl, rfl, rfl, by decide +kernel⟩ ?hw ?hc
  case hw => w_witness2
  case hc =>
    refine L2.walk_ofE (l := PySem.Challenge.rw_mistakesigns_k04_whole_codes_that_grow) (n := 63) (k := 25) (x := "_law_script") (CX := L2.CX0) rfl (by decide) (by kernel_rfl) ⟨rfl, by decide, by decide⟩ ?F (fun _ _ _ _ z => z)
    intro w mg fa h Y Gn hmg0
    obtain ⟨K, KX, c⟩ := Y
    have hmg : mg ("law" : PySem.Str) = some (.ref fa) := by
      have e : (HandSHeadRun.topDef (OpenLaw.row PySem.Challenge.rw_mistakesigns_k04_whole_codes_that_grow).prog 19).name = ("law" : PySem.Str) := by kernel_rfl
      rw [← e]
      exact hmg0
    obtain ⟨fd, hb, hF⟩ := L_k04.facts (prog := (PySem.Challenge.rw_mistakesigns_k04_whole_codes_that_grow).prog) (w := w) KX Gn hmg c hc
    exact ⟨K, fd, G.spLaw K, KX, hb, fun H a ns hl hO hS => ⟨a, ns, rfl, hS, hO, hl, fun _ => rfl⟩, hF⟩
theorem PySem.Challenge.cw_mistakesigns_k04_whole_codes_that_grow_holds : PySem.Challenge.rw_mistakesigns_k04_whole_codes_that_grow.Holds := by
  exact law_holds_k04 fun ns _ => L_k04.claim ns
