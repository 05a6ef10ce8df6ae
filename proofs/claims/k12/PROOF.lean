import PyProof.Rows.All
import Wide.All
import OpenK.AllK
import Wide.FinOn
import HandS.ForMost
import HandS.CallLocal
import HandS.TupAny
import HandS.TupMul
import HandS.Wide
import HandS.IsInst
import HandS.Zip
import HandS.Defaults
import HandS.TryOnly
import HandS.Small
import HandS.Style
import HandS.TupSets
import HandS.Text
import KE.KeyNested
import KE.LtSeq
import KE.KSortTup
import KE.KSortTupAny
import KE.KRevSl
import PyProof.StrOps2
import PyProof.SliceStr2
import KE.DataMinMax
import HandS.ExcInit
import HandS.ExcCtx
import HandS.ExcInitHot
import HandS.Nested
import HandS.ExcIs
import HandS.ExcField
import KE.KExcSuper
import KE.KSuper
import HandS.ExcValue
import KE.KExcIs
import HandS.Dict
import HandS.SortKw
import HandS.Conv
import HandS.Iter
import KE.DatumOrd
import KE.KDictZip
import HandS.Ends
import HandS.EndBits
import HandS.HeadEnd
import HandS.Head0
import HandS.Head1
import HandS.Head2
import HandS.HeadHook1
import HandS.HeadHook2
import PyProof.Rows.ReprOcc
import PyProof.Rows.ReprWords
import PySem.Challenge.RW_momentlines_k12_truth_in_finite_historie
set_option Elab.async false
/-! MIa -/
section
set_option linter.all false
set_option maxRecDepth 100000
set_option maxHeartbeats 4000000
/-! A small language of data (MI): values, its evaluator. -/
namespace MI
open PySem

/-- values: data as trees; cel: a list or dict that is changed; fn: a def of the text -/
inductive D where
  | non | bl (b : Bool) | int (i : Int) | str (x : Str)
  | tup (xs : List D) | lst (xs : List D) | scr (xs : List D)
  | dct (ks : List (L2.Key × D))
  | cel (k : Nat) | fn (f : Nat)
  | err (c : Nat) (d : D)
inductive C where
  | lst (xs : List D)
  | dct (ks : List (L2.Key × D))
inductive R (α : Type) where
  | no
  | ok (a : α) (h : List C)
  | exc (c : Nat) (d : D) (h : List C)
def M (α : Type) : Type := List C → R α
namespace M
def ret {α : Type} (a : α) : M α := fun h => .ok a h
def bnd {α β : Type} (m : M α) (f : α → M β) : M β := fun h => match m h with
  | .no => .no
  | .ok a h' => f a h'
  | .exc c d h' => .exc c d h'
end M
instance instMon : Monad M where
  pure := M.ret
  bind := M.bnd
def no {α : Type} : M α := fun _ => .no
/-- from an option -/
def op {α : Type} : Option α → M α
  | none => no
  | some a => pure a
def look {α : Type} (f : List C → Option α) : M α := fun h => match f h with
  | none => .no
  | some a => .ok a h
def guardM (b : Bool) : M Unit := if b then pure () else no

theorem pure_def {α : Type} (a : α) (h : List C) : (pure a : M α) h = .ok a h := rfl
theorem bind_def {α β : Type} (m : M α) (f : α → M β) (h : List C) : (m >>= f) h = match m h with
  | .no => .no
  | .ok a h' => f a h'
  | .exc c d h' => .exc c d h' := rfl
@[simp] theorem pure_bind' {α β : Type} (a : α) (f : α → M β) : (pure a >>= f) = f a := rfl
@[simp] theorem bind_assoc' {α β γ : Type} (m : M α) (f : α → M β) (g : β → M γ) : ((m >>= f) >>= g) = (m >>= fun a => f a >>= g) := by
  funext h
  simp only [bind_def]
  cases m h <;> rfl
@[simp] theorem bind_pure' {α : Type} (m : M α) : (m >>= pure) = m := by
  funext h
  simp only [bind_def]
  cases m h <;> rfl
@[simp] theorem no_bind {α β : Type} (f : α → M β) : ((no : M α) >>= f) = no := rfl
@[simp] theorem op_some {α : Type} (a : α) : op (some a) = pure a := rfl
@[simp] theorem op_none {α : Type} : op (none : Option α) = no := rfl
@[simp] theorem guardM_true : guardM true = pure () := rfl
@[simp] theorem guardM_false : guardM false = no := rfl

/-- the largest length that is made -/
def lim : Nat := 16777216

/-! ### reading -/
mutual
def py : D → Option PyData
  | .non => some .none
  | .bl b => some (.bool b)
  | .int i => some (.int i)
  | .str x => some (.str x)
  | .tup xs => (pys xs).map .tuple
  | .lst xs => (pys xs).map .list
  | _ => none
def pys : List D → Option (List PyData)
  | [] => some []
  | d :: ds => match py d, pys ds with
    | some p, some ps => some (p :: ps)
    | _, _ => none
end
/-- a cell's content as a value; other values as they are -/
def view (h : List C) : D → D
  | .cel k => match h[k]? with
    | some (.lst xs) => .lst xs
    | some (.dct ks) => .dct ks
    | none => .cel k
  | d => d
/-- a list or a tuple, to be read -/
def seqOf (h : List C) (d : D) : Option (List D) := match view h d with
  | .lst xs => some xs
  | .tup xs => some xs
  | .scr xs => some xs
  | _ => none
def lstOf (h : List C) (d : D) : Option (List D) := match view h d with
  | .lst xs => some xs
  | .scr xs => some xs
  | _ => none
/-- a list that was made here -/
def ownL (h : List C) (d : D) : Option (List D) := match view h d with
  | .lst xs => some xs
  | _ => none
def dctOf (h : List C) (d : D) : Option (List (L2.Key × D)) := match view h d with
  | .dct ks => some ks
  | _ => none
def keyOf : D → Option L2.Key
  | .int i => some (.inl i)
  | .str x => some (.inr x)
  | _ => none
def intOf : D → Option Int
  | .int i => some i
  | _ => none
def strOf : D → Option Str
  | .str x => some x
  | _ => none
def blOf : D → Option Bool
  | .bl b => some b
  | _ => none
def allSome {α β : Type} (f : α → Option β) : List α → Option (List β)
  | [] => some []
  | a :: l => match f a, allSome f l with
    | some b, some m => some (b :: m)
    | _, _ => none
/-- data that may be compared and shown: of no great depth -/
def okPy (p : PyData) : Bool := SeqAt.shaped p

def mkTup (xs : List D) : Option D := if xs.length ≤ lim then some (.tup xs) else none
def mkLst (xs : List D) : Option D := if xs.length ≤ lim then some (.lst xs) else none
def mkStr (x : Str) : Option D := if x.length ≤ lim then some (.str x) else none

/-! ### order and equality of data -/
mutual
def beqD : D → D → Bool
  | .non, .non => true
  | .bl a, .bl b => a == b
  | .int i, .int j => decide (i = j)
  | .str x, .str y => decide (x = y)
  | .tup xs, .tup ys => beqDs xs ys
  | _, _ => false
def beqDs : List D → List D → Bool
  | [], [] => true
  | x :: xs, y :: ys => beqD x y && beqDs xs ys
  | _, _ => false
end
mutual
def ltD : D → D → Option Bool
  | .int i, .int j => some (decide (i < j))
  | .str x, .str y => some (decide (x.cps.toList < y.cps.toList))
  | .tup xs, .tup ys => ltDs xs ys
  | _, _ => none
def ltDs : List D → List D → Option Bool
  | [], [] => some false
  | [], _ :: _ => some true
  | _ :: _, [] => some false
  | x :: xs, y :: ys => if beqD x y then ltDs xs ys else ltD x y
end
mutual
def depD : D → Nat
  | .tup xs => depDs xs + 1
  | _ => 0
def depDs : List D → Nat
  | [] => 0
  | x :: xs => max (depD x) (depDs xs)
end
/-! what a set takes here: texts, whole numbers, tuples of such -/
mutual
def hashD : D → Bool
  | .int _ => true
  | .str _ => true
  | .tup xs => hashDs xs
  | _ => false
def hashDs : List D → Bool
  | [] => true
  | x :: xs => hashD x && hashDs xs
end
/-- a < b, of no great depth -/
def lessD (a b : D) : Option Bool := if hashD a && hashD b && decide (depD a ≤ 60) then ltD a b else none
/-- a tuple that begins with a text -/
def headS : D → Bool
  | .tup (.str _ :: _) => true
  | _ => false
def insD (x : D) : List D → List D
  | [] => [x]
  | y :: ys => if beqD x y then y :: ys else if ltD x y == some true then x :: y :: ys else y :: insD x ys
def sortD : List D → List D
  | [] => []
  | x :: xs => insD x (sortD xs)
def setOk (xs : List D) : Bool := xs.all hashD && xs.all headS && (xs.all fun x => decide (depD x ≤ 8)) && (xs.all fun x => xs.all fun y => (ltD x y).isSome) && decide (xs.length ≤ 32)
/-- sorted(set(xs)), xs tuples that begin with a text -/
def ssetD (xs : List D) : Option D := if setOk xs then some (.lst (sortD xs)) else none

/-! ### operators -/
def mulOk (i j : Int) : Bool := decide (i.natAbs.log2 + j.natAbs.log2 < 1000000)
def mulSm (i j : Int) : Bool := decide ((-(2 ^ 64) < i ∧ i < 2 ^ 64) ∨ (-(2 ^ 64) < j ∧ j < 2 ^ 64))
def binI (o : Operator) (i j : Int) : Option D := match o with
  | .Add => some (.int (i + j))
  | .Sub => some (.int (i - j))
  | .Mult => if mulSm i j || mulOk i j then some (.int (i * j)) else none
  | .FloorDiv => if decide (0 < j ∧ j.natAbs.log2 < 9000) then some (.int (i / j)) else none
  | .Mod => if decide (0 < j) then some (.int (i % j)) else none
  | .Pow => if decide (0 ≤ j ∧ j ≤ 1000 ∧ i.natAbs < 2 ^ 64) then some (.int (i ^ j.toNat)) else none
  | _ => none
def binS (o : Operator) (x y : Str) : Option D := match o with
  | .Add => mkStr (x ++ y)
  | _ => none
def binT (o : Operator) (xs ys : List D) : Option D := match o with
  | .Add => mkTup (xs ++ ys)
  | _ => none
def binTI (o : Operator) (xs : List D) (k : Int) : Option D := match o with
  | .Mult => if decide (-1000 ≤ k ∧ k ≤ 1000) && decide (xs.length ≤ 1000) then some (.tup (List.replicate k.toNat xs).flatten) else none
  | _ => none
def binLI (o : Operator) (l : Option (List D)) (k : Int) : Option D := match o, l with
  | .Mult, some xs => if decide (0 ≤ k ∧ k ≤ 1000) && decide (xs.length * k.toNat ≤ lim) then some (.lst (List.replicate k.toNat xs).flatten) else none
  | _, _ => none
def binL (o : Operator) (l m : Option (List D)) : Option D := match o, l, m with
  | .Add, some xs, some ys => mkLst (xs ++ ys)
  | _, _, _ => none
/-- a text so many times; the other way round; texts put together -/
def repS (a : Str) (n : Nat) : Str := ⟨(List.replicate n a.cps).foldl (· ++ ·) #[]⟩
def revS (a : Str) : Str := ⟨a.cps.toList.reverse.toArray⟩
def binSI (o : Operator) (x : Str) (k : Int) : Option D := match o with
  | .Mult => if decide (-1000 ≤ k ∧ k ≤ 100000) && decide (x.length * k.toNat ≤ lim) then some (.str (repS x k.toNat)) else none
  | _ => none
def augD (o : Operator) (x y : D) : Option D := match o, x, y with
  | .Add, .str a, .str b => mkStr (a ++ b)
  | _, _, _ => none
def binD (h : List C) (o : Operator) (a b : D) : Option D := match a, b with
  | .int i, .int j => binI o i j
  | .str x, .str y => binS o x y
  | .str x, .int k => binSI o x k
  | .tup xs, .tup ys => binT o xs ys
  | .tup xs, .int k => binTI o xs k
  | a, .int k => binLI o (ownL h a) k
  | a, b => binL o (ownL h a) (ownL h b)
def flatB : D → Bool
  | .non => true
  | .bl _ => true
  | .int _ => true
  | .str _ => true
  | _ => false
def eqF : D → D → Bool
  | .non, .non => true
  | .bl a, .bl b => a == b
  | .bl a, .int b => (if a = true then 1 else 0) == b
  | .int a, .bl b => a == if b = true then 1 else 0
  | .int a, .int b => a == b
  | .str a, .str b => a == b
  | _, _ => false
def inSeq (a : D) (xs : List D) : Option Bool := if flatB a && xs.all flatB then some (xs.any fun y => eqF y a) else none
def inD (h : List C) (a b : D) : Option Bool := match view h b with
  | .str y => match a with
    | .str x => some (!(Builtin.Str.occurrences y x 0 y.length 1).isEmpty)
    | _ => none
  | .dct ks => (keyOf a).map fun k => (ks.any fun p => decide (p.1 = k))
  | .tup xs => inSeq a xs
  | .lst xs => inSeq a xs
  | _ => none
def eqD (h : List C) (a b : D) : Option Bool := match a, b with
  | .str x, .str y => some (decide (x = y))
  | a, b => match py (view h a), py (view h b) with
    | some p, some q => if okPy p && okPy q then some (PyData.eqv p q) else none
    | _, _ => none
def isNon : D → Bool
  | .non => true
  | _ => false
def cmpD (h : List C) (o : CmpOp) (a b : D) : Option Bool := match o with
  | .Eq => eqD h a b
  | .NotEq => (eqD h a b).map (!·)
  | .In => inD h a b
  | .NotIn => (inD h a b).map (!·)
  | .Is => match b with
    | .non => some (isNon a)
    | _ => none
  | .IsNot => match b with
    | .non => some (!isNon a)
    | _ => none
  | .Lt => lessD a b
  | .LtE => match a, b with
    | .int i, .int j => some (decide (i ≤ j))
    | _, _ => none
  | .Gt => match a, b with
    | .int i, .int j => some (decide (j < i))
    | _, _ => none
  | .GtE => match a, b with
    | .int i, .int j => some (decide (j ≤ i))
    | _, _ => none

/-! ### subscripts -/
def atD (xs : List D) (i : Int) : Option D := L2.atI xs i
def ixD (h : List C) (a i : D) : Option D := match view h a, i with
  | .lst xs, .int i => L2.atI xs i
  | .tup xs, .int i => L2.atI xs i
  | .scr xs, .int i => L2.atI xs i
  | .str x, .int i => (L2.atI x.cps.toList i).map fun c => .str ⟨#[c]⟩
  | _, _ => none
def cutD (xs : List D) (lo hi : Option Int) : List D := (xs.drop (HT.sIx xs.length 0 lo)).take (HT.sIx xs.length xs.length hi - HT.sIx xs.length 0 lo)
def slD (h : List C) (a : D) (lo hi : Option Int) : Option D := match view h a with
  | .lst xs => some (.lst (cutD xs lo hi))
  | .scr xs => some (.lst (cutD xs lo hi))
  | .tup xs => some (.tup (cutD xs lo hi))
  | .str x => some (.str (L2.cutS x lo hi))
  | _ => none
def revD (h : List C) (a : D) : Option D := match view h a with
  | .lst xs => some (.lst xs.reverse)
  | .tup xs => some (.tup xs.reverse)
  | .str x => some (.str (revS x))
  | _ => none

/-! ### built-ins by values -/
inductive Bi where
  | len | tuple | list | sum | max1 | min1 | max2 | min2 | all | any | repr | int | abs | zip | join
def maxI : List Int → Option Int
  | [] => none
  | x :: xs => some (xs.foldl (fun a b => if b > a then b else a) x)
def minI : List Int → Option Int
  | [] => none
  | x :: xs => some (xs.foldl (fun a b => if b < a then b else a) x)
def zipD : List D → List D → List D
  | x :: xs, y :: ys => .tup [x, y] :: zipD xs ys
  | _, _ => []
def bi1 (f : D → Option D) : List D → Option D
  | [x] => f x
  | _ => none
def bi2 (f : D → D → Option D) : List D → Option D
  | [x, y] => f x y
  | _ => none
def lenD (h : List C) (x : D) : Option D := match view h x with
  | .str z => some (.int z.length)
  | .tup xs => some (.int xs.length)
  | .lst xs => some (.int xs.length)
  | .scr xs => some (.int xs.length)
  | _ => none
def tupD (h : List C) (x : D) : Option D := match view h x with
  | .tup xs => some (.tup xs)
  | .lst xs => some (.tup xs)
  | _ => none
def listD (h : List C) (x : D) : Option D := match view h x with
  | .tup xs => some (.lst xs)
  | .lst xs => some (.lst xs)
  | _ => none
def sumD (h : List C) (x : D) : Option D := (lstOf h x).bind fun xs => (allSome intOf xs).map fun ns => .int ns.sum
def maxOf (xs : List D) : Option D := (allSome intOf xs).bind fun ns => (maxI ns).map .int
def max1D (h : List C) (x : D) : Option D := match x with
  | .tup xs => maxOf xs
  | x => (lstOf h x).bind maxOf
def min1D (h : List C) (x : D) : Option D := (lstOf h x).bind fun xs => (allSome intOf xs).bind fun ns => (minI ns).map .int
def maxdD (h : List C) (x z : D) : Option D := (lstOf h x).bind fun xs => (allSome intOf xs).map fun ns => match maxI ns with
  | none => z
  | some m => .int m
def max2D (x y : D) : Option D := match x, y with
  | .int i, .int j => some (.int (if j > i then j else i))
  | _, _ => none
def min2D (x y : D) : Option D := match x, y with
  | .int i, .int j => some (.int (if j < i then j else i))
  | _, _ => none
def allD (h : List C) (x : D) : Option D := (lstOf h x).bind fun xs => (allSome blOf xs).map fun bs => .bl (bs.all id)
def anyD (h : List C) (x : D) : Option D := (lstOf h x).bind fun xs => (allSome blOf xs).map fun bs => .bl (bs.any id)
def reprD (h : List C) (x : D) : Option D := (py (view h x)).bind fun p => if okPy p && PyData.showable p && decide (p.shown.length ≤ lim) then some (.str p.shown) else none
def toInt : D → Option D
  | .int i => some (.int i)
  | .bl b => some (.int (if b then 1 else 0))
  | _ => none
def absD : D → Option D
  | .int i => some (.int (if i < 0 then -i else i))
  | _ => none
def zipL (h : List C) (x y : D) : Option D := match lstOf h x, lstOf h y with
  | some xs, some ys => some (.lst (zipD xs ys))
  | _, _ => none
def joinD (h : List C) (x : D) : Option D := match view h x with
  | .lst xs => (allSome strOf xs).bind fun ys => if decide ((ys.map (·.length)).sum ≤ lim) then some (.str (PySem.Txt.join ⟨#[]⟩ ys)) else none
  | _ => none
def biD (h : List C) (b : Bi) (xs : List D) : Option D := match b with
  | .len => bi1 (lenD h) xs
  | .tuple => bi1 (tupD h) xs
  | .list => bi1 (listD h) xs
  | .sum => bi1 (sumD h) xs
  | .max1 => bi1 (max1D h) xs
  | .min1 => bi1 (min1D h) xs
  | .max2 => bi2 max2D xs
  | .min2 => bi2 min2D xs
  | .all => bi1 (allD h) xs
  | .any => bi1 (anyD h) xs
  | .repr => bi1 (reprD h) xs
  | .int => bi1 toInt xs
  | .abs => bi1 absD xs
  | .zip => bi2 (zipL h) xs
  | .join => bi1 (joinD h) xs
/-- classes for isinstance -/
inductive Ty where
  | tuple | list | int | bool | str
def isTy (h : List C) (d : D) (t : Ty) : Option Bool := match view h d with
  | .non => some false
  | .bl _ => some (match t with | .int => true | .bool => true | _ => false)
  | .int _ => some (match t with | .int => true | _ => false)
  | .str _ => some (match t with | .str => true | _ => false)
  | .tup _ => some (match t with | .tuple => true | _ => false)
  | .lst _ => some (match t with | .list => true | _ => false)
  | _ => none

/-- a dict of constants, asked with a default -/
def keyD : L2.Key → D
  | .inl i => .int i
  | .inr s => .str s
def dictD (kds : List (L2.Key × L2.Key)) (y z : D) : Option D := (keyOf y).map fun q => kds.foldl (fun r p => if q = p.1 then keyD p.2 else r) z
/-! ### the language -/
inductive Tg where
  | one (i : Nat)
  | two (i j : Nat)
mutual
inductive E where
  | var (i : Nat) | cst (d : D) | fnv (f : Nat)
  | bin (o : Operator) (a b : E) | neg (a : E) | not (a : E)
  | cmp (o : CmpOp) (a b : E) | chain (o o' : CmpOp) (a b c : E)
  | and (es : Es) | or (es : Es) | ite (c a b : E)
  | tup (es : Es) | lst (es : Es)
  | ix (a b : E) | sl (a : E) (lo hi : Eo) | rev (a : E)
  | call (f : Nat) (es : Es) | callv (i : Nat) (fs : List Nat) (es : Es) | callk (f : Nat) (es : Es) (n : Nat) (p : List Nat)
  | bi (b : Bi) (es : Es) | isi (e : E) (t : Ty) | sset (e : E)
  | lc (x : E) (tg : Tg) (it : Wk) (c : Eo) (vs : List Nat)
  | lc2 (x : E) (tg : Tg) (it : Wk) (c : Eo) (tg1 : Tg) (it1 : Wk) (c1 : Eo) (vs vs1 : List Nat)
  | app (a e : E) | ext (a e : E) | pop (a : E)
  | val (a : E) (cs : List Nat) | isc (a : E) (c : Nat) (cs : List Nat)
  | dgt (kds : List (L2.Key × L2.Key)) (k d : E) | maxd (a d : E) | lrg (n : Nat) (es : Es)
  | nls (es : Es) | ndc
inductive Es where
  | nil | cons (e : E) (es : Es)
inductive Eo where
  | none | some (e : E)
inductive Wk where
  | val (e : E) | rng1 (a : E) | rng2 (a b : E) | rng3 (a b c : E) | zip (a b : E)
end
/-- the body of a try: calls, by tests -/
inductive Tb where
  | call (f : Nat) (es : Es) | callk (f : Nat) (es : Es) (n : Nat) (p : List Nat) | ite (c : E) (a b : Tb)
mutual
inductive S where
  | set (i : Nat) (e : E) | setc (i : Nat) (es : Es) | setd (i : Nat) | sett (is : List Nat) (e : E) | par (is : List Nat) (es : Es)
  | aug (i : Nat) (o : Operator) (e : E) | seti (a b e : E)
  | ex (e : E) | ret (e : E) | retn | retc (es : Es)
  | iff (c : E) (a b : Ss) | for (tg : Tg) (it : Wk) (b : Ss) | wh (n : Nat) (c : E) (b : Ss)
  | pas | brk | cnt | never
  | raise (c : Nat) (e : E) | tryv (b : Tb) (i j : Nat) (cs : List Nat)
inductive Ss where
  | nil | cons (s : S) (ss : Ss)
end
abbrev Ev := List (Option D)
inductive Fl where
  | nx (v : Ev) | rt (d : D) | bk (v : Ev) | ct (v : Ev)

def testD : D → M Bool
  | .bl b => pure b
  | _ => no
def setE (v : Ev) (i : Nat) (d : D) : Ev := v.set i (some d)
def wipeE (v : Ev) : List Nat → Ev
  | [] => v
  | i :: is => (wipeE v is).set i none
def setsE (v : Ev) : List Nat → List D → Option Ev
  | [], [] => some v
  | i :: is, d :: ds => setsE (setE v i d) is ds
  | _, _ => none
def unpE (v : Ev) (is : List Nat) (h : List C) (d : D) : Option Ev := match view h d with
  | .tup xs => setsE v is xs
  | .lst xs => setsE v is xs
  | _ => none
def tgE (tg : Tg) (v : Ev) (d : D) : M Ev := match tg, d with
  | .one i, d => pure (setE v i d)
  | .two i j, .tup [x, y] => pure (setE (setE v i x) j y)
  | _, _ => no
def appC (d x : D) : M D := fun h => match d with
  | .cel k => match h[k]? with
    | some (.lst xs) => if xs.length < lim then .ok .non (h.set k (.lst (xs ++ [x]))) else .no
    | _ => .no
  | _ => .no
def chkL (d : D) : M Unit := look fun h => (ownL h d).map fun _ => ()
def extC (d x : D) : M D := fun h => match d with
  | .cel k => match h[k]?, ownL h x with
    | some (.lst xs), some ys => if xs.length + ys.length ≤ lim then .ok .non (h.set k (.lst (xs ++ ys))) else .no
    | _, _ => .no
  | _ => .no
/-- the classes of errors: 0 stands above all -/
def subC (c q : Nat) : Bool := q == 0 || c == q
def valD (cs : List Nat) : D → Option D
  | .err q d => if cs.contains q then some d else none
  | _ => none
def iscD (c : Nat) (cs : List Nat) : D → Option D
  | .non => some (.bl false)
  | .err q _ => if cs.contains q then some (.bl (subC q c)) else none
  | _ => none
def popC (d : D) : M D := fun h => match d with
  | .cel k => match h[k]? with
    | some (.lst xs) => match xs.getLast? with
      | some y => .ok y (h.set k (.lst xs.dropLast))
      | none => .no
    | _ => .no
  | _ => .no
def putK (ks : List (L2.Key × D)) (k : L2.Key) (x : D) : List (L2.Key × D) := if (ks.any fun p => decide (p.1 = k)) then ks.map (fun p => if p.1 = k then (p.1, x) else p) else ks ++ [(k, x)]
def setC (a b x : D) : M Unit := fun h => match a with
  | .cel k => match h[k]?, b with
    | some (.lst xs), .int i => match L2.atI (List.range xs.length) i with
      | some j => .ok () (h.set k (.lst (xs.set j x)))
      | none => .no
    | some (.dct ks), b => match keyOf b with
      | some q => if ks.length < lim then .ok () (h.set k (.dct (putK ks q x))) else .no
      | none => .no
    | _, _ => .no
  | _ => .no
def newC (c : C) : M D := fun h => .ok (.cel h.length) (h ++ [c])
def newL (xs : List D) : M D := if xs.length ≤ lim then newC (.lst xs) else no
/-- a fold by steps -/
def foldM' {α β : Type} (f : β → α → M β) : List α → β → M β
  | [], b => pure b
  | a :: l, b => do
    let b' ← f b a
    foldM' f l b'
def pushM (acc : List D) (y : D) : M (List D) := if acc.length < lim then pure (acc ++ [y]) else no
/-- nothing is raised -/
def quiet {α : Type} (m : M α) : M α := fun h => match m h with
  | .ok a h' => .ok a h'
  | _ => .no
def rng1D : List D → Option (List D)
  | [.int n] => if decide (-100000 ≤ n ∧ n ≤ 100000) then some ((List.range n.toNat).map fun (i : Nat) => .int (i : Int)) else none
  | _ => none
def rng2D : List D → Option (List D)
  | [.int a, .int b] => if decide ((-100000 ≤ a ∧ a ≤ 100000) ∧ -100000 ≤ b ∧ b ≤ 100000) then some ((List.range (b - a).toNat).map fun (i : Nat) => .int (a + (i : Int))) else none
  | _ => none
def rng3D : List D → Option (List D)
  | [.int a, .int b, .int c] => if decide (((-100000 ≤ a ∧ a ≤ 100000) ∧ -100000 ≤ b ∧ b ≤ 100000) ∧ c = -1) then some ((List.range (a - b).toNat).map fun (i : Nat) => .int (a + (i : Int) * c)) else none
  | _ => none
def rngN : Nat → List D → Option (List D)
  | 1, xs => rng1D xs
  | 2, xs => rng2D xs
  | 3, xs => rng3D xs
  | _, _ => none
def zip2D (h : List C) (x y : D) : Option (List D) := match x, y with
  | .tup xs, .tup ys => some (zipD xs ys)
  | .lst xs, .lst ys => some (zipD xs ys)
  | _, _ => none
def signs (x : Str) : List D := x.cps.toList.map fun c => .str ⟨#[c]⟩
def iterD (h : List C) (d : D) : Option (List D) := match d with
  | .lst xs => some xs
  | .tup xs => some xs
  | .scr xs => some xs
  | .str x => some (signs x)
  | _ => none

section
variable (call : Nat → List D → M D)
mutual
def evE : E → Ev → M D
  | .var i, v => op (v.getD i none)
  | .cst d, _ => pure d
  | .fnv f, _ => pure (.fn f)
  | .bin o a b, v => do
    let x ← evE a v
    let y ← evE b v
    look fun h => binD h o x y
  | .neg a, v => do
    let x ← evE a v
    op ((intOf x).map fun i => .int (-i))
  | .not a, v => do
    let x ← evE a v
    let b ← testD x
    pure (.bl !b)
  | .cmp o a b, v => do
    let x ← evE a v
    let y ← evE b v
    let r ← look fun h => cmpD h o x y
    pure (.bl r)
  | .chain o o' a b c, v => do
    let x ← evE a v
    let y ← evE b v
    let r ← look fun h => cmpD h o x y
    if r then do
      let z ← evE c v
      let r' ← look fun h => cmpD h o' y z
      pure (.bl r')
    else pure (.bl false)
  | .and es, v => evAnd es v
  | .or es, v => evOr es v
  | .ite c a b, v => do
    let x ← evE c v
    let r ← testD x
    if r then evE a v else evE b v
  | .tup es, v => do
    let xs ← evEs es v
    op (mkTup xs)
  | .lst es, v => do
    let xs ← evEs es v
    op (mkLst xs)
  | .ix a b, v => do
    let x ← evE a v
    let y ← evE b v
    look fun h => ixD h x y
  | .sl a lo hi, v => do
    let x ← evE a v
    let l ← evO lo v
    let u ← evO hi v
    look fun h => slD h x l u
  | .rev a, v => do
    let x ← evE a v
    look fun h => revD h x
  | .call f es, v => do
    let xs ← evEs es v
    call f xs
  | .callv i fs es, v => match v.getD i none with
    | some (.fn f) => if f ∈ fs then do
        let xs ← evEs es v
        call f xs
      else no
    | _ => no
  | .callk f es n p, v => do
    let xs ← evEs es v
    let _ ← guardM (decide (xs.length = n))
    call f (p.map fun i => xs.getD i .non)
  | .bi b es, v => do
    let xs ← evEs es v
    look fun h => biD h b xs
  | .isi e t, v => do
    let x ← evE e v
    let r ← look fun h => isTy h x t
    pure (.bl r)
  | .sset e, v => do
    let x ← evE e v
    look fun h => (seqOf h x).bind ssetD
  | .lc x tg it c vs, v => do
    let xs ← evI it v
    let r ← quiet (foldM' (fun acc d => do
      let v' ← tgE tg (wipeE v vs) d
      let b ← evC c v'
      if b then do
        let y ← evE x v'
        pushM acc y
      else pure acc) xs [])
    pure (.lst r)
  | .lc2 x tg it c tg1 it1 c1 vs vs1, v => do
    let xs ← evI it v
    let r ← quiet (foldM' (fun acc d => do
      let v' ← tgE tg (wipeE v vs) d
      let b ← evC c v'
      if b then do
        let ys ← evI it1 v'
        foldM' (fun acc d1 => do
          let v2 ← tgE tg1 (wipeE v' vs1) d1
          let b1 ← evC c1 v2
          if b1 then do
            let y ← evE x v2
            pushM acc y
          else pure acc) ys acc
      else pure acc) xs [])
    pure (.lst r)
  | .app a e, v => do
    let x ← evE a v
    let _ ← chkL x
    let y ← evE e v
    appC x y
  | .ext a e, v => do
    let x ← evE a v
    let _ ← chkL x
    let y ← evE e v
    extC x y
  | .pop a, v => do
    let x ← evE a v
    let _ ← chkL x
    popC x
  | .val a cs, v => do
    let x ← evE a v
    op (valD cs x)
  | .isc a c cs, v => do
    let x ← evE a v
    op (iscD c cs x)
  | .dgt kds k d, v => do
    let y ← evE k v
    let z ← evE d v
    op (dictD kds y z)
  | .maxd a d, v => do
    let x ← evE a v
    let z ← evE d v
    look fun h => maxdD h x z
  | .lrg n es, v => do
    let xs ← evEs es v
    op ((rngN n xs).map .lst)
  | .nls es, v => do
    let xs ← evEs es v
    newL xs
  | .ndc, _ => newC (.dct [])
def evEs : Es → Ev → M (List D)
  | .nil, _ => pure []
  | .cons e es, v => do
    let x ← evE e v
    let xs ← evEs es v
    pure (x :: xs)
def evAnd : Es → Ev → M D
  | .nil, _ => no
  | .cons e .nil, v => evE e v
  | .cons e es, v => do
    let x ← evE e v
    let b ← testD x
    if b then evAnd es v else pure (.bl false)
def evOr : Es → Ev → M D
  | .nil, _ => no
  | .cons e .nil, v => evE e v
  | .cons e es, v => do
    let x ← evE e v
    let b ← testD x
    if b then pure (.bl true) else evOr es v
def evO : Eo → Ev → M (Option Int)
  | .none, _ => pure none
  | .some e, v => do
    let x ← evE e v
    let i ← op (intOf x)
    pure (some i)
def evC : Eo → Ev → M Bool
  | .none, _ => pure true
  | .some e, v => do
    let x ← evE e v
    testD x
def evI : Wk → Ev → M (List D)
  | .val e, v => do
    let x ← evE e v
    look fun h => iterD h x
  | .rng1 a, v => do
    let x ← evE a v
    op (rng1D [x])
  | .rng2 a b, v => do
    let x ← evE a v
    let y ← evE b v
    op (rng2D [x, y])
  | .rng3 a b c, v => do
    let x ← evE a v
    let y ← evE b v
    let z ← evE c v
    op (rng3D [x, y, z])
  | .zip a b, v => do
    let x ← evE a v
    let y ← evE b v
    look fun h => zip2D h x y
end
/-- the body of a try -/
def evTb : Tb → Ev → M D
  | .call f es, v => do
    let xs ← quiet (evEs call es v)
    call f xs
  | .callk f es n p, v => do
    let xs ← quiet (evEs call es v)
    let _ ← guardM (decide (xs.length = n))
    call f (p.map fun i => xs.getD i .non)
  | .ite c a b, v => do
    let x ← quiet (evE call c v)
    let r ← testD x
    if r then evTb a v else evTb b v
/-- what a try makes of its body -/
def catchF (i j : Nat) (cs : List Nat) (v : Ev) (r : R D) : R Fl := match r with
  | .no => .no
  | .ok _ h => .ok (.nx v) h
  | .exc c d h => if cs.contains c then .ok (.nx ((setE (setE v i (.err c d)) j (.err c d)).set i none)) h else .no
def raiseM (c : Nat) (d : D) : M Fl := fun h => .exc c d h
def thenF (r : Fl) (f : Ev → M Fl) : M Fl := match r with
  | .nx v => f v
  | .rt d => pure (.rt d)
  | .bk v => pure (.bk v)
  | .ct v => pure (.ct v)
def loopF (r : Fl) (f : Ev → M Fl) : M Fl := match r with
  | .nx v => f v
  | .ct v => f v
  | .bk v => pure (.nx v)
  | .rt d => pure (.rt d)
/-- a for, by its turn -/
def forM' {α : Type} (f : α → Ev → M Fl) : List α → Ev → M Fl
  | [], v => pure (.nx v)
  | a :: l, v => do
    let r ← f a v
    loopF r (forM' f l)
def whM' (c : Ev → M Bool) (f : Ev → M Fl) : Nat → Ev → M Fl
  | 0, _ => no
  | n + 1, v => do
    let b ← c v
    if b then do
      let r ← f v
      loopF r (whM' c f n)
    else pure (.nx v)
mutual
def evS : S → Ev → M Fl
  | .set i e, v => do
    let x ← evE call e v
    pure (.nx (setE v i x))
  | .setc i es, v => do
    let xs ← evEs call es v
    let c ← newL xs
    pure (.nx (setE v i c))
  | .setd i, v => do
    let c ← newC (.dct [])
    pure (.nx (setE v i c))
  | .sett is e, v => do
    let x ← evE call e v
    let v' ← look fun h => unpE v is h x
    pure (.nx v')
  | .par is es, v => do
    let xs ← evEs call es v
    let v' ← op (setsE v is xs)
    pure (.nx v')
  | .aug i o e, v => do
    let x ← op (v.getD i none)
    let y ← evE call e v
    let z ← op (augD o x y)
    pure (.nx (setE v i z))
  | .seti a b e, v => do
    let x ← evE call e v
    let o ← evE call a v
    let i ← evE call b v
    setC o i x
    pure (.nx v)
  | .ex e, v => do
    let _ ← evE call e v
    pure (.nx v)
  | .ret e, v => do
    let x ← evE call e v
    pure (.rt x)
  | .retn, _ => pure (.rt .non)
  | .retc es, v => do
    let xs ← evEs call es v
    let c ← newL xs
    pure (.rt c)
  | .iff c a b, v => do
    let x ← evE call c v
    let r ← testD x
    if r then evSs a v else evSs b v
  | .for tg it b, v => do
    let xs ← evI call it v
    forM' (fun d v => do
      let v' ← tgE tg v d
      evSs b v') xs v
  | .wh n c b, v => whM' (fun v => do
      let x ← evE call c v
      testD x) (fun v => evSs b v) n v
  | .pas, v => pure (.nx v)
  | .brk, v => pure (.bk v)
  | .cnt, v => pure (.ct v)
  | .never, _ => no
  | .raise c e, v => do
    let x ← evE call e v
    raiseM c x
  | .tryv b i j cs, v => fun h => catchF i j cs v (evTb call b v h)
def evSs : Ss → Ev → M Fl
  | .nil, v => pure (.nx v)
  | .cons s ss, v => do
    let r ← evS s v
    thenF r (fun v' => evSs ss v')
end
end
/-! ### calls -/
structure Fn where
  np : Nat
  ns : Nat
  keep : Bool
  body : Ss
mutual
/-- no cell from n on is named -/
def below (n : Nat) : D → Bool
  | .cel k => decide (k < n)
  | .tup xs => belows n xs
  | .lst xs => belows n xs
  | .scr xs => belows n xs
  | .dct ks => belowk n ks
  | .err _ d => below n d
  | _ => true
def belows (n : Nat) : List D → Bool
  | [] => true
  | x :: xs => below n x && belows n xs
def belowk (n : Nat) : List (L2.Key × D) → Bool
  | [] => true
  | (_, x) :: xs => below n x && belowk n xs
end
def belowC (n : Nat) : C → Bool
  | .lst xs => belows n xs
  | .dct ks => belowk n ks
/-- what a call leaves of the cells: those that stood; the answer may be one that was made, from then on it stays as it is -/
def settle (n : Nat) (d : D) (h : List C) : R D :=
  if h.length = n then .ok d h else
    let d' := match d with
      | .cel k => if k < n then d else view h d
      | _ => d
    if below n d' && (h.take n).all (belowC n) then .ok d' (h.take n) else .no
def startE (n : Nat) (xs : List D) : Ev := xs.map some ++ List.replicate (n - xs.length) none
def runF (call : Nat → List D → M D) (f : Fn) (xs : List D) : M D := fun h =>
  if xs.length = f.np then
    match evSs call f.body (startE f.ns xs) h with
    | .no => .no
    | .exc c d h' => if below h.length d && (h'.take h.length).all (belowC h.length) then .exc c d (h'.take h.length) else .no
    | .ok r h' => match r with
      | .nx _ => if f.keep then .ok .non h' else settle h.length .non h'
      | .rt d => if f.keep then .ok d h' else settle h.length d h'
      | _ => .no
  else .no
def callF (fns : Nat → Option Fn) : Nat → Nat → List D → M D
  | 0, _, _ => no
  | k + 1, f, xs => match fns f with
    | some fi => runF (callF fns k) fi xs
    | none => no
end MI
end
/-! MIb -/
section
set_option linter.all false
set_option maxRecDepth 100000
set_option maxHeartbeats 4000000
/-! What the values of MI stand for in the abstract heap. -/
namespace MI
open PySem L2

/-- the world: the written part, the defs' places, the cells' places are told besides -/
structure Wd where
  K : PySem.W.Frag
  Fn : Nat → Addr
  Z : List Addr := []
/-- neither a cell nor a list that is being made -/
def Fr (W : Wd) (ρ : List Addr) (a : Addr) : Prop := a ∉ ρ ∧ a ∉ W.Z

/-- a list that the module's top has written -/
def KL (K : PySem.W.Frag) (a : Addr) (xs : List V) : Prop :=
  ∃ (o : Obj) (its : Array Value) (n : Nat), K.lookup a = some o ∧ o.cls = .type "list" ∧ o.dict = none ∧ o.data = .seq its n ∧ its.size ≤ sizeLine ∧ Vals xs its.toList
/-- at a: an error of the class cls, its dict at dd -/
def exv (a : Addr) (cls : Value) (dd : Addr) : HO := .ext fun h => ∃ (oe : Obj) (vs : Array Value), h.get? a = some oe ∧ Zc cls (some dd) oe ∧ oe.data = .fields vs
/-- the classes stand behind the defs -/
def clsB : Nat := 1000000
theorem exv_lst {a : Addr} {cls : Value} {dd : Addr} {vs : List V} : exv a cls dd ≠ .lst vs := fun z => by
  have z' : HO.ext _ = HO.lst vs := z
  cases z'
theorem exv_dK {a : Addr} {cls : Value} {dd : Addr} {vs : List (Key × V)} : exv a cls dd ≠ .dK vs := fun z => by
  have z' : HO.ext _ = HO.dK vs := z
  cases z'
/-- the dict of an error's fields -/
def vxd (v : V) : HO := .xd [("value", v)]
mutual
def Rep (W : Wd) (ρ : List Addr) (H : Hp) : D → V → Prop
  | .non, v => v = .non
  | .bl b, v => v = .bl b
  | .int i, v => v = .int i
  | .str x, v => v = .str x ∧ x.length ≤ sizeLine
  | .tup ds, v => ∃ a vs, v = .ref a ∧ SqT W.K H a vs ∧ ds.length ≤ sizeLine ∧ Reps W ρ H ds vs
  | .lst ds, v => ∃ a vs, v = .ref a ∧ (H a = some (.lst vs) ∧ Fr W ρ a) ∧ ds.length ≤ sizeLine ∧ Reps W ρ H ds vs
  | .scr ds, v => ∃ a vs, v = .ref a ∧ ((Rd H a (.lst vs) ∧ Fr W ρ a) ∨ KL W.K a vs) ∧ ds.length ≤ sizeLine ∧ Reps W ρ H ds vs
  | .dct ks, v => ∃ a kvs, v = .ref a ∧ (H a = some (.dK kvs) ∧ Fr W ρ a) ∧ ks.length ≤ sizeLine ∧ RepK W ρ H ks kvs
  | .cel k, v => ∃ a, v = .ref a ∧ ρ[k]? = some a
  | .fn f, v => v = .ref (W.Fn f)
  | .err c d, v => ∃ a dd x, v = .ref a ∧ (H a = some (exv a (.ref (W.Fn (clsB + c))) dd) ∧ Fr W ρ a) ∧ (H dd = some (vxd x) ∧ Fr W ρ dd) ∧ Rep W ρ H d x
def Reps (W : Wd) (ρ : List Addr) (H : Hp) : List D → List V → Prop
  | [], vs => vs = []
  | d :: ds, vs => ∃ v r, vs = v :: r ∧ Rep W ρ H d v ∧ Reps W ρ H ds r
def RepK (W : Wd) (ρ : List Addr) (H : Hp) : List (Key × D) → List (Key × V) → Prop
  | [], vs => vs = []
  | (k, d) :: ds, vs => ∃ v r, vs = (k, v) :: r ∧ Rep W ρ H d v ∧ RepK W ρ H ds r
end

/-- what is behind: more cells; what is no cell stays -/
structure Ext (ρ : List Addr) (H : Hp) (ρ' : List Addr) (H' : Hp) : Prop where
  pre : ρ <+: ρ'
  keep : ∀ b o, H b = some o → b ∉ ρ → H' b = some o ∧ b ∉ ρ'
  was : ∀ b, H b ≠ none → H' b ≠ none
theorem Ext.refl {ρ : List Addr} {H : Hp} : Ext ρ H ρ H := ⟨List.prefix_refl _, fun _ _ h n => ⟨h, n⟩, fun _ h => h⟩
theorem Ext.trans {ρ ρ1 ρ2 : List Addr} {H H1 H2 : Hp} (a : Ext ρ H ρ1 H1) (b : Ext ρ1 H1 ρ2 H2) : Ext ρ H ρ2 H2 :=
  ⟨a.pre.trans b.pre, fun c o h n => let ⟨h1, n1⟩ := a.keep c o h n; b.keep c o h1 n1, fun c h => b.was c (a.was c h)⟩
theorem Ext.new {ρ : List Addr} {H : Hp} {p : Addr} {o : HO} (h : H p = none) : Ext ρ H ρ (upd H p o) :=
  ⟨List.prefix_refl _, fun b u e n => ⟨by rw [upd_ne (ne_of_none e h)]; exact e, n⟩, fun b e => by
    by_cases c : b = p
    · subst c; exact absurd h e
    · rw [upd_ne c]; exact e⟩
theorem Ext.cell {ρ : List Addr} {H : Hp} {p : Addr} {o : HO} (h : p ∈ ρ) : Ext ρ H ρ (upd H p o) :=
  ⟨List.prefix_refl _, fun b u e n => ⟨by rw [upd_ne (by intro z; subst z; exact n h)]; exact e, n⟩, fun b e => by
    by_cases c : b = p
    · subst c; rw [upd_same]; simp
    · rw [upd_ne c]; exact e⟩
theorem Ext.newc {ρ : List Addr} {H : Hp} {p : Addr} {o : HO} (h : H p = none) : Ext ρ H (ρ ++ [p]) (upd H p o) :=
  ⟨List.prefix_append _ _, fun b u e n => ⟨by rw [upd_ne (ne_of_none e h)]; exact e, fun m => by
    rcases List.mem_append.mp m with m | m
    · exact n m
    · have z : b = p := by simpa using m
      subst z; rw [h] at e; cases e⟩, fun b e => by
    by_cases c : b = p
    · subst c; exact absurd h e
    · rw [upd_ne c]; exact e⟩
theorem pre_get {ρ ρ' : List Addr} (h : ρ <+: ρ') {k : Nat} {a : Addr} (e : ρ[k]? = some a) : ρ'[k]? = some a := by
  obtain ⟨t, rfl⟩ := h
  have hk : k < ρ.length := by
    rcases Nat.lt_or_ge k ρ.length with z | z
    · exact z
    · rw [List.getElem?_eq_none z] at e; cases e
  rw [List.getElem?_append_left hk]; exact e
section
variable {W : Wd} {ρ ρ' : List Addr} {H H' : Hp}
theorem sqT_ext (x : Ext ρ H ρ' H') (cells : ∀ (k : Nat) (a : Addr), ρ[k]? = some a → ¬ ∃ o xs, H a = some o ∧ (o = .tup xs ∨ ∃ u, o = .frz u (.tup xs))) {a : Addr} {vs : List V} (h : SqT W.K H a vs) : SqT W.K H' a vs := by
  rcases h with h | h
  · rcases h with h | ⟨o, h⟩
    · refine .inl (.inl (x.keep a _ h fun m => ?_).1)
      obtain ⟨k, e⟩ := List.mem_iff_getElem?.mp m
      exact cells k a e ⟨_, vs, h, .inl rfl⟩
    · refine .inl (.inr ⟨o, (x.keep a _ h fun m => ?_).1⟩)
      obtain ⟨k, e⟩ := List.mem_iff_getElem?.mp m
      exact cells k a e ⟨_, vs, h, .inr ⟨_, rfl⟩⟩
  · exact .inr h
/-- the cells hold lists and dicts -/
structure CelOk (ρ : List Addr) (H : Hp) : Prop where
  nd : ρ.Nodup
  at_ : ∀ (k : Nat) (a : Addr), ρ[k]? = some a → (∃ vs, H a = some (.lst vs)) ∨ ∃ kvs, H a = some (.dK kvs)
theorem CelOk.notup (c : CelOk ρ H) : ∀ (k : Nat) (a : Addr), ρ[k]? = some a → ¬ ∃ o xs, H a = some o ∧ (o = .tup xs ∨ ∃ u, o = .frz u (.tup xs)) := by
  rintro k a e ⟨o, xs, h, z⟩
  rcases c.at_ k a e with ⟨vs, h2⟩ | ⟨vs, h2⟩ <;> rw [h] at h2 <;> cases h2 <;> rcases z with z | ⟨u, z⟩ <;> cases z
mutual
theorem Rep.ext (x : Ext ρ H ρ' H') (c : CelOk ρ H) : ∀ {d : D} {v : V}, Rep W ρ H d v → Rep W ρ' H' d v
  | .non, _, h => h
  | .bl _, _, h => h
  | .int _, _, h => h
  | .str _, _, h => h
  | .tup ds, v, h => by
    obtain ⟨a, vs, e, q, l, r⟩ := (show ∃ a vs, v = .ref a ∧ SqT W.K H a vs ∧ ds.length ≤ sizeLine ∧ Reps W ρ H ds vs from h)
    exact ⟨a, vs, e, sqT_ext x c.notup q, l, Reps.ext x c r⟩
  | .lst ds, v, h => by
    obtain ⟨a, vs, e, ⟨q, n⟩, l, r⟩ := (show ∃ a vs, v = .ref a ∧ (H a = some (.lst vs) ∧ Fr W ρ a) ∧ ds.length ≤ sizeLine ∧ Reps W ρ H ds vs from h)
    exact ⟨a, vs, e, ⟨(x.keep a _ q n.1).1, (x.keep a _ q n.1).2, n.2⟩, l, Reps.ext x c r⟩
  | .scr ds, v, h => by
    obtain ⟨a, vs, e, q, l, r⟩ := (show ∃ a vs, v = .ref a ∧ ((Rd H a (.lst vs) ∧ Fr W ρ a) ∨ KL W.K a vs) ∧ ds.length ≤ sizeLine ∧ Reps W ρ H ds vs from h)
    refine ⟨a, vs, e, ?_, l, Reps.ext x c r⟩
    rcases q with ⟨q | ⟨o, q⟩, n⟩ | q
    · have z := x.keep a _ q n.1
      exact .inl ⟨.inl z.1, z.2, n.2⟩
    · have z := x.keep a _ q n.1
      exact .inl ⟨.inr ⟨o, z.1⟩, z.2, n.2⟩
    · exact .inr q
  | .dct ks, v, h => by
    obtain ⟨a, vs, e, ⟨q, n⟩, l, r⟩ := (show ∃ a kvs, v = .ref a ∧ (H a = some (.dK kvs) ∧ Fr W ρ a) ∧ ks.length ≤ sizeLine ∧ RepK W ρ H ks kvs from h)
    exact ⟨a, vs, e, ⟨(x.keep a _ q n.1).1, (x.keep a _ q n.1).2, n.2⟩, l, RepK.ext x c r⟩
  | .cel k, v, h => by
    obtain ⟨a, e, q⟩ := (show ∃ a, v = .ref a ∧ ρ[k]? = some a from h)
    exact ⟨a, e, pre_get x.pre q⟩
  | .fn _, _, h => h
  | .err q d, v, h => by
    obtain ⟨a, dd, z, e, ⟨h1, n1⟩, ⟨h2, n2⟩, r⟩ := (show ∃ a dd x, v = .ref a ∧ (H a = some (exv a (.ref (W.Fn (clsB + q))) dd) ∧ Fr W ρ a) ∧ (H dd = some (vxd x) ∧ Fr W ρ dd) ∧ Rep W ρ H d x from h)
    exact ⟨a, dd, z, e, ⟨(x.keep a _ h1 n1.1).1, (x.keep a _ h1 n1.1).2, n1.2⟩, ⟨(x.keep dd _ h2 n2.1).1, (x.keep dd _ h2 n2.1).2, n2.2⟩, Rep.ext x c r⟩
theorem Reps.ext (x : Ext ρ H ρ' H') (c : CelOk ρ H) : ∀ {ds : List D} {vs : List V}, Reps W ρ H ds vs → Reps W ρ' H' ds vs
  | [], _, h => h
  | d :: ds, vs, h => by
    obtain ⟨v, r, e, h1, h2⟩ := (show ∃ v r, vs = v :: r ∧ Rep W ρ H d v ∧ Reps W ρ H ds r from h)
    exact ⟨v, r, e, Rep.ext x c h1, Reps.ext x c h2⟩
theorem RepK.ext (x : Ext ρ H ρ' H') (c : CelOk ρ H) : ∀ {ds : List (Key × D)} {vs : List (Key × V)}, RepK W ρ H ds vs → RepK W ρ' H' ds vs
  | [], _, h => h
  | (k, d) :: ds, vs, h => by
    obtain ⟨v, r, e, h1, h2⟩ := (show ∃ v r, vs = (k, v) :: r ∧ Rep W ρ H d v ∧ RepK W ρ H ds r from h)
    exact ⟨v, r, e, Rep.ext x c h1, RepK.ext x c h2⟩
end
end
end MI
end
/-! MIc -/
section
set_option linter.all false
set_option maxRecDepth 100000
set_option maxHeartbeats 4000000
/-! Readings of MI. -/
namespace MI
open PySem L2

structure Sim (W : Wd) (ρ : List Addr) (η : List C) (H : Hp) : Prop where
  nd : ρ.Nodup
  zed : ∀ z ∈ W.Z, (∃ vs, H z = some (.lst vs)) ∧ z ∉ ρ
  len : ρ.length = η.length
  at_ : ∀ (k : Nat) (a : Addr) (c : C), ρ[k]? = some a → η[k]? = some c → match c with
    | .lst ds => ∃ vs, H a = some (.lst vs) ∧ ds.length ≤ sizeLine ∧ Reps W ρ H ds vs
    | .dct ks => ∃ kvs, H a = some (.dK kvs) ∧ ks.length ≤ sizeLine ∧ RepK W ρ H ks kvs
section
variable {W : Wd} {ρ ρ' : List Addr} {η η' : List C} {H H' : Hp}
theorem get_len {α : Type} {l : List α} {k : Nat} {a : α} (e : l[k]? = some a) : k < l.length := by
  rcases Nat.lt_or_ge k l.length with z | z
  · exact z
  · rw [List.getElem?_eq_none z] at e; cases e
theorem Sim.cell (s : Sim W ρ η H) {k : Nat} {a : Addr} (e : ρ[k]? = some a) : ∃ c, η[k]? = some c := by
  have h := get_len e
  rw [s.len] at h
  exact ⟨_, List.getElem?_eq_getElem h⟩
theorem Sim.ok (s : Sim W ρ η H) : CelOk ρ H := ⟨s.nd, fun k a e => by
  obtain ⟨c, hc⟩ := s.cell e
  have q := s.at_ k a c e hc
  cases c with
  | lst ds => obtain ⟨vs, h, _⟩ := q; exact .inl ⟨vs, h⟩
  | dct ks => obtain ⟨vs, h, _⟩ := q; exact .inr ⟨vs, h⟩⟩
/-- a new object that is no cell -/
theorem Sim.new (s : Sim W ρ η H) {p : Addr} {o : HO} (h : H p = none) : Sim W ρ η (upd H p o) := by
  have x : Ext ρ H ρ (upd H p o) := Ext.new h
  have c := s.ok
  refine ⟨s.nd, fun z hz => ⟨let ⟨vs, e⟩ := (s.zed z hz).1; ⟨vs, by rw [upd_ne (ne_of_none e h)]; exact e⟩, (s.zed z hz).2⟩, s.len, fun k a cc e1 e2 => ?_⟩
  have q := s.at_ k a cc e1 e2
  have ne : a ≠ p := by
    rcases c.at_ k a e1 with ⟨vs, z⟩ | ⟨vs, z⟩ <;> exact ne_of_none z h
  cases cc with
  | lst ds => obtain ⟨vs, z, l, r⟩ := q; exact ⟨vs, by rw [upd_ne ne]; exact z, l, Reps.ext x c r⟩
  | dct ks => obtain ⟨vs, z, l, r⟩ := q; exact ⟨vs, by rw [upd_ne ne]; exact z, l, RepK.ext x c r⟩

/-- the frame: what a slot is known to hold -/
def EnvR (W : Wd) (ρ : List Addr) (H : Hp) (env : Ev) (σ : St) : Prop := env.length = σ.length ∧ ∀ (i : Nat) (d : D), env[i]? = some (some d) → ∃ v, σ[i]? = some (some v) ∧ Rep W ρ H d v
theorem EnvR.ext {env : Ev} {σ : St} (e : EnvR W ρ H env σ) (x : Ext ρ H ρ' H') (c : CelOk ρ H) : EnvR W ρ' H' env σ :=
  ⟨e.1, fun i d h => let ⟨v, h1, h2⟩ := e.2 i d h; ⟨v, h1, h2.ext x c⟩⟩
theorem EnvR.set {env : Ev} {σ : St} (e : EnvR W ρ H env σ) {d : D} {v : V} (r : Rep W ρ H d v) (i : Nat) : EnvR W ρ H (setE env i d) (σ.set i (some v)) := by
  refine ⟨by unfold setE; simp [e.1], fun j d' h => ?_⟩
  unfold setE at h
  by_cases hj : i = j
  · subst hj
    have hi : i < env.length := by
      have := get_len h
      simpa using this
    rw [List.getElem?_set_self hi] at h
    cases h
    exact ⟨v, by rw [List.getElem?_set_self (e.1 ▸ hi)], r⟩
  · rw [List.getElem?_set_ne hj] at h ⊢
    exact e.2 j d' h
theorem EnvR.unset {env : Ev} {σ : St} (e : EnvR W ρ H env σ) (i : Nat) : EnvR W ρ H (env.set i none) (σ.set i none) := by
  refine ⟨by simp [e.1], fun j d' h => ?_⟩
  by_cases hj : i = j
  · subst hj
    have hi : i < env.length := by
      have := get_len h
      simpa using this
    rw [List.getElem?_set_self hi] at h
    cases h
  · rw [List.getElem?_set_ne hj] at h ⊢
    exact e.2 j d' h
theorem EnvR.wipe {env : Ev} {σ : St} (e : EnvR W ρ H env σ) : ∀ vs, EnvR W ρ H (wipeE env vs) (L2.wipe σ vs)
  | [] => e
  | i :: is => (EnvR.wipe e is).unset i
theorem getD_some {env : Ev} {i : Nat} {d : D} (h : env.getD i none = some d) : env[i]? = some (some d) := by
  rw [List.getD_eq_getElem?_getD] at h
  cases e : env[i]? with
  | none => rw [e] at h; cases h
  | some o => rw [e] at h; simp at h; rw [h]

end
/-! ### more lists that are being made -/
structure Wider (W W' : Wd) (H : Hp) : Prop where
  k : W'.K = W.K
  f : W'.Fn = W.Fn
  z : ∀ z ∈ W'.Z, z ∈ W.Z ∨ H z = none
theorem Wider.refl {W : Wd} {H : Hp} : Wider W W H := ⟨rfl, rfl, fun _ h => .inl h⟩
theorem fr_res {W W' : Wd} {ρ : List Addr} {H : Hp} (w : Wider W W' H) {a : Addr} {o : HO} (h : Fr W ρ a) (e : H a = some o) : Fr W' ρ a := ⟨h.1, fun m => by
  rcases w.z a m with z | z
  · exact h.2 z
  · rw [z] at e; cases e⟩
section
variable {W W' : Wd} {ρ : List Addr} {H : Hp}
mutual
theorem Rep.res (w : Wider W W' H) : ∀ {d : D} {v : V}, Rep W ρ H d v → Rep W' ρ H d v
  | .non, _, h => h
  | .bl _, _, h => h
  | .int _, _, h => h
  | .str _, _, h => h
  | .tup ds, v, h => by
    obtain ⟨a, vs, e, q, l, r⟩ := (show ∃ a vs, v = .ref a ∧ SqT W.K H a vs ∧ ds.length ≤ sizeLine ∧ Reps W ρ H ds vs from h)
    exact ⟨a, vs, e, by rw [w.k]; exact q, l, Reps.res w r⟩
  | .lst ds, v, h => by
    obtain ⟨a, vs, e, ⟨q, n⟩, l, r⟩ := (show ∃ a vs, v = .ref a ∧ (H a = some (.lst vs) ∧ Fr W ρ a) ∧ ds.length ≤ sizeLine ∧ Reps W ρ H ds vs from h)
    exact ⟨a, vs, e, ⟨q, fr_res w n q⟩, l, Reps.res w r⟩
  | .scr ds, v, h => by
    obtain ⟨a, vs, e, q, l, r⟩ := (show ∃ a vs, v = .ref a ∧ ((Rd H a (.lst vs) ∧ Fr W ρ a) ∨ KL W.K a vs) ∧ ds.length ≤ sizeLine ∧ Reps W ρ H ds vs from h)
    refine ⟨a, vs, e, ?_, l, Reps.res w r⟩
    rcases q with ⟨q | ⟨o, q⟩, n⟩ | q
    · exact .inl ⟨.inl q, fr_res w n q⟩
    · exact .inl ⟨.inr ⟨o, q⟩, fr_res w n q⟩
    · exact .inr (by rw [w.k]; exact q)
  | .dct ks, v, h => by
    obtain ⟨a, vs, e, ⟨q, n⟩, l, r⟩ := (show ∃ a kvs, v = .ref a ∧ (H a = some (.dK kvs) ∧ Fr W ρ a) ∧ ks.length ≤ sizeLine ∧ RepK W ρ H ks kvs from h)
    exact ⟨a, vs, e, ⟨q, fr_res w n q⟩, l, RepK.res w r⟩
  | .cel k, v, h => h
  | .fn f, v, h => by
    have e : v = .ref (W.Fn f) := h
    show v = .ref (W'.Fn f)
    rw [w.f]; exact e
  | .err q d, v, h => by
    obtain ⟨a, dd, z, e, ⟨h1, n1⟩, ⟨h2, n2⟩, r⟩ := (show ∃ a dd x, v = .ref a ∧ (H a = some (exv a (.ref (W.Fn (clsB + q))) dd) ∧ Fr W ρ a) ∧ (H dd = some (vxd x) ∧ Fr W ρ dd) ∧ Rep W ρ H d x from h)
    exact ⟨a, dd, z, e, ⟨by rw [w.f]; exact h1, fr_res w n1 h1⟩, ⟨h2, fr_res w n2 h2⟩, Rep.res w r⟩
theorem Reps.res (w : Wider W W' H) : ∀ {ds : List D} {vs : List V}, Reps W ρ H ds vs → Reps W' ρ H ds vs
  | [], _, h => h
  | d :: ds, vs, h => by
    obtain ⟨v, r, e, h1, h2⟩ := (show ∃ v r, vs = v :: r ∧ Rep W ρ H d v ∧ Reps W ρ H ds r from h)
    exact ⟨v, r, e, Rep.res w h1, Reps.res w h2⟩
theorem RepK.res (w : Wider W W' H) : ∀ {ds : List (Key × D)} {vs : List (Key × V)}, RepK W ρ H ds vs → RepK W' ρ H ds vs
  | [], _, h => h
  | (k, d) :: ds, vs, h => by
    obtain ⟨v, r, e, h1, h2⟩ := (show ∃ v r, vs = (k, v) :: r ∧ Rep W ρ H d v ∧ RepK W ρ H ds r from h)
    exact ⟨v, r, e, Rep.res w h1, RepK.res w h2⟩
end
end
/-- an extension, whatever becomes of the lists that are being made -/
structure ExtZ (Z : List Addr) (ρ : List Addr) (H : Hp) (ρ' : List Addr) (H' : Hp) : Prop where
  pre : ρ <+: ρ'
  keep : ∀ b o, H b = some o → b ∉ ρ → b ∉ Z → H' b = some o ∧ b ∉ ρ'
theorem Ext.z {Z ρ ρ' : List Addr} {H H' : Hp} (e : Ext ρ H ρ' H') : ExtZ Z ρ H ρ' H' := ⟨e.pre, fun b o h n _ => e.keep b o h n⟩
section
variable {W W' : Wd} {ρ ρ' : List Addr} {η : List C} {H H' : Hp}
theorem sqT_z (s : Sim W ρ η H) (x : ExtZ W.Z ρ H ρ' H') {a : Addr} {vs : List V} (h : SqT W.K H a vs) : SqT W.K H' a vs := by
  have notin : ∀ o, H a = some o → (o = .tup vs ∨ ∃ u, o = .frz u (.tup vs)) → a ∉ ρ ∧ a ∉ W.Z := fun o e z => by
    constructor
    · intro m
      obtain ⟨k, ek⟩ := List.mem_iff_getElem?.mp m
      exact s.ok.notup k a ek ⟨o, vs, e, z⟩
    · intro m
      obtain ⟨⟨ws, ew⟩, _⟩ := s.zed a m
      rw [ew] at e
      cases e
      rcases z with z | ⟨u, z⟩ <;> cases z
  rcases h with (h | ⟨o, h⟩) | h
  · obtain ⟨n1, n2⟩ := notin _ h (.inl rfl)
    exact .inl (.inl (x.keep a _ h n1 n2).1)
  · obtain ⟨n1, n2⟩ := notin _ h (.inr ⟨_, rfl⟩)
    exact .inl (.inr ⟨o, (x.keep a _ h n1 n2).1⟩)
  · exact .inr h
mutual
theorem Rep.resZ (s : Sim W ρ η H) (w : Wider W W' H) (x : ExtZ W.Z ρ H ρ' H') : ∀ {d : D} {v : V}, Rep W ρ H d v → Rep W' ρ' H' d v
  | .non, _, h => h
  | .bl _, _, h => h
  | .int _, _, h => h
  | .str _, _, h => h
  | .tup ds, v, h => by
    obtain ⟨a, vs, e, q, l, r⟩ := (show ∃ a vs, v = .ref a ∧ SqT W.K H a vs ∧ ds.length ≤ sizeLine ∧ Reps W ρ H ds vs from h)
    exact ⟨a, vs, e, by rw [w.k]; exact sqT_z s x q, l, Reps.resZ s w x r⟩
  | .lst ds, v, h => by
    obtain ⟨a, vs, e, ⟨q, n⟩, l, r⟩ := (show ∃ a vs, v = .ref a ∧ (H a = some (.lst vs) ∧ Fr W ρ a) ∧ ds.length ≤ sizeLine ∧ Reps W ρ H ds vs from h)
    obtain ⟨h1, h2⟩ := x.keep a _ q n.1 n.2
    exact ⟨a, vs, e, ⟨h1, h2, (fr_res w n q).2⟩, l, Reps.resZ s w x r⟩
  | .scr ds, v, h => by
    obtain ⟨a, vs, e, q, l, r⟩ := (show ∃ a vs, v = .ref a ∧ ((Rd H a (.lst vs) ∧ Fr W ρ a) ∨ KL W.K a vs) ∧ ds.length ≤ sizeLine ∧ Reps W ρ H ds vs from h)
    refine ⟨a, vs, e, ?_, l, Reps.resZ s w x r⟩
    rcases q with ⟨q | ⟨o, q⟩, n⟩ | q
    · obtain ⟨h1, h2⟩ := x.keep a _ q n.1 n.2
      exact .inl ⟨.inl h1, h2, (fr_res w n q).2⟩
    · obtain ⟨h1, h2⟩ := x.keep a _ q n.1 n.2
      exact .inl ⟨.inr ⟨o, h1⟩, h2, (fr_res w n q).2⟩
    · exact .inr (by rw [w.k]; exact q)
  | .dct ks, v, h => by
    obtain ⟨a, vs, e, ⟨q, n⟩, l, r⟩ := (show ∃ a kvs, v = .ref a ∧ (H a = some (.dK kvs) ∧ Fr W ρ a) ∧ ks.length ≤ sizeLine ∧ RepK W ρ H ks kvs from h)
    obtain ⟨h1, h2⟩ := x.keep a _ q n.1 n.2
    exact ⟨a, vs, e, ⟨h1, h2, (fr_res w n q).2⟩, l, RepK.resZ s w x r⟩
  | .cel k, v, h => by
    obtain ⟨a, e, q⟩ := (show ∃ a, v = .ref a ∧ ρ[k]? = some a from h)
    exact ⟨a, e, pre_get x.pre q⟩
  | .fn f, v, h => by
    have e : v = .ref (W.Fn f) := h
    show v = .ref (W'.Fn f)
    rw [w.f]; exact e
  | .err q d, v, h => by
    obtain ⟨a, dd, z, e, ⟨h1, n1⟩, ⟨h2, n2⟩, r⟩ := (show ∃ a dd x, v = .ref a ∧ (H a = some (exv a (.ref (W.Fn (clsB + q))) dd) ∧ Fr W ρ a) ∧ (H dd = some (vxd x) ∧ Fr W ρ dd) ∧ Rep W ρ H d x from h)
    obtain ⟨k1, k2⟩ := x.keep a _ h1 n1.1 n1.2
    obtain ⟨k3, k4⟩ := x.keep dd _ h2 n2.1 n2.2
    exact ⟨a, dd, z, e, ⟨by rw [w.f]; exact k1, k2, (fr_res w n1 h1).2⟩, ⟨k3, k4, (fr_res w n2 h2).2⟩, Rep.resZ s w x r⟩
theorem Reps.resZ (s : Sim W ρ η H) (w : Wider W W' H) (x : ExtZ W.Z ρ H ρ' H') : ∀ {ds : List D} {vs : List V}, Reps W ρ H ds vs → Reps W' ρ' H' ds vs
  | [], _, h => h
  | d :: ds, vs, h => by
    obtain ⟨v, r, e, h1, h2⟩ := (show ∃ v r, vs = v :: r ∧ Rep W ρ H d v ∧ Reps W ρ H ds r from h)
    exact ⟨v, r, e, Rep.resZ s w x h1, Reps.resZ s w x h2⟩
theorem RepK.resZ (s : Sim W ρ η H) (w : Wider W W' H) (x : ExtZ W.Z ρ H ρ' H') : ∀ {ds : List (Key × D)} {vs : List (Key × V)}, RepK W ρ H ds vs → RepK W' ρ' H' ds vs
  | [], _, h => h
  | (k, d) :: ds, vs, h => by
    obtain ⟨v, r, e, h1, h2⟩ := (show ∃ v r, vs = (k, v) :: r ∧ Rep W ρ H d v ∧ RepK W ρ H ds r from h)
    exact ⟨v, r, e, Rep.resZ s w x h1, RepK.resZ s w x h2⟩
end
theorem EnvR.res {env : Ev} {σ : St} (e : EnvR W ρ H env σ) (w : Wider W W' H) : EnvR W' ρ H env σ := ⟨e.1, fun i d h => let ⟨v, h1, h2⟩ := e.2 i d h; ⟨v, h1, Rep.res w h2⟩⟩
end

section
variable {W : Wd} {ρ ρ' : List Addr} {η η' : List C} {H H' : Hp}
/-! ### ends -/
abbrev XW := Wd → Nat → D → List C → List Addr → Hp → Prop
def Post {α : Type} (W : Wd) (x : XW) (r : R α) (ρ : List Addr) (H : Hp) (k : α → List C → List Addr → Hp → Prop) : Prop := match r with
  | .no => False
  | .ok a η' => ∀ ρ' H', Ext ρ H ρ' H' → Sim W ρ' η' H' → k a η' ρ' H'
  | .exc c d η' => ∀ ρ' H', Ext ρ H ρ' H' → Sim W ρ' η' H' → x W c d η' ρ' H'
variable {x : XW} {α β : Type}
theorem Post.ext {r : R α} {k : α → List C → List Addr → Hp → Prop} (h : Post W x r ρ H k) (e : Ext ρ H ρ' H') : Post W x r ρ' H' k := by
  cases r with
  | no => exact h
  | ok a η1 => exact fun ρ2 H2 e2 s => h ρ2 H2 (e.trans e2) s
  | exc c d η1 => exact fun ρ2 H2 e2 s => h ρ2 H2 (e.trans e2) s
theorem Post.mono {r : R α} {k k' : α → List C → List Addr → Hp → Prop} (h : Post W x r ρ H k) (f : ∀ a η' ρ' H', Ext ρ H ρ' H' → Sim W ρ' η' H' → k a η' ρ' H' → k' a η' ρ' H') : Post W x r ρ H k' := by
  cases r with
  | no => exact h
  | ok a η1 => exact fun ρ2 H2 e2 s => f _ _ _ _ e2 s (h ρ2 H2 e2 s)
  | exc c d η1 => exact h
theorem Post.bind {m : M α} {f : α → M β} {k : β → List C → List Addr → Hp → Prop} (h : Post W x ((m >>= f) η) ρ H k) : Post W x (m η) ρ H (fun a η1 ρ1 H1 => Post W x (f a η1) ρ1 H1 k) := by
  rw [bind_def] at h
  cases e : m η with
  | no => rw [e] at h; exact h
  | ok a η1 =>
    rw [e] at h
    exact fun ρ1 H1 e1 s => Post.ext h e1
  | exc c d η1 => rw [e] at h; exact h
theorem Post.pure {a : α} {k : α → List C → List Addr → Hp → Prop} (h : Post W x ((Pure.pure a : M α) η) ρ H k) (s : Sim W ρ η H) : k a η ρ H := h ρ H .refl s
/-- a result that leaves the cells as they are -/
theorem Post.look {f : List C → Option α} {k : α → List C → List Addr → Hp → Prop} (h : Post W x (MI.look f η) ρ H k) : ∃ a, f η = some a ∧ ∀ ρ' H', Ext ρ H ρ' H' → Sim W ρ' η H' → k a η ρ' H' := by
  unfold MI.look at h
  cases e : f η with
  | none => rw [e] at h; exact h.elim
  | some a => rw [e] at h; exact ⟨a, rfl, h⟩
theorem Post.op {o : Option α} {k : α → List C → List Addr → Hp → Prop} (h : Post W x (MI.op o η) ρ H k) : ∃ a, o = some a ∧ ∀ ρ' H', Ext ρ H ρ' H' → Sim W ρ' η H' → k a η ρ' H' := by
  cases o with
  | none => exact h.elim
  | some a => exact ⟨a, rfl, h⟩
theorem Post.ok {a : α} {η1 : List C} {k : α → List C → List Addr → Hp → Prop} (h : ∀ ρ' H', Ext ρ H ρ' H' → Sim W ρ' η1 H' → k a η1 ρ' H') : Post W x (.ok a η1) ρ H k := h
end

/-- a value's end, a list's, a test's -/
abbrev kkV (W : Wd) (Q : VK) : D → List C → List Addr → Hp → Prop := fun d _ ρ' H' => ∀ v, Rep W ρ' H' d v → Q v H'
abbrev kVs (W : Wd) (Q : List V → Hp → Prop) : List D → List C → List Addr → Hp → Prop := fun ds _ ρ' H' => ∀ vs, Reps W ρ' H' ds vs → Q vs H'
abbrev kB (Q : Bool → Hp → Prop) : Bool → List C → List Addr → Hp → Prop := fun b _ _ H' => Q b H'
/-- a reading by a step over the frame -/
def tM (W : Wd) (x : XW) (m : Ev → M D) : TE := fun σ H Q => ∃ ρ η env, Sim W ρ η H ∧ EnvR W ρ H env σ ∧ Post W x (m env η) ρ H (kkV W Q)
def tMs (W : Wd) (x : XW) (m : Ev → M (List D)) : TA := fun σ H Q => ∃ ρ η env, Sim W ρ η H ∧ EnvR W ρ H env σ ∧ Post W x (m env η) ρ H (kVs W Q)
def tMb (W : Wd) (x : XW) (m : Ev → M Bool) : TT := fun σ H Q => ∃ ρ η env, Sim W ρ η H ∧ EnvR W ρ H env σ ∧ Post W x (m env η) ρ H (kB Q)

/-- the same world, whatever lists are being made -/
def InW (W₀ W : Wd) : Prop := W.K = W₀.K ∧ W.Fn = W₀.Fn
def tE (W₀ : Wd) (x : XW) (m : Ev → M D) : TE := fun σ H Q => ∃ W, InW W₀ W ∧ tM W x m σ H Q
def tEs (W₀ : Wd) (x : XW) (m : Ev → M (List D)) : TA := fun σ H Q => ∃ W, InW W₀ W ∧ tMs W x m σ H Q
def tEb (W₀ : Wd) (x : XW) (m : Ev → M Bool) : TT := fun σ H Q => ∃ W, InW W₀ W ∧ tMb W x m σ H Q
/-! ### judgements weakened -/
/-- what is tracked isn't written by the top -/
def Good (K : PySem.W.Frag) (H : Hp) : Prop := ∀ p o, H p = some o → K.lookup p = none
section
variable {X : Cx}
theorem inv_good {pins : List (Addr × Obj)} {σ : St} {H : Hp} {s : Shared} (I : L2.Inv X pins σ H s) : Good X.K H := fun p o e => by
  cases q : X.K.lookup p with
  | none => rfl
  | some ob =>
    have h := (I.bs p ob (I.ok.mod.kin p ob q)).2
    rw [h] at e; cases e
theorem pe_mono {e : Expr} {t t' : TE} (h : PE X e t) (f : ∀ σ H Q, Good X.K H → t' σ H Q → t σ H Q) : PE X e t' := ⟨fun pins s σ H Q I hw => h.run pins s σ H Q I (f σ H Q (inv_good I) hw)⟩
theorem pt_mono {e : Expr} {t t' : TT} (h : PT X e t) (f : ∀ σ H Q, Good X.K H → t' σ H Q → t σ H Q) : PT X e t' := ⟨fun pins s σ H Q I hw => h.run pins s σ H Q I (f σ H Q (inv_good I) hw)⟩
theorem pw_mono {e : Expr} {t t' : TT} (h : PW X e t) (f : ∀ σ H Q, Good X.K H → t' σ H Q → t σ H Q) : PW X e t' := ⟨fun wh pins s σ H Q I hw => h.run wh pins s σ H Q I (f σ H Q (inv_good I) hw)⟩
theorem pa_mono {e : List Expr} {t t' : TA} (h : PA X e t) (f : ∀ σ H Q, Good X.K H → t' σ H Q → t σ H Q) : PA X e t' := ⟨fun pos pins s σ H Q I hw => h.run pos pins s σ H Q I (f σ H Q (inv_good I) hw)⟩
theorem ps_mono {e : Stmt} {t t' : TS} (h : PS X e t) (f : ∀ D σ H, Good X.K H → t' D σ H → t D σ H) : PS X e t' := ⟨fun pins s σ H D I hw => h.run pins s σ H D I (f D σ H (inv_good I) hw)⟩
theorem pss_mono {e : List Stmt} {t t' : TS} (h : PSs X e t) (f : ∀ D σ H, Good X.K H → t' D σ H → t D σ H) : PSs X e t' := ⟨fun pins s σ H D I hw => h.run pins s σ H D I (f D σ H (inv_good I) hw)⟩
end

/-! ### what is seen -/
section
variable {W : Wd} {ρ ρ' : List Addr} {η η' : List C} {H H' : Hp}
theorem Reps.len : ∀ {ds : List D} {vs : List V}, Reps W ρ H ds vs → vs.length = ds.length
  | [], vs, h => by have e : vs = [] := h; subst e; rfl
  | d :: ds, vs, h => by
    obtain ⟨v, r, e, h1, h2⟩ := (show ∃ v r, vs = v :: r ∧ Rep W ρ H d v ∧ Reps W ρ H ds r from h)
    subst e
    simp [Reps.len h2]
theorem Reps.cons {d : D} {ds : List D} {v : V} {vs : List V} (h1 : Rep W ρ H d v) (h2 : Reps W ρ H ds vs) : Reps W ρ H (d :: ds) (v :: vs) := ⟨v, vs, rfl, h1, h2⟩
theorem Reps.nil : Reps W ρ H [] [] := rfl
theorem Reps.get : ∀ {ds : List D} {vs : List V} {i : Nat} {d : D}, Reps W ρ H ds vs → ds[i]? = some d → ∃ v, vs[i]? = some v ∧ Rep W ρ H d v
  | [], _, _, _, _, e => by simp at e
  | d :: ds, vs, 0, d', h, e => by
    obtain ⟨v, r, e1, h1, h2⟩ := (show ∃ v r, vs = v :: r ∧ Rep W ρ H d v ∧ Reps W ρ H ds r from h)
    subst e1
    simp at e
    subst e
    exact ⟨v, rfl, h1⟩
  | d :: ds, vs, i + 1, d', h, e => by
    obtain ⟨v, r, e1, h1, h2⟩ := (show ∃ v r, vs = v :: r ∧ Rep W ρ H d v ∧ Reps W ρ H ds r from h)
    subst e1
    obtain ⟨u, h3, h4⟩ := Reps.get (i := i) (d := d') h2 (by simpa using e)
    exact ⟨u, by simpa using h3, h4⟩
theorem Reps.app : ∀ {ds es : List D} {vs ws : List V}, Reps W ρ H ds vs → Reps W ρ H es ws → Reps W ρ H (ds ++ es) (vs ++ ws)
  | [], _, vs, _, h, g => by have e : vs = [] := h; subst e; exact g
  | d :: ds, es, vs, ws, h, g => by
    obtain ⟨v, r, e, h1, h2⟩ := (show ∃ v r, vs = v :: r ∧ Rep W ρ H d v ∧ Reps W ρ H ds r from h)
    subst e
    exact ⟨v, r ++ ws, rfl, h1, Reps.app h2 g⟩
theorem Reps.take : ∀ {ds : List D} {vs : List V} (n : Nat), Reps W ρ H ds vs → Reps W ρ H (ds.take n) (vs.take n)
  | _, _, 0, _ => by simp; exact Reps.nil
  | [], vs, n + 1, h => by have e : vs = [] := h; subst e; exact Reps.nil
  | d :: ds, vs, n + 1, h => by
    obtain ⟨v, r, e, h1, h2⟩ := (show ∃ v r, vs = v :: r ∧ Rep W ρ H d v ∧ Reps W ρ H ds r from h)
    subst e
    exact ⟨v, r.take n, rfl, h1, Reps.take n h2⟩
theorem Reps.drop : ∀ {ds : List D} {vs : List V} (n : Nat), Reps W ρ H ds vs → Reps W ρ H (ds.drop n) (vs.drop n)
  | _, _, 0, h => h
  | [], vs, n + 1, h => by have e : vs = [] := h; subst e; exact Reps.nil
  | d :: ds, vs, n + 1, h => by
    obtain ⟨v, r, e, h1, h2⟩ := (show ∃ v r, vs = v :: r ∧ Rep W ρ H d v ∧ Reps W ρ H ds r from h)
    subst e
    exact Reps.drop n h2
theorem Reps.rev : ∀ {ds : List D} {vs : List V}, Reps W ρ H ds vs → Reps W ρ H ds.reverse vs.reverse
  | [], vs, h => by have e : vs = [] := h; subst e; exact Reps.nil
  | d :: ds, vs, h => by
    obtain ⟨v, r, e, h1, h2⟩ := (show ∃ v r, vs = v :: r ∧ Rep W ρ H d v ∧ Reps W ρ H ds r from h)
    subst e
    rw [List.reverse_cons, List.reverse_cons]
    exact Reps.app (Reps.rev h2) (Reps.cons h1 Reps.nil)
theorem Reps.flat (n : Nat) {ds : List D} {vs : List V} (h : Reps W ρ H ds vs) : Reps W ρ H (List.replicate n ds).flatten (List.replicate n vs).flatten := by
  induction n with
  | zero => exact Reps.nil
  | succ n ih =>
    rw [List.replicate_succ, List.replicate_succ, List.flatten_cons, List.flatten_cons]
    exact Reps.app h ih
theorem Reps.set : ∀ {ds : List D} {vs : List V} {d : D} {v : V} (i : Nat), Reps W ρ H ds vs → Rep W ρ H d v → Reps W ρ H (ds.set i d) (vs.set i v)
  | [], vs, _, _, _, h, _ => by have e : vs = [] := h; subst e; exact Reps.nil
  | d0 :: ds, vs, d, v, 0, h, g => by
    obtain ⟨w, r, e, h1, h2⟩ := (show ∃ v r, vs = v :: r ∧ Rep W ρ H d0 v ∧ Reps W ρ H ds r from h)
    subst e
    exact Reps.cons g h2
  | d0 :: ds, vs, d, v, i + 1, h, g => by
    obtain ⟨w, r, e, h1, h2⟩ := (show ∃ v r, vs = v :: r ∧ Rep W ρ H d0 v ∧ Reps W ρ H ds r from h)
    subst e
    exact Reps.cons h1 (Reps.set i h2 g)
/-- a list that was made here and may be read -/
theorem see_lst (s : Sim W ρ η H) {d : D} {v : V} {xs : List D} (r : Rep W ρ H d v) (e : view η d = .lst xs) : ∃ a vs, v = .ref a ∧ H a = some (.lst vs) ∧ xs.length ≤ sizeLine ∧ Reps W ρ H xs vs := by
  cases d with
  | lst ys =>
    have e1 : ys = xs := by simpa [view] using e
    subst e1
    obtain ⟨a, vs, e, ⟨q, n⟩, l, r⟩ := (show ∃ a vs, v = .ref a ∧ (H a = some (.lst vs) ∧ Fr W ρ a) ∧ ys.length ≤ sizeLine ∧ Reps W ρ H ys vs from r)
    exact ⟨a, vs, e, q, l, r⟩
  | cel k =>
    obtain ⟨a, e1, q⟩ := (show ∃ a, v = .ref a ∧ ρ[k]? = some a from r)
    obtain ⟨c, hc⟩ := s.cell q
    have z := s.at_ k a c q hc
    simp only [view, hc] at e
    cases c with
    | lst ys =>
      have e2 : ys = xs := by simpa using e
      subst e2
      obtain ⟨vs, z1, z2, z3⟩ := z
      exact ⟨a, vs, e1, z1, z2, z3⟩
    | dct ks => cases e
  | _ => simp [view] at e
theorem see_tup {d : D} {v : V} {xs : List D} (r : Rep W ρ H d v) (e : view η d = .tup xs) : ∃ a vs, v = .ref a ∧ SqT W.K H a vs ∧ xs.length ≤ sizeLine ∧ Reps W ρ H xs vs := by
  cases d with
  | tup ys =>
    have e1 : ys = xs := by simpa [view] using e
    subst e1
    exact r
  | cel k =>
    simp only [view] at e
    split at e <;> cases e
  | _ => simp [view] at e
theorem see_scr {d : D} {v : V} {xs : List D} (r : Rep W ρ H d v) (e : view η d = .scr xs) : ∃ a vs, v = .ref a ∧ SqL W.K H a vs ∧ xs.length ≤ sizeLine ∧ Reps W ρ H xs vs := by
  cases d with
  | scr ys =>
    have e1 : ys = xs := by simpa [view] using e
    subst e1
    obtain ⟨a, vs, e, q, l, r⟩ := (show ∃ a vs, v = .ref a ∧ ((Rd H a (.lst vs) ∧ Fr W ρ a) ∨ KL W.K a vs) ∧ ys.length ≤ sizeLine ∧ Reps W ρ H ys vs from r)
    refine ⟨a, vs, e, ?_, l, r⟩
    rcases q with q | q
    · exact .inl q.1
    · exact .inr q
  | cel k =>
    simp only [view] at e
    split at e <;> cases e
  | _ => simp [view] at e
theorem see_str {d : D} {v : V} {x : Str} (r : Rep W ρ H d v) (e : view η d = .str x) : v = .str x ∧ x.length ≤ sizeLine := by
  cases d with
  | str y =>
    have e1 : y = x := by simpa [view] using e
    subst e1
    exact r
  | cel k =>
    simp only [view] at e
    split at e <;> cases e
  | _ => simp [view] at e
theorem see_dct (s : Sim W ρ η H) {d : D} {v : V} {ks : List (Key × D)} (r : Rep W ρ H d v) (e : view η d = .dct ks) : ∃ a kvs, v = .ref a ∧ H a = some (.dK kvs) ∧ RepK W ρ H ks kvs := by
  cases d with
  | dct ys =>
    have e1 : ys = ks := by simpa [view] using e
    subst e1
    obtain ⟨a, vs, e, ⟨q, n⟩, l, r⟩ := (show ∃ a kvs, v = .ref a ∧ (H a = some (.dK kvs) ∧ Fr W ρ a) ∧ ys.length ≤ sizeLine ∧ RepK W ρ H ys kvs from r)
    exact ⟨a, vs, e, q, r⟩
  | cel k =>
    obtain ⟨a, e1, q⟩ := (show ∃ a, v = .ref a ∧ ρ[k]? = some a from r)
    obtain ⟨c, hc⟩ := s.cell q
    have z := s.at_ k a c q hc
    simp only [view, hc] at e
    cases c with
    | lst ys => cases e
    | dct ys =>
      have e2 : ys = ks := by simpa using e
      subst e2
      obtain ⟨vs, z1, z2, z3⟩ := z
      exact ⟨a, vs, e1, z1, z3⟩
  | _ => simp [view] at e
mutual
theorem dp_of : ∀ {d : D} {v : V} {p : PyData}, Rep W ρ H d v → py d = some p → Dp W.K H v p
  | .non, v, p, r, e => by
    have r : v = .non := r
    simp [py] at e; subst e; subst r; exact .non
  | .bl b, v, p, r, e => by
    have r : v = .bl b := r
    simp [py] at e; subst e; subst r; exact .bl b
  | .int i, v, p, r, e => by
    have r : v = .int i := r
    simp [py] at e; subst e; subst r; exact .int i
  | .str x, v, p, r, e => by
    have r : v = .str x ∧ _ := r
    obtain ⟨r, _⟩ := r
    simp [py] at e; subst e; subst r; exact .str x
  | .tup ds, v, p, r, e => by
    obtain ⟨a, vs, e1, q, l, r'⟩ := (show ∃ a vs, v = .ref a ∧ SqT W.K H a vs ∧ ds.length ≤ sizeLine ∧ Reps W ρ H ds vs from r)
    simp only [py, Option.map_eq_some_iff] at e
    obtain ⟨ps, e2, e3⟩ := e
    subst e1; subst e3
    exact .tup q (dps_of r' e2)
  | .lst ds, v, p, r, e => by
    obtain ⟨a, vs, e1, ⟨q, n⟩, l, r'⟩ := (show ∃ a vs, v = .ref a ∧ (H a = some (.lst vs) ∧ Fr W ρ a) ∧ ds.length ≤ sizeLine ∧ Reps W ρ H ds vs from r)
    simp only [py, Option.map_eq_some_iff] at e
    obtain ⟨ps, e2, e3⟩ := e
    subst e1; subst e3
    exact .lst (SqL.of q) (dps_of r' e2)
  | .scr _, _, _, _, e => by simp [py] at e
  | .dct _, _, _, _, e => by simp [py] at e
  | .cel _, _, _, _, e => by simp [py] at e
  | .fn _, _, _, _, e => by simp [py] at e
  | .err _ _, _, _, _, e => by simp [py] at e
theorem dps_of : ∀ {ds : List D} {vs : List V} {ps : List PyData}, Reps W ρ H ds vs → pys ds = some ps → DpAll W.K H vs ps
  | [], vs, ps, h, e => by
    have e1 : vs = [] := h
    simp [pys] at e
    subst e1; subst e
    exact .nil
  | d :: ds, vs, ps, h, e => by
    obtain ⟨v, r, e1, h1, h2⟩ := (show ∃ v r, vs = v :: r ∧ Rep W ρ H d v ∧ Reps W ρ H ds r from h)
    subst e1
    simp only [pys] at e
    cases c1 : py d with
    | none => rw [c1] at e; cases e
    | some p =>
      cases c2 : pys ds with
      | none => rw [c1, c2] at e; cases e
      | some ps' =>
        rw [c1, c2] at e
        cases e
        exact .cons (dp_of h1 c1) (dps_of h2 c2)
end
theorem see_dp (s : Sim W ρ η H) {d : D} {v : V} {p : PyData} (r : Rep W ρ H d v) (e : py (view η d) = some p) : Dp W.K H v p := by
  cases d with
  | cel k =>
    cases c : view η (.cel k) with
    | lst xs =>
      obtain ⟨a, vs, e1, q, l, r'⟩ := see_lst s r c
      rw [c] at e
      simp only [py, Option.map_eq_some_iff] at e
      obtain ⟨ps, e2, e3⟩ := e
      subst e1; subst e3
      exact .lst (SqL.of q) (dps_of r' e2)
    | dct ks => rw [c] at e; simp [py] at e
    | cel k' => rw [c] at e; simp [py] at e
    | _ =>
      exfalso
      simp only [view] at c
      split at c <;> cases c
  | _ => exact dp_of r (by simpa [view] using e)
end
end MI
end
/-! MSa -/
section
set_option linter.all false
set_option maxRecDepth 100000
set_option maxHeartbeats 4000000
/-! Nested keys: their order, as the model has it. -/
namespace MI
open PySem PySem.SeqAt L2

mutual
/-- k < l, where it is decided between ints, between texts, between tuples -/
def ltK : NestedKey → NestedKey → Option Bool
  | .num i, .num j => some (decide (i < j))
  | .text x, .text y => some (decide (x.cps.toList < y.cps.toList))
  | .tup xs, .tup ys => ltKs xs ys
  | _, _ => none
def ltKs : List NestedKey → List NestedKey → Option Bool
  | [], [] => some false
  | [], _ :: _ => some true
  | _ :: _, [] => some false
  | x :: xs, y :: ys => if NestedKey.beq x y then ltKs xs ys else ltK x y
end
mutual
def kd : D → Option NestedKey
  | .int i => some (.num i)
  | .str x => some (.text x)
  | .tup xs => (kds xs).map .tup
  | _ => none
def kds : List D → Option (List NestedKey)
  | [] => some []
  | x :: xs => match kd x, kds xs with
    | some k, some ks => some (k :: ks)
    | _, _ => none
end
theorem kds_cons {x : D} {xs : List D} {l : List NestedKey} (h : kds (x :: xs) = some l) : ∃ k ks, kd x = some k ∧ kds xs = some ks ∧ l = k :: ks := by
  unfold kds at h
  split at h
  · rename_i k ks h1 h2
    cases h
    exact ⟨k, ks, h1, h2, rfl⟩
  · cases h
mutual
theorem beq_kd : ∀ {d e : D} {k l : NestedKey}, kd d = some k → kd e = some l → beqD d e = NestedKey.beq k l
  | .int i, e, k, l, h1, h2 => by
    simp [kd] at h1
    subst h1
    cases e <;> simp [kd] at h2
    · subst h2; simp [beqD, NestedKey.beq]
    · subst h2; simp [beqD, NestedKey.beq]
    · obtain ⟨a, _, e⟩ := h2; subst e; simp [beqD, NestedKey.beq]
  | .str i, e, k, l, h1, h2 => by
    simp [kd] at h1
    subst h1
    cases e <;> simp [kd] at h2
    · subst h2; simp [beqD, NestedKey.beq]
    · subst h2; simp [beqD, NestedKey.beq]
    · obtain ⟨a, _, e⟩ := h2; subst e; simp [beqD, NestedKey.beq]
  | .tup xs, e, k, l, h1, h2 => by
    simp only [kd, Option.map_eq_some_iff] at h1
    obtain ⟨ks, h1, e1⟩ := h1
    subst e1
    cases e <;> simp [kd] at h2
    · subst h2; simp [beqD, NestedKey.beq]
    · subst h2; simp [beqD, NestedKey.beq]
    · obtain ⟨ls, h2, e2⟩ := h2
      subst e2
      simp only [beqD, NestedKey.beq]
      exact beq_kds h1 h2
  | .non, _, _, _, h1, _ => by simp [kd] at h1
  | .bl _, _, _, _, h1, _ => by simp [kd] at h1
  | .lst _, _, _, _, h1, _ => by simp [kd] at h1
  | .scr _, _, _, _, h1, _ => by simp [kd] at h1
  | .dct _, _, _, _, h1, _ => by simp [kd] at h1
  | .cel _, _, _, _, h1, _ => by simp [kd] at h1
  | .fn _, _, _, _, h1, _ => by simp [kd] at h1
  | .err _ _, _, _, _, h1, _ => by simp [kd] at h1
theorem beq_kds : ∀ {xs ys : List D} {ks ls : List NestedKey}, kds xs = some ks → kds ys = some ls → beqDs xs ys = NestedKey.beqAll ks ls
  | [], [], ks, ls, h1, h2 => by
    simp [kds] at h1 h2
    subst h1; subst h2; simp [beqDs, NestedKey.beqAll]
  | [], y :: ys, ks, ls, h1, h2 => by
    simp [kds] at h1
    obtain ⟨l, ls', _, _, e⟩ := kds_cons h2
    subst h1; subst e; simp [beqDs, NestedKey.beqAll]
  | x :: xs, [], ks, ls, h1, h2 => by
    simp [kds] at h2
    obtain ⟨k, ks', _, _, e⟩ := kds_cons h1
    subst h2; subst e; simp [beqDs, NestedKey.beqAll]
  | x :: xs, y :: ys, ks, ls, h1, h2 => by
    obtain ⟨k, ks', a1, a2, e⟩ := kds_cons h1
    obtain ⟨l, ls', b1, b2, e'⟩ := kds_cons h2
    subst e; subst e'
    simp only [beqDs, NestedKey.beqAll]
    rw [beq_kd a1 b1, beq_kds a2 b2]
end
mutual
theorem lt_kd : ∀ {d e : D} {k l : NestedKey}, kd d = some k → kd e = some l → ltD d e = ltK k l
  | .int i, e, k, l, h1, h2 => by
    simp [kd] at h1
    subst h1
    cases e <;> simp [kd] at h2
    · subst h2; simp [ltD, ltK]
    · subst h2; simp [ltD, ltK]
    · obtain ⟨a, _, e⟩ := h2; subst e; simp [ltD, ltK]
  | .str i, e, k, l, h1, h2 => by
    simp [kd] at h1
    subst h1
    cases e <;> simp [kd] at h2
    · subst h2; simp [ltD, ltK]
    · subst h2; simp [ltD, ltK]
    · obtain ⟨a, _, e⟩ := h2; subst e; simp [ltD, ltK]
  | .tup xs, e, k, l, h1, h2 => by
    simp only [kd, Option.map_eq_some_iff] at h1
    obtain ⟨ks, h1, e1⟩ := h1
    subst e1
    cases e <;> simp [kd] at h2
    · subst h2; simp [ltD, ltK]
    · subst h2; simp [ltD, ltK]
    · obtain ⟨ls, h2, e2⟩ := h2
      subst e2
      simp only [ltD, ltK]
      exact lt_kds h1 h2
  | .non, _, _, _, h1, _ => by simp [kd] at h1
  | .bl _, _, _, _, h1, _ => by simp [kd] at h1
  | .lst _, _, _, _, h1, _ => by simp [kd] at h1
  | .scr _, _, _, _, h1, _ => by simp [kd] at h1
  | .dct _, _, _, _, h1, _ => by simp [kd] at h1
  | .cel _, _, _, _, h1, _ => by simp [kd] at h1
  | .fn _, _, _, _, h1, _ => by simp [kd] at h1
  | .err _ _, _, _, _, h1, _ => by simp [kd] at h1
theorem lt_kds : ∀ {xs ys : List D} {ks ls : List NestedKey}, kds xs = some ks → kds ys = some ls → ltDs xs ys = ltKs ks ls
  | [], [], ks, ls, h1, h2 => by
    simp [kds] at h1 h2
    subst h1; subst h2; simp [ltDs, ltKs]
  | [], y :: ys, ks, ls, h1, h2 => by
    simp [kds] at h1
    obtain ⟨l, ls', _, _, e⟩ := kds_cons h2
    subst h1; subst e; simp [ltDs, ltKs]
  | x :: xs, [], ks, ls, h1, h2 => by
    simp [kds] at h2
    obtain ⟨k, ks', _, _, e⟩ := kds_cons h1
    subst h2; subst e; simp [ltDs, ltKs]
  | x :: xs, y :: ys, ks, ls, h1, h2 => by
    obtain ⟨k, ks', a1, a2, e⟩ := kds_cons h1
    obtain ⟨l, ls', b1, b2, e'⟩ := kds_cons h2
    subst e; subst e'
    simp only [ltDs, ltKs]
    rw [beq_kd a1 b1, lt_kd a1 b1, lt_kds a2 b2]
end
/-! ### in the heap -/
mutual
theorem nest_of {X : Cx} {pins : List (Addr × Obj)} {σ : L2.St} {W : Wd} {ρ : List Addr} {H : Hp} {s : Shared} (I : L2.Inv X pins σ H s) (hK : W.K = X.K) : ∀ {d : D} {v : V} {u : Value} {k : NestedKey}, Rep W ρ H d v → RelV v u → kd d = some k → NestedIs s.heap k u
  | .int i, v, u, k, r, ru, e => by
    have r : v = .int i := r
    subst r
    simp [kd] at e
    subst e
    obtain ⟨t, rfl⟩ := ru
    exact .int i t
  | .str x, v, u, k, r, ru, e => by
    have r : v = .str x := (show v = .str x ∧ _ from r).1
    subst r
    simp [kd] at e
    subst e
    obtain ⟨t, rfl⟩ := ru
    exact .text x t
  | .tup xs, v, u, k, r, ru, e => by
    obtain ⟨a, vs, ev, q, l, rr⟩ := (show ∃ a vs, v = .ref a ∧ SqT W.K H a vs ∧ xs.length ≤ sizeLine ∧ Reps W ρ H xs vs from r)
    subst ev
    cases ru
    simp only [kd, Option.map_eq_some_iff] at e
    obtain ⟨ks, e, ek⟩ := e
    subst ek
    rw [hK] at q
    obtain ⟨its, rv, ⟨o, ho, hc, n, hd⟩, _⟩ := I.tuple q
    exact .tup ho hc hd (nests_of I hK rr (by simpa using rv) e)
  | .non, _, _, _, _, _, e => by simp [kd] at e
  | .bl _, _, _, _, _, _, e => by simp [kd] at e
  | .lst _, _, _, _, _, _, e => by simp [kd] at e
  | .scr _, _, _, _, _, _, e => by simp [kd] at e
  | .dct _, _, _, _, _, _, e => by simp [kd] at e
  | .cel _, _, _, _, _, _, e => by simp [kd] at e
  | .fn _, _, _, _, _, _, e => by simp [kd] at e
  | .err _ _, _, _, _, _, _, e => by simp [kd] at e
theorem nests_of {X : Cx} {pins : List (Addr × Obj)} {σ : L2.St} {W : Wd} {ρ : List Addr} {H : Hp} {s : Shared} (I : L2.Inv X pins σ H s) (hK : W.K = X.K) : ∀ {ds : List D} {vs : List V} {us : List Value} {ks : List NestedKey}, Reps W ρ H ds vs → Vals vs us → kds ds = some ks → NestedAll s.heap ks us
  | [], vs, us, ks, r, ru, e => by
    have r : vs = [] := r
    subst r
    cases ru
    simp [kds] at e
    subst e
    exact .nil
  | d :: ds, vs, us, ks, r, ru, e => by
    obtain ⟨v, r', ev, h1, h2⟩ := (show ∃ v r, vs = v :: r ∧ Rep W ρ H d v ∧ Reps W ρ H ds r from r)
    subst ev
    obtain ⟨k, ks', a1, a2, ek⟩ := kds_cons e
    subst ek
    cases ru with
    | cons ra rb => exact .cons (nest_of I hK h1 ra a1) (nests_of I hK h2 rb a2)
end
/-! ### a < b of nested tuples -/
abbrev ltAt (xs ys : List NestedKey) (j : Nat) : Bool := (ltK (xs.getD j .none) (ys.getD j .none)).getD false
theorem first_lt : ∀ (xs ys : List NestedKey) (r : Bool), ltKs xs ys = some r → firstLt (keyEqAt xs ys) (ltAt xs ys) (decide (xs.length < ys.length)) (List.range (min xs.length ys.length)) = r
  | [], [], r, h => by simp [ltKs] at h; subst h; rfl
  | [], _ :: _, r, h => by simp [ltKs] at h; subst h; simp [firstLt]
  | _ :: _, [], r, h => by simp [ltKs] at h; subst h; simp [firstLt]
  | x :: xs, y :: ys, r, h => by
    have e1 : min (x :: xs).length (y :: ys).length = min xs.length ys.length + 1 := by simp only [List.length_cons]; omega
    have e2 : decide ((x :: xs).length < (y :: ys).length) = decide (xs.length < ys.length) := by simp
    rw [e1, e2, List.range_succ_eq_map]
    have key : ∀ (e r : Nat → Bool) (fin : Bool) (l : List Nat), firstLt e r fin (l.map Nat.succ) = firstLt (fun j => e (j + 1)) (fun j => r (j + 1)) fin l := by
      intro e r fin l
      induction l with
      | nil => rfl
      | cons a l ih => simp only [List.map_cons, firstLt, ih]
    simp only [ltKs] at h
    by_cases hb : NestedKey.beq x y = true
    · rw [if_pos hb] at h
      rw [firstLt_yes (by simpa [keyEqAt] using hb), key]
      exact first_lt xs ys r h
    · rw [if_neg hb] at h
      rw [firstLt_no (by simpa [keyEqAt] using hb)]
      simp [ltAt, h]
/-- which places are compared -/
theorem first_lt_ok : ∀ (xs ys : List NestedKey) (r : Bool), ltKs xs ys = some r → ∀ j, j < xs.length → j < ys.length → keyEqAt xs ys j = false → (∀ i, i < j → keyEqAt xs ys i = true) → ∃ b, ltK (xs.getD j .none) (ys.getD j .none) = some b
  | [], _, _, _, j, h1, _, _, _ => absurd h1 (Nat.not_lt_zero _)
  | _ :: _, [], _, _, j, _, h2, _, _ => absurd h2 (Nat.not_lt_zero _)
  | x :: xs, y :: ys, r, h, 0, h1, h2, h3, h4 => by
    simp only [ltKs] at h
    have h3 : NestedKey.beq x y = false := h3
    rw [h3] at h
    exact ⟨r, h⟩
  | x :: xs, y :: ys, r, h, j + 1, h1, h2, h3, h4 => by
    simp only [ltKs] at h
    have h0 : NestedKey.beq x y = true := h4 0 (Nat.succ_pos _)
    rw [if_pos h0] at h
    exact first_lt_ok xs ys r h j (by simpa using h1) (by simpa using h2) h3 fun i hi => h4 (i + 1) (by omega)
end MI
end
/-! MSb -/
section
set_option linter.all false
set_option maxRecDepth 100000
set_option maxHeartbeats 4000000
/-! a < b of nested tuples, up to the first places that differ. -/
namespace MI
open PySem PySem.SeqAt
open AutoSeq1 (wpAny_loadPart')
open MeetsSeq MeetsSeq2 MeetsSeq3 SeqRoads2

/-- only the first place that differs is asked -/
theorem tup_less (l b : Addr) (us ws : Array Value) (n m : Nat) (du dw : Option Addr) (su sw : Array (Option Value)) (e r : Nat → Bool) :
    Meets (Builtin.«tuple.__lt__» ⟨[.ref l, .ref b], []⟩) (fun A R s =>
      s.heap.get? l = some ⟨.type "tuple", du, .seq us n, su⟩ ∧ s.heap.get? b = some ⟨.type "tuple", dw, .seq ws m, sw⟩ ∧ (∀ j (h1 : j < us.size) (h2 : j < ws.size), (∀ i, i < j → e i = true) → EqAt A.in1 s us[j] ws[j] (e j)) ∧
      (∀ j (h1 : j < us.size) (h2 : j < ws.size), e j = false → (∀ i, i < j → e i = true) → RcLt A.in1 s us[j] ws[j] (r j)) ∧ R (.ok (.ret (.bool (firstLt e r (decide (us.size < ws.size)) (List.range (min us.size ws.size)))))) s) :=
  .of_wp fun P w A R s ⟨atL, atB, eqs, lts, fin⟩ => by
    obtain ⟨hp, g, d, tk, os⟩ := s
    have sub2 := AutoSeq1.sub_tuple_tuple
    have len : (us.toList.zip ws.toList).length = min us.size ws.size := by simp
    wp_walk using wpAny_loadPart' atL, wpAny_loadPart' atB, wpAny_forIn_list _ (fun todo c s' => c.1 = none ∧ s' = ⟨hp, g, d, tk, os⟩ ∧ ∃ k, todo = (us.toList.zip ws.toList).drop k ∧ (∀ i, i < k → e i = true) ∧
      R (.ok (.ret (.bool (firstLt e r (decide (us.size < ws.size)) ((List.range (min us.size ws.size)).drop k))))) ⟨hp, g, d, tk, os⟩) _
    case turn =>
      rintro ⟨p, q⟩ todo c s' ⟨_, rfl, k, et, pre, hR⟩
      have hk : k < (us.toList.zip ws.toList).length := Nat.lt_of_not_le fun z => by rw [List.drop_of_length_le z] at et; cases et
      have hm := len ▸ hk
      have k1 : k < us.size := by omega
      have k2 : k < ws.size := by omega
      rw [List.drop_eq_getElem_cons hk] at et
      obtain ⟨epq, er⟩ := List.cons.inj et
      have ep : p = us[k] := by simpa using congrArg Prod.fst epq
      have eq : q = ws[k] := by simpa using congrArg Prod.snd epq
      subst ep eq
      have next : (List.range (min us.size ws.size)).drop k = k :: (List.range (min us.size ws.size)).drop (k + 1) := by simp [List.drop_eq_getElem_cons, hm]
      rw [next] at hR
      refine wpAny_bind (eqs k k1 k2 pre P w _ _ ?_)
      cases ek : e k with
      | true =>
        rw [firstLt_yes ek] at hR
        wp_walk
        refine ⟨rfl, rfl, k + 1, er, fun i hi => ?_, hR⟩
        rcases Nat.lt_succ_iff_lt_or_eq.mp hi with z | z
        · exact pre i z
        · rw [z]; exact ek
      | false =>
        rw [firstLt_no ek] at hR
        have hlt := fun Q E => lts k k1 k2 ek pre P w Q E
        revert hlt
        generalize richCompare CmpOp.Lt us[k] ws[k] = mm
        intro hlt
        wp_walk
        refine hlt _ _ ?_
        wp_walk
        exact ⟨_, rfl, hR⟩
    case fin =>
      rintro ⟨c1, c2⟩ s' ⟨hc, rfl, k, et, _, hR⟩
      simp only at hc
      subst hc
      have hge : min us.size ws.size ≤ k := Nat.le_of_not_lt fun z => by
        rw [← len] at z
        rw [List.drop_eq_getElem_cons z] at et
        cases et
      rw [List.drop_of_length_le (by simpa using hge)] at hR
      wp_walk
      exact ⟨_, rfl, by simpa [Builtin.Tuple.tupleCompareSizes, firstLt] using hR⟩
    case h => exact ⟨rfl, rfl, 0, rfl, fun i hi => absurd hi (Nat.not_lt_zero i), by simpa using fin⟩
theorem rcLt_tup {A : Around} {s : Shared} {l b : Addr} {us ws : Array Value} {e r : Nat → Bool} (hl : s.heap.IsTuple l us) (hb : s.heap.IsTuple b ws) (room : A.units < cLine)
    (eqs : ∀ j (h1 : j < us.size) (h2 : j < ws.size), (∀ i, i < j → e i = true) → EqAt A.in1 s us[j] ws[j] (e j)) (lts : ∀ j (h1 : j < us.size) (h2 : j < ws.size), e j = false → (∀ i, i < j → e i = true) → RcLt A.in1 s us[j] ws[j] (r j)) :
    RcLt A s (.ref l) (.ref b) (firstLt e r (decide (us.size < ws.size)) (List.range (min us.size ws.size))) := fun P w E Q h => by
  obtain ⟨⟨cl, du, da, su⟩, ho, hc, n, hd⟩ := id hl
  obtain ⟨⟨cl2, dw, db, sw⟩, ho2, hc2, m, hd2⟩ := id hb
  simp only at hc hd hc2 hd2
  subst hc hd hc2 hd2
  exact richCompare_meets_room (op := .Lt) ⟨_, ho, rfl⟩ ⟨_, ho2, rfl⟩ F.slot_tuple_lt F.entry_tuple_lt (F.args_tuple_lt_2 _ _) (tup_less l b us ws n m du dw su sw e r) ⟨ho, ho2, eqs, lts, (fun z => nomatch z), h⟩ room
mutual
/-- no truth value stands there -/
def noB (h : Heap) : NestedKey → Value → Prop
  | .tup ks, v => ∃ a o vs n, v = .ref a ∧ h.get? a = some o ∧ o.data = .seq vs n ∧ noBs h ks vs.toList
  | _, v => ∀ b, v ≠ .bool b
def noBs (h : Heap) : List NestedKey → List Value → Prop
  | k :: ks, v :: vs => noB h k v ∧ noBs h ks vs
  | _, _ => True
end
mutual
theorem rcLt_key : ∀ (x y : NestedKey) (c : Bool) (A : Around) (s : Shared) (a b : Value), NestedIs s.heap x a → NestedIs s.heap y b → noB s.heap x a → noB s.heap y b → ltK x y = some c → A.units + min x.depth y.depth < cLine → RcLt A s a b c
  | .num i, .num j, c, A, s, a, b, ha, hb, na, nb, e, hu => fun pg w E Q h => by
    simp [ltK] at e
    subst e
    cases ha with
    | int _ t =>
      cases hb with
      | int _ t' => exact PySem.P.lt_int h
      | bool z => exact absurd rfl (nb _)
    | bool z => exact absurd rfl (na _)
  | .text x, .text y, c, A, s, a, b, ha, hb, na, nb, e, hu => fun pg w E Q h => by
    simp only [ltK, Option.some.injEq] at e
    subst e
    cases ha with
    | text _ t => cases hb with | text _ t' => exact PyProof.Rows.lt_str h
  | .tup xs, .tup ys, c, A, s, a, b, ha, hb, na, nb, e, hu => by
    simp only [ltK] at e
    cases ha with
    | @tup l o vs n _ h1 h2 h3 h4 =>
      cases hb with
      | @tup l' o' vs' n' _ k1 k2 k3 k4 =>
        obtain ⟨a1, o1, v1, m1, ea1, eo1, ed1, na⟩ := na
        cases ea1
        rw [h1] at eo1
        cases eo1
        rw [h3] at ed1
        cases ed1
        obtain ⟨a2, o2, v2, m2, ea2, eo2, ed2, nb⟩ := nb
        cases ea2
        rw [k1] at eo2
        cases eo2
        rw [k3] at ed2
        cases ed2
        have n1 : vs.size = xs.length := by simpa using NestedAll.length _ _ h4
        have n2 : vs'.size = ys.length := by simpa using NestedAll.length _ _ k4
        have fl := first_lt xs ys c e
        rw [← n1, ← n2] at fl
        rw [← fl]
        simp only [NestedKey.depth] at hu
        refine rcLt_tup ⟨_, h1, h2, _, h3⟩ ⟨_, k1, k2, _, k3⟩ (by omega) (fun j j1 j2 _ => ?_) fun j j1 j2 ej pre => ?_
        · have q := eqAt_keys xs ys A.in1 s vs.toList vs'.toList h4 k4 (by show A.units + 1 + _ < _; omega) j (by simpa using j1) (by simpa using j2)
          simpa using q
        · obtain ⟨bb, eb⟩ := first_lt_ok xs ys c e j (by omega) (by omega) ej pre
          have q := rcLt_keys xs ys A.in1 s vs.toList vs'.toList h4 k4 na nb (by show A.units + 1 + _ < _; omega) j (by simpa using j1) (by simpa using j2) bb eb
          have e3 : ltAt xs ys j = bb := by unfold ltAt; rw [eb]; rfl
          rw [e3]
          simpa using q
  | .none, _, _, _, _, _, _, _, _, _, _, e, _ => by simp [ltK] at e
  | .num _, .none, _, _, _, _, _, _, _, _, _, e, _ => by simp [ltK] at e
  | .num _, .text _, _, _, _, _, _, _, _, _, _, e, _ => by simp [ltK] at e
  | .num _, .tup _, _, _, _, _, _, _, _, _, _, e, _ => by simp [ltK] at e
  | .text _, .none, _, _, _, _, _, _, _, _, _, e, _ => by simp [ltK] at e
  | .text _, .num _, _, _, _, _, _, _, _, _, _, e, _ => by simp [ltK] at e
  | .text _, .tup _, _, _, _, _, _, _, _, _, _, e, _ => by simp [ltK] at e
  | .tup _, .none, _, _, _, _, _, _, _, _, _, e, _ => by simp [ltK] at e
  | .tup _, .num _, _, _, _, _, _, _, _, _, _, e, _ => by simp [ltK] at e
  | .tup _, .text _, _, _, _, _, _, _, _, _, _, e, _ => by simp [ltK] at e
theorem rcLt_keys : ∀ (xs ys : List NestedKey) (A : Around) (s : Shared) (vs ws : List Value), NestedAll s.heap xs vs → NestedAll s.heap ys ws → noBs s.heap xs vs → noBs s.heap ys ws → A.units + min (NestedKey.depthAll xs) (NestedKey.depthAll ys) < cLine →
    ∀ j (h1 : j < vs.length) (h2 : j < ws.length) (c : Bool), ltK (xs.getD j .none) (ys.getD j .none) = some c → RcLt A s vs[j] ws[j] c
  | [], _, _, _, _, _, ha, _, _, _, _, j, h1, _, _, _ => by cases ha; exact absurd h1 (Nat.not_lt_zero _)
  | _ :: _, [], _, _, _, _, _, hb, _, _, _, j, _, h2, _, _ => by cases hb; exact absurd h2 (Nat.not_lt_zero _)
  | x :: xs, y :: ys, A, s, vs, ws, ha, hb, na, nb, hu, j, h1, h2, c, e => by
    simp only [NestedKey.depthAll] at hu
    cases ha with
    | cons r rs =>
      cases hb with
      | cons r' rs' =>
        cases j with
        | zero => exact rcLt_key x y c A s _ _ r r' na.1 nb.1 e (by omega)
        | succ j => exact rcLt_keys xs ys A s _ _ rs rs' na.2 nb.2 (by omega) j (Nat.lt_of_succ_lt_succ h1) (Nat.lt_of_succ_lt_succ h2) c e
end
end MI
end
/-! MSc -/
section
set_option linter.all false
set_option maxRecDepth 100000
set_option maxHeartbeats 4000000
/-! The values of MI as nested keys. -/
namespace MI
open PySem PySem.SeqAt L2
mutual
theorem nob_of {X : Cx} {pins : List (Addr × Obj)} {σ : L2.St} {W : Wd} {ρ : List Addr} {H : Hp} {s : Shared} (I : L2.Inv X pins σ H s) (hK : W.K = X.K) : ∀ {d : D} {v : V} {u : Value} {k : NestedKey}, Rep W ρ H d v → RelV v u → kd d = some k → noB s.heap k u
  | .int i, v, u, k, r, ru, e => by
    have r : v = .int i := r
    subst r
    simp [kd] at e
    subst e
    obtain ⟨t, rfl⟩ := ru
    exact fun b z => nomatch z
  | .str x, v, u, k, r, ru, e => by
    have r : v = .str x := (show v = .str x ∧ _ from r).1
    subst r
    simp [kd] at e
    subst e
    obtain ⟨t, rfl⟩ := ru
    exact fun b z => nomatch z
  | .tup xs, v, u, k, r, ru, e => by
    obtain ⟨a, vs, ev, q, l, rr⟩ := (show ∃ a vs, v = .ref a ∧ SqT W.K H a vs ∧ xs.length ≤ sizeLine ∧ Reps W ρ H xs vs from r)
    subst ev
    cases ru
    simp only [kd, Option.map_eq_some_iff] at e
    obtain ⟨ks, e, ek⟩ := e
    subst ek
    rw [hK] at q
    obtain ⟨its, rv, ⟨o, ho, hc, n, hd⟩, _⟩ := I.tuple q
    exact ⟨a, o, _, n, rfl, ho, hd, nobs_of I hK rr (by simpa using rv) e⟩
  | .non, _, _, _, _, _, e => by simp [kd] at e
  | .bl _, _, _, _, _, _, e => by simp [kd] at e
  | .lst _, _, _, _, _, _, e => by simp [kd] at e
  | .scr _, _, _, _, _, _, e => by simp [kd] at e
  | .dct _, _, _, _, _, _, e => by simp [kd] at e
  | .cel _, _, _, _, _, _, e => by simp [kd] at e
  | .fn _, _, _, _, _, _, e => by simp [kd] at e
  | .err _ _, _, _, _, _, _, e => by simp [kd] at e
theorem nobs_of {X : Cx} {pins : List (Addr × Obj)} {σ : L2.St} {W : Wd} {ρ : List Addr} {H : Hp} {s : Shared} (I : L2.Inv X pins σ H s) (hK : W.K = X.K) : ∀ {ds : List D} {vs : List V} {us : List Value} {ks : List NestedKey}, Reps W ρ H ds vs → Vals vs us → kds ds = some ks → noBs s.heap ks us
  | [], vs, us, ks, r, ru, e => by
    simp [kds] at e
    subst e
    cases us <;> exact trivial
  | d :: ds, vs, us, ks, r, ru, e => by
    obtain ⟨v, r', ev, h1, h2⟩ := (show ∃ v r, vs = v :: r ∧ Rep W ρ H d v ∧ Reps W ρ H ds r from r)
    subst ev
    obtain ⟨k, ks', a1, a2, ek⟩ := kds_cons e
    subst ek
    cases ru with
    | cons ra rb => exact ⟨nob_of I hK h1 ra a1, nobs_of I hK h2 rb a2⟩
end
mutual
theorem dep_kd : ∀ {d : D} {k : NestedKey}, kd d = some k → depD d = k.depth
  | .int i, k, e => by simp [kd] at e; subst e; rfl
  | .str i, k, e => by simp [kd] at e; subst e; rfl
  | .tup xs, k, e => by
    simp only [kd, Option.map_eq_some_iff] at e
    obtain ⟨ks, e, ek⟩ := e
    subst ek
    simp only [depD, NestedKey.depth]
    rw [dep_kds e]
  | .non, _, e => by simp [kd] at e
  | .bl _, _, e => by simp [kd] at e
  | .lst _, _, e => by simp [kd] at e
  | .scr _, _, e => by simp [kd] at e
  | .dct _, _, e => by simp [kd] at e
  | .cel _, _, e => by simp [kd] at e
  | .fn _, _, e => by simp [kd] at e
  | .err _ _, _, e => by simp [kd] at e
theorem dep_kds : ∀ {ds : List D} {ks : List NestedKey}, kds ds = some ks → depDs ds = NestedKey.depthAll ks
  | [], ks, e => by simp [kds] at e; subst e; rfl
  | d :: ds, ks, e => by
    obtain ⟨k, ks', a1, a2, ek⟩ := kds_cons e
    subst ek
    simp only [depDs, NestedKey.depthAll]
    rw [dep_kd a1, dep_kds a2]
end
mutual
theorem hash_kd : ∀ (d : D), hashD d = true → ∃ k, kd d = some k
  | .int i, _ => ⟨_, rfl⟩
  | .str i, _ => ⟨_, rfl⟩
  | .tup xs, h => by
    obtain ⟨ks, e⟩ := hash_kds xs (by simpa [hashD] using h)
    exact ⟨.tup ks, by simp [kd, e]⟩
  | .non, h => by simp [hashD] at h
  | .bl _, h => by simp [hashD] at h
  | .lst _, h => by simp [hashD] at h
  | .scr _, h => by simp [hashD] at h
  | .dct _, h => by simp [hashD] at h
  | .cel _, h => by simp [hashD] at h
  | .fn _, h => by simp [hashD] at h
  | .err _ _, h => by simp [hashD] at h
theorem hash_kds : ∀ (ds : List D), hashDs ds = true → ∃ ks, kds ds = some ks
  | [], _ => ⟨[], rfl⟩
  | d :: ds, h => by
    simp only [hashDs, Bool.and_eq_true] at h
    obtain ⟨k, e1⟩ := hash_kd d h.1
    obtain ⟨ks, e2⟩ := hash_kds ds h.2
    exact ⟨k :: ks, by simp [kds, e1, e2]⟩
end
/-- items of tuples may be other than keys: what is compared is keys -/
theorem lt_keys {d e : D} {b : Bool} (h : ltD d e = some b) : (∃ i j, d = .int i ∧ e = .int j) ∨ (∃ x y, d = .str x ∧ e = .str y) ∨ ∃ xs ys, d = .tup xs ∧ e = .tup ys := by
  cases d <;> cases e <;> simp [ltD] at h
  · exact .inl ⟨_, _, rfl, rfl⟩
  · exact .inr (.inl ⟨_, _, rfl, rfl⟩)
  · exact .inr (.inr ⟨_, _, rfl, rfl⟩)
/-- a < b of two tuples that are keys -/
theorem lt_tups {X : Cx} {W : Wd} {ρ : List Addr} {H : Hp} {pins : List (Addr × Obj)} {σ : L2.St} {s : Shared} {d e : D} {x y : V} {v u : Value} {z : Bool} {E : Value → Shared → Prop} {Q : Value → Shared → Prop} (I : L2.Inv X pins σ H s) (hK : W.K = X.K) (hu : X.A.units + 64 < cLine)
    (rd : Rep W ρ H d x) (re : Rep W ρ H e y) (rx : RelV x v) (ry : RelV y u) {k l : NestedKey} (hd : kd d = some k) (he : kd e = some l) (h : ltD d e = some z) (hdep : depD d ≤ 60) (hq : Q (.bool z) s) :
    wpAny (model X.prog X.w) X.A (compareOp .Lt v u) Q E s := by
  rw [lt_kd hd he] at h
  rw [dep_kd hd] at hdep
  exact rcLt_key k l z X.A s v u (nest_of I hK rd rx hd) (nest_of I hK re ry he) (nob_of I hK rd rx hd) (nob_of I hK re ry he) h (by omega) _ _ _ _ hq
end MI
end
/-! MSk -/
section
set_option linter.all false
set_option maxRecDepth 100000
set_option maxHeartbeats 4000000
/-! The empty tuple by a number: itself. -/
namespace L2
open PySem PySem.Spec PyProof.Rows
theorem tuple_mulE (l : Addr) (n : Nat) (dd : Option Addr) (sl : Array (Option Value)) (x : Int) (u : Tok) (c0 : (decide (x < -(2 ^ 63)) || decide (x ≥ 2 ^ 63)) = false) :
    Meets (Builtin.«tuple.__mul__» ⟨[.ref l, .int x u], []⟩) (fun _ R s => s.heap.get? l = some { cls := .type "tuple", dict := dd, data := .seq #[] n, slots := sl } ∧
      R (.ok (.ret (Value.ref l))) s) :=
  .of_wp fun prog w A R s h => by
    obtain ⟨hp, g, d, tk, os⟩ := s
    obtain ⟨hl, h⟩ := h
    have f1 := AutoSeq1.idx_int
    wp_walk using wpAny_loadPart' hl
    refine wpAny_ite_false (decide_eq_false (by rw [c0]; exact Bool.false_ne_true)) ?_
    wp_walk using wpAny_loadPart' hl
    exact ⟨_, rfl, h⟩
def rRepT0 (K : PySem.W.Frag) : R2 := fun x y H Q => ∃ l k, x = .ref l ∧ y = .int k ∧ SqT K H l [] ∧ 2 ≤ k ∧ k ≤ 1000 ∧ Q (.ref l) H
section
variable {X : Cx}
theorem op_repT0 : OpR X (binaryOp .Mult) (rRepT0 X.K) := by
  intro pins s σ H x y v u Q I rx ry h
  obtain ⟨l, k, rfl, rfl, hT, h1, h2, q⟩ := h
  cases rx
  obtain ⟨t, rfl⟩ := ry
  obtain ⟨its, r, ⟨⟨cls, dd, data, sl⟩, ho, hc, n, hd⟩, hs⟩ := I.tuple hT
  simp only at hc hd
  subst hc hd
  have hn : its = [] := List.eq_nil_of_length_eq_zero r.length.symm
  subst hn
  have c0 : (decide (k < -(2 ^ 63)) || decide (k ≥ 2 ^ 63)) = false := by
    rw [decide_eq_false (by omega), decide_eq_false (by omega)] <;> rfl
  refine wpAny_binaryOp_repeat_ref (T := "tuple") (U := "int") (by decide) ⟨_, ho, rfl⟩ (fun s' => typeIs_int s' k t) noFill_tuple_mul F.fills_int_mul F.slot_int_rmul repeat_tuple F.slot_int_index.lookup
    (call_meets F.slot_int_rmul (typeIs_int s k t) F.entry_int_rmul (F.args_int_rmul_2 _ _) (int_rmul_tuple k t l [].toArray n dd sl)
      ⟨ho, rfl, ⟨_, ho, rfl⟩, call_meets F.slot_tuple_mul ⟨_, ho, rfl⟩ F.entry_tuple_mul (F.args_tuple_mul_2 _ _) (tuple_mulE l n dd sl k t c0) ⟨ho, ?_⟩⟩)
  exact ⟨.ref l, _, I, rfl, q⟩
end
end L2
end
/-! MSm -/
section
set_option linter.all false
set_option maxRecDepth 100000
set_option maxHeartbeats 4000000
/-! A tuple by one, by none. -/
namespace L2
open PySem PySem.Spec PyProof.Rows
theorem tuple_mul1 (l : Addr) (items : Array Value) (n : Nat) (dd : Option Addr) (sl : Array (Option Value)) (x : Int) (u : Tok) (c0 : (decide (x < -(2 ^ 63)) || decide (x ≥ 2 ^ 63)) = false) (c1 : (items.isEmpty || x == 1) = true) :
    Meets (Builtin.«tuple.__mul__» ⟨[.ref l, .int x u], []⟩) (fun _ R s => s.heap.get? l = some { cls := .type "tuple", dict := dd, data := .seq items n, slots := sl } ∧
      R (.ok (.ret (Value.ref l))) s) :=
  .of_wp fun prog w A R s h => by
    obtain ⟨hp, g, d, tk, os⟩ := s
    obtain ⟨hl, h⟩ := h
    have f1 := AutoSeq1.idx_int
    wp_walk using wpAny_loadPart' hl
    refine wpAny_ite_false (decide_eq_false (by rw [c0]; exact Bool.false_ne_true)) ?_
    wp_walk using wpAny_loadPart' hl
    exact ⟨_, rfl, h⟩
theorem tuple_mul0 (l : Addr) (items : Array Value) (n : Nat) (dd : Option Addr) (sl : Array (Option Value)) (x : Int) (u : Tok) (c0 : (decide (x < -(2 ^ 63)) || decide (x ≥ 2 ^ 63)) = false) (c1 : (items.isEmpty || x == 1) = false) (c2 : (decide (x ≤ 0) || items.isEmpty) = true) :
    Meets (Builtin.«tuple.__mul__» ⟨[.ref l, .int x u], []⟩) (fun _ R s => s.heap.get? l = some { cls := .type "tuple", dict := dd, data := .seq items n, slots := sl } ∧
      R (.ok (.ret (Value.ref s.heap.objs.size))) { s with heap := s.heap.push { cls := Value.type "tuple", data := Data.seq #[] }, toks := s.toks }) :=
  .of_wp fun prog w A R s h => by
    obtain ⟨hp, g, d, tk, os⟩ := s
    obtain ⟨hl, h⟩ := h
    have f1 := AutoSeq1.idx_int
    wp_walk using wpAny_loadPart' hl
    repeat (first
      | (refine wpAny_ite_false (decide_eq_false (by rw [c0]; exact Bool.false_ne_true)) ?_; wp_walk using wpAny_loadPart' hl)
      | (refine wpAny_ite_false (decide_eq_false (by rw [c1]; exact Bool.false_ne_true)) ?_; wp_walk using wpAny_loadPart' hl)
      | (refine wpAny_ite_true (decide_eq_true c2) ?_; wp_walk using wpAny_loadPart' hl))
    exact ⟨_, rfl, h⟩
def rRepT1 (K : PySem.W.Frag) : R2 := fun x y H Q => ∃ l k xs, x = .ref l ∧ y = .int k ∧ SqT K H l xs ∧ -1000 ≤ k ∧ ((k = 1 ∨ xs = []) ∧ k ≤ 1000 ∧ Q (.ref l) H ∨ k ≤ 0 ∧ xs ≠ [] ∧ ∀ p, H p = none → Q (.ref p) (upd H p (.tup [])))
section
variable {X : Cx}
theorem op_repT1 : OpR X (binaryOp .Mult) (rRepT1 X.K) := by
  intro pins s σ H x y v u Q I rx ry h
  obtain ⟨l, k, xs, rfl, rfl, hT, h1, h⟩ := h
  cases rx
  obtain ⟨t, rfl⟩ := ry
  obtain ⟨its, r, ⟨⟨cls, dd, data, sl⟩, ho, hc, n, hd⟩, hs⟩ := I.tuple hT
  simp only at hc hd
  subst hc hd
  have hle : its.length = xs.length := r.length.symm
  have emp : its.toArray.isEmpty = decide (xs = []) := by
    cases its with
    | nil =>
      have : xs = [] := List.eq_nil_of_length_eq_zero hle.symm
      subst this; rfl
    | cons a b =>
      cases xs with
      | nil => simp at hle
      | cons _ _ => rfl
  rcases h with ⟨h2, h3, q⟩ | ⟨h2, h3, q⟩
  · have c0 : (decide (k < -(2 ^ 63)) || decide (k ≥ 2 ^ 63)) = false := by
      rw [decide_eq_false (by omega), decide_eq_false (by omega)] <;> rfl
    have c1 : (its.toArray.isEmpty || k == 1) = true := by
      rw [emp]
      rcases h2 with rfl | h2
      · simp
      · simp [h2]
    refine wpAny_binaryOp_repeat_ref (T := "tuple") (U := "int") (by decide) ⟨_, ho, rfl⟩ (fun s' => typeIs_int s' k t) noFill_tuple_mul F.fills_int_mul F.slot_int_rmul repeat_tuple F.slot_int_index.lookup
      (call_meets F.slot_int_rmul (typeIs_int s k t) F.entry_int_rmul (F.args_int_rmul_2 _ _) (int_rmul_tuple k t l its.toArray n dd sl)
        ⟨ho, rfl, ⟨_, ho, rfl⟩, call_meets F.slot_tuple_mul ⟨_, ho, rfl⟩ F.entry_tuple_mul (F.args_tuple_mul_2 _ _) (tuple_mul1 l its.toArray n dd sl k t c0 c1) ⟨ho, ?_⟩⟩)
    exact ⟨.ref l, _, I, rfl, q⟩
  · have c0 : (decide (k < -(2 ^ 63)) || decide (k ≥ 2 ^ 63)) = false := by
      rw [decide_eq_false (by omega), decide_eq_false (by omega)] <;> rfl
    have c1 : (its.toArray.isEmpty || k == 1) = false := by
      rw [emp, decide_eq_false h3, Bool.false_or]
      exact beq_eq_false_iff_ne.mpr (by omega)
    have c2 : (decide (k ≤ 0) || its.toArray.isEmpty) = true := by
      rw [decide_eq_true h2]; rfl
    refine wpAny_binaryOp_repeat_ref (T := "tuple") (U := "int") (by decide) ⟨_, ho, rfl⟩ (fun s' => typeIs_int s' k t) noFill_tuple_mul F.fills_int_mul F.slot_int_rmul repeat_tuple F.slot_int_index.lookup
      (call_meets F.slot_int_rmul (typeIs_int s k t) F.entry_int_rmul (F.args_int_rmul_2 _ _) (int_rmul_tuple k t l its.toArray n dd sl)
        ⟨ho, rfl, ⟨_, ho, rfl⟩, call_meets F.slot_tuple_mul ⟨_, ho, rfl⟩ F.entry_tuple_mul (F.args_tuple_mul_2 _ _) (tuple_mul0 l its.toArray n dd sl k t c0 c1 c2) ⟨ho, ?_⟩⟩)
    refine ⟨.ref s.heap.objs.size, _, I.laid (t' := s.toks) (o := .tup []) (fun b ob q => Heap.get?_push_of_some _ q) (Nat.le_refl _) ?_, rfl, q _ (I.hok.fresh (Nat.le_refl _))⟩
    exact ⟨by simp, [], .nil, IsTup.new _ _⟩
end
end L2
end
/-! MSn -/
section
set_option linter.all false
set_option maxRecDepth 100000
set_option maxHeartbeats 4000000
/-! Texts by a number, the other way round, put together. -/
namespace MI
open PySem L2 PyProof.Rows
theorem revS_len (a : Str) : (revS a).length = a.length := by
  show (a.cps.toList.reverse.toArray).size = a.cps.size
  simp
def rMulS : R2 := fun x y H Q => ∃ a k, x = .str a ∧ y = .int k ∧ -1000 ≤ k ∧ k ≤ 100000 ∧ a.length * k.toNat ≤ sizeLine ∧ a.length ≤ sizeLine ∧ Q (.str (repS a k.toNat)) H
theorem foldl_app {α : Type} : ∀ (l : List (Array α)) (b : Array α), l.foldl (· ++ ·) b = b ++ l.foldl (· ++ ·) #[]
  | [], b => by simp
  | a :: l, b => by
    rw [List.foldl_cons, List.foldl_cons, foldl_app l (b ++ a), foldl_app l (#[] ++ a)]
    simp [Array.append_assoc]
theorem repS_len (a : Str) (n : Nat) : (repS a n).length = n * a.length := by
  show ((List.replicate n a.cps).foldl (· ++ ·) #[]).size = n * a.cps.size
  induction n with
  | zero => simp
  | succ n ih => rw [List.replicate_succ, List.foldl_cons, foldl_app, Array.size_append, ih, Nat.add_mul]; simp; omega
section
variable {X : Cx}
theorem op_mulS : OpR X (binaryOp .Mult) rMulS := by
  intro pins s σ H x y v u Q I rx ry h
  obtain ⟨a, k, rfl, rfl, h1, h2, h3, h4, q⟩ := h
  obtain ⟨t, rfl⟩ := rx
  obtain ⟨t', rfl⟩ := ry
  have hr : (decide (k < -(2 ^ 63 : Int)) || decide (k ≥ 2 ^ 63)) = false := by
    rw [decide_eq_false (by omega), decide_eq_false (by omega)]; rfl
  rw [sizeLine_eq] at h3 h4
  refine PySem.P.mul_str hr (fun hk _ => ?_) (fun hk _ => ?_) ?_
  · have e1 : (0 : Int) < k := by omega
    have e2 : k * 16777216 ≤ 2 ^ 63 - 1 := by omega
    have : 16777216 ≤ (2 ^ 63 - 1) / k := (Int.le_ediv_iff_mul_le e1).mpr (by rw [Int.mul_comm]; exact e2)
    omega
  · have : Builtin.Str.tooLong (a.length * k.toNat) = false := by
      unfold Builtin.Str.tooLong
      rw [sizeLine_eq]
      exact decide_eq_false (by omega)
    exact this
  · by_cases hk : k < 1
    · rw [if_pos hk]
      have e : k.toNat = 0 := by omega
      rw [e] at q
      exact ⟨by decide, .str (repS a 0), H, I.tok _, ⟨_, rfl⟩, q⟩
    · rw [if_neg hk]
      by_cases hc : (k == 1 || a.length == 0) = true
      · rw [if_pos hc]
        have e : repS a k.toNat = a := by
          rcases Bool.or_eq_true_iff.mp hc with hc | hc
          · have e : k = 1 := by simpa using hc
            subst e
            show (⟨(List.replicate 1 a.cps).foldl (· ++ ·) #[]⟩ : Str) = a
            simp
          · have e : a.cps = #[] := Array.eq_empty_of_size_eq_zero (show a.length = 0 by simpa using hc)
            have : a = ⟨#[]⟩ := by cases a; simpa using e
            rw [this]
            have z : ((repS ⟨#[]⟩ k.toNat).cps).size = 0 := by
              have := repS_len ⟨#[]⟩ k.toNat
              have e2 : (⟨#[]⟩ : Str).length = 0 := rfl
              rw [e2, Nat.mul_zero] at this
              exact this
            have := Array.eq_empty_of_size_eq_zero z
            cases hz : repS ⟨#[]⟩ k.toNat
            rw [hz] at this
            simpa using this
        rw [e] at q
        exact ⟨.str a, H, I, ⟨t, rfl⟩, q⟩
      · rw [if_neg hc]
        refine ⟨?_, .str (repS a k.toNat), H, I.tok _, ⟨_, rfl⟩, q⟩
        show (repS a k.toNat).length ≤ sizeLine
        rw [repS_len, sizeLine_eq, Nat.mul_comm]
        exact h3
theorem pick_rev (a : Str) : (Builtin.Str.strSliceIndices none none (-1) a.length).filterMap (a.cps[·]?) = a.cps.toList.reverse := by
  have e0 : Builtin.Str.strSliceIndices none none (-1) a.length = sliceRange ((a.length : Int) - 1) (-1) (-1) := by
    unfold Builtin.Str.strSliceIndices
    simp
  rw [e0, PySem.W.krv_sliceRange, PySem.W.krv_range, List.filterMap_reverse]
  congr 1
  exact PySem.W.krv_all a.cps
end
end MI
end
/-! MId -/
section
set_option linter.all false
set_option maxRecDepth 100000
set_option maxHeartbeats 4000000
/-! The operators of MI, by the layer's rules for values. -/
namespace MI
open PySem L2

/-- what is wanted of a new value -/
def Want (W : Wd) (ρ : List Addr) (η : List C) (H : Hp) (d : D) (Q : VK) : Prop := ∀ ρ' H' v, Ext ρ H ρ' H' → Sim W ρ' η H' → Rep W ρ' H' d v → Q v H'
section
variable {W : Wd} {ρ ρ' : List Addr} {η η' : List C} {H H' : Hp} {Q : VK} {d : D}
theorem Want.here (w : Want W ρ η H d Q) (s : Sim W ρ η H) {v : V} (r : Rep W ρ H d v) : Q v H := w ρ H v .refl s r
theorem Want.new (w : Want W ρ η H d Q) (s : Sim W ρ η H) {p : Addr} {o : HO} (hp : H p = none) (r : Rep W ρ (upd H p o) d (.ref p)) : Q (.ref p) (upd H p o) := w ρ _ _ (.new hp) (s.new hp) r
theorem new_out (s : Sim W ρ η H) {p : Addr} (hp : H p = none) : p ∉ ρ := fun m => by
  obtain ⟨k, e⟩ := List.mem_iff_getElem?.mp m
  rcases s.ok.at_ k p e with ⟨vs, z⟩ | ⟨vs, z⟩ <;> rw [hp] at z <;> cases z
theorem new_fr (s : Sim W ρ η H) {p : Addr} (hp : H p = none) : Fr W ρ p := ⟨new_out s hp, fun m => by
  obtain ⟨⟨vs, e⟩, _⟩ := s.zed p m
  rw [hp] at e; cases e⟩
theorem Want.lst (w : Want W ρ η H (.lst ds) Q) (s : Sim W ρ η H) {vs : List V} (l : ds.length ≤ sizeLine) (r : Reps W ρ H ds vs) : ∀ p, H p = none → Q (.ref p) (upd H p (.lst vs)) := fun p hp =>
  w.new s hp ⟨p, vs, rfl, ⟨upd_same, new_fr s hp⟩, l, Reps.ext (.new hp) s.ok r⟩
theorem Want.tup (w : Want W ρ η H (.tup ds) Q) (s : Sim W ρ η H) {vs : List V} (l : ds.length ≤ sizeLine) (r : Reps W ρ H ds vs) : ∀ p, H p = none → Q (.ref p) (upd H p (.tup vs)) := fun p hp =>
  w.new s hp ⟨p, vs, rfl, SqT.of upd_same, l, Reps.ext (.new hp) s.ok r⟩
theorem Rep.int {i : Int} {v : V} (h : Rep W ρ H (.int i) v) : v = .int i := h
theorem Rep.bl {b : Bool} {v : V} (h : Rep W ρ H (.bl b) v) : v = .bl b := h
theorem Rep.str {x : Str} {v : V} (h : Rep W ρ H (.str x) v) : v = .str x ∧ x.length ≤ sizeLine := h
end
theorem lim_eq : lim = sizeLine := by rw [sizeLine_eq]; rfl

/-- the reading of an operator -/
def rBin (W : Wd) (f : List C → D → D → Option D) : R2 := fun p q H Q => ∃ ρ η d e z, Sim W ρ η H ∧ Rep W ρ H d p ∧ Rep W ρ H e q ∧ f η d e = some z ∧ Want W ρ η H z Q
def rBinB (W : Wd) (f : List C → D → D → Option Bool) : R2 := fun p q H Q => ∃ ρ η d e z, Sim W ρ η H ∧ Rep W ρ H d p ∧ Rep W ρ H e q ∧ f η d e = some z ∧ Q (.bl z) H
section
variable {X : Cx} {W : Wd}
theorem opI_ok {o : Operator} {i j : Int} {z : D} (h : binI o i j = some z) : ∃ r : R2, OpR X (binaryOp o) r ∧ ∀ H Q, (∀ v, (∃ n, z = .int n ∧ v = .int n) → Q v H) → r (.int i) (.int j) H Q := by
  cases o <;> simp only [binI] at h <;> try cases h
  · exact ⟨_, op_add, fun H Q q => ⟨i, j, rfl, rfl, q _ ⟨_, rfl, rfl⟩⟩⟩
  · exact ⟨_, op_sub, fun H Q q => ⟨i, j, rfl, rfl, q _ ⟨_, rfl, rfl⟩⟩⟩
  · split at h
    · rename_i hc
      cases h
      rcases Bool.or_eq_true_iff.mp hc with hc | hc
      · exact ⟨_, op_mul, fun H Q q => ⟨i, j, rfl, rfl, by simpa [mulSm, CMul] using hc, q _ ⟨_, rfl, rfl⟩⟩⟩
      · exact ⟨_, op_mulW, fun H Q q => ⟨i, j, rfl, rfl, by simpa [mulOk, CMulW] using hc, q _ ⟨_, rfl, rfl⟩⟩⟩
    · cases h
  · split at h
    · rename_i hc
      cases h
      exact ⟨_, op_mod, fun H Q q => ⟨i, j, rfl, rfl, by simpa using hc, q _ ⟨_, rfl, rfl⟩⟩⟩
    · cases h
  · split at h
    · rename_i hc
      cases h
      obtain ⟨h1, h2, h3⟩ := of_decide_eq_true hc
      exact ⟨_, op_pow, fun H Q q => ⟨i, j, rfl, rfl, ⟨h1, by omega, h3⟩, q _ ⟨_, rfl, rfl⟩⟩⟩
    · cases h
  · split at h
    · rename_i hc
      cases h
      exact ⟨_, op_fdivW, fun H Q q => ⟨i, j, rfl, rfl, by simpa [CDivW] using hc, q _ ⟨_, rfl, rfl⟩⟩⟩
    · cases h
theorem own_see {ρ : List Addr} {η : List C} {H : Hp} {d : D} {v : V} {xs : List D} (s : Sim W ρ η H) (r : Rep W ρ H d v) (e : ownL η d = some xs) : ∃ a vs, v = .ref a ∧ H a = some (.lst vs) ∧ xs.length ≤ sizeLine ∧ Reps W ρ H xs vs := by
  unfold ownL at e
  split at e
  · rename_i ys c
    cases e
    exact see_lst s r c
  · cases e
theorem op_bin (o : Operator) (hK : W.K = X.K) : OpR X (binaryOp o) (rBin W fun h a b => binD h o a b) := by
  intro pins s σ H x y v u Q I rx ry h
  obtain ⟨ρ, η, d, e, z, sim, rd, re, hz, w⟩ := h
  replace hz : binD η o d e = some z := hz
  unfold binD at hz
  split at hz
  · -- ints
    rename_i i j
    have e1 := Rep.int rd
    have e2 := Rep.int re
    subst e1; subst e2
    obtain ⟨r, ho, hr⟩ := opI_ok (X := X) hz
    refine ho pins s σ H _ _ v u Q I rx ry (hr H Q ?_)
    rintro v ⟨n, rfl, rfl⟩
    exact w.here sim rfl
  · -- texts
    rename_i a b
    obtain ⟨e1, l1⟩ := Rep.str rd
    obtain ⟨e2, l2⟩ := Rep.str re
    subst e1; subst e2
    unfold binS at hz
    split at hz
    · unfold mkStr at hz
      split at hz
      · rename_i hl
        cases hz
        rw [lim_eq] at hl
        have hl2 : a.length + b.length ≤ sizeLine := by
          have : (a ++ b).length = a.length + b.length := Str.length_append a b
          omega
        exact op_add_str pins s σ H _ _ v u Q I rx ry ⟨a, b, rfl, rfl, hl2, w.here sim ⟨rfl, hl⟩⟩
      · cases hz
    · cases hz
  · -- a text by a number
    rename_i a k
    obtain ⟨e1, l1⟩ := Rep.str rd
    have e2 := Rep.int re
    subst e1; subst e2
    unfold binSI at hz
    split at hz
    · split at hz
      · rename_i hc
        cases hz
        simp only [Bool.and_eq_true, decide_eq_true_eq] at hc
        obtain ⟨⟨h1, h2⟩, h3⟩ := hc
        rw [lim_eq] at h3
        refine op_mulS pins s σ H _ _ v u Q I rx ry ⟨a, k, rfl, rfl, h1, h2, h3, l1, w.here sim ⟨rfl, ?_⟩⟩
        rw [repS_len, Nat.mul_comm]
        exact h3
      · cases hz
    · cases hz
  · -- tuples
    rename_i xs ys
    obtain ⟨a, vs, e1, q1, l1, r1⟩ := see_tup (η := η) rd rfl
    obtain ⟨b, ws, e2, q2, l2, r2⟩ := see_tup (η := η) re rfl
    subst e1; subst e2
    rw [hK] at q1 q2
    unfold binT at hz
    split at hz
    · unfold mkTup at hz
      split at hz
      · rename_i hl
        cases hz
        rw [lim_eq] at hl
        have n1 := r1.len
        have n2 := r2.len
        refine op_catA pins s σ H _ _ v u Q I rx ry ⟨a, b, vs, ws, rfl, rfl, q1, q2, ?_, fun h0 => ?_, fun _ h0 => ?_, fun _ _ => ?_⟩
        · rw [List.length_append] at hl; omega
        · have : xs = [] := by
            cases xs with
            | nil => rfl
            | cons _ _ => rw [h0] at n1; cases n1
          subst this
          exact w.here sim re
        · have : ys = [] := by
            cases ys with
            | nil => rfl
            | cons _ _ => rw [h0] at n2; cases n2
          subst this
          rw [List.append_nil] at w
          exact w.here sim rd
        · exact w.tup sim hl (r1.app r2)
      · cases hz
    · cases hz
  · -- a tuple by a number
    rename_i xs k
    obtain ⟨a, vs, e1, q1, l1, r1⟩ := see_tup (η := η) rd rfl
    have e2 := Rep.int re
    subst e1; subst e2
    rw [hK] at q1
    unfold binTI at hz
    split at hz
    · split at hz
      · rename_i hc
        cases hz
        simp only [Bool.and_eq_true, decide_eq_true_eq] at hc
        obtain ⟨⟨h2, h3⟩, h4⟩ := hc
        have n1 := r1.len
        by_cases h1 : xs = []
        · subst h1
          have e0 : vs = [] := List.eq_nil_of_length_eq_zero n1
          subst e0
          have e1 : (List.replicate k.toNat ([] : List D)).flatten = [] := by simp
          rw [e1] at w
          exact op_repT1 pins s σ H _ _ v u Q I rx ry ⟨a, k, [], rfl, rfl, q1, h2, .inl ⟨.inr rfl, h3, w.here sim rd⟩⟩
        by_cases hk1 : k = 1
        · subst hk1
          have e1 : (List.replicate (1 : Int).toNat xs).flatten = xs := by simp
          rw [e1] at w
          exact op_repT1 pins s σ H _ _ v u Q I rx ry ⟨a, 1, vs, rfl, rfl, q1, h2, .inl ⟨.inl rfl, h3, w.here sim rd⟩⟩
        by_cases hk0 : k ≤ 0
        · have e1 : (List.replicate k.toNat xs).flatten = [] := by rw [Int.toNat_of_nonpos hk0]; rfl
          rw [e1] at w
          refine op_repT1 pins s σ H _ _ v u Q I rx ry ⟨a, k, vs, rfl, rfl, q1, h2, .inr ⟨hk0, ?_, w.tup sim (Nat.zero_le _) Reps.nil⟩⟩
          intro z; subst z; exact h1 (List.eq_nil_of_length_eq_zero (by simpa using n1.symm))
        have h2 : 2 ≤ k := by omega
        refine op_repT pins s σ H _ _ v u Q I rx ry ⟨a, k, vs, rfl, rfl, q1, ?_, h2, h3, by omega, ?_⟩
        · intro z; subst z; exact h1 (List.eq_nil_of_length_eq_zero (by simpa using n1.symm))
        · refine w.tup sim ?_ (r1.flat _)
          have hn : (List.replicate k.toNat xs).flatten.length = k.toNat * xs.length := by simp
          rw [hn, sizeLine_eq]
          have hk : k.toNat ≤ 1000 := by omega
          calc k.toNat * xs.length ≤ 1000 * 1000 := Nat.mul_le_mul hk h4
            _ ≤ 16777216 := by decide
      · cases hz
    · cases hz
  · -- a list by a number
    rename_i a' k _ _ _
    have e2 := Rep.int re
    subst e2
    unfold binLI at hz
    split at hz
    · rename_i xs hx
      obtain ⟨a, vs, e1, q1, l1, r1⟩ := own_see sim rd hx
      subst e1
      split at hz
      · rename_i hc
        cases hz
        simp only [Bool.and_eq_true, decide_eq_true_eq] at hc
        obtain ⟨⟨h1, h2⟩, h4⟩ := hc
        rw [lim_eq] at h4
        have n1 := r1.len
        refine op_rep pins s σ H _ _ v u Q I rx ry ⟨a, k, vs, rfl, rfl, q1, by omega, by omega, by rw [n1]; exact h4, ?_⟩
        refine w.lst sim ?_ (r1.flat _)
        have hn : (List.replicate k.toNat xs).flatten.length = k.toNat * xs.length := by simp
        rw [hn, Nat.mul_comm]; exact h4
      · cases hz
    · cases hz
  · -- lists
    unfold binL at hz
    split at hz
    · rename_i xs ys hx hy
      obtain ⟨a, vs, e1, q1, l1, r1⟩ := own_see sim rd hx
      obtain ⟨b, ws, e2, q2, l2, r2⟩ := own_see sim re hy
      subst e1; subst e2
      unfold mkLst at hz
      split at hz
      · rename_i hl
        cases hz
        rw [lim_eq] at hl
        have n1 := r1.len
        have n2 := r2.len
        refine op_cat pins s σ H _ _ v u Q I rx ry ⟨a, b, vs, ws, rfl, rfl, q1, q2, ?_, w.lst sim hl (r1.app r2)⟩
        rw [List.length_append] at hl; omega
      · cases hz
    · cases hz

/-! ### comparisons -/
theorem rep_key {W : Wd} {ρ : List Addr} {H : Hp} {d : D} {v : V} {k : Key} (r : Rep W ρ H d v) (e : keyOf d = some k) : v = kV k := by
  cases d <;> simp [keyOf] at e
  · subst e; exact r
  · subst e; exact r.1
theorem repk_val {W : Wd} {ρ : List Addr} {H : Hp} (k : Key) : ∀ {ks : List (Key × D)} {kvs : List (Key × V)}, RepK W ρ H ks kvs →
    (valV kvs k = none ∧ (ks.any fun p => decide (p.1 = k)) = false) ∨ ∃ d v, ks.find? (fun p => decide (p.1 = k)) = some (k, d) ∧ valV kvs k = some v ∧ Rep W ρ H d v ∧ (ks.any fun p => decide (p.1 = k)) = true
  | [], kvs, r => by have e : kvs = [] := r; subst e; exact .inl ⟨rfl, rfl⟩
  | (q, d) :: ks, kvs, r => by
    obtain ⟨v, r', e, h1, h2⟩ := (show ∃ v r, kvs = (q, v) :: r ∧ Rep W ρ H d v ∧ RepK W ρ H ks r from r)
    subst e
    by_cases c : q = k
    · subst c
      refine .inr ⟨d, v, by simp [List.find?_cons], valV_pos (p := (q, v)) rfl, h1, by simp⟩
    · rcases repk_val k h2 with ⟨a, b⟩ | ⟨d', v', a, b, b2, b3⟩
      · refine .inl ⟨by rw [valV_neg (p := (q, v)) c]; exact a, ?_⟩
        rw [List.any_cons, b]; simp [c]
      · refine .inr ⟨d', v', by simp [List.find?_cons, c, a], by rw [valV_neg (p := (q, v)) c]; exact b, b2, ?_⟩
        rw [List.any_cons, b3]; simp
theorem repk_in {W : Wd} {ρ : List Addr} {H : Hp} {ks : List (Key × D)} {kvs : List (Key × V)} (r : RepK W ρ H ks kvs) (k : Key) : (ks.any fun p => decide (p.1 = k)) = (valV kvs k).isSome := by
  rcases repk_val k r with ⟨a, b⟩ | ⟨d, v, a, b, b2, b3⟩
  · rw [a, b]; rfl
  · rw [b, b3]; rfl
theorem see_eqF {W : Wd} {ρ : List Addr} {H : Hp} {a b : D} {p q : V} (ra : Rep W ρ H a p) (rb : Rep W ρ H b q) (fa : flatB a = true) (fb : flatB b = true) : eqF a b = eqV p q ∧ flatV p = true ∧ flatV q = true := by
  cases a <;> simp [flatB] at fa <;> cases b <;> simp [flatB] at fb <;> (first | (have e1 := (Rep.str ra).1) | (have e1 : p = _ := ra)) <;> (first | (have e2 := (Rep.str rb).1) | (have e2 : q = _ := rb)) <;> subst e1 <;> subst e2 <;> exact ⟨rfl, rfl, rfl⟩
theorem see_any {W : Wd} {ρ : List Addr} {H : Hp} {a : D} {p : V} (ra : Rep W ρ H a p) (fa : flatB a = true) : ∀ {xs : List D} {vs : List V}, Reps W ρ H xs vs → xs.all flatB = true → (xs.any fun y => eqF y a) = inV p vs ∧ vs.all flatV = true
  | [], vs, r, _ => by have e : vs = [] := r; subst e; exact ⟨rfl, rfl⟩
  | x :: xs, vs, r, h => by
    obtain ⟨v, r', e, h1, h2⟩ := (show ∃ v r, vs = v :: r ∧ Rep W ρ H x v ∧ Reps W ρ H xs r from r)
    subst e
    simp only [List.all_cons, Bool.and_eq_true] at h
    obtain ⟨a1, a2, a3⟩ := see_eqF h1 ra h.1 fa
    obtain ⟨b1, b2⟩ := see_any ra fa h2 h.2
    refine ⟨?_, by simp [a2, b2]⟩
    unfold inV at b1 ⊢
    simp only [List.any_cons]
    rw [a1, b1]
theorem op_in0 (neg : Bool) (hK : W.K = X.K) (hu : X.A.units + 1 < cLine) : OpR X (compareOp (if neg then .NotIn else .In)) (rBinB W fun h a b => (inD h a b).map fun r => if neg then !r else r) := by
  intro pins s σ H x y v u Q I rx ry h
  obtain ⟨ρ, η, d, e, z, sim, rd, re, hz, w⟩ := h
  simp only [Option.map_eq_some_iff] at hz
  obtain ⟨b, hz, hb⟩ := hz
  replace hz : inD η d e = some b := hz
  unfold inD at hz
  split at hz
  · rename_i yy c
    obtain ⟨e2, l2⟩ := see_str re c
    subst e2
    split at hz
    · rename_i xx
      obtain ⟨e1, l1⟩ := Rep.str rd
      subst e1
      cases hz
      cases neg with
      | false => exact op_in_str pins s σ H _ _ v u Q I rx ry ⟨xx, yy, rfl, rfl, by subst hb; exact w⟩
      | true => exact op_notin_str pins s σ H _ _ v u Q I rx ry ⟨xx, yy, rfl, rfl, by subst hb; exact w⟩
    · cases hz
  · rename_i ks c
    obtain ⟨a, kvs, e1, q, r⟩ := see_dct sim re c
    subst e1
    cases hk : keyOf d with
    | none => rw [hk] at hz; cases hz
    | some k =>
      rw [hk] at hz
      cases hz
      have e2 := rep_key rd hk
      subst e2
      have g := DGet.k (k := k) q
      replace hb : (if neg = true then !(ks.any fun p => decide (p.1 = k)) else (ks.any fun p => decide (p.1 = k))) = z := hb
      rw [repk_in r k] at hb
      obtain rfl : u = Value.ref a := ry
      cases neg with
      | false => exact d_in hu I g rx fun s3 I3 => ⟨.bl _, H, I3, rfl, by subst hb; exact w⟩
      | true => exact d_notIn hu I g rx fun s3 I3 => ⟨.bl _, H, I3, rfl, by subst hb; exact w⟩
  · rename_i ys c
    obtain ⟨a, vs, e1, q, l, r⟩ := see_tup re c
    subst e1
    rw [hK] at q
    unfold inSeq at hz
    split at hz
    · rename_i hc
      cases hz
      simp only [Bool.and_eq_true] at hc
      obtain ⟨h1, h2⟩ := see_any rd hc.1 r hc.2
      have h3 : flatV x = true := (see_eqF rd rd hc.1 hc.1).2.1
      cases neg with
      | false => exact op_in_seq pins s σ H _ _ v u Q I rx ry ⟨a, vs, rfl, .inr q, h3, h2, by rw [← h1]; subst hb; exact w⟩
      | true => exact op_notIn_seq pins s σ H _ _ v u Q I rx ry ⟨a, vs, rfl, .inr q, h3, h2, by rw [← h1]; subst hb; exact w⟩
    · cases hz
  · rename_i ys c
    obtain ⟨a, vs, e1, q, l, r⟩ := see_lst sim re c
    subst e1
    unfold inSeq at hz
    split at hz
    · rename_i hc
      cases hz
      simp only [Bool.and_eq_true] at hc
      obtain ⟨h1, h2⟩ := see_any rd hc.1 r hc.2
      have h3 : flatV x = true := (see_eqF rd rd hc.1 hc.1).2.1
      cases neg with
      | false => exact op_in_seq pins s σ H _ _ v u Q I rx ry ⟨a, vs, rfl, .inl (SqL.of q), h3, h2, by rw [← h1]; subst hb; exact w⟩
      | true => exact op_notIn_seq pins s σ H _ _ v u Q I rx ry ⟨a, vs, rfl, .inl (SqL.of q), h3, h2, by rw [← h1]; subst hb; exact w⟩
    · cases hz
  · cases hz
theorem op_eq0 (neg : Bool) (hK : W.K = X.K) (hu : X.A.units + 64 < cLine) : OpR X (compareOp (if neg then .NotEq else .Eq)) (rBinB W fun h a b => (eqD h a b).map fun r => if neg then !r else r) := by
  intro pins s σ H x y v u Q I rx ry h
  obtain ⟨ρ, η, d, e, z, sim, rd, re, hz, w⟩ := h
  simp only [Option.map_eq_some_iff] at hz
  obtain ⟨b, hz, hb⟩ := hz
  unfold eqD at hz
  split at hz
  · rename_i xx yy
    obtain ⟨e1, l1⟩ := Rep.str rd
    obtain ⟨e2, l2⟩ := Rep.str re
    subst e1
    subst e2
    cases hz
    have hd : decide (V.str xx = V.str yy) = decide (xx = yy) := by simp
    cases neg with
    | false => exact op_eq pins s σ H _ _ v u Q I rx ry ⟨rfl, by rw [hd]; subst hb; exact w⟩
    | true => exact op_ne pins s σ H _ _ v u Q I rx ry ⟨rfl, by rw [hd]; subst hb; exact w⟩
  split at hz
  · rename_i p q c1 c2
    split at hz
    · rename_i hc
      cases hz
      simp only [Bool.and_eq_true] at hc
      have d1 := see_dp sim rd c1
      have d2 := see_dp sim re c2
      rw [hK] at d1 d2
      cases neg with
      | false => exact op_eqD hu pins s σ H _ _ v u Q I rx ry ⟨p, q, d1, d2, hc.1, hc.2, by subst hb; exact w⟩
      | true => exact op_neD hu pins s σ H _ _ v u Q I rx ry ⟨p, q, d1, d2, hc.1, hc.2, by subst hb; exact w⟩
    · cases hz
  · cases hz
theorem rep_non {ρ : List Addr} {H : Hp} {d : D} {v : V} (r : Rep W ρ H d v) : decide (v = V.non) = isNon d := by
  cases d
  case non => have e : v = .non := r; subst e; rfl
  case bl => have e : v = _ := r; subst e; rfl
  case int => have e : v = _ := r; subst e; rfl
  case str => have e := (Rep.str r).1; subst e; rfl
  case fn => have e : v = _ := r; subst e; rfl
  all_goals (obtain ⟨a, h⟩ := r)
  case cel => obtain ⟨e, _⟩ := h; subst e; rfl
  case err => obtain ⟨dd, x, e, _⟩ := h; subst e; rfl
  all_goals (obtain ⟨vs, e, _⟩ := h; subst e; rfl)
theorem op_is0 (neg : Bool) : OpR X (compareOp (if neg then .IsNot else .Is)) (rBinB W fun h a b => cmpD h (if neg then .IsNot else .Is) a b) := by
  intro pins s σ H x y v u Q I rx ry h
  obtain ⟨ρ, η, d, e, z, sim, rd, re, hz, w⟩ := h
  have hn := rep_non rd
  cases neg with
  | false =>
    replace hz : cmpD η .Is d e = some z := hz
    simp only [cmpD] at hz
    split at hz
    · have e2 : y = .non := re
      subst e2
      cases hz
      exact op_isN pins s σ H _ _ v u Q I rx ry ⟨rfl, by rw [hn]; exact w⟩
    · cases hz
  | true =>
    replace hz : cmpD η .IsNot d e = some z := hz
    simp only [cmpD] at hz
    split at hz
    · have e2 : y = .non := re
      subst e2
      cases hz
      refine op_notN pins s σ H _ _ v u Q I rx ry ⟨rfl, ?_⟩
      rw [hn]
      exact w
    · cases hz
theorem op_lt0 (hK : W.K = X.K) (hu : X.A.units + 64 < cLine) : OpR X (compareOp .Lt) (rBinB W fun h a b => cmpD h .Lt a b) := by
  intro pins s σ H x y v u Q I rx ry h
  obtain ⟨ρ, η, d, e, z, sim, rd, re, hz, w⟩ := h
  replace hz : lessD d e = some z := hz
  unfold lessD at hz
  split at hz
  · rename_i hc
    simp only [Bool.and_eq_true, decide_eq_true_eq] at hc
    obtain ⟨⟨c1, c2⟩, c3⟩ := hc
    obtain ⟨k, hk⟩ := hash_kd d c1
    obtain ⟨l, hl⟩ := hash_kd e c2
    exact lt_tups I hK hu rd re rx ry hk hl hz c3 ⟨.bl z, H, I, rfl, w⟩
  · cases hz
theorem op_cmp (o : CmpOp) (hK : W.K = X.K) (hu : X.A.units + 64 < cLine) : OpR X (compareOp o) (rBinB W fun h a b => cmpD h o a b) := by
  cases o with
  | Eq =>
    have e : (fun h a b => cmpD h .Eq a b) = fun h a b => (eqD h a b).map fun r => if false then !r else r := by funext h a b; simp [cmpD]
    rw [e]; exact op_eq0 false hK hu
  | NotEq =>
    have e : (fun h a b => cmpD h .NotEq a b) = fun h a b => (eqD h a b).map fun r => if true then !r else r := by funext h a b; simp [cmpD]
    rw [e]; exact op_eq0 true hK hu
  | In =>
    have e : (fun h a b => cmpD h .In a b) = fun h a b => (inD h a b).map fun r => if false then !r else r := by funext h a b; simp [cmpD]
    rw [e]; exact op_in0 false hK (by omega)
  | NotIn =>
    have e : (fun h a b => cmpD h .NotIn a b) = fun h a b => (inD h a b).map fun r => if true then !r else r := by funext h a b; simp [cmpD]
    rw [e]; exact op_in0 true hK (by omega)
  | Is => exact op_is0 false
  | IsNot => exact op_is0 true
  | Lt => exact op_lt0 hK hu
  | LtE =>
    intro pins s σ H x y v u Q I rx ry h
    obtain ⟨ρ, η, d, e, z, sim, rd, re, hz, w⟩ := h
    simp only [cmpD] at hz
    split at hz
    · have e1 := Rep.int rd
      have e2 := Rep.int re
      subst e1; subst e2; cases hz
      exact op_le pins s σ H _ _ v u Q I rx ry ⟨_, _, rfl, rfl, w⟩
    · cases hz
  | Gt =>
    intro pins s σ H x y v u Q I rx ry h
    obtain ⟨ρ, η, d, e, z, sim, rd, re, hz, w⟩ := h
    simp only [cmpD] at hz
    split at hz
    · have e1 := Rep.int rd
      have e2 := Rep.int re
      subst e1; subst e2; cases hz
      exact op_gt pins s σ H _ _ v u Q I rx ry ⟨_, _, rfl, rfl, w⟩
    · cases hz
  | GtE =>
    intro pins s σ H x y v u Q I rx ry h
    obtain ⟨ρ, η, d, e, z, sim, rd, re, hz, w⟩ := h
    simp only [cmpD] at hz
    split at hz
    · have e1 := Rep.int rd
      have e2 := Rep.int re
      subst e1; subst e2; cases hz
      exact op_ge pins s σ H _ _ v u Q I rx ry ⟨_, _, rfl, rfl, w⟩
    · cases hz
/-! ### subscripts -/
theorem reps_at {ρ : List Addr} {H : Hp} {xs : List D} {vs : List V} {i : Int} {d : D} (r : Reps W ρ H xs vs) (e : atI xs i = some d) : ∃ v, atI vs i = some v ∧ Rep W ρ H d v := by
  unfold atI at e ⊢
  rw [r.len]
  cases c : ixN xs.length i with
  | none => rw [c] at e; cases e
  | some j =>
    rw [c] at e
    exact r.get e
theorem ix_ok (hK : W.K = X.K) : IxR X (rBin W ixD) := by
  intro value slice pins s σ H x y v u Q I rx ry h hs
  obtain ⟨ρ, η, d, e, z, sim, rd, re, hz, w⟩ := h
  unfold ixD at hz
  split at hz
  · rename_i xs i c
    have e2 := Rep.int re
    subst e2
    obtain ⟨a, vs, e1, q, l, r⟩ := see_lst sim rd c
    subst e1
    obtain ⟨v', h1, h2⟩ := reps_at r hz
    exact ix_seq value slice pins s σ H _ _ v u Q I rx ry (.inl ⟨a, vs, i, v', rfl, rfl, SqL.of q, h1, w.here sim h2⟩) hs
  · rename_i xs i c
    have e2 := Rep.int re
    subst e2
    obtain ⟨a, vs, e1, q, l, r⟩ := see_tup rd c
    subst e1
    rw [hK] at q
    obtain ⟨v', h1, h2⟩ := reps_at r hz
    exact ix_seq value slice pins s σ H _ _ v u Q I rx ry (.inr (.inl ⟨a, vs, i, v', rfl, rfl, q, h1, w.here sim h2⟩)) hs
  · rename_i xs i c
    have e2 := Rep.int re
    subst e2
    obtain ⟨a, vs, e1, q, l, r⟩ := see_scr rd c
    subst e1
    rw [hK] at q
    obtain ⟨v', h1, h2⟩ := reps_at r hz
    exact ix_seq value slice pins s σ H _ _ v u Q I rx ry (.inl ⟨a, vs, i, v', rfl, rfl, q, h1, w.here sim h2⟩) hs
  · rename_i xx i c
    have e2 := Rep.int re
    subst e2
    obtain ⟨e1, l⟩ := see_str rd c
    subst e1
    simp only [Option.map_eq_some_iff] at hz
    obtain ⟨cc, hz, e3⟩ := hz
    subst e3
    refine ix_seq value slice pins s σ H _ _ v u Q I rx ry (.inr (.inr ⟨xx, i, cc, rfl, rfl, l, hz, w.here sim ⟨rfl, ?_⟩⟩)) hs
    rw [sizeLine_eq]; exact (by decide : 1 ≤ 16777216)
  · cases hz
theorem cut_reps {ρ : List Addr} {H : Hp} {xs : List D} {vs : List V} (r : Reps W ρ H xs vs) (lo hi : Option Int) : Reps W ρ H (cutD xs lo hi) (cutV vs lo hi) := by
  unfold cutD cutV
  rw [r.len]
  exact (r.drop _).take _
theorem cut_len (xs : List D) (lo hi : Option Int) : (cutD xs lo hi).length ≤ xs.length := by
  unfold cutD
  rw [List.length_take, List.length_drop]
  omega
def rSl (W : Wd) : V → Option Int → Option Int → Hp → VK → Prop := fun p lo hi H Q => ∃ ρ η d z, Sim W ρ η H ∧ Rep W ρ H d p ∧ slD η d lo hi = some z ∧ Want W ρ η H z Q
theorem sl_ok (hK : W.K = X.K) : SlR X (rSl W) := by
  intro pins s σ H x v vl vu lo hi sl Q I rx hs pl pu h
  obtain ⟨ρ, η, d, z, sim, rd, hz, w⟩ := h
  unfold slD at hz
  split at hz
  · rename_i xs c
    cases hz
    obtain ⟨a, vs, e1, q, l, r⟩ := see_lst sim rd c
    subst e1
    exact sl_list pins s σ H _ v vl vu lo hi sl Q I rx hs pl pu ⟨a, vs, rfl, SqL.of q, w.lst sim (Nat.le_trans (cut_len _ _ _) l) (cut_reps r lo hi)⟩
  · rename_i xs c
    cases hz
    obtain ⟨a, vs, e1, q, l, r⟩ := see_scr rd c
    subst e1
    rw [hK] at q
    exact sl_list pins s σ H _ v vl vu lo hi sl Q I rx hs pl pu ⟨a, vs, rfl, q, w.lst sim (Nat.le_trans (cut_len _ _ _) l) (cut_reps r lo hi)⟩
  · rename_i xs c
    cases hz
    obtain ⟨a, vs, e1, q, l, r⟩ := see_tup rd c
    subst e1
    have q' := q
    rw [hK] at q'
    refine sl_tupA pins s σ H _ v vl vu lo hi sl Q I rx hs pl pu ⟨a, vs, rfl, q', fun hw => ?_, fun _ => w.tup sim (Nat.le_trans (cut_len _ _ _) l) (cut_reps r lo hi)⟩
    have e : cutD xs lo hi = xs := by
      unfold cutD
      rw [← r.len, hw.1, hw.2]
      simp [r.len]
    rw [e] at w
    exact w.here sim ⟨a, vs, rfl, q, l, r⟩
  · rename_i xx c
    cases hz
    obtain ⟨e1, l⟩ := see_str rd c
    subst e1
    refine sl_str pins s σ H _ v vl vu lo hi sl Q I rx hs pl pu ⟨xx, rfl, l, w.here sim ⟨rfl, ?_⟩⟩
    refine Nat.le_trans ?_ l
    unfold cutS Str.length
    simp
    have : xx.cps.size = xx.length := rfl
    omega
  · cases hz
end
end MI
end
/-! MIe -/
section
set_option linter.all false
set_option maxRecDepth 100000
set_option maxHeartbeats 4000000
/-! Built-ins of MI. -/
namespace MI
open PySem L2 PyProof.Rows

/-! ### t[::-1] -/
section
variable {prog : Program} {w : World} {A : Around} {E : Value → Shared → Prop} {s : Shared}
theorem adj_back (n : Nat) : Builtin.Slice.sliceAdjust none none (-1) (n : Int) = ((n : Int) - 1, -1) := by
  unfold Builtin.Slice.sliceAdjust
  simp
theorem plc_back (n : Nat) : Builtin.Slice.slicePlaces ((n : Int) - 1) (-1) (-1) = n := by
  unfold Builtin.Slice.slicePlaces
  have h0 : ¬ ((-1 : Int) > 0) := by decide
  rw [if_neg h0]
  split
  · have e : (((n : Int) - 1) - (-1) - 1) / (- (-1)) + 1 = (n : Int) := by
      have : (- (-1 : Int)) = 1 := by decide
      rw [this, Int.ediv_one]; omega
    rw [e]; simp
  · omega
theorem applied_back {sl : Addr} {n : Nat} {u : Value} {Q : Int × Int × Nat → Shared → Prop} (hs : s.heap.IsSliceOf sl .none .none u) (hu : IsPart u (some (-1))) (h : Q ((n : Int) - 1, -1, n) s) :
    wpAny (model prog w) A (Builtin.Slice.sliceApplied (.ref sl) (pure (n : Int))) Q E s := by
  obtain ⟨ob, g1, g2, g3⟩ := id hs
  obtain ⟨t, rfl⟩ : ∃ t, u = .int (-1) t := by
    cases hu
    exact ⟨_, rfl⟩
  unfold Builtin.Slice.sliceApplied Builtin.Slice.sliceFields
  refine wpAny_bind (wpAny_bind (wpAny_field g1 g3 (x := .none) rfl (wpAny_bind (wpAny_field g1 g3 (x := .none) rfl (wpAny_bind (wpAny_field g1 g3 (x := .int (-1) t) rfl (wpAny_pure ?_)))))))
  refine wpAny_bind (slicePart_int ?_)
  show wpAny _ _ (if ((-1 : Int) == 0) = true then _ else _) _ _ s
  rw [if_neg (by decide)]
  refine wpAny_bind (slicePart_none (wpAny_bind (slicePart_none (wpAny_bind (wpAny_pure ?_)))))
  show wpAny _ _ (match Builtin.Slice.sliceAdjust none none (-1) (n : Int) with | (lo, hi) => pure (lo, (-1 : Int), Builtin.Slice.slicePlaces lo hi (-1))) _ _ s
  rw [adj_back n]
  show wpAny _ _ (pure ((n : Int) - 1, (-1 : Int), Builtin.Slice.slicePlaces ((n : Int) - 1) (-1) (-1))) _ _ s
  rw [plc_back n]
  exact wpAny_pure h
theorem fm_congr {α β : Type} {f g : α → Option β} : ∀ (l : List α), (∀ a ∈ l, f a = g a) → l.filterMap f = l.filterMap g
  | [], _ => rfl
  | a :: l, h => by
    rw [List.filterMap_cons, List.filterMap_cons, h a List.mem_cons_self, fm_congr l fun b hb => h b (List.mem_cons_of_mem _ hb)]
theorem pick_back (xs : Array Value) : ((List.range xs.size).filterMap fun (k : Nat) => xs[(((xs.size : Int) - 1) + (k : Int) * (-1)).toNat]?) = xs.toList.reverse := by
  apply List.ext_getElem?
  intro i
  have key : (List.range xs.size).filterMap (fun (k : Nat) => xs[(((xs.size : Int) - 1) + (k : Int) * (-1)).toNat]?) = (List.range xs.size).map (fun k => xs.toList.reverse.getD k .none) := by
    rw [← List.filterMap_eq_map]
    refine fm_congr _ fun k hk => ?_
    have hk' : k < xs.size := List.mem_range.mp hk
    have e : (((xs.size : Int) - 1) + (k : Int) * (-1)).toNat = xs.size - 1 - k := by omega
    rw [e]
    have h1 : xs.size - 1 - k < xs.size := by omega
    simp only [Function.comp]
    rw [List.getD_eq_getElem?_getD, List.getElem?_reverse (by simpa using hk')]
    simp [h1]
  rw [key]
  by_cases hi : i < xs.size
  · rw [List.getElem?_map, List.getElem?_range hi]
    simp only [Option.map_some]
    rw [List.getD_eq_getElem?_getD]
    have : i < xs.toList.reverse.length := by simpa using hi
    rw [List.getElem?_eq_getElem this]; rfl
  · rw [List.getElem?_eq_none (by simpa using hi), List.getElem?_eq_none (by simpa using hi)]
theorem item_tup_back {t sl : Addr} {items : Array Value} {u : Value} {Q : Value → Shared → Prop} (ht : IsTup s.heap t items) (hs : s.heap.IsSliceOf sl .none .none u) (hu : IsPart u (some (-1)))
    (h : Q (.ref s.heap.objs.size) { s with heap := s.heap.push { cls := .type "tuple", data := .seq items.toList.reverse.toArray } })
    (hz : items.size ≤ sizeLine) : wpAny (model prog w) A (getItem (.ref t) (.ref sl)) Q E s := by
  have hsz : sizeOk (.seq items.toList.reverse.toArray) := by
    show items.toList.reverse.toArray.size ≤ sizeLine
    simpa using hz
  obtain ⟨ob, g1, g2, g3⟩ := id hs
  have hT : s.TypeIs (.ref sl) "slice" := ⟨ob, g1, g2⟩
  unfold getItem
  try with_reducible refine wpAny_holding ?_
  first | refine wpAny_bind (wpAny_pure ?_) | skip
  refine wpAny_bind (wpAny_sequenceKey ht.typeIs (by decide) (wpAny_bind (wpAny_callSpecial?_slot (name := Str.ofString "__getitem__") ht.typeIs slot_tuple_getitem (wpAny_call_entry slot_tuple_getitem ht.typeIs entry_tuple_getitem ?_ (args_tuple_getitem _ _)))))
  show wpAny _ _ (Builtin.Tuple.tupleItemsOf (.ref t) >>= _) _ _ s
  refine wpAny_bind (tupleItemsOf_ ht (wpAny_bind (wpAny_typeOf hT ?_)))
  rw [if_pos (by decide)]
  refine wpAny_bind (applied_back (n := items.size) hs hu ?_)
  have hno : ¬ (((items.size : Int) - 1 == 0 && (-1 : Int) == 1 && items.size == items.size) = true) := by simp
  show wpAny _ _ (if ((items.size : Int) - 1 == 0 && (-1 : Int) == 1 && items.size == items.size) = true then _ else _) _ _ s
  rw [if_neg hno, pick_back items]
  first
    | exact wpAny_bind (m := Builtin.Tuple.tupleExact _) (wpAny_newObj_type (wpAny_pure ⟨_, rfl, wpAny_pure h⟩) hsz)
    | exact wpAny_bind (m := Builtin.Tuple.tupleExact _) (wpAny_newObj_type (wpAny_bind (wpAny_pure (wpAny_pure ⟨_, rfl, wpAny_pure h⟩))) hsz)
    | exact wpAny_bind (wpAny_bind (m := Builtin.Tuple.tupleExact _) (wpAny_newObj_type (wpAny_pure (wpAny_pure ⟨_, rfl, wpAny_pure h⟩)) hsz))
    | exact wpAny_bind (wpAny_bind (m := Builtin.Tuple.tupleExact _) (wpAny_newObj_type (wpAny_pure ⟨_, rfl, wpAny_pure h⟩) hsz))
end
def tRev (K : PySem.W.Frag) (te : TE) : TE := fun σ H Q => te σ H fun x H1 => (∃ z, x = .str z ∧ z.length ≤ sizeLine ∧ Q (.str (revS z)) H1) ∨ ∃ a xs, x = .ref a ∧ ((SqL K H1 a xs ∧ ∀ p, H1 p = none → Q (.ref p) (upd H1 p (.lst xs.reverse))) ∨ (SqT K H1 a xs ∧ ∀ p, H1 p = none → Q (.ref p) (upd H1 p (.tup xs.reverse))))
theorem pe_rev {X : Cx} {e : Expr} {te : TE} {k : Nat} {p1 p2 p3 pos : Pos} (he : PE X e te) : PE X (.Subscript e (.Slice none none (some (.UnaryOp .USub (.Constant (.int 1) k p1) p2)) p3) pos) (tRev X.K te) := by
  refine ⟨fun pins s σ H Q I h => Subscript_ (thn (he.run pins s σ H _ I h) fun v s1 ⟨x, H1, I1, r1, q⟩ => ?_)⟩
  have hst : PO X (some (.UnaryOp .USub (.Constant (.int 1) k p1) p2)) (tPart (tUn (rU fun i => .int (-i)) (tC (.int 1)))) := po_some (pe_un un_neg pe_int)
  refine wpAny_Slice (thn (po_none.run pins s1 σ H1 (fun o H2 => o = none ∧ H2 = H1) I1 ⟨rfl, rfl⟩) fun vl s2 ⟨l, H2, I2, pl, el, e2⟩ => ?_)
  subst el e2
  refine thn (po_none.run pins s2 σ H2 (fun o H3 => o = none ∧ H3 = H2) I2 ⟨rfl, rfl⟩) fun vu s3 ⟨u, H3, I3, pu, eu, e3⟩ => ?_
  subst eu e3
  refine thn (hst.run pins s3 σ H3 (fun o H4 => o = some (-1) ∧ H4 = H3) I3 ⟨1, rfl, -1, rfl, rfl, rfl⟩) fun vs s4 ⟨o, H4, I4, ps, eo, e4⟩ => ?_
  subst eo e4
  have I5 : L2.Inv X pins σ H4 { s4 with heap := s4.heap.push { cls := .type "slice", data := .fields #[vl, vu, vs] } } := I4.kept (t' := s4.toks) fun b ob q => Heap.get?_push_of_some _ q
  rcases q with ⟨z, ex, hz, q⟩ | ⟨a, xs, ex, q⟩
  · subst ex
    obtain ⟨t, rfl⟩ := r1
    cases pl
    cases pu
    obtain ⟨t2, rfl⟩ : ∃ t2, vs = .int (-1) t2 := by
      cases ps
      exact ⟨_, rfl⟩
    show wpAny _ _ (subscriptTail e (.Slice none none (some (.UnaryOp .USub (.Constant (.int 1) k p1) p2)) p3) (.str z t) (.ref s4.heap.objs.size)) _ _ _
    refine tail_any (ops := [.str z t, .ref s4.heap.objs.size]) (typeIs_str _ _ _) F.slot_str_getitem.lookup ?_ (by with_unfolding_all rfl)
    refine wpAny_getItem_str_slice (l := none) (u := none) (st := some (-1, t2)) ⟨_, Heap.get?_push_size _ rfl, rfl, rfl⟩ rfl ?_
    have hs : sliceMade z t none none (some (-1, t2)) = .str (revS z) := by
      unfold sliceMade slicePicked
      have h1 : (((some ((-1 : Int), t2)).map (·.1)).getD 1 == 1 && (Builtin.Str.strSliceIndices (((none : Option (Int × Tok)).map (·.1))) (((none : Option (Int × Tok)).map (·.1))) (((some ((-1 : Int), t2)).map (·.1)).getD 1) z.length).length == z.length) = false := by
        simp
      rw [if_neg (by rw [h1]; simp)]
      show Made.str ⟨((Builtin.Str.strSliceIndices none none (-1) z.length).filterMap (z.cps[·]?)).toArray⟩ = _
      rw [pick_rev]
      rfl
    rw [hs]
    exact ⟨by show (revS z).length ≤ sizeLine; rw [revS_len]; exact hz, .str (revS z), H4, I5.tok _, ⟨_, rfl⟩, q⟩
  subst ex
  cases r1
  rcases q with ⟨hx, q⟩ | ⟨hx, q⟩
  · obtain ⟨its, r, ht, hz⟩ := I5.list hx
    have hlen := r.length
    show wpAny _ _ (subscriptTail e (.Slice none none (some (.UnaryOp .USub (.Constant (.int 1) k p1) p2)) p3) (.ref a) (.ref s4.heap.objs.size)) _ _ _
    refine tail_any (ops := [.ref a, .ref s4.heap.objs.size]) ht.isList.typeIs (PySem.slot_list_getitem.lookup) ?_ (by with_unfolding_all rfl)
    refine wpAny_getItem_list_slice ht.isList (Heap.IsSliceOf.new _ vl vu vs) pl pu ps (by decide) ?_ (by rw [List.size_toArray]; omega)
    rw [PySem.W.krv_pick]
    exact ⟨.ref _, _, I5.laid (t' := s4.toks) (o := .lst xs.reverse) (fun b ob q => Heap.get?_push_of_some _ q) (Nat.le_refl _) ⟨by rw [List.length_reverse]; exact hz, _, 0, r.reverse, Heap.get?_push_size _ rfl⟩, rfl, q _ (I5.hok.fresh (Nat.le_refl _))⟩
  · obtain ⟨its, r, ht, hz⟩ := I5.tuple hx
    have hlen := r.length
    cases pl
    cases pu
    show wpAny _ _ (subscriptTail e (.Slice none none (some (.UnaryOp .USub (.Constant (.int 1) k p1) p2)) p3) (.ref a) (.ref s4.heap.objs.size)) _ _ _
    refine tail_any (ops := [.ref a, .ref s4.heap.objs.size]) ht.typeIs (PyProof.Rows.slot_tuple_getitem.lookup) ?_ (by with_unfolding_all rfl)
    refine item_tup_back ht (Heap.IsSliceOf.new _ .none .none vs) ps ?_ (by rw [List.size_toArray]; omega)
    exact ⟨.ref _, _, I5.laid (t' := s4.toks) (o := .tup xs.reverse) (fun b ob q => Heap.get?_push_of_some _ q) (Nat.le_refl _) ⟨by rw [List.length_reverse]; exact hz, _, by simpa using r.reverse, ⟨_, Heap.get?_push_size _ rfl, rfl, _, rfl⟩⟩, rfl, q _ (I5.hok.fresh (Nat.le_refl _))⟩
end MI
end
/-! MIf -/
section
set_option linter.all false
set_option maxRecDepth 100000
set_option maxHeartbeats 4000000
/-! Built-ins of MI, by values. -/
namespace MI
open PySem L2 PyProof.Rows

def rBi (W : Wd) (b : Bi) : List V → Hp → VK → Prop := fun xs H Q => ∃ ρ η ds z, Sim W ρ η H ∧ Reps W ρ H ds xs ∧ biD η b ds = some z ∧ Want W ρ η H z Q
section
variable {X : Cx} {W : Wd}
theorem reps1 {ρ : List Addr} {H : Hp} {d : D} {xs : List V} (r : Reps W ρ H [d] xs) : ∃ v, xs = [v] ∧ Rep W ρ H d v := by
  obtain ⟨v, r', e, h1, h2⟩ := (show ∃ v r, xs = v :: r ∧ Rep W ρ H d v ∧ Reps W ρ H [] r from r)
  have e2 : r' = [] := h2
  subst e2
  exact ⟨v, e, h1⟩
theorem reps2 {ρ : List Addr} {H : Hp} {d e : D} {xs : List V} (r : Reps W ρ H [d, e] xs) : ∃ v u, xs = [v, u] ∧ Rep W ρ H d v ∧ Rep W ρ H e u := by
  obtain ⟨v, r', e1, h1, h2⟩ := (show ∃ v r, xs = v :: r ∧ Rep W ρ H d v ∧ Reps W ρ H [e] r from r)
  obtain ⟨u, e2, h3⟩ := reps1 h2
  subst e2
  exact ⟨v, u, e1, h1, h3⟩
theorem see_list {ρ : List Addr} {η : List C} {H : Hp} {d : D} {v : V} {xs : List D} (s : Sim W ρ η H) (r : Rep W ρ H d v) (e : lstOf η d = some xs) : ∃ a vs, v = .ref a ∧ SqL W.K H a vs ∧ xs.length ≤ sizeLine ∧ Reps W ρ H xs vs := by
  unfold lstOf at e
  split at e
  · rename_i ys c
    cases e
    obtain ⟨a, vs, e1, q, l, r⟩ := see_lst s r c
    exact ⟨a, vs, e1, SqL.of q, l, r⟩
  · rename_i ys c
    cases e
    exact see_scr r c
  · cases e
theorem see_seq {ρ : List Addr} {η : List C} {H : Hp} {d : D} {v : V} {xs : List D} (s : Sim W ρ η H) (r : Rep W ρ H d v) (e : seqOf η d = some xs) : ∃ a vs, v = .ref a ∧ (SqL W.K H a vs ∨ SqT W.K H a vs) ∧ xs.length ≤ sizeLine ∧ Reps W ρ H xs vs := by
  unfold seqOf at e
  split at e
  · rename_i ys c
    cases e
    obtain ⟨a, vs, e1, q, l, r⟩ := see_lst s r c
    exact ⟨a, vs, e1, .inl (SqL.of q), l, r⟩
  · rename_i ys c
    cases e
    obtain ⟨a, vs, e1, q, l, r⟩ := see_tup r c
    exact ⟨a, vs, e1, .inr q, l, r⟩
  · rename_i ys c
    cases e
    obtain ⟨a, vs, e1, q, l, r⟩ := see_scr r c
    exact ⟨a, vs, e1, .inl q, l, r⟩
  · cases e
theorem ints_of {ρ : List Addr} {H : Hp} : ∀ {xs : List D} {vs : List V} {ns : List Int}, Reps W ρ H xs vs → allSome intOf xs = some ns → vs = ns.map V.int
  | [], vs, ns, r, e => by have e1 : vs = [] := r; simp [allSome] at e; subst e1; subst e; rfl
  | x :: xs, vs, ns, r, e => by
    obtain ⟨v, r', e1, h1, h2⟩ := (show ∃ v r, vs = v :: r ∧ Rep W ρ H x v ∧ Reps W ρ H xs r from r)
    simp only [allSome] at e
    cases c1 : intOf x with
    | none => rw [c1] at e; cases e
    | some n =>
      cases c2 : allSome intOf xs with
      | none => rw [c1, c2] at e; cases e
      | some m =>
        rw [c1, c2] at e
        cases e
        cases x <;> simp [intOf] at c1
        subst c1
        have e2 := Rep.int h1
        subst e2
        rw [e1, ints_of h2 c2]; rfl
theorem bls_of {ρ : List Addr} {H : Hp} : ∀ {xs : List D} {vs : List V} {ns : List Bool}, Reps W ρ H xs vs → allSome blOf xs = some ns → vs = ns.map V.bl
  | [], vs, ns, r, e => by have e1 : vs = [] := r; simp [allSome] at e; subst e1; subst e; rfl
  | x :: xs, vs, ns, r, e => by
    obtain ⟨v, r', e1, h1, h2⟩ := (show ∃ v r, vs = v :: r ∧ Rep W ρ H x v ∧ Reps W ρ H xs r from r)
    simp only [allSome] at e
    cases c1 : blOf x with
    | none => rw [c1] at e; cases e
    | some n =>
      cases c2 : allSome blOf xs with
      | none => rw [c1, c2] at e; cases e
      | some m =>
        rw [c1, c2] at e
        cases e
        cases x <;> simp [blOf] at c1
        subst c1
        have e2 := Rep.bl h1
        subst e2
        rw [e1, bls_of h2 c2]; rfl
theorem max_fold : ∀ (xs : List Int) (x : Int), (xs.foldl (fun a b => if b > a then b else a) x ∈ x :: xs) ∧ ∀ y ∈ x :: xs, y ≤ xs.foldl (fun a b => if b > a then b else a) x
  | [], x => ⟨by simp, by simp⟩
  | b :: xs, x => by
    obtain ⟨h1, h2⟩ := max_fold xs (if b > x then b else x)
    rw [List.foldl_cons]
    constructor
    · rcases List.mem_cons.mp h1 with e | e
      · rw [e]
        split
        · simp
        · simp
      · exact List.mem_cons_of_mem _ (List.mem_cons_of_mem _ e)
    · intro y hy
      have h3 := h2 (if b > x then b else x) List.mem_cons_self
      rcases List.mem_cons.mp hy with e | hy
      · subst e
        refine Int.le_trans ?_ h3
        split <;> omega
      · rcases List.mem_cons.mp hy with e | hy
        · subst e
          refine Int.le_trans ?_ h3
          split <;> omega
        · exact h2 y (List.mem_cons_of_mem _ hy)
theorem min_fold : ∀ (xs : List Int) (x : Int), (xs.foldl (fun a b => if b < a then b else a) x ∈ x :: xs) ∧ ∀ y ∈ x :: xs, xs.foldl (fun a b => if b < a then b else a) x ≤ y
  | [], x => ⟨by simp, by simp⟩
  | b :: xs, x => by
    obtain ⟨h1, h2⟩ := min_fold xs (if b < x then b else x)
    rw [List.foldl_cons]
    constructor
    · rcases List.mem_cons.mp h1 with e | e
      · rw [e]
        split
        · simp
        · simp
      · exact List.mem_cons_of_mem _ (List.mem_cons_of_mem _ e)
    · intro y hy
      have h3 := h2 (if b < x then b else x) List.mem_cons_self
      rcases List.mem_cons.mp hy with e | hy
      · subst e
        refine Int.le_trans h3 ?_
        split <;> omega
      · rcases List.mem_cons.mp hy with e | hy
        · subst e
          refine Int.le_trans h3 ?_
          split <;> omega
        · exact h2 y (List.mem_cons_of_mem _ hy)
theorem bi1_at {ρ : List Addr} {H : Hp} {f : D → Option D} {ds : List D} {xs : List V} {us : List Value} {z : D} (r : Reps W ρ H ds xs) (ru : Vals xs us) (e : bi1 f ds = some z) :
    ∃ d v u, ds = [d] ∧ xs = [v] ∧ us = [u] ∧ Rep W ρ H d v ∧ RelV v u ∧ f d = some z := by
  unfold bi1 at e
  split at e
  · rename_i d
    obtain ⟨v, ex, rv⟩ := reps1 r
    subst ex
    cases ru with
    | cons a b => cases b; exact ⟨d, v, _, rfl, rfl, rfl, rv, a, e⟩
  · cases e
theorem bi2_at {ρ : List Addr} {H : Hp} {f : D → D → Option D} {ds : List D} {xs : List V} {us : List Value} {z : D} (r : Reps W ρ H ds xs) (ru : Vals xs us) (e : bi2 f ds = some z) :
    ∃ d d' v v' u u', ds = [d, d'] ∧ xs = [v, v'] ∧ us = [u, u'] ∧ Rep W ρ H d v ∧ Rep W ρ H d' v' ∧ RelV v u ∧ RelV v' u' ∧ f d d' = some z := by
  unfold bi2 at e
  split at e
  · rename_i d d'
    obtain ⟨v, v', ex, rv, rv'⟩ := reps2 r
    subst ex
    cases ru with
    | cons a b =>
      cases b with
      | cons a' b => cases b; exact ⟨d, d', v, v', _, _, rfl, rfl, rfl, rv, rv', a, a', e⟩
  · cases e
/-- repr -/
theorem py_shown_sz {p : PyData} (h : decide (p.shown.length ≤ lim) = true) : p.shown.length ≤ sizeLine := by rw [← lim_eq]; exact of_decide_eq_true h
theorem nodict_of : ∀ {d : D} {p : PyData}, py d = some p → p.hasDict = false := by
  intro d
  refine @D.rec (motive_1 := fun d => ∀ p, py d = some p → p.hasDict = false) (motive_2 := fun ds => ∀ ps, pys ds = some ps → PyData.hasDictAll ps = false) (motive_3 := fun _ => True) (motive_4 := fun _ => True) ?_ ?_ ?_ ?_ ?_ ?_ ?_ ?_ ?_ ?_ ?_ ?_ ?_ ?_ ?_ ?_ d
  · intro p h; simp [py] at h; subst h; rfl
  · intro b p h; simp [py] at h; subst h; rfl
  · intro b p h; simp [py] at h; subst h; rfl
  · intro b p h; simp [py] at h; subst h; rfl
  · intro xs ih p h
    simp only [py, Option.map_eq_some_iff] at h
    obtain ⟨ps, h1, h2⟩ := h
    subst h2
    exact ih ps h1
  · intro xs ih p h
    simp only [py, Option.map_eq_some_iff] at h
    obtain ⟨ps, h1, h2⟩ := h
    subst h2
    exact ih ps h1
  · intro xs ih p h; simp [py] at h
  · intro xs ih p h; simp [py] at h
  · intro xs p h; simp [py] at h
  · intro xs p h; simp [py] at h
  · intro c x _ p h; simp [py] at h
  · intro ps h; simp [pys] at h; subst h; rfl
  · intro x xs ih1 ih2 ps h
    simp only [pys] at h
    cases c1 : py x with
    | none => rw [c1] at h; cases h
    | some q =>
      cases c2 : pys xs with
      | none => rw [c1, c2] at h; cases h
      | some qs =>
        rw [c1, c2] at h
        cases h
        simp [PyData.hasDictAll, ih1 q c1, ih2 qs c2]
  · trivial
  · intros; trivial
  · intros; trivial
theorem nodict_view {η : List C} {d : D} {p : PyData} (h : py (view η d) = some p) : p.hasDict = false := nodict_of h
theorem cr_repr (hK : W.K = X.K) (hg : X.A.guards = some []) (hu : X.A.units + 66 < cLine) : CallR X (.builtin "repr") (rBi W .repr) := by
  intro pins s σ H xs us Q I r h
  obtain ⟨ρ, η, ds, z, sim, rd, hz0, w⟩ := h
  obtain ⟨x, v, u1, e1, e2, eu, rv, ru, hz⟩ := bi1_at (W := W) rd r (show bi1 (reprD η) ds = some z from hz0)
  clear hz0; subst e1; subst e2; subst eu
  unfold reprD at hz
  simp only [Option.bind_eq_some_iff] at hz
  obtain ⟨p, hp, hz⟩ := hz
  split at hz
  · rename_i hc
    cases hz
    simp only [Bool.and_eq_true] at hc
    obtain ⟨⟨h1, h2⟩, h3⟩ := hc
    have hsz := py_shown_sz h3
    have dp := see_dp sim rv hp
    rw [hK] at dp
    obtain ⟨as, rr⟩ := Dp.reads I p v u1 dp ru
    have fin : ∀ h' u tk, (∀ b o, s.heap.get? b = some o → h'.get? b = some o) → EP X pins σ Q (.str p.shown u) { s with heap := h', toks := tk } := fun h' u tk hk =>
      ⟨.str p.shown, H, I.kept hk, ⟨u, rfl⟩, w.here sim ⟨rfl, hsz⟩⟩
    cases dp with
    | non => cases (show u1 = Value.none from ru); exact PySem.P.repr_of_none (fin s.heap _ _ fun _ _ e => e)
    | bl b => cases (show u1 = Value.bool b from ru); exact PySem.P.repr_of_bool (fin s.heap _ _ fun _ _ e => e)
    | int i =>
      obtain ⟨t, e⟩ := (show ∃ t, u1 = Value.int i t from ru)
      subst e
      exact PySem.P.repr_of_int (by simpa [PyData.showable] using h2) (fin s.heap _ _ fun _ _ e => e)
    | str y =>
      obtain ⟨t, e⟩ := (show ∃ t, u1 = Value.str y t from ru)
      subst e
      exact PySem.P.repr_of_str (fin s.heap _ _ fun _ _ e => e) hsz
    | lst q1 q2 =>
      rename_i a vs qs
      cases (show u1 = Value.ref a from ru)
      have hd : (PyData.list qs).depth ≤ 64 := by have := (Bool.and_eq_true_iff.mp h1).2; exact of_decide_eq_true this
      exact repr_of_reads' rr h2 (fun z => by rw [nodict_view hp] at z; cases z) hg (by omega) (fun _ _ e => e) (fin) hsz
    | tup q1 q2 =>
      rename_i a vs qs
      cases (show u1 = Value.ref a from ru)
      have hd : (PyData.tuple qs).depth ≤ 64 := by have := (Bool.and_eq_true_iff.mp h1).2; exact of_decide_eq_true this
      exact repr_of_reads' rr h2 (fun z => by rw [nodict_view hp] at z; cases z) hg (by omega) (fun _ _ e => e) (fin) hsz
  · cases hz
theorem cr_len0 (hK : W.K = X.K) : CallR X (.builtin "len") (rBi W .len) := by
  intro pins s σ H xs us Q I r h
  obtain ⟨ρ, η, ds, z, sim, rd, hz0, w⟩ := h
  obtain ⟨x, v, u1, e1, e2, eu, rv, ru, hz⟩ := bi1_at (W := W) rd r (show bi1 (lenD η) ds = some z from hz0)
  clear hz0; subst e1; subst e2; subst eu
  unfold lenD at hz
  split at hz
  · rename_i y c
    cases hz
    obtain ⟨e, l⟩ := see_str rv c
    subst e
    exact call_len pins s σ H _ _ Q I r ⟨_, _, rfl, ⟨l, rfl⟩, w.here sim rfl⟩
  · rename_i y c
    cases hz
    obtain ⟨a, vs, e, q, l, r'⟩ := see_tup rv c
    subst e
    rw [hK] at q
    exact call_len pins s σ H _ _ Q I r ⟨_, _, rfl, .inr ⟨vs, q, r'.len.symm⟩, w.here sim rfl⟩
  · rename_i y c
    cases hz
    obtain ⟨a, vs, e, q, l, r'⟩ := see_lst sim rv c
    subst e
    exact call_len pins s σ H _ _ Q I r ⟨_, _, rfl, .inl ⟨vs, SqL.of q, r'.len.symm⟩, w.here sim rfl⟩
  · rename_i y c
    cases hz
    obtain ⟨a, vs, e, q, l, r'⟩ := see_scr rv c
    subst e
    rw [hK] at q
    exact call_len pins s σ H _ _ Q I r ⟨_, _, rfl, .inl ⟨vs, q, r'.len.symm⟩, w.here sim rfl⟩
  · cases hz
theorem cr_tuple0 (hK : W.K = X.K) : CallR X (.type "tuple") (rBi W .tuple) := by
  intro pins s σ H xs us Q I r h
  obtain ⟨ρ, η, ds, z, sim, rd, hz0, w⟩ := h
  obtain ⟨x, v, u1, e1, e2, eu, rv, ru, hz⟩ := bi1_at (W := W) rd r (show bi1 (tupD η) ds = some z from hz0)
  clear hz0; subst e1; subst e2; subst eu
  unfold tupD at hz
  split at hz
  · rename_i y c
    cases hz
    obtain ⟨a, vs, e, q, l, r'⟩ := see_tup rv c
    subst e
    have q' := q
    rw [hK] at q
    exact call_tuple_of pins s σ H _ _ Q I r ⟨a, vs, rfl, .inr ⟨q, w.here sim ⟨a, vs, rfl, q', l, r'⟩⟩⟩
  · rename_i y c
    cases hz
    obtain ⟨a, vs, e, q, l, r'⟩ := see_lst sim rv c
    subst e
    exact call_tuple_of pins s σ H _ _ Q I r ⟨a, vs, rfl, .inl ⟨SqL.of q, w.tup sim l r'⟩⟩
  · cases hz
theorem cr_list0 (hK : W.K = X.K) : CallR X (.type "list") (rBi W .list) := by
  intro pins s σ H xs us Q I r h
  obtain ⟨ρ, η, ds, z, sim, rd, hz0, w⟩ := h
  obtain ⟨x, v, u1, e1, e2, eu, rv, ru, hz⟩ := bi1_at (W := W) rd r (show bi1 (listD η) ds = some z from hz0)
  clear hz0; subst e1; subst e2; subst eu
  unfold listD at hz
  split at hz
  · rename_i y c
    cases hz
    obtain ⟨a, vs, e, q, l, r'⟩ := see_tup rv c
    subst e
    rw [hK] at q
    exact call_list_of pins s σ H _ _ Q I r ⟨a, vs, rfl, .inr q, w.lst sim l r'⟩
  · rename_i y c
    cases hz
    obtain ⟨a, vs, e, q, l, r'⟩ := see_lst sim rv c
    subst e
    exact call_list_of pins s σ H _ _ Q I r ⟨a, vs, rfl, .inl (SqL.of q), w.lst sim l r'⟩
  · cases hz
theorem cr_sum0 (hK : W.K = X.K) (hc : X.calm = true) : CallR X (.builtin "sum") (rBi W .sum) := by
  intro pins s σ H xs us Q I r h
  obtain ⟨ρ, η, ds, z, sim, rd, hz0, w⟩ := h
  obtain ⟨x, v, u1, e1, e2, eu, rv, ru, hz⟩ := bi1_at (W := W) rd r (show bi1 (sumD η) ds = some z from hz0)
  clear hz0; subst e1; subst e2; subst eu
  simp only [sumD, Option.bind_eq_some_iff, Option.map_eq_some_iff] at hz
  obtain ⟨ys, h1, ns, h2, h3⟩ := hz
  subst h3
  obtain ⟨a, vs, e, q, l, r'⟩ := see_list sim rv h1
  subst e
  have e := ints_of r' h2
  subst e
  rw [hK] at q
  exact cr_sum hc pins s σ H _ _ Q I r ⟨a, ns, rfl, q, w.here sim rfl⟩
theorem cr_all0 (hK : W.K = X.K) (hc : X.calm = true) : CallR X (.builtin "all") (rBi W .all) := by
  intro pins s σ H xs us Q I r h
  obtain ⟨ρ, η, ds, z, sim, rd, hz0, w⟩ := h
  obtain ⟨x, v, u1, e1, e2, eu, rv, ru, hz⟩ := bi1_at (W := W) rd r (show bi1 (allD η) ds = some z from hz0)
  clear hz0; subst e1; subst e2; subst eu
  simp only [allD, Option.bind_eq_some_iff, Option.map_eq_some_iff] at hz
  obtain ⟨ys, h1, ns, h2, h3⟩ := hz
  subst h3
  obtain ⟨a, vs, e, q, l, r'⟩ := see_list sim rv h1
  subst e
  have e := bls_of r' h2
  subst e
  rw [hK] at q
  exact cr_all hc pins s σ H _ _ Q I r ⟨a, ns, rfl, q, w.here sim rfl⟩
theorem cr_any0 (hK : W.K = X.K) (hc : X.calm = true) : CallR X (.builtin "any") (rBi W .any) := by
  intro pins s σ H xs us Q I r h
  obtain ⟨ρ, η, ds, z, sim, rd, hz0, w⟩ := h
  obtain ⟨x, v, u1, e1, e2, eu, rv, ru, hz⟩ := bi1_at (W := W) rd r (show bi1 (anyD η) ds = some z from hz0)
  clear hz0; subst e1; subst e2; subst eu
  simp only [anyD, Option.bind_eq_some_iff, Option.map_eq_some_iff] at hz
  obtain ⟨ys, h1, ns, h2, h3⟩ := hz
  subst h3
  obtain ⟨a, vs, e, q, l, r'⟩ := see_list sim rv h1
  subst e
  have e := bls_of r' h2
  subst e
  rw [hK] at q
  exact cr_any hc pins s σ H _ _ Q I r ⟨a, ns, rfl, q, w.here sim rfl⟩
theorem reads_ints {h : Heap} : ∀ {ns : List Int} {us : List Value}, Vals (ns.map V.int) us → ∃ as, ReadsAll h us (ns.map PyData.int) as
  | [], us, r => by cases r; exact ⟨_, .nil⟩
  | n :: ns, us, r => by
    cases r with
    | cons r1 r2 =>
      obtain ⟨t, rfl⟩ := r1
      obtain ⟨as, q⟩ := reads_ints r2
      exact ⟨_, .cons (.int n t) q⟩
theorem max_step (n : Int) (ns : List Int) : ns.foldl max n = ns.foldl (fun a b => if b > a then b else a) n := by
  have e : (max : Int → Int → Int) = fun a b => if b > a then b else a := by
    funext a b
    by_cases h : b > a
    · rw [if_pos h]; omega
    · rw [if_neg h]; omega
  rw [e]
theorem cr_maxT (hc : X.calm = true) (hu : X.A.units + 66 < cLine) : CallR X (.builtin "max") (fun xs H Q => ∃ a n ns, xs = [V.ref a] ∧ SqT X.K H a ((n :: ns).map V.int) ∧ Q (.int (ns.foldl (fun a b => if b > a then b else a) n)) H) := by
  intro pins s σ H vs us Q I r h
  obtain ⟨a, n, ns, rfl, hs, q⟩ := h
  obtain ⟨its, rv, hl, _⟩ := I.tuple hs
  rw [Vals.ref1 r]
  obtain ⟨as, hr⟩ := reads_ints (h := s.heap) (ns := n :: ns) rv
  have hal : PySem.W.AlikeAll ((n :: ns).map PyData.int) := by
    refine ⟨fun x hx y hy => ?_, fun x hx => ?_⟩
    · obtain ⟨i, _, rfl⟩ := List.mem_map.mp hx
      obtain ⟨j, _, rfl⟩ := List.mem_map.mp hy
      rfl
    · obtain ⟨i, _, rfl⟩ := List.mem_map.mp hx
      intro z; cases z
  have hd : ∀ l : List Int, PyData.depthAll (l.map PyData.int) = 0 := fun l => by
    induction l with
    | nil => rfl
    | cons x l ih => simp only [List.map_cons, PyData.depthAll, PyData.depth, ih]; rfl
  refine PySem.W.max_tuple_data (I.ok.hd hc) hl (by simpa using hr) hal (by have := hd (n :: ns); simp only [List.map_cons] at this; rw [this]; omega) fun i v h' tk bs hi rd hk => ?_
  rw [PySem.W.maxD_ints, max_step] at rd
  obtain ⟨t, rfl⟩ : ∃ t, v = .int (ns.foldl (fun a b => if b > a then b else a) n) t := by
    cases rd with
    | int _ t => exact ⟨t, rfl⟩
  exact ⟨.int _, H, I.kept hk, ⟨_, rfl⟩, q⟩
theorem cr_max1 (hK : W.K = X.K) (hc : X.calm = true) (hu : X.A.units + 66 < cLine) : CallR X (.builtin "max") (rBi W .max1) := by
  intro pins s σ H xs us Q I r h
  obtain ⟨ρ, η, ds, z, sim, rd, hz0, w⟩ := h
  obtain ⟨x, v, u1, e1, e2, eu, rv, ru, hz⟩ := bi1_at (W := W) rd r (show bi1 (max1D η) ds = some z from hz0)
  clear hz0; subst e1; subst e2; subst eu
  unfold max1D at hz
  split at hz
  · rename_i ys
    simp only [maxOf, Option.bind_eq_some_iff, Option.map_eq_some_iff] at hz
    obtain ⟨ns, h2, m, h3, h4⟩ := hz
    subst h4
    obtain ⟨a, vs, e, q, l, r'⟩ := see_tup rv (η := η) rfl
    subst e
    have e := ints_of r' h2
    subst e
    rw [hK] at q
    cases ns with
    | nil => cases h3
    | cons n ns =>
      cases h3
      exact cr_maxT hc hu pins s σ H _ _ Q I r ⟨a, n, ns, rfl, q, w.here sim rfl⟩
  simp only [maxOf, Option.bind_eq_some_iff, Option.map_eq_some_iff] at hz
  obtain ⟨ys, h1, ns, h2, m, h3, h4⟩ := hz
  subst h4
  obtain ⟨a, vs, e, q, l, r'⟩ := see_list sim rv h1
  subst e
  have e := ints_of r' h2
  subst e
  rw [hK] at q
  cases ns with
  | nil => cases h3
  | cons n ns =>
    cases h3
    obtain ⟨g1, g2⟩ := max_fold ns n
    refine cr_max hc pins s σ H _ _ Q I r ⟨a, n :: ns, rfl, q, by simp, fun m m1 m2 => ?_⟩
    have e : m = ns.foldl (fun a b => if b > a then b else a) n := Int.le_antisymm (g2 m m1) (m2 _ g1)
    rw [e]
    exact w.here sim rfl
theorem cr_min1 (hK : W.K = X.K) (hc : X.calm = true) : CallR X (.builtin "min") (rBi W .min1) := by
  intro pins s σ H xs us Q I r h
  obtain ⟨ρ, η, ds, z, sim, rd, hz0, w⟩ := h
  obtain ⟨x, v, u1, e1, e2, eu, rv, ru, hz⟩ := bi1_at (W := W) rd r (show bi1 (min1D η) ds = some z from hz0)
  clear hz0; subst e1; subst e2; subst eu
  simp only [min1D, Option.bind_eq_some_iff, Option.map_eq_some_iff] at hz
  obtain ⟨ys, h1, ns, h2, m, h3, h4⟩ := hz
  subst h4
  obtain ⟨a, vs, e, q, l, r'⟩ := see_list sim rv h1
  subst e
  have e := ints_of r' h2
  subst e
  rw [hK] at q
  cases ns with
  | nil => cases h3
  | cons n ns =>
    cases h3
    obtain ⟨g1, g2⟩ := min_fold ns n
    refine cr_min hc pins s σ H _ _ Q I r ⟨a, n :: ns, rfl, q, by simp, fun m m1 m2 => ?_⟩
    have e : m = ns.foldl (fun a b => if b < a then b else a) n := Int.le_antisymm (m2 _ g1) (g2 m m1)
    rw [e]
    exact w.here sim rfl
theorem cr_max2 (hc : X.calm = true) : CallR X (.builtin "max") (rBi W .max2) := by
  intro pins s σ H xs us Q I r h
  obtain ⟨ρ, η, ds, z, sim, rd, hz0, w⟩ := h
  obtain ⟨x, y, v, v', u1, u2, e1, e2, eu, rv, rv', ru, ru', hz⟩ := bi2_at (W := W) rd r (show bi2 max2D ds = some z from hz0)
  clear hz0; subst e1; subst e2; subst eu
  unfold max2D at hz
  split at hz
  · cases hz
    have e1 := Rep.int rv
    have e2 := Rep.int rv'
    subst e1; subst e2
    exact call_max2 hc pins s σ H _ _ Q I r ⟨_, _, rfl, w.here sim rfl⟩
  · cases hz
theorem cr_min2 (hc : X.calm = true) : CallR X (.builtin "min") (rBi W .min2) := by
  intro pins s σ H xs us Q I r h
  obtain ⟨ρ, η, ds, z, sim, rd, hz0, w⟩ := h
  obtain ⟨x, y, v, v', u1, u2, e1, e2, eu, rv, rv', ru, ru', hz⟩ := bi2_at (W := W) rd r (show bi2 min2D ds = some z from hz0)
  clear hz0; subst e1; subst e2; subst eu
  unfold min2D at hz
  split at hz
  · cases hz
    have e1 := Rep.int rv
    have e2 := Rep.int rv'
    subst e1; subst e2
    exact call_min2 hc pins s σ H _ _ Q I r ⟨_, _, rfl, w.here sim rfl⟩
  · cases hz
theorem cr_int0 : CallR X (.type "int") (rBi W .int) := by
  intro pins s σ H xs us Q I r h
  obtain ⟨ρ, η, ds, z, sim, rd, hz0, w⟩ := h
  obtain ⟨x, v, u1, e1, e2, eu, rv, ru, hz⟩ := bi1_at (W := W) rd r (show bi1 toInt ds = some z from hz0)
  clear hz0; subst e1; subst e2; subst eu
  unfold toInt at hz
  split at hz
  · cases hz
    have e1 := Rep.int rv
    subst e1
    exact call_int1 pins s σ H _ _ Q I r (.inl ⟨_, rfl, w.here sim rfl⟩)
  · cases hz
    have e1 := Rep.bl rv
    subst e1
    exact call_int1 pins s σ H _ _ Q I r (.inr ⟨_, rfl, w.here sim rfl⟩)
  · cases hz
theorem cr_abs0 : CallR X (.builtin "abs") (rBi W .abs) := by
  intro pins s σ H xs us Q I r h
  obtain ⟨ρ, η, ds, z, sim, rd, hz0, w⟩ := h
  obtain ⟨x, v, u1, e1, e2, eu, rv, ru, hz⟩ := bi1_at (W := W) rd r (show bi1 absD ds = some z from hz0)
  clear hz0; subst e1; subst e2; subst eu
  unfold absD at hz
  split at hz
  · cases hz
    have e1 := Rep.int rv
    subst e1
    exact call_abs pins s σ H _ _ Q I r ⟨_, rfl, w.here sim rfl⟩
  · cases hz
/-! ### isinstance -/
def tyName : Ty → String
  | .tuple => "tuple"
  | .list => "list"
  | .int => "int"
  | .bool => "bool"
  | .str => "str"
def rIs (W : Wd) (t : Ty) : List V → Hp → VK → Prop := fun xs H Q => ∃ ρ η d v b, xs = [v, .ty (tyName t)] ∧ Sim W ρ η H ∧ Rep W ρ H d v ∧ isTy η d t = some b ∧ Q (.bl b) H
theorem kit_all (K : PySem.W.Frag) : ∀ t : Ty, PySem.W.kitOne K (.type "NoneType") (.type (tyName t)) = some false ∧ PySem.W.kitOne K (.type "bool") (.type (tyName t)) = some (match t with | .int => true | .bool => true | _ => false) ∧
    PySem.W.kitOne K (.type "int") (.type (tyName t)) = some (match t with | .int => true | _ => false) ∧ PySem.W.kitOne K (.type "str") (.type (tyName t)) = some (match t with | .str => true | _ => false) ∧
    PySem.W.kitOne K (.type "tuple") (.type (tyName t)) = some (match t with | .tuple => true | _ => false) ∧ PySem.W.kitOne K (.type "list") (.type (tyName t)) = some (match t with | .list => true | _ => false) := by
  intro t
  cases t <;> exact ⟨kit_ty (by decide +kernel), kit_ty (by decide +kernel), kit_ty (by decide +kernel), kit_ty (by decide +kernel), kit_ty (by decide +kernel), kit_ty (by decide +kernel)⟩
theorem tyx_tup {K : PySem.W.Frag} {H : Hp} {a : Addr} {vs : List V} (h : SqT K H a vs) : TyX K H (.ref a) (.type "tuple") := by
  rcases h with (h | ⟨o, h⟩) | ⟨o, its, n, h1, h2, _⟩
  · exact .base (.tup h)
  · exact .fTuple h
  · exact .kTuple h1 h2
theorem cr_is (t : Ty) (hK : W.K = X.K) : CallR X (.builtin "isinstance") (rIs W t) := by
  intro pins s σ H xs us Q I r h
  obtain ⟨ρ, η, d, v, b, ex, sim, rd, hz, w⟩ := h
  subst ex
  obtain ⟨k1, k2, k3, k4, k5, k6⟩ := kit_all X.K t
  unfold isTy at hz
  split at hz
  · rename_i c
    cases hz
    cases d
    case non => have e : v = .non := rd; subst e; exact call_isi pins s σ H _ _ Q I r ⟨_, _, _, _, _, rfl, .ty _, .base .non, k1, w⟩
    all_goals (simp [view] at c; try (split at c <;> cases c))
  · rename_i bb c
    cases hz
    cases d
    case bl => have e : v = .bl _ := rd; subst e; exact call_isi pins s σ H _ _ Q I r ⟨_, _, _, _, _, rfl, .ty _, .base (.bl _), k2, w⟩
    all_goals (simp [view] at c; try (split at c <;> cases c))
  · rename_i bb c
    cases hz
    cases d
    case int => have e : v = .int _ := rd; subst e; exact call_isi pins s σ H _ _ Q I r ⟨_, _, _, _, _, rfl, .ty _, .base (.int _), k3, w⟩
    all_goals (simp [view] at c; try (split at c <;> cases c))
  · rename_i bb c
    cases hz
    obtain ⟨e, _⟩ := see_str rd c
    subst e
    exact call_isi pins s σ H _ _ Q I r ⟨_, _, _, _, _, rfl, .ty _, .base (.str _), k4, w⟩
  · rename_i bb c
    cases hz
    obtain ⟨a, vs, e, q, l, r'⟩ := see_tup rd c
    subst e
    rw [hK] at q
    exact call_isi pins s σ H _ _ Q I r ⟨_, _, _, _, _, rfl, .ty _, tyx_tup q, k5, w⟩
  · rename_i bb c
    cases hz
    obtain ⟨a, vs, e, q, l, r'⟩ := see_lst sim rd c
    subst e
    exact call_isi pins s σ H _ _ Q I r ⟨_, _, _, _, _, rfl, .ty _, .base (.lst q), k6, w⟩
  · cases hz
end
end MI
end
/-! MIg -/
section
set_option linter.all false
set_option maxRecDepth 100000
set_option maxHeartbeats 4000000
/-! What is walked, targets, comprehensions. -/
namespace MI
open PySem L2

/-- J walks over xs, from (ρ, H) on -/
structure ItOk (W : Wd) (ρ : List Addr) (H : Hp) (J : It) (xs : List D) : Prop where
  go : ∀ i ρ' H', ExtZ W.Z ρ H ρ' H' → i < xs.length → J.go i H'
  stop : ∀ i ρ' H', ExtZ W.Z ρ H ρ' H' → xs.length ≤ i → J.stop i H'
  yld : ∀ W' i ρ' η' H' v H'' d, Wider W W' H → ExtZ W.Z ρ H ρ' H' → Sim W' ρ' η' H' → J.yld i H' v H'' → xs[i]? = some d → Ext ρ' H' ρ' H'' ∧ Sim W' ρ' η' H'' ∧ Rep W' ρ' H'' d v
abbrev kI (W : Wd) (R : It → Hp → Prop) : List D → List C → List Addr → Hp → Prop := fun xs _ ρ' H' => xs.length ≤ sizeLine → ∀ J, ItOk W ρ' H' J xs → R J H'
def tI (W : Wd) (x : XW) (m : Ev → M (List D)) : TI := fun σ H R => ∃ ρ η env, Sim W ρ η H ∧ EnvR W ρ H env σ ∧ Post W x (m env η) ρ H (kI W R)
def tEI (W₀ : Wd) (x : XW) (m : Ev → M (List D)) : TI := fun σ H R => ∃ W, InW W₀ W ∧ tI W x m σ H R
theorem pi_mono {X : Cx} {tg e : Expr} {t t' : TI} (h : PI X tg e t) (f : ∀ σ H R, Good X.K H → t' σ H R → t σ H R) : PI X tg e t' := ⟨fun pins s σ H R I hw => h.run pins s σ H R I (f σ H R (inv_good I) hw)⟩

section
variable {W : Wd} {ρ : List Addr} {η : List C} {H : Hp}
theorem it_list (s0 : Sim W ρ η H) {d : D} {v : V} {xs : List D} (r : Rep W ρ H d v) (e : d = .lst xs ∨ d = .scr xs) : ∃ a, v = .ref a ∧ (∃ vs, SqL W.K H a vs) ∧ ItOk W ρ H (Itl W.K a) xs ∧ xs.length ≤ sizeLine := by
  obtain ⟨a, vs, ev, st, l, rr⟩ : ∃ a vs, v = .ref a ∧ (((Rd H a (.lst vs)) ∧ Fr W ρ a) ∨ KL W.K a vs) ∧ xs.length ≤ sizeLine ∧ Reps W ρ H xs vs := by
    rcases e with e | e
    · subst e
      obtain ⟨a, vs, e, ⟨q, n⟩, l, r⟩ := (show ∃ a vs, v = .ref a ∧ (H a = some (.lst vs) ∧ Fr W ρ a) ∧ xs.length ≤ sizeLine ∧ Reps W ρ H xs vs from r)
      exact ⟨a, vs, e, .inl ⟨.inl q, n⟩, l, r⟩
    · subst e
      exact r
  have seq : ∀ {ρ' : List Addr} {H' : Hp}, ExtZ W.Z ρ H ρ' H' → SqL W.K H' a vs := fun {ρ' H'} x => by
    rcases st with ⟨q | ⟨o, q⟩, n⟩ | q
    · exact .inl (.inl (x.keep a _ q n.1 n.2).1)
    · exact .inl (.inr ⟨o, (x.keep a _ q n.1 n.2).1⟩)
    · exact .inr q
  refine ⟨a, ev, ⟨vs, seq Ext.refl.z⟩, ⟨fun i ρ' H' x hi => ?_, fun i ρ' H' x hi => ⟨vs, seq x, by rw [rr.len]; exact hi⟩, fun W' i ρ' η' H' v' H'' d' wi x s y hd => ?_⟩, l⟩
  · have : i < vs.length := by rw [rr.len]; exact hi
    exact ⟨vs, vs[i], seq x, List.getElem?_eq_getElem this⟩
  · obtain ⟨e1, y⟩ := y
    subst e1
    obtain ⟨u, h1, h2⟩ := rr.get hd
    have := y vs (seq x)
    rw [h1] at this
    cases this
    exact ⟨.refl, s, h2.resZ s0 wi x⟩
theorem it_tup (s0 : Sim W ρ η H) {v : V} {xs : List D} (r : Rep W ρ H (.tup xs) v) : ∃ a, v = .ref a ∧ (∃ vs, SqT W.K H a vs) ∧ ItOk W ρ H (Itt W.K a) xs ∧ xs.length ≤ sizeLine := by
  obtain ⟨a, vs, ev, st, l, rr⟩ := (show ∃ a vs, v = .ref a ∧ SqT W.K H a vs ∧ xs.length ≤ sizeLine ∧ Reps W ρ H xs vs from r)
  have seq : ∀ {ρ' : List Addr} {H' : Hp}, ExtZ W.Z ρ H ρ' H' → SqT W.K H' a vs := fun {ρ' H'} x => sqT_z s0 x st
  refine ⟨a, ev, ⟨vs, st⟩, ⟨fun i ρ' H' x hi => ?_, fun i ρ' H' x hi => ⟨vs, seq x, by rw [rr.len]; exact hi⟩, fun W' i ρ' η' H' v' H'' d' wi x s y hd => ?_⟩, l⟩
  · have : i < vs.length := by rw [rr.len]; exact hi
    exact ⟨vs, vs[i], seq x, List.getElem?_eq_getElem this⟩
  · obtain ⟨e1, y⟩ := y
    subst e1
    obtain ⟨u, h1, h2⟩ := rr.get hd
    have := y vs (seq x)
    rw [h1] at this
    cases this
    exact ⟨.refl, s, h2.resZ s0 wi x⟩
theorem one_le : (1 : Nat) ≤ sizeLine := by rw [sizeLine_eq]; decide
theorem it_str (x : Str) : ItOk W ρ H (Its x) (signs x) := by
  have hl : (signs x).length = x.cps.size := by unfold signs; simp
  refine ⟨fun i ρ' H' _ hi => ?_, fun i ρ' H' _ hi => ?_, fun W' i ρ' η' H' v' H'' d' wi _ s y hd => ?_⟩
  · show i < x.cps.size
    omega
  · show x.cps.size ≤ i
    omega
  · obtain ⟨e1, c, hc, ev⟩ := y
    subst e1; subst ev
    unfold signs at hd
    rw [List.getElem?_map] at hd
    have : x.cps.toList[i]? = some c := by rw [Array.getElem?_toList]; exact hc
    rw [this] at hd
    cases hd
    exact ⟨.refl, s, rfl, one_le⟩
theorem it_rng (lo : Int) (n : Nat) : ItOk W ρ H (Itr lo n) ((List.range n).map fun (i : Nat) => .int (lo + (i : Int))) := by
  refine ⟨fun i ρ' H' _ hi => ?_, fun i ρ' H' _ hi => ?_, fun W' i ρ' η' H' v' H'' d' wi _ s y hd => ?_⟩
  · show i < n
    simpa using hi
  · show n ≤ i
    simpa using hi
  · obtain ⟨e1, ev⟩ := y
    subst e1; subst ev
    rw [List.getElem?_map] at hd
    have hi : i < n := by
      have := get_len (show ((List.range n).map fun (i : Nat) => D.int (lo + (i : Int)))[i]? = some d' by rw [List.getElem?_map]; exact hd)
      simpa using this
    rw [List.getElem?_range hi] at hd
    cases hd
    exact ⟨.refl, s, rfl⟩
theorem two_le : (2 : Nat) ≤ sizeLine := by rw [sizeLine_eq]; decide
theorem zip_len : ∀ (xs ys : List D), (zipD xs ys).length = min xs.length ys.length
  | [], _ => by simp [zipD]
  | _ :: _, [] => by simp [zipD]
  | x :: xs, y :: ys => by simp [zipD, zip_len xs ys]
theorem zip_at : ∀ (xs ys : List D) (i : Nat) (d : D), (zipD xs ys)[i]? = some d → ∃ x y, xs[i]? = some x ∧ ys[i]? = some y ∧ d = .tup [x, y]
  | [], _, _, _, h => by simp [zipD] at h
  | _ :: _, [], _, _, h => by simp [zipD] at h
  | x :: xs, y :: ys, 0, d, h => ⟨x, y, rfl, rfl, (Option.some.inj h).symm⟩
  | x :: xs, y :: ys, i + 1, d, h => by
    simp only [zipD, List.getElem?_cons_succ] at h ⊢
    exact zip_at xs ys i d h
theorem rep_pair (s0 : Sim W ρ η H) {T : Addr} (hT : H T = none) {x y : D} {u v : V} (h1 : Rep W ρ H x u) (h2 : Rep W ρ H y v) : Ext ρ H ρ (upd H T (.tup [u, v])) ∧ Sim W ρ η (upd H T (.tup [u, v])) ∧ Rep W ρ (upd H T (.tup [u, v])) (.tup [x, y]) (.ref T) :=
  ⟨.new hT, s0.new hT, T, _, rfl, SqT.of upd_same, two_le, Reps.ext (.new hT) s0.ok (Reps.cons h1 (Reps.cons h2 Reps.nil))⟩
theorem see_list2 {d : D} {v : V} {xs : List D} (r : Rep W ρ H d v) (e : d = .lst xs ∨ d = .scr xs) : ∃ a vs, v = .ref a ∧ (∀ ρ' H', ExtZ W.Z ρ H ρ' H' → SqL W.K H' a vs) ∧ Reps W ρ H xs vs := by
  obtain ⟨a, vs, ev, st, l, rr⟩ : ∃ a vs, v = .ref a ∧ (((Rd H a (.lst vs)) ∧ Fr W ρ a) ∨ KL W.K a vs) ∧ xs.length ≤ sizeLine ∧ Reps W ρ H xs vs := by
    rcases e with e | e
    · subst e
      obtain ⟨a, vs, e, ⟨q, n⟩, l, r⟩ := (show ∃ a vs, v = .ref a ∧ (H a = some (.lst vs) ∧ Fr W ρ a) ∧ xs.length ≤ sizeLine ∧ Reps W ρ H xs vs from r)
      exact ⟨a, vs, e, .inl ⟨.inl q, n⟩, l, r⟩
    · subst e
      exact r
  refine ⟨a, vs, ev, fun ρ' H' x => ?_, rr⟩
  rcases st with ⟨q | ⟨o, q⟩, n⟩ | q
  · exact .inl (.inl (x.keep a _ q n.1 n.2).1)
  · exact .inl (.inr ⟨o, (x.keep a _ q n.1 n.2).1⟩)
  · exact .inr q
theorem it_zipL (s0 : Sim W ρ η H) {a b : Addr} {vs ws : List V} {xs ys : List D} (qa : ∀ ρ' H', ExtZ W.Z ρ H ρ' H' → SqL W.K H' a vs) (qb : ∀ ρ' H', ExtZ W.Z ρ H ρ' H' → SqL W.K H' b ws) (ra : Reps W ρ H xs vs) (rb : Reps W ρ H ys ws) :
    ItOk W ρ H (Itz W.K a b) (zipD xs ys) := by
  have la := ra.len
  have lb := rb.len
  refine ⟨fun i ρ' H' x hi => ?_, fun i ρ' H' x hi => ⟨vs, ws, qa _ _ x, qb _ _ x, ?_⟩, fun W' i ρ' η' H' v' H'' d' wi x s y hd => ?_⟩
  · rw [zip_len] at hi
    have h1 : i < vs.length := by omega
    have h2 : i < ws.length := by omega
    exact ⟨vs, ws, vs[i], ws[i], qa _ _ x, qb _ _ x, List.getElem?_eq_getElem h1, List.getElem?_eq_getElem h2⟩
  · rw [zip_len] at hi
    omega
  · obtain ⟨T, p, q, ev, hT, eH, y1, y2⟩ := y
    obtain ⟨dx, dy, h1, h2, ed⟩ := zip_at xs ys i d' hd
    obtain ⟨u1, g1, g2⟩ := ra.get h1
    obtain ⟨u2, g3, g4⟩ := rb.get h2
    have z1 := y1 vs (qa _ _ x)
    have z2 := y2 ws (qb _ _ x)
    rw [g1] at z1; rw [g3] at z2
    cases z1; cases z2
    subst ev; subst eH; subst ed
    exact rep_pair s hT (g2.resZ s0 wi x) (g4.resZ s0 wi x)
theorem it_zipT (s0 : Sim W ρ η H) {a b : Addr} {vs ws : List V} {xs ys : List D} (qa : SqT W.K H a vs) (qb : SqT W.K H b ws) (ra : Reps W ρ H xs vs) (rb : Reps W ρ H ys ws) :
    ItOk W ρ H (RZ.ItzT W.K a b) (zipD xs ys) := by
  have la := ra.len
  have lb := rb.len
  refine ⟨fun i ρ' H' x hi => ?_, fun i ρ' H' x hi => ⟨vs, ws, sqT_z s0 x qa, sqT_z s0 x qb, ?_⟩, fun W' i ρ' η' H' v' H'' d' wi x s y hd => ?_⟩
  · rw [zip_len] at hi
    have h1 : i < vs.length := by omega
    have h2 : i < ws.length := by omega
    exact ⟨vs, ws, vs[i], ws[i], sqT_z s0 x qa, sqT_z s0 x qb, List.getElem?_eq_getElem h1, List.getElem?_eq_getElem h2⟩
  · rw [zip_len] at hi
    omega
  · obtain ⟨T, p, q, ev, hT, eH, y1, y2⟩ := y
    obtain ⟨dx, dy, h1, h2, ed⟩ := zip_at xs ys i d' hd
    obtain ⟨u1, g1, g2⟩ := ra.get h1
    obtain ⟨u2, g3, g4⟩ := rb.get h2
    have z1 := y1 vs (sqT_z s0 x qa)
    have z2 := y2 ws (sqT_z s0 x qb)
    rw [g1] at z1; rw [g3] at z2
    cases z1; cases z2
    subst ev; subst eH; subst ed
    exact rep_pair s hT (g2.resZ s0 wi x) (g4.resZ s0 wi x)
end

/-! ### targets -/
/-- a target's reading: the value is known as d -/
def tTg (W : Wd) (tg : Tg) : TG := fun v σ H Q => ∃ ρ η env d v', Sim W ρ η H ∧ EnvR W ρ H env σ ∧ Rep W ρ H d v ∧ tgE tg env d η = .ok v' η ∧ ∀ σ', EnvR W ρ H v' σ' → σ'.length = σ.length → (∀ vs, (match tg with | .one i => i ∈ vs | .two i j => i ∈ vs ∧ j ∈ vs) → L2.wipe σ' vs = L2.wipe σ vs) → Q σ' H
def tET (W₀ : Wd) (tg : Tg) : TG := fun v σ H Q => ∃ W, InW W₀ W ∧ tTg W tg v σ H Q
theorem wipe_set (σ : St) (i : Nat) (o : Option V) : ∀ vs : List Nat, i ∈ vs → L2.wipe (σ.set i o) vs = L2.wipe σ vs
  | j :: vs, h => by
    unfold L2.wipe
    by_cases e : i = j
    · subst e
      by_cases m : i ∈ vs
      · rw [wipe_set σ i o vs m]
      · have key : ∀ (ws : List Nat), i ∉ ws → L2.wipe (σ.set i o) ws = (L2.wipe σ ws).set i o := by
          intro ws
          induction ws with
          | nil => intro _; rfl
          | cons a ws ih =>
            intro hm
            have h1 : i ≠ a := fun z => hm (by rw [z]; exact List.mem_cons_self)
            have h2 : i ∉ ws := fun z => hm (List.mem_cons_of_mem _ z)
            unfold L2.wipe
            rw [ih h2, List.set_comm _ _ h1]
        rw [key vs m]
        simp
    · have m : i ∈ vs := by
        rcases List.mem_cons.mp h with z | z
        · exact absurd z e
        · exact z
      rw [wipe_set σ i o vs m]
theorem gt_one (W : Wd) (i : Nat) {X : Cx} {x : Str} {p : Pos} (hg : PG X (.Name x p) (gName i)) : PG X (.Name x p) (tET W (.one i)) := by
  refine ⟨fun pins s σ H v u Q I r h => hg.run pins s σ H v u Q I r ?_⟩
  obtain ⟨W, _, ρ, η, env, d, v', sim, er, rd, e, q⟩ := h
  have e2 : v' = setE env i d := by
    have : tgE (.one i) env d η = .ok (setE env i d) η := rfl
    rw [this] at e; cases e; rfl
  subst e2
  exact q _ (er.set rd i) (by simp) fun vs hm => wipe_set σ i _ vs hm
theorem gt_two (W : Wd) (i j : Nat) {X : Cx} {x y : Str} {k : Nat} {p p1 p2 : Pos} (hK : W.K = X.K) (hc : X.calm = true) (hg : PGs X [.Name x p1, .Name y p2] (gCons (gName i) (gCons (gName j) gNil))) : PG X (.Tuple [.Name x p1, .Name y p2] k p) (tET W (.two i j)) := by
  have ht : PG X (.Tuple [.Name x p1, .Name y p2] k p) (gTup X.K 2 (gCons (gName i) (gCons (gName j) gNil))) := pg_tup hc hg
  refine ⟨fun pins s σ H v u Q I r h => ht.run pins s σ H v u Q I r ?_⟩
  obtain ⟨W, iw, ρ, η, env, d, v', sim, er, rd, e, q⟩ := h
  rw [← iw.1] at hK
  obtain ⟨dx, dy, ed⟩ : ∃ dx dy, d = .tup [dx, dy] := by
    cases d with
    | tup l =>
      match l, e with
      | [a, b], _ => exact ⟨a, b, rfl⟩
      | [], e => cases e
      | [_], e => cases e
      | _ :: _ :: _ :: _, e => cases e
    | _ => cases e
  subst ed
  have e2 : v' = setE (setE env i dx) j dy := by
    have : tgE (.two i j) env (.tup [dx, dy]) η = .ok (setE (setE env i dx) j dy) η := rfl
    rw [this] at e; cases e; rfl
  subst e2
  obtain ⟨c, vs, ev, st, l, rr⟩ := (show ∃ a vs, v = .ref a ∧ SqT W.K H a vs ∧ [dx, dy].length ≤ sizeLine ∧ Reps W ρ H [dx, dy] vs from rd)
  obtain ⟨u1, u2, e3, r1, r2⟩ := reps2 rr
  subst e3
  rw [hK] at st
  refine ⟨c, [u1, u2], ev, st, rfl, u1, [u2], rfl, u2, [], rfl, rfl, ?_⟩
  refine q _ ((er.set r1 i).set r2 j) (by simp) fun vs hm => ?_
  rw [wipe_set _ j _ vs hm.2, wipe_set _ i _ vs hm.1]
end MI
end
/-! MIh -/
section
set_option linter.all false
set_option maxRecDepth 100000
set_option maxHeartbeats 4000000
/-! Each form of an expression: its reading by a step of MI. -/
namespace MI
open PySem L2

def xF : XW := fun _ _ _ _ _ _ => False
section
variable {X : Cx} {W : Wd} {x : XW} {a b c : Expr} {pos : Pos} {ma mb mc : Ev → M D}

def rBinX (W₀ : Wd) (f : List C → D → D → Option D) : R2 := fun p q H Q => ∃ W, InW W₀ W ∧ rBin W f p q H Q
theorem opX {g : Value → Value → Sem Value} {f : List C → D → D → Option D} (hK : W.K = X.K) (h : ∀ W', W'.K = X.K → OpR X g (rBin W' f)) : OpR X g (rBinX W f) := by
  intro pins s σ H x y v u Q I rx ry ⟨W', iw, q⟩
  exact h W' (iw.1.trans hK) pins s σ H x y v u Q I rx ry q
def rBinBX (W₀ : Wd) (f : List C → D → D → Option Bool) : R2 := fun p q H Q => ∃ W, InW W₀ W ∧ rBinB W f p q H Q
theorem opBX {g : Value → Value → Sem Value} {f : List C → D → D → Option Bool} (hK : W.K = X.K) (h : ∀ W', W'.K = X.K → OpR X g (rBinB W' f)) : OpR X g (rBinBX W f) := by
  intro pins s σ H x y v u Q I rx ry ⟨W', iw, q⟩
  exact h W' (iw.1.trans hK) pins s σ H x y v u Q I rx ry q
/-- the next step from where the last one has ended -/
theorem next {W₀ W : Wd} {ρ ρ1 : List Addr} {η η1 : List C} {H H1 : Hp} {env : Ev} {σ : St} (iw : InW W₀ W) (sim : Sim W ρ η H) (er : EnvR W ρ H env σ) (e : Ext ρ H ρ1 H1) : EnvR W ρ1 H1 env σ := er.ext e sim.ok
theorem see_want {W : Wd} {ρ : List Addr} {η : List C} {H : Hp} {d : D} {Q : VK} (h : ∀ ρ' H', Ext ρ H ρ' H' → Sim W ρ' η H' → kkV W Q d η ρ' H') : Want W ρ η H d Q := fun ρ' H' v e s r => h ρ' H' e s v r

theorem s_bin {o : Operator} (hK : W.K = X.K) (ha : PE X a (tE W x ma)) (hb : PE X b (tE W x mb)) :
    PE X (.BinOp a o b pos) (tE W x fun v => ma v >>= fun p => mb v >>= fun q => look fun h => binD h o p q) := by
  refine pe_mono (pe_op (opX hK fun W' h => op_bin o h) ha hb) fun σ H Q _ h => ?_
  obtain ⟨W', iw, ρ, η, env, sim, er, h⟩ := h
  refine ⟨W', iw, ρ, η, env, sim, er, h.bind.mono fun p η1 ρ1 H1 e1 s1 h1 vp rp => ?_⟩
  have er1 := er.ext e1 sim.ok
  refine ⟨W', iw, ρ1, η1, env, s1, er1, h1.bind.mono fun q η2 ρ2 H2 e2 s2 h2 vq rq => ?_⟩
  obtain ⟨z, hz, w⟩ := h2.look
  exact ⟨W', iw, ρ2, η2, p, q, z, s2, rp.ext e2 s1.ok, rq, hz, see_want w⟩
theorem s_cmp {o : CmpOp} (hK : W.K = X.K) (hu : X.A.units + 64 < cLine) (hm : behindInMarks o b = false) (ha : PE X a (tE W x ma)) (hb : PE X b (tE W x mb)) :
    PE X (.Compare a [o] [b] pos) (tE W x fun v => ma v >>= fun p => mb v >>= fun q => (look fun h => cmpD h o p q) >>= fun r => pure (.bl r)) := by
  refine pe_mono (pe_cmpR (opBX hK fun W' h => op_cmp o h hu) ha hb hm) fun σ H Q _ h => ?_
  obtain ⟨W', iw, ρ, η, env, sim, er, h⟩ := h
  refine ⟨W', iw, ρ, η, env, sim, er, h.bind.mono fun p η1 ρ1 H1 e1 s1 h1 vp rp => ?_⟩
  refine ⟨W', iw, ρ1, η1, env, s1, er.ext e1 sim.ok, h1.bind.mono fun q η2 ρ2 H2 e2 s2 h2 vq rq => ?_⟩
  obtain ⟨z, hz, w⟩ := h2.bind.look
  exact ⟨W', iw, ρ2, η2, p, q, z, s2, rp.ext e2 s1.ok, rq, hz, (w ρ2 H2 .refl s2).pure s2 _ rfl⟩
theorem s_cmpT {o : CmpOp} (hK : W.K = X.K) (hu : X.A.units + 64 < cLine) (hm : behindInMarks o b = false) (ha : PE X a (tE W x ma)) (hb : PE X b (tE W x mb)) :
    PT X (.Compare a [o] [b] pos) (tEb W x fun v => ma v >>= fun p => mb v >>= fun q => look fun h => cmpD h o p q) := by
  refine pt_mono (pt_cmpR (opBX hK fun W' h => op_cmp o h hu) ha hb hm) fun σ H Q _ h => ?_
  obtain ⟨W', iw, ρ, η, env, sim, er, h⟩ := h
  refine ⟨W', iw, ρ, η, env, sim, er, h.bind.mono fun p η1 ρ1 H1 e1 s1 h1 vp rp => ?_⟩
  refine ⟨W', iw, ρ1, η1, env, s1, er.ext e1 sim.ok, h1.bind.mono fun q η2 ρ2 H2 e2 s2 h2 vq rq => ?_⟩
  obtain ⟨z, hz, w⟩ := h2.look
  exact ⟨W', iw, ρ2, η2, p, q, z, s2, rp.ext e2 s1.ok, rq, hz, z, rfl, w ρ2 H2 .refl s2⟩
theorem s_var {i : Nat} {y : Str} (hv : PE X (.Name y pos) (tVar i)) : PE X (.Name y pos) (tE W x fun v => op (v.getD i none)) := by
  refine pe_mono hv fun σ H Q _ h => ?_
  obtain ⟨W', iw, ρ, η, env, sim, er, h⟩ := h
  obtain ⟨d, hd, w⟩ := h.op
  obtain ⟨v, h1, h2⟩ := er.2 i d (getD_some hd)
  exact ⟨v, h1, w ρ H .refl sim v h2⟩
/-- a constant -/
theorem s_cst {e : Expr} {v : V} {d : D} (hv : PE X e (tC v)) (hr : ∀ W' ρ H, InW W W' → Rep W' ρ H d v) : PE X e (tE W x fun _ => pure d) := by
  refine pe_mono hv fun σ H Q _ h => ?_
  obtain ⟨W', iw, ρ, η, env, sim, er, h⟩ := h
  exact h.pure sim v (hr W' ρ H iw)
theorem s_neg (ha : PE X a (tE W x ma)) : PE X (.UnaryOp .USub a pos) (tE W x fun v => ma v >>= fun p => op ((intOf p).map fun i => .int (-i))) := by
  refine pe_mono (pe_un un_neg ha) fun σ H Q _ h => ?_
  obtain ⟨W', iw, ρ, η, env, sim, er, h⟩ := h
  refine ⟨W', iw, ρ, η, env, sim, er, h.bind.mono fun p η1 ρ1 H1 e1 s1 h1 vp rp => ?_⟩
  obtain ⟨z, hz, w⟩ := h1.op
  cases p <;> simp [intOf] at hz
  subst hz
  have e := Rep.int rp
  subst e
  exact ⟨_, rfl, w ρ1 H1 .refl s1 _ rfl⟩
theorem test_of {W : Wd} {x : XW} {ρ : List Addr} {η : List C} {H : Hp} {d : D} {k : Bool → List C → List Addr → Hp → Prop} (h : Post W x (testD d η) ρ H k) : ∃ r, d = .bl r ∧ ∀ ρ' H', Ext ρ H ρ' H' → Sim W ρ' η H' → k r η ρ' H' := by
  cases d with
  | bl r => exact ⟨r, rfl, h⟩
  | _ => exact h.elim
/-- a value that is a bool, as a test -/
theorem s_val (ha : PE X a (tE W x ma)) (he : ∀ whole, isTrue a X.env whole = (do let v ← whole; standAt a.pos; holding [v] (truthy v))) : PT X a (tEb W x fun v => ma v >>= testD) := by
  refine pt_mono (pt_val ha he) fun σ H Q _ h => ?_
  obtain ⟨W', iw, ρ, η, env, sim, er, h⟩ := h
  refine ⟨W', iw, ρ, η, env, sim, er, h.bind.mono fun p η1 ρ1 H1 e1 s1 h1 vp rp => ?_⟩
  obtain ⟨r, e, w⟩ := test_of h1
  subst e
  have e := Rep.bl rp
  exact ⟨r, e, w ρ1 H1 .refl s1⟩
theorem s_not {mt : Ev → M Bool} (ha : PE X a (tE W x ma)) : PE X (.UnaryOp .Not a pos) (tE W x fun v => ma v >>= fun p => testD p >>= fun r => pure (.bl (!r))) := by
  refine pe_mono (pe_not ha) fun σ H Q _ h => ?_
  obtain ⟨W', iw, ρ, η, env, sim, er, h⟩ := h
  refine ⟨W', iw, ρ, η, env, sim, er, h.bind.mono fun p η1 ρ1 H1 e1 s1 h1 vp rp => ?_⟩
  obtain ⟨r, e, w⟩ := test_of h1.bind
  subst e
  exact ⟨r, Rep.bl rp, (w ρ1 H1 .refl s1).pure s1 _ rfl⟩
theorem s_notT {mt : Ev → M Bool} (ha : PT X a (tEb W x mt)) : PT X (.UnaryOp .Not a pos) (tEb W x fun v => mt v >>= fun r => pure (!r)) := by
  refine pt_mono (pt_not ha) fun σ H Q _ h => ?_
  obtain ⟨W', iw, ρ, η, env, sim, er, h⟩ := h
  exact ⟨W', iw, ρ, η, env, sim, er, h.bind.mono fun p η1 ρ1 H1 e1 s1 h1 => h1.pure s1⟩
theorem s_ite {mt : Ev → M Bool} (hc : PT X c (tEb W x mt)) (ha : PE X a (tE W x ma)) (hb : PE X b (tE W x mb)) : PE X (.IfExp c a b pos) (tE W x fun v => mt v >>= fun r => if r then ma v else mb v) := by
  refine pe_mono (pe_ifExp hc ha hb) fun σ H Q _ h => ?_
  obtain ⟨W', iw, ρ, η, env, sim, er, h⟩ := h
  refine ⟨W', iw, ρ, η, env, sim, er, h.bind.mono fun r η1 ρ1 H1 e1 s1 h1 => ?_⟩
  have er1 := er.ext e1 sim.ok
  cases r with
  | true => exact ⟨W', iw, ρ1, η1, env, s1, er1, h1⟩
  | false => exact ⟨W', iw, ρ1, η1, env, s1, er1, h1⟩
def chM (ma mb mc : Ev → M D) (o o' : CmpOp) (v : Ev) : M D := ma v >>= fun p => mb v >>= fun q => (look fun h => cmpD h o p q) >>= fun r => if r then (mc v >>= fun z => (look fun h => cmpD h o' q z) >>= fun r' => pure (.bl r')) else pure (.bl false)
theorem chain_r {o o' : CmpOp} {σ : St} {H : Hp} {Q : VK} (h : tE W x (chM ma mb mc o o') σ H Q) : tChain (rBinBX W fun h a b => cmpD h o a b) (rBinBX W fun h a b => cmpD h o' a b) (tE W x ma) (tE W x mb) (tE W x mc) σ H Q := by
  obtain ⟨W', iw, ρ, η, env, sim, er, h⟩ := h
  refine ⟨W', iw, ρ, η, env, sim, er, h.bind.mono fun p η1 ρ1 H1 e1 s1 h1 vp rp => ?_⟩
  refine ⟨W', iw, ρ1, η1, env, s1, er.ext e1 sim.ok, h1.bind.mono fun q η2 ρ2 H2 e2 s2 h2 vq rq => ?_⟩
  obtain ⟨z, hz, w⟩ := h2.bind.look
  have w := w ρ2 H2 .refl s2
  refine ⟨W', iw, ρ2, η2, p, q, z, s2, rp.ext e2 s1.ok, rq, hz, z, rfl, ?_⟩
  cases z with
  | false => exact w.pure s2 _ rfl
  | true =>
    refine ⟨W', iw, ρ2, η2, env, s2, (er.ext e1 sim.ok).ext e2 s1.ok, w.bind.mono fun t η3 ρ3 H3 e3 s3 h3 vt rt => ?_⟩
    obtain ⟨z', hz', w'⟩ := h3.bind.look
    exact ⟨W', iw, ρ3, η3, q, t, z', s3, rq.ext e3 s2.ok, rt, hz', (w' ρ3 H3 .refl s3).pure s3 _ rfl⟩
theorem s_chain {o o' : CmpOp} (hK : W.K = X.K) (hu : X.A.units + 64 < cLine) (hm : lastMarks [o, o'] [b, c] = false) (ha : PE X a (tE W x ma)) (hb : PE X b (tE W x mb)) (hc : PE X c (tE W x mc)) :
    PE X (.Compare a [o, o'] [b, c] pos) (tE W x fun v => ma v >>= fun p => mb v >>= fun q => (look fun h => cmpD h o p q) >>= fun r => if r then (mc v >>= fun z => (look fun h => cmpD h o' q z) >>= fun r' => pure (.bl r')) else pure (.bl false)) :=
  pe_mono (pe_chain (opBX hK fun W' h => op_cmp o h hu) (opBX hK fun W' h => op_cmp o' h hu) ha hb hc hm) fun σ H Q _ h => chain_r h
/-- a chain as a test -/
theorem s_chainT {o o' : CmpOp} (hK : W.K = X.K) (hu : X.A.units + 64 < cLine) (hm : lastMarks [o, o'] [b, c] = false) (ha : PE X a (tE W x ma)) (hb : PE X b (tE W x mb)) (hc : PE X c (tE W x mc)) :
    PT X (.Compare a [o, o'] [b, c] pos) (tEb W x fun v => chM ma mb mc o o' v >>= testD) := by
  refine pt_mono (pt_chain (opBX hK fun W' h => op_cmp o h hu) (opBX hK fun W' h => op_cmp o' h hu) ha hb hc hm) fun σ H Q _ h => ?_
  refine chain_r (o := o) (o' := o') ?_
  obtain ⟨W', iw, ρ, η, env, sim, er, h⟩ := h
  refine ⟨W', iw, ρ, η, env, sim, er, h.bind.mono fun p η1 ρ1 H1 e1 s1 h1 vp rp => ?_⟩
  obtain ⟨r, e, w⟩ := test_of h1
  subst e
  have e := Rep.bl rp
  exact ⟨r, e, w ρ1 H1 .refl s1⟩
/-! ### argument lists -/
theorem s_nil : PA X [] (tEs W x fun _ => pure []) := by
  refine pa_mono pa_nil fun σ H Q _ h => ?_
  obtain ⟨W', iw, ρ, η, env, sim, er, h⟩ := h
  exact h.pure sim _ Reps.nil
theorem s_cons {es : List Expr} {ms : Ev → M (List D)} (ha : PE X a (tE W x ma)) (hs : PA X es (tEs W x ms)) (hn : starEach (a :: es) X.env = (false, eval a X.env) :: starEach es X.env) :
    PA X (a :: es) (tEs W x fun v => ma v >>= fun p => ms v >>= fun ps => pure (p :: ps)) := by
  refine pa_mono (pa_cons ha hs hn) fun σ H Q _ h => ?_
  obtain ⟨W', iw, ρ, η, env, sim, er, h⟩ := h
  refine ⟨W', iw, ρ, η, env, sim, er, h.bind.mono fun p η1 ρ1 H1 e1 s1 h1 vp rp => ?_⟩
  refine ⟨W', iw, ρ1, η1, env, s1, er.ext e1 sim.ok, h1.bind.mono fun q η2 ρ2 H2 e2 s2 h2 vq rq => ?_⟩
  exact h2.pure s2 _ (Reps.cons (rp.ext e2 s1.ok) rq)
theorem s_tup {es : List Expr} {ms : Ev → M (List D)} {k : Nat} (hs : PA X es (tEs W x ms)) : PE X (.Tuple es k pos) (tE W x fun v => ms v >>= fun xs => op (mkTup xs)) := by
  refine pe_mono (pe_tup hs) fun σ H Q _ h => ?_
  obtain ⟨W', iw, ρ, η, env, sim, er, h⟩ := h
  refine ⟨W', iw, ρ, η, env, sim, er, h.bind.mono fun ds η1 ρ1 H1 e1 s1 h1 vs rs => ?_⟩
  obtain ⟨z, hz, w⟩ := h1.op
  unfold mkTup at hz
  split at hz
  · rename_i hl
    cases hz
    rw [lim_eq] at hl
    exact ⟨by rw [rs.len]; exact hl, (see_want w).tup s1 hl rs⟩
  · cases hz
theorem s_lst {es : List Expr} {ms : Ev → M (List D)} (hs : PA X es (tEs W x ms)) : PE X (.List es pos) (tE W x fun v => ms v >>= fun xs => op (mkLst xs)) := by
  refine pe_mono (pe_lst hs) fun σ H Q _ h => ?_
  obtain ⟨W', iw, ρ, η, env, sim, er, h⟩ := h
  refine ⟨W', iw, ρ, η, env, sim, er, h.bind.mono fun ds η1 ρ1 H1 e1 s1 h1 vs rs => ?_⟩
  obtain ⟨z, hz, w⟩ := h1.op
  unfold mkLst at hz
  split at hz
  · rename_i hl
    cases hz
    rw [lim_eq] at hl
    exact ⟨by rw [rs.len]; exact hl, (see_want w).lst s1 hl rs⟩
  · cases hz
theorem s_ix (hK : W.K = X.K) (hp : PlainIx b) (ha : PE X a (tE W x ma)) (hb : PE X b (tE W x mb)) :
    PE X (.Subscript a b pos) (tE W x fun v => ma v >>= fun p => mb v >>= fun q => look fun h => ixD h p q) := by
  have ho : IxR X (rBinX W ixD) := fun value slice pins s σ H x y v u Q I rx ry ⟨W', iw, q⟩ hs => ix_ok (iw.1.trans hK) value slice pins s σ H x y v u Q I rx ry q hs
  refine pe_mono (pe_ix ho ha hb hp) fun σ H Q _ h => ?_
  obtain ⟨W', iw, ρ, η, env, sim, er, h⟩ := h
  refine ⟨W', iw, ρ, η, env, sim, er, h.bind.mono fun p η1 ρ1 H1 e1 s1 h1 vp rp => ?_⟩
  refine ⟨W', iw, ρ1, η1, env, s1, er.ext e1 sim.ok, h1.bind.mono fun q η2 ρ2 H2 e2 s2 h2 vq rq => ?_⟩
  obtain ⟨z, hz, w⟩ := h2.look
  exact ⟨W', iw, ρ2, η2, p, q, z, s2, rp.ext e2 s1.ok, rq, hz, see_want w⟩
def tEo (W₀ : Wd) (x : XW) (m : Ev → M (Option Int)) : TO := fun σ H Q => ∃ W, InW W₀ W ∧ ∃ ρ η env, Sim W ρ η H ∧ EnvR W ρ H env σ ∧ Post W x (m env η) ρ H (fun o _ _ H' => Q o H')
theorem po_mono {e : Option Expr} {t t' : TO} (h : PO X e t) (f : ∀ σ H Q, t' σ H Q → t σ H Q) : PO X e t' := ⟨fun pins s σ H Q I hw => h.run pins s σ H Q I (f σ H Q hw)⟩
theorem s_onone : PO X none (tEo W x fun _ => pure none) := by
  refine po_mono po_none fun σ H Q h => ?_
  obtain ⟨W', iw, ρ, η, env, sim, er, h⟩ := h
  exact h.pure sim
theorem s_osome (ha : PE X a (tE W x ma)) : PO X (some a) (tEo W x fun v => ma v >>= fun p => op (intOf p) >>= fun i => pure (some i)) := by
  refine po_mono (po_some ha) fun σ H Q h => ?_
  obtain ⟨W', iw, ρ, η, env, sim, er, h⟩ := h
  refine ⟨W', iw, ρ, η, env, sim, er, h.bind.mono fun p η1 ρ1 H1 e1 s1 h1 vp rp => ?_⟩
  obtain ⟨i, hi, w⟩ := h1.bind.op
  cases p <;> simp [intOf] at hi
  subst hi
  exact ⟨_, Rep.int rp, (w ρ1 H1 .refl s1).pure s1⟩
theorem s_sl {lo hi : Option Expr} {p2 : Pos} {ml mh : Ev → M (Option Int)} (hK : W.K = X.K) (ha : PE X a (tE W x ma)) (hl : PO X lo (tEo W x ml)) (hh : PO X hi (tEo W x mh)) :
    PE X (.Subscript a (.Slice lo hi none p2) pos) (tE W x fun v => ma v >>= fun p => ml v >>= fun l => mh v >>= fun u => look fun h => slD h p l u) := by
  have ho : SlR X (fun p lo hi H Q => ∃ W', InW W W' ∧ rSl W' p lo hi H Q) := fun pins s σ H x v vl vu lo hi sl Q I rx hs pl pu ⟨W', iw, q⟩ => sl_ok (iw.1.trans hK) pins s σ H x v vl vu lo hi sl Q I rx hs pl pu q
  refine pe_mono (pe_slice ho ha hl hh) fun σ H Q _ h => ?_
  obtain ⟨W', iw, ρ, η, env, sim, er, h⟩ := h
  refine ⟨W', iw, ρ, η, env, sim, er, h.bind.mono fun p η1 ρ1 H1 e1 s1 h1 vp rp => ?_⟩
  refine ⟨W', iw, ρ1, η1, env, s1, er.ext e1 sim.ok, h1.bind.mono fun l η2 ρ2 H2 e2 s2 h2 => ?_⟩
  refine ⟨W', iw, ρ2, η2, env, s2, (er.ext e1 sim.ok).ext e2 s1.ok, h2.bind.mono fun u η3 ρ3 H3 e3 s3 h3 => ?_⟩
  obtain ⟨z, hz, w⟩ := h3.look
  exact ⟨W', iw, ρ3, η3, p, z, s3, (rp.ext e2 s1.ok).ext e3 s2.ok, hz, see_want w⟩
theorem s_rev {k : Nat} {p1 p2 p3 : Pos} (hK : W.K = X.K) (ha : PE X a (tE W x ma)) :
    PE X (.Subscript a (.Slice none none (some (.UnaryOp .USub (.Constant (.int 1) k p1) p2)) p3) pos) (tE W x fun v => ma v >>= fun p => look fun h => revD h p) := by
  refine pe_mono (pe_rev ha) fun σ H Q _ h => ?_
  obtain ⟨W', iw, ρ, η, env, sim, er, h⟩ := h
  refine ⟨W', iw, ρ, η, env, sim, er, h.bind.mono fun p η1 ρ1 H1 e1 s1 h1 vp rp => ?_⟩
  obtain ⟨z, hz, w⟩ := h1.look
  have hK' := iw.1.trans hK
  unfold revD at hz
  split at hz
  · rename_i xs c
    cases hz
    obtain ⟨a, vs, e, q, l, r⟩ := see_lst s1 rp c
    subst e
    exact .inr ⟨a, vs, rfl, .inl ⟨SqL.of q, (see_want w).lst s1 (by simpa using l) r.rev⟩⟩
  · rename_i xs c
    cases hz
    obtain ⟨a, vs, e, q, l, r⟩ := see_tup rp c
    subst e
    rw [hK'] at q
    exact .inr ⟨a, vs, rfl, .inr ⟨q, (see_want w).tup s1 (by simpa using l) r.rev⟩⟩
  · rename_i z0 c
    cases hz
    obtain ⟨e, l⟩ := see_str rp c
    subst e
    exact .inl ⟨z0, rfl, l, see_want w ρ1 H1 _ .refl s1 ⟨rfl, by rw [revS_len]; exact l⟩⟩
  · cases hz
/-! ### and, or -/
def tBD (b : Bool) : M D := pure (.bl b)
theorem s_one {o : BoolOp} (ha : PE X a (tE W x ma)) : PE X (.BoolOp o [a] pos) (tE W x ma) := pe_one ha
theorem s_and {es : List Expr} (ha : PE X a (tE W x ma)) (hb : PE X (.BoolOp .And (b :: es) pos) (tE W x mb)) :
    PE X (.BoolOp .And (a :: b :: es) pos) (tE W x fun v => ma v >>= fun p => testD p >>= fun r => if r then mb v else pure (.bl false)) := by
  refine pe_mono (pe_and ha hb) fun σ H Q _ h => ?_
  obtain ⟨W', iw, ρ, η, env, sim, er, h⟩ := h
  refine ⟨W', iw, ρ, η, env, sim, er, h.bind.mono fun p η1 ρ1 H1 e1 s1 h1 vp rp => ?_⟩
  obtain ⟨r, e, w⟩ := test_of h1.bind
  subst e
  have w := w ρ1 H1 .refl s1
  refine ⟨r, Rep.bl rp, ?_⟩
  cases r with
  | true => exact ⟨W', iw, ρ1, η1, env, s1, er.ext e1 sim.ok, w⟩
  | false => exact w.pure s1 _ rfl
theorem s_or {es : List Expr} (ha : PE X a (tE W x ma)) (hb : PE X (.BoolOp .Or (b :: es) pos) (tE W x mb)) :
    PE X (.BoolOp .Or (a :: b :: es) pos) (tE W x fun v => ma v >>= fun p => testD p >>= fun r => if r then pure (.bl true) else mb v) := by
  refine pe_mono (pe_or ha hb) fun σ H Q _ h => ?_
  obtain ⟨W', iw, ρ, η, env, sim, er, h⟩ := h
  refine ⟨W', iw, ρ, η, env, sim, er, h.bind.mono fun p η1 ρ1 H1 e1 s1 h1 vp rp => ?_⟩
  obtain ⟨r, e, w⟩ := test_of h1.bind
  subst e
  have w := w ρ1 H1 .refl s1
  refine ⟨r, Rep.bl rp, ?_⟩
  cases r with
  | true => exact w.pure s1 _ rfl
  | false => exact ⟨W', iw, ρ1, η1, env, s1, er.ext e1 sim.ok, w⟩
variable {mt mu : Ev → M Bool}
theorem s_andT1 (ha : PT X a (tEb W x mt)) : PW X (.BoolOp .And [a] pos) (tEb W x mt) := pw_and1 ha
theorem s_orT1 (ha : PT X a (tEb W x mt)) : PW X (.BoolOp .Or [a] pos) (tEb W x mt) := pw_or1 ha
theorem s_andT {es : List Expr} (ha : PT X a (tEb W x mt)) (hb : PW X (.BoolOp .And (b :: es) pos) (tEb W x mu)) : PW X (.BoolOp .And (a :: b :: es) pos) (tEb W x fun v => mt v >>= fun r => if r then mu v else pure false) := by
  refine pw_mono (pw_and ha hb) fun σ H Q _ h => ?_
  obtain ⟨W', iw, ρ, η, env, sim, er, h⟩ := h
  refine ⟨W', iw, ρ, η, env, sim, er, h.bind.mono fun r η1 ρ1 H1 e1 s1 h1 => ?_⟩
  cases r with
  | true => exact ⟨W', iw, ρ1, η1, env, s1, er.ext e1 sim.ok, h1⟩
  | false => exact h1.pure s1
theorem s_orT {es : List Expr} (ha : PT X a (tEb W x mt)) (hb : PW X (.BoolOp .Or (b :: es) pos) (tEb W x mu)) : PW X (.BoolOp .Or (a :: b :: es) pos) (tEb W x fun v => mt v >>= fun r => if r then pure true else mu v) := by
  refine pw_mono (pw_or ha hb) fun σ H Q _ h => ?_
  obtain ⟨W', iw, ρ, η, env, sim, er, h⟩ := h
  refine ⟨W', iw, ρ, η, env, sim, er, h.bind.mono fun r η1 ρ1 H1 e1 s1 h1 => ?_⟩
  cases r with
  | true => exact h1.pure s1
  | false => exact ⟨W', iw, ρ1, η1, env, s1, er.ext e1 sim.ok, h1⟩
end
end MI
end
/-! MIi -/
section
set_option linter.all false
set_option maxRecDepth 100000
set_option maxHeartbeats 4000000
/-! Calls of built-ins, what is walked, comprehensions. -/
namespace MI
open PySem L2

section
variable {X : Cx} {W : Wd} {x : XW} {a b c : Expr} {pos : Pos} {ma mb mc : Ev → M D}
def rBiX (W₀ : Wd) (b : Bi) : List V → Hp → VK → Prop := fun xs H Q => ∃ W, InW W₀ W ∧ rBi W b xs H Q
theorem crX {f : Value} {bi : Bi} (hK : W.K = X.K) (h : ∀ W', W'.K = X.K → CallR X f (rBi W' bi)) : CallR X f (rBiX W bi) := by
  intro pins s σ H xs us Q I r ⟨W', iw, q⟩
  exact h W' (iw.1.trans hK) pins s σ H xs us Q I r q
/-- the name of a built-in, whether it is a class -/
def biName : Bi → Str × Value
  | .len => ("len", .builtin "len")
  | .tuple => ("tuple", .type "tuple")
  | .list => ("list", .type "list")
  | .sum => ("sum", .builtin "sum")
  | .max1 => ("max", .builtin "max")
  | .min1 => ("min", .builtin "min")
  | .max2 => ("max", .builtin "max")
  | .min2 => ("min", .builtin "min")
  | .all => ("all", .builtin "all")
  | .any => ("any", .builtin "any")
  | .repr => ("repr", .builtin "repr")
  | .int => ("int", .type "int")
  | .abs => ("abs", .builtin "abs")
  | .zip => ("zip", .type "zip")
  | .join => ("zip", .type "zip")
theorem boot_bi (b : Bi) : bootBuiltins (biName b).1 = some (biName b).2 := by
  cases b <;> decide +kernel
theorem cr_bi (b : Bi) (hb : b ≠ .zip) (hb2 : b ≠ .join) (hK : W.K = X.K) (hc : X.calm = true) (hg : X.A.guards = some []) (hu : X.A.units + 66 < cLine) : CallR X (biName b).2 (rBiX W b) := by
  cases b with
  | len => exact crX hK fun W' h => cr_len0 h
  | tuple => exact crX hK fun W' h => cr_tuple0 h
  | list => exact crX hK fun W' h => cr_list0 h
  | sum => exact crX hK fun W' h => cr_sum0 h hc
  | max1 => exact crX hK fun W' h => cr_max1 h hc (by omega)
  | min1 => exact crX hK fun W' h => cr_min1 h hc
  | max2 => exact crX hK fun W' h => cr_max2 hc
  | min2 => exact crX hK fun W' h => cr_min2 hc
  | all => exact crX hK fun W' h => cr_all0 h hc
  | any => exact crX hK fun W' h => cr_any0 h hc
  | repr => exact crX hK fun W' h => cr_repr h hg hu
  | int => exact crX hK fun W' h => cr_int0
  | abs => exact crX hK fun W' h => cr_abs0
  | zip => exact absurd rfl hb
  | join => exact absurd rfl hb2
theorem bi_nm (b : Bi) : (biName b).1 ≠ "__name__" ∧ ((biName b).1 == ("__debug__" : Str)) = false := by
  cases b <;> decide
theorem strs_of {W : Wd} {ρ : List Addr} {H : Hp} : ∀ {xs : List D} {vs : List V} {ns : List Str}, Reps W ρ H xs vs → allSome strOf xs = some ns → vs = ns.map V.str
  | [], vs, ns, r, e => by have e1 : vs = [] := r; simp [allSome] at e; subst e1; subst e; rfl
  | x :: xs, vs, ns, r, e => by
    obtain ⟨v, r', e1, h1, h2⟩ := (show ∃ v r, vs = v :: r ∧ Rep W ρ H x v ∧ Reps W ρ H xs r from r)
    simp only [allSome] at e
    cases c1 : strOf x with
    | none => rw [c1] at e; cases e
    | some n =>
      cases c2 : allSome strOf xs with
      | none => rw [c1, c2] at e; cases e
      | some m =>
        rw [c1, c2] at e
        cases e
        cases x <;> simp [strOf] at c1
        subst c1
        obtain ⟨e2, _⟩ := Rep.str h1
        subst e2
        rw [e1, strs_of h2 c2]; rfl
theorem s_join {z : Str} {k : Nat} {p1 apos : Pos} {ms : Ev → M (List D)} {m : Ev → M D} (hz : z = ⟨#[]⟩) (ha : PE X a (tE W x m)) (hm : ∀ v, ms v = (m v >>= fun d => pure [d])) (hst : starEach [a] X.env = [(false, eval a X.env)]) (hline : (apos.endLine == pos.line) = true) :
    PE X (.Call (.Attribute (.Constant (.str z) k p1) "join" apos) [a] [] pos) (tE W x fun v => ms v >>= fun xs => look fun h => biD h .join xs) := by
  subst hz
  refine pe_mono (pe_join pe_str ha hst rfl hline) fun σ H Q _ h => ?_
  obtain ⟨W', iw, ρ, η, env, sim, er, h⟩ := h
  simp only [hm, bind_assoc', pure_bind'] at h
  refine ⟨⟨_, rfl⟩, W', iw, ρ, η, env, sim, er, h.bind.mono fun d η1 ρ1 H1 x1 s1 h1 u ru => ?_⟩
  obtain ⟨y, hy, w⟩ := h1.look
  simp only [biD, bi1] at hy
  unfold joinD at hy
  split at hy
  · rename_i xs c
    obtain ⟨b, vs, e, q, l, r⟩ := see_lst s1 ru c
    subst e
    cases c2 : allSome strOf xs with
    | none => rw [c2] at hy; cases hy
    | some ys =>
      rw [c2] at hy
      simp only [Option.bind_some] at hy
      split at hy
      · rename_i hl
        have hl := of_decide_eq_true hl
        cases hy
        have e := strs_of r c2
        subst e
        have hj : (PySem.Txt.join ⟨#[]⟩ ys).length ≤ sizeLine := by
          rw [show PySem.Txt.join ⟨#[]⟩ ys = Str.join ⟨#[]⟩ ys from PySem.StrLaws.glued_eq_join _ _]
          have := StrLaws.join_length_le ⟨#[]⟩ ys
          have z : (⟨#[]⟩ : Str).length = 0 := rfl
          rw [z, Nat.mul_zero] at this
          rw [← lim_eq]
          omega
        refine ⟨⟨#[]⟩, b, ys, rfl, rfl, .inl (SqL.of q), ?_, see_want w ρ1 H1 _ .refl s1 ⟨rfl, hj⟩⟩
        have z : (⟨#[]⟩ : Str).length = 0 := rfl
        rw [z, Nat.mul_zero]
        simpa [lim] using hl
      · cases hy
  · cases hy
theorem s_bi {es : List Expr} {ms : Ev → M (List D)} {y : Str} {p : Pos} (bi : Bi) (hb : bi ≠ .zip) (hb2 : bi ≠ .join) (hK : W.K = X.K) (hc : X.calm = true) (hg : X.A.guards = some []) (hu : X.A.units + 66 < cLine) (hy : y = (biName bi).1)
    (hgl : Gl X y) (hm : X.mg y = none) (hs : PA X (a :: es) (tEs W x ms)) (he : starEach (a :: es) X.env = (false, eval a X.env) :: starEach es X.env) (hpl : (backTo pos (starEach es X.env)).any (·.1) = false) :
    PE X (.Call (.Name y p) (a :: es) [] pos) (tE W x fun v => ms v >>= fun xs => look fun h => biD h bi xs) := by
  have hcr := cr_bi (X := X) (W := W) bi hb hb2 hK hc hg hu
  have hbt := boot_bi bi
  obtain ⟨n1, n2⟩ := bi_nm bi
  rw [← hy] at hbt n1 n2
  have fin : PE X (.Call (.Name y p) (a :: es) [] pos) (tCB (rBiX W bi) (tEs W x ms)) := by
    cases bi <;> first
      | exact pe_callB hcr hgl hm hbt hs n1 n2 he hpl
      | exact pe_callTy hcr hgl hm hbt hs n1 n2 he hpl
  refine pe_mono fin fun σ H Q _ h => ?_
  obtain ⟨W', iw, ρ, η, env, sim, er, h⟩ := h
  refine ⟨W', iw, ρ, η, env, sim, er, h.bind.mono fun ds η1 ρ1 H1 e1 s1 h1 vs rs => ?_⟩
  obtain ⟨z, hz, w⟩ := h1.look
  exact ⟨W', iw, ρ1, η1, ds, z, s1, rs, hz, see_want w⟩
def rIsX (W₀ : Wd) (t : Ty) : List V → Hp → VK → Prop := fun xs H Q => ∃ W, InW W₀ W ∧ rIs W t xs H Q
theorem s_isi {p pt : Pos} {tn : Str} (t : Ty) (hK : W.K = X.K) (ht : bootBuiltins tn = some (.type (tyName t))) (hgl : Gl X "isinstance") (hm : X.mg "isinstance" = none) (hgt : Gl X tn) (hmt : X.mg tn = none) (hn : tn ≠ "__name__") (hd : (tn == ("__debug__" : Str)) = false)
    (ha : PE X a (tE W x ma)) (hna : starEach [a, .Name tn pt] X.env = (false, eval a X.env) :: starEach [.Name tn pt] X.env) :
    PE X (.Call (.Name "isinstance" p) [a, .Name tn pt] [] pos) (tE W x fun v => ma v >>= fun q => (look fun h => isTy h q t) >>= fun r => pure (.bl r)) := by
  have hcr : CallR X (.builtin "isinstance") (rIsX W t) := by
    intro pins s σ H xs us Q I r ⟨W', iw, q⟩
    exact cr_is t (iw.1.trans hK) pins s σ H xs us Q I r q
  have hty : PE X (.Name tn pt) (tC (.ty (tyName t))) := pe_bltn hgt hmt ht rfl hn hd
  have fin : PE X (.Call (.Name "isinstance" p) [a, .Name tn pt] [] pos) (tCB (rIsX W t) (tCons (tE W x ma) (tCons (tC (.ty (tyName t))) tNil))) :=
    pe_callB hcr hgl hm (by decide +kernel) (pa_cons ha (pa_cons hty pa_nil) hna) (by decide) (by decide) hna rfl
  refine pe_mono fin fun σ H Q _ h => ?_
  obtain ⟨W', iw, ρ, η, env, sim, er, h⟩ := h
  refine ⟨W', iw, ρ, η, env, sim, er, h.bind.mono fun d η1 ρ1 H1 e1 s1 h1 v rv => ?_⟩
  obtain ⟨z, hz, w⟩ := h1.bind.look
  exact ⟨W', iw, ρ1, η1, d, v, z, rfl, s1, rv, hz, (w ρ1 H1 .refl s1).pure s1 _ rfl⟩
/-! ### what is walked -/
theorem PIE.un {pins : List (Addr × Obj)} {σ : St} {tg : Expr} {R R' : It → Hp → Prop} {u : Value} {s : Shared} (h : ∀ J H, R J H → R' J H) (p : PIE X pins σ tg R u s) : PIE X pins σ tg R' u s := by
  obtain ⟨it, fp, tn, J, H', e, I, T, st, fr, q⟩ := p
  exact ⟨it, fp, tn, J, H', e, I, T, st, fr, h J H' q⟩
/-- a value that is walked -/
theorem s_ival {tg : Expr} (hK : W.K = X.K) (ha : PE X a (tE W x ma)) : PI X tg a (tEI W x fun v => ma v >>= fun p => look fun h => iterD h p) := by
  -- by the kind of the value
  refine ⟨fun pins s σ H R I h => ?_⟩
  obtain ⟨W', iw, ρ, η, env, sim, er, h⟩ := h
  have hK' := iw.1.trans hK
  have key : tE W x ma σ H (fun v H1 => (∃ p, v = .ref p ∧ (∃ vs, SqL X.K H1 p vs) ∧ R (Itl X.K p) H1) ∨ (∃ p, v = .ref p ∧ (∃ vs, SqT X.K H1 p vs) ∧ R (Itt X.K p) H1) ∨ ∃ y, v = .str y ∧ R (Its y) H1) := by
    refine ⟨W', iw, ρ, η, env, sim, er, h.bind.mono fun p η1 ρ1 H1 e1 s1 h1 v rv => ?_⟩
    obtain ⟨xs, hz, w⟩ := h1.look
    have w := w ρ1 H1 .refl s1
    unfold iterD at hz
    split at hz
    · cases hz
      obtain ⟨q, ev, sq, ok, l⟩ := it_list s1 rv (.inl rfl)
      rw [hK'] at sq ok
      exact .inl ⟨q, ev, sq, w l _ ok⟩
    · cases hz
      obtain ⟨q, ev, sq, ok, l⟩ := it_tup s1 rv
      rw [hK'] at sq ok
      exact .inr (.inl ⟨q, ev, sq, w l _ ok⟩)
    · cases hz
      obtain ⟨q, ev, sq, ok, l⟩ := it_list s1 rv (.inr rfl)
      rw [hK'] at sq ok
      exact .inl ⟨q, ev, sq, w l _ ok⟩
    · cases hz
      rename_i y _
      obtain ⟨ev, l⟩ := Rep.str rv
      refine .inr (.inr ⟨y, ev, w ?_ _ (it_str y)⟩)
      unfold signs
      rw [List.length_map]
      exact l
    · cases hz
  refine thn (ha.run pins s σ H _ I key) fun v s1 ⟨xv, H1, I1, r1, q1⟩ => ?_
  rcases q1 with ⟨p, ev, ⟨vs, sq⟩, q⟩ | ⟨p, ev, ⟨vs, sq⟩, q⟩ | ⟨y, ev, q⟩
  · subst ev
    cases r1
    obtain ⟨its, rv, pl, hz⟩ := I1.list sq
    refine wpAny_pyIter_list pl.isList ⟨s1.heap.objs.size, [s1.heap.objs.size], _, _, H1, rfl, I1.kept (t' := s1.toks) fun b o e => Heap.get?_push_of_some _ e, turn_list p _, ⟨_, Heap.get?_push_size _ rfl, rfl, rfl⟩, fun b hb => ?_, q⟩
    have e : b = s1.heap.objs.size := by simpa using hb
    subst e
    exact I1.fpOk (Nat.le_refl _) (I1.hok.fresh (Nat.le_refl _))
  · subst ev
    cases r1
    obtain ⟨its, rv, pl, hz⟩ := I1.tuple sq
    refine wpAny_pyIter_tuple (show s1.heap.IsTuple p its.toArray from pl) ⟨s1.heap.objs.size, [s1.heap.objs.size], _, _, H1, rfl, I1.kept (t' := s1.toks) fun b o e => Heap.get?_push_of_some _ e, turn_tuple p _, ⟨_, Heap.get?_push_size _ rfl, rfl, rfl⟩, fun b hb => ?_, q⟩
    have e : b = s1.heap.objs.size := by simpa using hb
    subst e
    exact I1.fpOk (Nat.le_refl _) (I1.hok.fresh (Nat.le_refl _))
  · subst ev
    obtain ⟨t, rfl⟩ := r1
    cases ha : y.cps.all (· < 128)
    · exact wpAny_pyIter_wide ha (pi_one (tk := s1.toks) I1 _ (turn_str _ y t "str_iterator" (.inr rfl)) ⟨_, Heap.get?_push_size _ rfl, rfl, rfl⟩ q)
    · exact wpAny_pyIter_ascii ha (pi_one (tk := s1.toks) I1 _ (turn_str _ y t "str_ascii_iterator" (.inl rfl)) ⟨_, Heap.get?_push_size _ rfl, rfl, rfl⟩ q)
theorem rng_small {n : Nat} (h : n ≤ 200000) : n ≤ sizeLine := by
  rw [sizeLine_eq]
  exact Nat.le_trans h (by decide)
theorem it_rng0 {W : Wd} {ρ : List Addr} {H : Hp} (n : Nat) : ItOk W ρ H (Itr 0 n) ((List.range n).map fun (i : Nat) => .int (i : Int)) := by
  have h := it_rng (W := W) (ρ := ρ) (H := H) 0 n
  have e : (fun (i : Nat) => D.int ((0 : Int) + (i : Int))) = fun (i : Nat) => D.int (i : Int) := by
    funext i
    rw [Int.zero_add]
  rw [e] at h
  exact h
theorem s_irng1 {tg : Expr} {p : Pos} (hgl : Gl X "range") (hm : X.mg "range" = none) {ms : Ev → M (List D)} (hs : PA X [a] (tEs W x ms)) (he : starEach [a] X.env = [(false, eval a X.env)]) :
    PI X tg (.Call (.Name "range" p) [a] [] pos) (tEI W x fun v => ms v >>= fun xs => op (rng1D xs)) := by
  refine pi_mono (pi_range1 hgl hm hs he) fun σ H R _ h => ?_
  obtain ⟨W', iw, ρ, η, env, sim, er, h⟩ := h
  refine ⟨W', iw, ρ, η, env, sim, er, h.bind.mono fun ds η1 ρ1 H1 e1 s1 h1 vs rs => ?_⟩
  obtain ⟨z, hz, w⟩ := h1.op
  unfold rng1D at hz
  split at hz
  · rename_i n
    obtain ⟨v, ev, rv⟩ := reps1 rs
    split at hz
    · rename_i hn
      cases hz
      have hn := of_decide_eq_true hn
      have e := Rep.int rv
      subst e
      refine ⟨n, ev, by omega, by omega, w ρ1 H1 .refl s1 (rng_small (by simp; omega)) _ (it_rng0 _)⟩
    · cases hz
  · cases hz
theorem s_irng2 {tg : Expr} {p : Pos} (hgl : Gl X "range") (hm : X.mg "range" = none) {ms : Ev → M (List D)} (hs : PA X [a, b] (tEs W x ms)) (he : starEach [a, b] X.env = [(false, eval a X.env), (false, eval b X.env)]) (he2 : starEach [b] X.env = [(false, eval b X.env)]) :
    PI X tg (.Call (.Name "range" p) [a, b] [] pos) (tEI W x fun v => ms v >>= fun xs => op (rng2D xs)) := by
  refine pi_mono (pi_range2 hgl hm hs he he2) fun σ H R _ h => ?_
  obtain ⟨W', iw, ρ, η, env, sim, er, h⟩ := h
  refine ⟨W', iw, ρ, η, env, sim, er, h.bind.mono fun ds η1 ρ1 H1 e1 s1 h1 vs rs => ?_⟩
  obtain ⟨z, hz, w⟩ := h1.op
  unfold rng2D at hz
  split at hz
  · rename_i n m
    obtain ⟨v, u, ev, rv, ru⟩ := reps2 rs
    split at hz
    · rename_i hn
      cases hz
      have hn := of_decide_eq_true hn
      have e := Rep.int rv
      have e' := Rep.int ru
      subst e; subst e'
      refine ⟨n, m, ev, by omega, w ρ1 H1 .refl s1 (rng_small (by simp; omega)) _ (it_rng _ _)⟩
    · cases hz
  · cases hz
theorem it_rngC {W : Wd} {ρ : List Addr} {H : Hp} (lo c : Int) (n : Nat) : ItOk W ρ H (Itc lo c n) ((List.range n).map fun (i : Nat) => .int (lo + (i : Int) * c)) := by
  refine ⟨fun i ρ' H' _ hi => ?_, fun i ρ' H' _ hi => ?_, fun W' i ρ' η' H' v' H'' d' wi _ s y hd => ?_⟩
  · show i < n
    simpa using hi
  · show n ≤ i
    simpa using hi
  · obtain ⟨e1, ev⟩ := y
    subst e1; subst ev
    rw [List.getElem?_map] at hd
    have hi : i < n := by
      have := get_len (show ((List.range n).map fun (i : Nat) => D.int (lo + (i : Int) * c))[i]? = some d' by rw [List.getElem?_map]; exact hd)
      simpa using this
    rw [List.getElem?_range hi] at hd
    cases hd
    exact ⟨.refl, s, rfl⟩
theorem s_irng3 {tg : Expr} {p : Pos} (hgl : Gl X "range") (hm : X.mg "range" = none) {ms : Ev → M (List D)} (hs : PA X [a, b, c] (tEs W x ms)) (he : starEach [a, b, c] X.env = (false, eval a X.env) :: starEach [b, c] X.env) (he2 : (backTo pos (starEach [b, c] X.env)).any (·.1) = false) :
    PI X tg (.Call (.Name "range" p) [a, b, c] [] pos) (tEI W x fun v => ms v >>= fun xs => op (rng3D xs)) := by
  refine pi_mono (pi_range3 hgl hm hs he he2) fun σ H R _ h => ?_
  obtain ⟨W', iw, ρ, η, env, sim, er, h⟩ := h
  refine ⟨W', iw, ρ, η, env, sim, er, h.bind.mono fun ds η1 ρ1 H1 e1 s1 h1 vs rs => ?_⟩
  obtain ⟨z, hz, w⟩ := h1.op
  unfold rng3D at hz
  split at hz
  · rename_i n m k
    obtain ⟨v, r', ev, rv, rs⟩ := (show ∃ v r, vs = v :: r ∧ Rep W' ρ1 H1 (.int n) v ∧ Reps W' ρ1 H1 [.int m, .int k] r from rs)
    obtain ⟨u, y, ev2, ru, ry⟩ := reps2 rs
    split at hz
    · rename_i hn
      cases hz
      obtain ⟨hn, hk⟩ := of_decide_eq_true hn
      subst hk
      have e := Rep.int rv
      have e' := Rep.int ru
      have e'' := Rep.int ry
      subst e; subst e'; subst e''
      subst ev2
      refine ⟨n, m, -1, (n - m).toNat, ev, RgC.neg (by omega) (by omega) (by omega) (by omega), w ρ1 H1 .refl s1 (rng_small (by simp; omega)) _ (it_rngC _ _ _)⟩
    · cases hz
  · cases hz
theorem s_izip {elts : List Expr} {kk : Nat} {tpos p : Pos} (hK : W.K = X.K) (hgl : Gl X "zip") (hm : X.mg "zip" = none) (ha : PE X a (tE W x ma)) (hb : PE X b (tE W x mb))
    (hs : starEach [a, b] X.env = (false, eval a X.env) :: starEach [b] X.env) (hs2 : starEach [b] X.env = (false, eval b X.env) :: starEach [] X.env) (hpl : (backTo pos (starEach [b] X.env)).any (·.1) = false) :
    PI X (.Tuple elts kk tpos) (.Call (.Name "zip" p) [a, b] [] pos) (tEI W x fun v => ma v >>= fun p => mb v >>= fun q => look fun h => zip2D h p q) := by
  refine pi_mono (RZ.pi_zipA hgl hm (pa_cons ha (pa_cons hb pa_nil hs2) hs) hs hpl) fun σ H R _ h => ?_
  obtain ⟨W', iw, ρ, η, env, sim, er, h⟩ := h
  have hK' := iw.1.trans hK
  refine ⟨W', iw, ρ, η, env, sim, er, h.bind.mono fun d η1 ρ1 H1 e1 s1 h1 v rv => ?_⟩
  refine ⟨W', iw, ρ1, η1, env, s1, er.ext e1 sim.ok, h1.bind.mono fun d2 η2 ρ2 H2 e2 s2 h2 u ru => ?_⟩
  obtain ⟨z, hz, w⟩ := h2.look
  have rv2 := rv.ext e2 s1.ok
  have w := w ρ2 H2 .refl s2
  unfold zip2D at hz
  split at hz
  · rename_i xs ys
    cases hz
    obtain ⟨p, vs, ev, sp, lp, rp⟩ := (show ∃ a vs, v = .ref a ∧ SqT W'.K H2 a vs ∧ xs.length ≤ sizeLine ∧ Reps W' ρ2 H2 xs vs from rv2)
    obtain ⟨q, us, eu, sq, lq, rq⟩ := (show ∃ a vs, u = .ref a ∧ SqT W'.K H2 a vs ∧ ys.length ≤ sizeLine ∧ Reps W' ρ2 H2 ys vs from ru)
    subst ev; subst eu
    have ok := it_zipT s2 sp sq rp rq
    rw [hK'] at sp sq ok
    exact ⟨p, q, vs, us, rfl, .inr ⟨sp, sq, w (by rw [zip_len]; omega) _ ok⟩⟩
  · rename_i xs ys
    cases hz
    obtain ⟨p, vs, ev, sp, rp⟩ := see_list2 rv2 (.inl rfl)
    obtain ⟨q, us, eu, sq, rq⟩ := see_list2 ru (.inl rfl)
    obtain ⟨_, _, _, _, lp, _⟩ := (show ∃ a vs, v = .ref a ∧ (H2 a = some (.lst vs) ∧ Fr W' ρ2 a) ∧ xs.length ≤ sizeLine ∧ Reps W' ρ2 H2 xs vs from rv2)
    subst ev; subst eu
    have ok := it_zipL s2 sp sq rp rq
    have sp' := sp ρ2 H2 Ext.refl.z
    have sq' := sq ρ2 H2 Ext.refl.z
    rw [hK'] at sp' sq' ok
    exact ⟨p, q, vs, us, rfl, .inl ⟨sp', sq', w (by rw [zip_len]; omega) _ ok⟩⟩
  · cases hz
end
end MI
end
/-! MIj -/
section
set_option linter.all false
set_option maxRecDepth 100000
set_option maxHeartbeats 4000000
/-! Comprehensions. -/
namespace MI
open PySem L2

/-- the world where the list at A is being made -/
abbrev Wd.mk' (W : Wd) (A : Addr) : Wd := { W with Z := A :: W.Z }
/-- the heap without the list at A -/
def dl (H : Hp) (A : Addr) : Hp := fun b => if b = A then none else H b
theorem dl_same {H : Hp} {A : Addr} : dl H A A = none := by unfold dl; rw [if_pos rfl]
theorem dl_ne {H : Hp} {a A : Addr} (h : a ≠ A) : dl H A a = H a := by unfold dl; rw [if_neg h]
theorem dl_upd {H : Hp} {A : Addr} {o : HO} : dl (upd H A o) A = dl H A := by
  funext b
  by_cases h : b = A
  · subst h; rw [dl_same, dl_same]
  · rw [dl_ne h, dl_ne h, upd_ne h]
section
variable {W : Wd} {ρ ρ' : List Addr} {η : List C} {H H' : Hp} {A : Addr}
theorem wider_mk (hA : H A = none) : Wider W (W.mk' A) H := ⟨rfl, rfl, fun z hz => by
  rcases List.mem_cons.mp hz with e | m
  · exact .inr (by rw [e]; exact hA)
  · exact .inl m⟩
/-! the list at A changes: nothing else sees it -/
mutual
theorem Rep.zed {xs ys : List V} (hA : H A = some (.lst xs)) : ∀ {d : D} {v : V}, Rep (W.mk' A) ρ H d v → Rep (W.mk' A) ρ (upd H A (.lst ys)) d v
  | .non, _, h => h
  | .bl _, _, h => h
  | .int _, _, h => h
  | .str _, _, h => h
  | .tup ds, v, h => by
    obtain ⟨a, vs, e, q, l, r⟩ := (show ∃ a vs, v = .ref a ∧ SqT W.K H a vs ∧ ds.length ≤ sizeLine ∧ Reps (W.mk' A) ρ H ds vs from h)
    refine ⟨a, vs, e, ?_, l, Reps.zed hA r⟩
    rcases q with (q | ⟨o, q⟩) | q
    · exact .inl (.inl (by rw [upd_ne (ne_of q hA (by intro z; cases z))]; exact q))
    · exact .inl (.inr ⟨o, by rw [upd_ne (ne_of q hA (by intro z; cases z))]; exact q⟩)
    · exact .inr q
  | .lst ds, v, h => by
    obtain ⟨a, vs, e, ⟨q, n⟩, l, r⟩ := (show ∃ a vs, v = .ref a ∧ (H a = some (.lst vs) ∧ Fr (W.mk' A) ρ a) ∧ ds.length ≤ sizeLine ∧ Reps (W.mk' A) ρ H ds vs from h)
    exact ⟨a, vs, e, ⟨by rw [upd_ne (fun z => n.2 (by rw [z]; exact List.mem_cons_self))]; exact q, n⟩, l, Reps.zed hA r⟩
  | .scr ds, v, h => by
    obtain ⟨a, vs, e, q, l, r⟩ := (show ∃ a vs, v = .ref a ∧ ((Rd H a (.lst vs) ∧ Fr (W.mk' A) ρ a) ∨ KL W.K a vs) ∧ ds.length ≤ sizeLine ∧ Reps (W.mk' A) ρ H ds vs from h)
    refine ⟨a, vs, e, ?_, l, Reps.zed hA r⟩
    rcases q with ⟨q | ⟨o, q⟩, n⟩ | q
    · exact .inl ⟨.inl (by rw [upd_ne (fun z => n.2 (by rw [z]; exact List.mem_cons_self))]; exact q), n⟩
    · exact .inl ⟨.inr ⟨o, by rw [upd_ne (fun z => n.2 (by rw [z]; exact List.mem_cons_self))]; exact q⟩, n⟩
    · exact .inr q
  | .dct ks, v, h => by
    obtain ⟨a, vs, e, ⟨q, n⟩, l, r⟩ := (show ∃ a kvs, v = .ref a ∧ (H a = some (.dK kvs) ∧ Fr (W.mk' A) ρ a) ∧ ks.length ≤ sizeLine ∧ RepK (W.mk' A) ρ H ks kvs from h)
    exact ⟨a, vs, e, ⟨by rw [upd_ne (fun z => n.2 (by rw [z]; exact List.mem_cons_self))]; exact q, n⟩, l, RepK.zed hA r⟩
  | .cel k, v, h => h
  | .fn _, _, h => h
  | .err q d, v, h => by
    obtain ⟨a, dd, z, e, ⟨h1, n1⟩, ⟨h2, n2⟩, r⟩ := (show ∃ a dd x, v = .ref a ∧ (H a = some (exv a (.ref (W.Fn (clsB + q))) dd) ∧ Fr (W.mk' A) ρ a) ∧ (H dd = some (vxd x) ∧ Fr (W.mk' A) ρ dd) ∧ Rep (W.mk' A) ρ H d x from h)
    exact ⟨a, dd, z, e, ⟨by rw [upd_ne (fun z => n1.2 (by rw [z]; exact List.mem_cons_self))]; exact h1, n1⟩, ⟨by rw [upd_ne (fun z => n2.2 (by rw [z]; exact List.mem_cons_self))]; exact h2, n2⟩, Rep.zed hA r⟩
theorem Reps.zed {xs ys : List V} (hA : H A = some (.lst xs)) : ∀ {ds : List D} {vs : List V}, Reps (W.mk' A) ρ H ds vs → Reps (W.mk' A) ρ (upd H A (.lst ys)) ds vs
  | [], _, h => h
  | d :: ds, vs, h => by
    obtain ⟨v, r, e, h1, h2⟩ := (show ∃ v r, vs = v :: r ∧ Rep (W.mk' A) ρ H d v ∧ Reps (W.mk' A) ρ H ds r from h)
    exact ⟨v, r, e, Rep.zed hA h1, Reps.zed hA h2⟩
theorem RepK.zed {xs ys : List V} (hA : H A = some (.lst xs)) : ∀ {ds : List (Key × D)} {vs : List (Key × V)}, RepK (W.mk' A) ρ H ds vs → RepK (W.mk' A) ρ (upd H A (.lst ys)) ds vs
  | [], _, h => h
  | (k, d) :: ds, vs, h => by
    obtain ⟨v, r, e, h1, h2⟩ := (show ∃ v r, vs = (k, v) :: r ∧ Rep (W.mk' A) ρ H d v ∧ RepK (W.mk' A) ρ H ds r from h)
    exact ⟨v, r, e, Rep.zed hA h1, RepK.zed hA h2⟩
end
/-! the list at A is taken away -/
mutual
theorem Rep.del {xs : List V} (hA : H A = some (.lst xs)) : ∀ {d : D} {v : V}, Rep (W.mk' A) ρ H d v → Rep W ρ (dl H A) d v
  | .non, _, h => h
  | .bl _, _, h => h
  | .int _, _, h => h
  | .str _, _, h => h
  | .tup ds, v, h => by
    obtain ⟨a, vs, e, q, l, r⟩ := (show ∃ a vs, v = .ref a ∧ SqT W.K H a vs ∧ ds.length ≤ sizeLine ∧ Reps (W.mk' A) ρ H ds vs from h)
    refine ⟨a, vs, e, ?_, l, Reps.del hA r⟩
    rcases q with (q | ⟨o, q⟩) | q
    · exact .inl (.inl (by rw [dl_ne (ne_of q hA (by intro z; cases z))]; exact q))
    · exact .inl (.inr ⟨o, by rw [dl_ne (ne_of q hA (by intro z; cases z))]; exact q⟩)
    · exact .inr q
  | .lst ds, v, h => by
    obtain ⟨a, vs, e, ⟨q, n⟩, l, r⟩ := (show ∃ a vs, v = .ref a ∧ (H a = some (.lst vs) ∧ Fr (W.mk' A) ρ a) ∧ ds.length ≤ sizeLine ∧ Reps (W.mk' A) ρ H ds vs from h)
    exact ⟨a, vs, e, ⟨by rw [dl_ne (fun z => n.2 (by rw [z]; exact List.mem_cons_self))]; exact q, n.1, fun m => n.2 (List.mem_cons_of_mem _ m)⟩, l, Reps.del hA r⟩
  | .scr ds, v, h => by
    obtain ⟨a, vs, e, q, l, r⟩ := (show ∃ a vs, v = .ref a ∧ ((Rd H a (.lst vs) ∧ Fr (W.mk' A) ρ a) ∨ KL W.K a vs) ∧ ds.length ≤ sizeLine ∧ Reps (W.mk' A) ρ H ds vs from h)
    refine ⟨a, vs, e, ?_, l, Reps.del hA r⟩
    rcases q with ⟨q | ⟨o, q⟩, n⟩ | q
    · exact .inl ⟨.inl (by rw [dl_ne (fun z => n.2 (by rw [z]; exact List.mem_cons_self))]; exact q), n.1, fun m => n.2 (List.mem_cons_of_mem _ m)⟩
    · exact .inl ⟨.inr ⟨o, by rw [dl_ne (fun z => n.2 (by rw [z]; exact List.mem_cons_self))]; exact q⟩, n.1, fun m => n.2 (List.mem_cons_of_mem _ m)⟩
    · exact .inr q
  | .dct ks, v, h => by
    obtain ⟨a, vs, e, ⟨q, n⟩, l, r⟩ := (show ∃ a kvs, v = .ref a ∧ (H a = some (.dK kvs) ∧ Fr (W.mk' A) ρ a) ∧ ks.length ≤ sizeLine ∧ RepK (W.mk' A) ρ H ks kvs from h)
    exact ⟨a, vs, e, ⟨by rw [dl_ne (fun z => n.2 (by rw [z]; exact List.mem_cons_self))]; exact q, n.1, fun m => n.2 (List.mem_cons_of_mem _ m)⟩, l, RepK.del hA r⟩
  | .cel k, v, h => h
  | .fn _, _, h => h
  | .err q d, v, h => by
    obtain ⟨a, dd, z, e, ⟨h1, n1⟩, ⟨h2, n2⟩, r⟩ := (show ∃ a dd x, v = .ref a ∧ (H a = some (exv a (.ref (W.Fn (clsB + q))) dd) ∧ Fr (W.mk' A) ρ a) ∧ (H dd = some (vxd x) ∧ Fr (W.mk' A) ρ dd) ∧ Rep (W.mk' A) ρ H d x from h)
    exact ⟨a, dd, z, e, ⟨by rw [dl_ne (fun z => n1.2 (by rw [z]; exact List.mem_cons_self))]; exact h1, n1.1, fun m => n1.2 (List.mem_cons_of_mem _ m)⟩, ⟨by rw [dl_ne (fun z => n2.2 (by rw [z]; exact List.mem_cons_self))]; exact h2, n2.1, fun m => n2.2 (List.mem_cons_of_mem _ m)⟩, Rep.del hA r⟩
theorem Reps.del {xs : List V} (hA : H A = some (.lst xs)) : ∀ {ds : List D} {vs : List V}, Reps (W.mk' A) ρ H ds vs → Reps W ρ (dl H A) ds vs
  | [], _, h => h
  | d :: ds, vs, h => by
    obtain ⟨v, r, e, h1, h2⟩ := (show ∃ v r, vs = v :: r ∧ Rep (W.mk' A) ρ H d v ∧ Reps (W.mk' A) ρ H ds r from h)
    exact ⟨v, r, e, Rep.del hA h1, Reps.del hA h2⟩
theorem RepK.del {xs : List V} (hA : H A = some (.lst xs)) : ∀ {ds : List (Key × D)} {vs : List (Key × V)}, RepK (W.mk' A) ρ H ds vs → RepK W ρ (dl H A) ds vs
  | [], _, h => h
  | (k, d) :: ds, vs, h => by
    obtain ⟨v, r, e, h1, h2⟩ := (show ∃ v r, vs = (k, v) :: r ∧ Rep (W.mk' A) ρ H d v ∧ RepK (W.mk' A) ρ H ds r from h)
    exact ⟨v, r, e, Rep.del hA h1, RepK.del hA h2⟩
end
/-- the heap grows by one object -/
theorem ext_dl (hn : A ∉ ρ) : Ext ρ (dl H A) ρ H := ⟨List.prefix_refl _, fun b o e n => ⟨by
    by_cases c : b = A
    · subst c; rw [dl_same] at e; cases e
    · rw [dl_ne c] at e; exact e, n⟩, fun b e => by
    by_cases c : b = A
    · subst c; rw [dl_same] at e; exact absurd rfl e
    · rw [dl_ne c] at e; exact e⟩
theorem Ext.dl {ρ2 : List Addr} {H2 : Hp} (e : Ext ρ H ρ2 H2) (A : Addr) : Ext ρ (MI.dl H A) ρ2 (MI.dl H2 A) := ⟨e.pre, fun b o h n => by
    by_cases c : b = A
    · subst c; rw [dl_same] at h; cases h
    · rw [dl_ne c] at h
      rw [dl_ne c]
      exact e.keep b o h n, fun b h => by
    by_cases c : b = A
    · subst c; rw [dl_same] at h; exact absurd rfl h
    · rw [dl_ne c] at h ⊢
      exact e.was b h⟩
theorem Sim.res (s : Sim W ρ η H) (hA : H A = none) : Sim (W.mk' A) ρ η (upd H A (.lst [])) := by
  have s' := s.new (o := .lst []) hA
  have c := s.ok
  refine ⟨s.nd, fun z hz => ?_, s.len, fun k a cc e1 e2 => ?_⟩
  · rcases List.mem_cons.mp hz with e | m
    · subst e
      exact ⟨⟨[], upd_same⟩, new_out s hA⟩
    · exact s'.zed z m
  · have q := s.at_ k a cc e1 e2
    have ne : a ≠ A := by
      rcases c.at_ k a e1 with ⟨vs, z⟩ | ⟨vs, z⟩ <;> exact ne_of_none z hA
    cases cc with
    | lst ds =>
      obtain ⟨vs, z, l, r⟩ := q
      exact ⟨vs, by rw [upd_ne ne]; exact z, l, Reps.ext (Ext.new (o := .lst []) hA) c (Reps.res (wider_mk hA) r)⟩
    | dct ks =>
      obtain ⟨vs, z, l, r⟩ := q
      exact ⟨vs, by rw [upd_ne ne]; exact z, l, RepK.ext (Ext.new (o := .lst []) hA) c (RepK.res (wider_mk hA) r)⟩
theorem Sim.zd (s : Sim (W.mk' A) ρ η H) {xs ys : List V} (hA : H A = some (.lst xs)) : Sim (W.mk' A) ρ η (upd H A (.lst ys)) := by
  have hn := (s.zed A List.mem_cons_self).2
  refine ⟨s.nd, fun z hz => ⟨?_, (s.zed z hz).2⟩, s.len, fun k a cc e1 e2 => ?_⟩
  · by_cases e : z = A
    · subst e; exact ⟨_, upd_same⟩
    · rw [upd_ne e]; exact (s.zed z hz).1
  · have q := s.at_ k a cc e1 e2
    have ne : a ≠ A := fun e => hn (by rw [← e]; exact List.mem_of_getElem? e1)
    cases cc with
    | lst ds =>
      obtain ⟨vs, z, l, r⟩ := q
      exact ⟨vs, by rw [upd_ne ne]; exact z, l, Reps.zed hA r⟩
    | dct ks =>
      obtain ⟨vs, z, l, r⟩ := q
      exact ⟨vs, by rw [upd_ne ne]; exact z, l, RepK.zed hA r⟩
theorem Sim.del (s : Sim (W.mk' A) ρ η H) {xs : List V} (hA : H A = some (.lst xs)) (hz : A ∉ W.Z) : Sim W ρ η (dl H A) := by
  have hn := (s.zed A List.mem_cons_self).2
  refine ⟨s.nd, fun z hm => ⟨?_, (s.zed z (List.mem_cons_of_mem _ hm)).2⟩, s.len, fun k a cc e1 e2 => ?_⟩
  · rw [dl_ne (fun e => hz (by rw [← e]; exact hm))]
    exact (s.zed z (List.mem_cons_of_mem _ hm)).1
  · have q := s.at_ k a cc e1 e2
    have ne : a ≠ A := fun e => hn (by rw [← e]; exact List.mem_of_getElem? e1)
    cases cc with
    | lst ds =>
      obtain ⟨vs, z, l, r⟩ := q
      exact ⟨vs, by rw [dl_ne ne]; exact z, l, Reps.del hA r⟩
    | dct ks =>
      obtain ⟨vs, z, l, r⟩ := q
      exact ⟨vs, by rw [dl_ne ne]; exact z, l, RepK.del hA r⟩
/-- back where the list stands -/
theorem Sim.back (s : Sim W ρ η (dl H A)) {o : HO} (hA : H A = some o) : Sim W ρ η H := by
  have e : H = upd (dl H A) A o := by
    funext b
    by_cases c : b = A
    · subst c; rw [upd_same, hA]
    · rw [upd_ne c, dl_ne c]
  have h := s.new (p := A) (o := o) dl_same
  rw [← e] at h
  exact h
theorem Reps.back {ds : List D} {vs : List V} (s : Sim W ρ η (dl H A)) {o : HO} (hA : H A = some o) (r : Reps W ρ (dl H A) ds vs) : Reps W ρ H ds vs := by
  have e : H = upd (dl H A) A o := by
    funext b
    by_cases c : b = A
    · subst c; rw [upd_same, hA]
    · rw [upd_ne c, dl_ne c]
  rw [e]
  exact r.ext (.new dl_same) s.ok
end

theorem ExtZ.step {Z ρ ρ1 ρ2 : List Addr} {H H1 H2 : Hp} (a : ExtZ Z ρ H ρ1 H1) (b : Ext ρ1 H1 ρ2 H2) : ExtZ Z ρ H ρ2 H2 := ⟨a.pre.trans b.pre, fun c o h n z => let ⟨h1, n1⟩ := a.keep c o h n z; b.keep c o h1 n1⟩
theorem ExtZ.setz {Z ρ ρ1 : List Addr} {H H1 : Hp} {A : Addr} {o : HO} (a : ExtZ Z ρ H ρ1 H1) (h : A ∈ Z) : ExtZ Z ρ H ρ1 (upd H1 A o) := ⟨a.pre, fun c u e n z => by
  have ne : c ≠ A := fun q => z (by rw [q]; exact h)
  rw [upd_ne ne]
  exact a.keep c u e n z⟩
theorem quiet_post {α : Type} {W : Wd} {x : XW} {m : M α} {η : List C} {ρ : List Addr} {H : Hp} {k : α → List C → List Addr → Hp → Prop} (h : Post W x (quiet m η) ρ H k) : Post W xF (m η) ρ H k := by
  unfold quiet at h
  cases e : m η with
  | no => rw [e] at h; exact h
  | ok a η1 => rw [e] at h; exact h
  | exc c d η1 => rw [e] at h; exact h.elim
/-- the ends where the list at A stands, from those where it doesn't -/
theorem post_del {α : Type} {W : Wd} {A : Addr} {r : R α} {ρ : List Addr} {H : Hp} {vs : List V} {k : α → List C → List Addr → Hp → Prop} (h : Post W xF r ρ (dl H A) k) (hA : H A = some (.lst vs)) (hn : A ∉ ρ) (hz : A ∉ W.Z) :
    Post (W.mk' A) xF r ρ H (fun a η' ρ' H' => H' A = some (.lst vs) ∧ k a η' ρ' (dl H' A)) := by
  cases r with
  | no => exact h
  | ok a η1 =>
    intro ρ1 H1 e s
    have hA1 := (e.keep A _ hA hn).1
    exact ⟨hA1, h ρ1 (dl H1 A) (e.dl A) (s.del hA1 hz)⟩
  | exc c d η1 =>
    intro ρ1 H1 e s
    have hA1 := (e.keep A _ hA hn).1
    exact h ρ1 (dl H1 A) (e.dl A) (s.del hA1 hz)
/-- what holds while the list at A is being made, acc in it -/
structure Mk (W : Wd) (ρ1 : List Addr) (H1 : Hp) (A : Addr) (ρ : List Addr) (η : List C) (H : Hp) (acc : List D) : Prop where
  ext : Ext ρ1 H1 ρ H
  sim : Sim (W.mk' A) ρ η H
  ex : ∃ vs, H A = some (.lst vs) ∧ Reps (W.mk' A) ρ H acc vs
  le : acc.length ≤ lim
theorem Mk.out {W : Wd} {ρ1 : List Addr} {H1 : Hp} {A : Addr} {ρ : List Addr} {η : List C} {H : Hp} {acc : List D} (m : Mk W ρ1 H1 A ρ η H acc) : A ∉ ρ := (m.sim.zed A List.mem_cons_self).2
theorem Mk.step {W : Wd} {ρ1 : List Addr} {H1 : Hp} {A : Addr} {ρ ρ' : List Addr} {η η' : List C} {H H' : Hp} {acc : List D} (m : Mk W ρ1 H1 A ρ η H acc) (e : Ext ρ H ρ' H') (s : Sim (W.mk' A) ρ' η' H') : Mk W ρ1 H1 A ρ' η' H' acc := by
  obtain ⟨vs, h1, h2⟩ := m.ex
  exact ⟨m.ext.trans e, s, ⟨vs, (e.keep A _ h1 m.out).1, h2.ext e m.sim.ok⟩, m.le⟩
theorem Mk.push {W : Wd} {ρ1 : List Addr} {H1 : Hp} {A : Addr} {ρ : List Addr} {η : List C} {H : Hp} {acc : List D} (m : Mk W ρ1 H1 A ρ η H acc) (hA : H1 A = none) {y : D} {v : V} (r : Rep (W.mk' A) ρ H y v) (hl : acc.length < lim) :
    ∃ vs, H A = some (.lst vs) ∧ vs.length < sizeLine ∧ Mk W ρ1 H1 A ρ η (upd H A (.lst (vs ++ [v]))) (acc ++ [y]) := by
  obtain ⟨vs, h1, h2⟩ := m.ex
  refine ⟨vs, h1, by rw [h2.len, ← lim_eq]; exact hl, ⟨⟨m.ext.pre, fun b o h n => ?_, fun b h => ?_⟩, m.sim.zd h1, ⟨_, upd_same, Reps.zed h1 (h2.app (Reps.cons r Reps.nil))⟩, ?_⟩⟩
  · have ne : b ≠ A := fun z => by rw [z, hA] at h; cases h
    rw [upd_ne ne]
    exact m.ext.keep b o h n
  · have ne : b ≠ A := fun z => by rw [z, hA] at h; exact h rfl
    rw [upd_ne ne]
    exact m.ext.was b h
  · rw [List.length_append]
    exact hl
theorem push_post {W : Wd} {x : XW} {acc : List D} {y : D} {η : List C} {ρ : List Addr} {H : Hp} {k : List D → List C → List Addr → Hp → Prop} (h : Post W x (pushM acc y η) ρ H k) : acc.length < lim ∧ ∀ ρ' H', Ext ρ H ρ' H' → Sim W ρ' η H' → k (acc ++ [y]) η ρ' H' := by
  unfold pushM at h
  split at h
  · rename_i hl
    exact ⟨hl, h⟩
  · exact h.elim
def tgIn (tg : Tg) (vs : List Nat) : Prop := match tg with | .one i => i ∈ vs | .two i j => i ∈ vs ∧ j ∈ vs
theorem tg_post {W : Wd} {x : XW} {tg : Tg} {env : Ev} {d : D} {η : List C} {ρ : List Addr} {H : Hp} {k : Ev → List C → List Addr → Hp → Prop} (h : Post W x (tgE tg env d η) ρ H k) : ∃ v', tgE tg env d η = .ok v' η ∧ ∀ ρ' H', Ext ρ H ρ' H' → Sim W ρ' η H' → k v' η ρ' H' := by
  have key : tgE tg env d = no ∨ ∃ v', tgE tg env d = pure v' := by
    unfold tgE
    split
    · exact .inr ⟨_, rfl⟩
    · exact .inr ⟨_, rfl⟩
    · exact .inl rfl
  rcases key with e | ⟨v', e⟩
  · rw [e] at h; exact h.elim
  · rw [e] at h
    exact ⟨v', by rw [e]; rfl, h⟩
theorem wipe_idem (σ : St) (vs : List Nat) : L2.wipe (L2.wipe σ vs) vs = L2.wipe σ vs := by
  have key : ∀ (us : List Nat) (τ : St), (∀ i ∈ us, i < τ.length → τ[i]? = some none) → L2.wipe τ us = τ := by
    intro us
    induction us with
    | nil => intro τ _; rfl
    | cons a us ih =>
      intro τ hτ
      unfold L2.wipe
      rw [ih τ fun i hi => hτ i (List.mem_cons_of_mem _ hi)]
      by_cases hal : a < τ.length
      · have := hτ a List.mem_cons_self hal
        apply List.ext_getElem?
        intro j
        by_cases hj : a = j
        · subst hj
          rw [List.getElem?_set_self hal, this]
        · rw [List.getElem?_set_ne hj]
      · exact List.set_eq_of_length_le (by omega)
  refine key vs _ fun i hi hl => ?_
  cases q : (L2.wipe σ vs)[i]? with
  | none => rw [List.getElem?_eq_getElem hl] at q; cases q
  | some o =>
    cases o with
    | none => rfl
    | some u =>
      obtain ⟨_, h2⟩ := wipe_some q
      exact absurd hi h2
section
variable {X : Cx} {W : Wd} {x : XW}
/-- a comprehension's reading -/
theorem r_lc {own : List Nat} {t : Tg} {mi : Ev → M (List D)} {mc : Ev → M Bool} {me : Ev → M D} (ht : tgIn t own) {σ : St} {H : Hp} {Q : VK}
    (h : tE W x (fun v => mi v >>= fun xs => quiet (foldM' (fun acc d => tgE t (wipeE v own) d >>= fun v' => mc v' >>= fun b => if b then (me v' >>= fun y => pushM acc y) else pure acc) xs []) >>= fun r => pure (.lst r)) σ H Q) :
    tLc (tEI W x mi) (tET W t) (tEb W xF mc) (tE W xF me) own σ H Q := by
  obtain ⟨W', iw, ρ, η, env, sim, er, h⟩ := h
  refine ⟨W', iw, ρ, η, env, sim, er, h.bind.mono fun xs η1 ρ1 H1 e1 s1 h1 hlen J hJ => fun A hA => ?_⟩
  have hzA : A ∉ W'.Z := fun m => by
    obtain ⟨⟨vs, e⟩, _⟩ := s1.zed A m
    rw [hA] at e; cases e
  have er1 := er.ext e1 sim.ok
  have p0 := quiet_post h1.bind
  generalize hK : (fun (acc : List D) (η2 : List C) (ρ2 : List Addr) (H2 : Hp) => Post W' x ((pure (D.lst acc) : M D) η2) ρ2 H2 (kkV W' Q)) = K at p0
  generalize hstep : (fun (acc : List D) (d : D) => tgE t (wipeE env own) d >>= fun v' => mc v' >>= fun b => if b = true then (me v' >>= fun y => pushM acc y) else pure acc) = step at p0
  refine ⟨fun i m H' => ∃ ρ' η' acc, m = xs.length - i ∧ i ≤ xs.length ∧ Mk W' ρ1 H1 A ρ' η' H' acc ∧ Post W' xF (foldM' step (xs.drop i) acc η') ρ' (dl H' A) K, ⟨xs.length, ρ1, η1, [], by simp, Nat.zero_le _, ?_, ?_⟩, ?_⟩
  · exact ⟨.new hA, s1.res hA, ⟨[], upd_same, Reps.nil⟩, Nat.zero_le _⟩
  · have e : dl (upd H1 A (.lst [])) A = H1 := by
      funext b
      by_cases c : b = A
      · subst c; rw [dl_same, hA]
      · rw [dl_ne c, upd_ne c]
    rw [e]
    exact p0
  · rintro i m H' ⟨ρ', η', acc, rfl, hi', mk, p⟩
    by_cases hlt : i < xs.length
    · refine .inr ⟨hJ.go i ρ' H' mk.ext.z hlt, fun H2 => ∃ ρ2 η2 acc2, Mk W' ρ1 H1 A ρ2 η2 H2 acc2 ∧ Post W' xF (foldM' step (xs.drop (i + 1)) acc2 η2) ρ2 (dl H2 A) K, ?_, ?_⟩
      · rintro H2 ⟨ρ2, η2, acc2, mk2, p2⟩
        exact ⟨xs.length - (i + 1), by omega, ρ2, η2, acc2, rfl, hlt, mk2, p2⟩
      · intro v H2 y
        have hd : xs[i]? = some xs[i] := List.getElem?_eq_getElem hlt
        have hdrop : xs.drop i = xs[i] :: xs.drop (i + 1) := List.drop_eq_getElem_cons hlt
        generalize hxi : xs[i] = d at hd hdrop
        obtain ⟨eY, sY, rY⟩ := hJ.yld (W'.mk' A) i ρ' η' H' v H2 d (wider_mk hA) mk.ext.z mk.sim y hd
        have mk2 := mk.step eY sY
        obtain ⟨vs, hvs, rvs⟩ := mk.ex
        rw [hdrop] at p
        -- one turn of the fold
        have pt : Post W' xF ((step acc d >>= fun acc' => foldM' step (xs.drop (i + 1)) acc') η') ρ' (dl H' A) K := p
        have hs1 : step acc d = (tgE t (wipeE env own) d >>= fun v' => mc v' >>= fun b => if b = true then (me v' >>= fun y => pushM acc y) else pure acc) := by rw [← hstep]
        rw [hs1] at pt
        simp only [bind_assoc'] at pt
        have pt := (post_del pt.bind hvs mk.out hzA).ext eY
        obtain ⟨v', hv', w⟩ := tg_post pt
        obtain ⟨hA2, w⟩ := w ρ' H2 .refl sY
        have erW : EnvR (W'.mk' A) ρ' H2 env σ := (er1.res (wider_mk hA)).ext mk2.ext s1.ok
        refine ⟨W'.mk' A, iw, ρ', η', wipeE env own, d, v', sY, erW.wipe _, rY, hv', fun σ2 er2 hl2 hw2 => ⟨?_, ?_⟩⟩
        · have h3 := hw2 own (by cases t <;> exact ht)
          rw [h3]
          exact wipe_idem _ _
        · refine ⟨W'.mk' A, iw, ρ', η', v', sY, er2, (post_del w.bind hA2 mk2.out hzA).mono fun b η3 ρ3 H3 e3 s3 w3 => ?_⟩
          obtain ⟨hA3, w3⟩ := w3
          have mk3 := mk2.step e3 s3
          cases b with
          | false =>
            rw [if_neg Bool.false_ne_true] at w3
            show ite (false = true) _ _
            rw [if_neg Bool.false_ne_true]
            exact ⟨ρ3, η3, acc, mk3, w3⟩
          | true =>
            rw [if_pos rfl] at w3
            show ite (true = true) _ _
            rw [if_pos rfl]
            simp only [bind_assoc'] at w3
            refine ⟨W'.mk' A, iw, ρ3, η3, v', s3, er2.ext e3 sY.ok, (post_del w3.bind hA3 mk3.out hzA).mono fun yv η4 ρ4 H4 e4 s4 w4 u ru => ?_⟩
            obtain ⟨hA4, w4⟩ := w4
            have mk4 := mk3.step e4 s4
            obtain ⟨hl, w4⟩ := push_post w4.bind
            obtain ⟨vs4, g1, g2, g3⟩ := mk4.push hA ru hl
            refine ⟨vs4, g1, g2, ρ4, η4, acc ++ [yv], g3, ?_⟩
            rw [dl_upd]
            exact w4 ρ4 (dl H4 A) .refl (s4.del hA4 hzA)
    · have e : i = xs.length := by omega
      subst e
      refine .inl ⟨hJ.stop _ ρ' H' mk.ext.z (Nat.le_refl _), ?_⟩
      rw [List.drop_length] at p
      obtain ⟨vs, hvs, rvs⟩ := mk.ex
      have sd := mk.sim.del hvs hzA
      have sb := sd.back hvs
      have k := p ρ' H' (ext_dl mk.out) sb
      rw [← hK] at k
      exact Post.pure k sb _ ⟨A, vs, rfl, ⟨hvs, mk.out, hzA⟩, by rw [← lim_eq]; exact mk.le, Reps.back sd hvs (Reps.del hvs rvs)⟩
/-- [elt for tg in iter if ..] -/
theorem s_lc {elt tg iter : Expr} {ifs : List Expr} {scope : Scope} {own : List (Str × Nat)} {pos : Pos} {t : Tg} {mi : Ev → M (List D)} {mc : Ev → M Bool} {me : Ev → M D}
    (hc : X.calm = true) (hN : X.N.Nodup) (hi : PI X tg iter (tEI W x mi)) (ok : BlkOk X.N X.env.scope scope own) (ht : tgIn t (own.map (·.2)))
    (hg : ∀ (s : Shared) (H : Hp) (C : Addr) (cl : List (Str × Addr)) (fp : List Addr), PG (X.blk s H scope (compEnvC scope cl C X.env) fp) tg (tET W t))
    (hif : ∀ (s : Shared) (H : Hp) (C : Addr) (cl : List (Str × Addr)) (fp : List Addr), PTs (X.blk s H scope (compEnvC scope cl C X.env) fp) ifs (tEb W xF mc))
    (he : ∀ (s : Shared) (H : Hp) (C : Addr) (cl : List (Str × Addr)) (fp : List Addr), PE (X.blk s H scope (compEnvC scope cl C X.env) fp) elt (tE W xF me)) (hs : ∀ x, foldedSetIterable iter X.env x = pure x) :
    PE X (.ListComp elt [⟨tg, iter, ifs, 0⟩] scope pos) (tE W x fun v => mi v >>= fun xs => quiet (foldM' (fun acc d => tgE t (wipeE v (own.map (·.2))) d >>= fun v' => mc v' >>= fun b => if b then (me v' >>= fun y => pushM acc y) else pure acc) xs []) >>= fun r => pure (.lst r)) := by
  exact pe_mono (pe_lc hc hN hi ok hg hif he hs) fun σ H Q _ h => r_lc ht h
theorem r_lc2 {own vs1 : List Nat} {t t1 : Tg} {mi mi1 : Ev → M (List D)} {mc mc1 : Ev → M Bool} {me : Ev → M D} (ht : tgIn t own) (ht1 : tgIn t1 vs1) {σ : St} {H : Hp} {Q : VK}
    (h : tE W x (fun v => mi v >>= fun xs => quiet (foldM' (fun acc d => tgE t (wipeE v own) d >>= fun v' => mc v' >>= fun b => if b then (mi1 v' >>= fun ys =>
      foldM' (fun acc d1 => tgE t1 (wipeE v' vs1) d1 >>= fun v2 => mc1 v2 >>= fun b1 => if b1 then (me v2 >>= fun y => pushM acc y) else pure acc) ys acc) else pure acc) xs []) >>= fun r => pure (.lst r)) σ H Q) :
    tLc2 (tEI W x mi) (tET W t) (tEb W xF mc) (tEI W xF mi1) (tET W t1) (tEb W xF mc1) (tE W xF me) own vs1 σ H Q := by
  obtain ⟨W', iw, ρ, η, env, sim, er, h⟩ := h
  refine ⟨W', iw, ρ, η, env, sim, er, h.bind.mono fun xs η1 ρ1 H1 e1 s1 h1 hlen J hJ => fun A hA => ?_⟩
  have hzA : A ∉ W'.Z := fun m => by
    obtain ⟨⟨vs, e⟩, _⟩ := s1.zed A m
    rw [hA] at e; cases e
  have er1 := er.ext e1 sim.ok
  have p0 := quiet_post h1.bind
  generalize hK : (fun (acc : List D) (η2 : List C) (ρ2 : List Addr) (H2 : Hp) => Post W' x ((pure (D.lst acc) : M D) η2) ρ2 H2 (kkV W' Q)) = K at p0
  generalize hstep : (fun (acc : List D) (d : D) => tgE t (wipeE env own) d >>= fun v' => mc v' >>= fun b => if b = true then (mi1 v' >>= fun ys => foldM' (fun acc d1 => tgE t1 (wipeE v' vs1) d1 >>= fun v2 => mc1 v2 >>= fun b1 => if b1 = true then (me v2 >>= fun y => pushM acc y) else pure acc) ys acc) else pure acc) = step at p0
  refine ⟨fun i m H' => ∃ ρ' η' acc, m = xs.length - i ∧ i ≤ xs.length ∧ Mk W' ρ1 H1 A ρ' η' H' acc ∧ Post W' xF (foldM' step (xs.drop i) acc η') ρ' (dl H' A) K, ⟨xs.length, ρ1, η1, [], by simp, Nat.zero_le _, ?_, ?_⟩, ?_⟩
  · exact ⟨.new hA, s1.res hA, ⟨[], upd_same, Reps.nil⟩, Nat.zero_le _⟩
  · have e : dl (upd H1 A (.lst [])) A = H1 := by
      funext b
      by_cases c : b = A
      · subst c; rw [dl_same, hA]
      · rw [dl_ne c, upd_ne c]
    rw [e]
    exact p0
  · rintro i m H' ⟨ρ', η', acc, rfl, hi', mk, p⟩
    by_cases hlt : i < xs.length
    · refine .inr ⟨hJ.go i ρ' H' mk.ext.z hlt, fun H2 => ∃ ρ2 η2 acc2, Mk W' ρ1 H1 A ρ2 η2 H2 acc2 ∧ Post W' xF (foldM' step (xs.drop (i + 1)) acc2 η2) ρ2 (dl H2 A) K, ?_, ?_⟩
      · rintro H2 ⟨ρ2, η2, acc2, mk2, p2⟩
        exact ⟨xs.length - (i + 1), by omega, ρ2, η2, acc2, rfl, hlt, mk2, p2⟩
      · intro v H2 y
        have hd : xs[i]? = some xs[i] := List.getElem?_eq_getElem hlt
        have hdrop : xs.drop i = xs[i] :: xs.drop (i + 1) := List.drop_eq_getElem_cons hlt
        generalize hxi : xs[i] = d at hd hdrop
        obtain ⟨eY, sY, rY⟩ := hJ.yld (W'.mk' A) i ρ' η' H' v H2 d (wider_mk hA) mk.ext.z mk.sim y hd
        have mk2 := mk.step eY sY
        obtain ⟨vs, hvs, rvs⟩ := mk.ex
        rw [hdrop] at p
        have pt : Post W' xF ((step acc d >>= fun acc' => foldM' step (xs.drop (i + 1)) acc') η') ρ' (dl H' A) K := p
        have hs1 : step acc d = (tgE t (wipeE env own) d >>= fun v' => mc v' >>= fun b => if b = true then (mi1 v' >>= fun ys => foldM' (fun acc d1 => tgE t1 (wipeE v' vs1) d1 >>= fun v2 => mc1 v2 >>= fun b1 => if b1 = true then (me v2 >>= fun y => pushM acc y) else pure acc) ys acc) else pure acc) := by rw [← hstep]
        rw [hs1] at pt
        simp only [bind_assoc'] at pt
        have pt := (post_del pt.bind hvs mk.out hzA).ext eY
        obtain ⟨v', hv', w⟩ := tg_post pt
        obtain ⟨hA2, w⟩ := w ρ' H2 .refl sY
        have erW : EnvR (W'.mk' A) ρ' H2 env σ := (er1.res (wider_mk hA)).ext mk2.ext s1.ok
        refine ⟨W'.mk' A, iw, ρ', η', wipeE env own, d, v', sY, erW.wipe _, rY, hv', fun σ2 er2 hl2 hw2 => ⟨?_, ?_⟩⟩
        · rw [hw2 own (by cases t <;> exact ht)]
          exact wipe_idem _ _
        · refine ⟨W'.mk' A, iw, ρ', η', v', sY, er2, (post_del w.bind hA2 mk2.out hzA).mono fun b η3 ρ3 H3 e3 s3 w3 => ?_⟩
          obtain ⟨hA3, w3⟩ := w3
          have mk3 := mk2.step e3 s3
          cases b with
          | false =>
            rw [if_neg Bool.false_ne_true] at w3
            show ite (false = true) _ _
            rw [if_neg Bool.false_ne_true]
            exact ⟨ρ3, η3, acc, mk3, w3⟩
          | true =>
            rw [if_pos rfl] at w3
            show ite (true = true) _ _
            rw [if_pos rfl]
            simp only [bind_assoc'] at w3
            -- the second source
            refine ⟨W'.mk' A, iw, ρ3, η3, v', s3, er2.ext e3 sY.ok, (post_del w3.bind hA3 mk3.out hzA).mono fun ys η4 ρ4 H4 e4 s4 w4 hlen1 J1 hJ1 => ?_⟩
            obtain ⟨hA4, w4⟩ := w4
            have mk4 := mk3.step e4 s4
            have er4 : EnvR (W'.mk' A) ρ4 H4 v' σ2 := (er2.ext e3 sY.ok).ext e4 s3.ok
            generalize hstep1 : (fun (acc : List D) (d1 : D) => tgE t1 (wipeE v' vs1) d1 >>= fun v2 => mc1 v2 >>= fun b1 => if b1 = true then (me v2 >>= fun y => pushM acc y) else pure acc) = step1 at w4
            -- what stands for the rest of the outer fold
            generalize hrest : (fun (acc' : List D) => foldM' step (xs.drop (i + 1)) acc') = rest at w4
            refine ⟨fun j m H5 => ∃ ρ5 η5 acc5, m = ys.length - j ∧ j ≤ ys.length ∧ Mk W' ρ1 H1 A ρ5 η5 H5 acc5 ∧ ExtZ (W'.mk' A).Z ρ4 H4 ρ5 H5 ∧ EnvR (W'.mk' A) ρ5 H5 v' σ2 ∧ Post W' xF ((foldM' step1 (ys.drop j) acc5 >>= rest) η5) ρ5 (dl H5 A) K, ⟨ys.length, ρ4, η4, acc, by simp, Nat.zero_le _, mk4, Ext.refl.z, er4, w4⟩, ?_⟩
            rintro j m5 H5 ⟨ρ5, η5, acc5, rfl, hj', mk5, ez5, er5, p5⟩
            by_cases hlt1 : j < ys.length
            · refine .inr ⟨hJ1.go j ρ5 H5 ez5 hlt1, fun H6 => ∃ ρ6 η6 acc6, Mk W' ρ1 H1 A ρ6 η6 H6 acc6 ∧ ExtZ (W'.mk' A).Z ρ4 H4 ρ6 H6 ∧ EnvR (W'.mk' A) ρ6 H6 v' σ2 ∧ Post W' xF ((foldM' step1 (ys.drop (j + 1)) acc6 >>= rest) η6) ρ6 (dl H6 A) K, ?_, ?_⟩
              · rintro H6 ⟨ρ6, η6, acc6, mk6, ez6, er6, p6⟩
                exact ⟨ys.length - (j + 1), by omega, ρ6, η6, acc6, rfl, hlt1, mk6, ez6, er6, p6⟩
              · intro v1 H6 y1
                have hd1 : ys[j]? = some ys[j] := List.getElem?_eq_getElem hlt1
                have hdrop1 : ys.drop j = ys[j] :: ys.drop (j + 1) := List.drop_eq_getElem_cons hlt1
                generalize hxj : ys[j] = d1 at hd1 hdrop1
                obtain ⟨eY1, sY1, rY1⟩ := hJ1.yld (W'.mk' A) j ρ5 η5 H5 v1 H6 d1 .refl ez5 mk5.sim y1 hd1
                have mk6 := mk5.step eY1 sY1
                obtain ⟨vs5, hvs5, rvs5⟩ := mk5.ex
                rw [hdrop1] at p5
                have pt1 : Post W' xF (((step1 acc5 d1 >>= fun acc' => foldM' step1 (ys.drop (j + 1)) acc') >>= rest) η5) ρ5 (dl H5 A) K := p5
                have hs2 : step1 acc5 d1 = (tgE t1 (wipeE v' vs1) d1 >>= fun v2 => mc1 v2 >>= fun b1 => if b1 = true then (me v2 >>= fun y => pushM acc5 y) else pure acc5) := by rw [← hstep1]
                rw [hs2] at pt1
                simp only [bind_assoc'] at pt1
                have pt1 := (post_del pt1.bind hvs5 mk5.out hzA).ext eY1
                obtain ⟨v2, hv2, w5⟩ := tg_post pt1
                obtain ⟨hA6, w5⟩ := w5 ρ5 H6 .refl sY1
                have ez6 : ExtZ (W'.mk' A).Z ρ4 H4 ρ5 H6 := ez5.step eY1
                have er6 := er5.ext eY1 mk5.sim.ok
                refine ⟨W'.mk' A, iw, ρ5, η5, wipeE v' vs1, d1, v2, sY1, er6.wipe _, rY1, hv2, fun σ3 er3 hl3 hw3 => ⟨?_, ?_⟩⟩
                · rw [hw3 vs1 (by cases t1 <;> exact ht1)]
                  exact wipe_idem _ _
                · refine ⟨W'.mk' A, iw, ρ5, η5, v2, sY1, er3, (post_del w5.bind hA6 mk6.out hzA).mono fun b1 η7 ρ7 H7 e7 s7 w7 => ?_⟩
                  obtain ⟨hA7, w7⟩ := w7
                  have mk7 := mk6.step e7 s7
                  cases b1 with
                  | false =>
                    rw [if_neg Bool.false_ne_true] at w7
                    show ite (false = true) _ _
                    rw [if_neg Bool.false_ne_true]
                    exact ⟨ρ7, η7, acc5, mk7, ez6.step e7, er6.ext e7 sY1.ok, w7⟩
                  | true =>
                    rw [if_pos rfl] at w7
                    show ite (true = true) _ _
                    rw [if_pos rfl]
                    simp only [bind_assoc'] at w7
                    refine ⟨W'.mk' A, iw, ρ7, η7, v2, s7, er3.ext e7 sY1.ok, (post_del w7.bind hA7 mk7.out hzA).mono fun yv η8 ρ8 H8 e8 s8 w8 u ru => ?_⟩
                    obtain ⟨hA8, w8⟩ := w8
                    have mk8 := mk7.step e8 s8
                    obtain ⟨hl, w8⟩ := push_post w8.bind
                    obtain ⟨vs8, g1, g2, g3⟩ := mk8.push hA ru hl
                    refine ⟨vs8, g1, g2, ρ8, η8, acc5 ++ [yv], g3, (((ez6.step e7).step e8).setz List.mem_cons_self), ?_, ?_⟩
                    · have er8 := (er6.ext e7 sY1.ok).ext e8 s7.ok
                      exact ⟨er8.1, fun i d hd => let ⟨v, q1, q2⟩ := er8.2 i d hd; ⟨v, q1, Rep.zed g1 q2⟩⟩
                    · rw [dl_upd]
                      exact w8 ρ8 (dl H8 A) .refl (s8.del hA8 hzA)
            · have e : j = ys.length := by omega
              subst e
              refine .inl ⟨hJ1.stop _ ρ5 H5 ez5 (Nat.le_refl _), ρ5, η5, acc5, mk5, ?_⟩
              rw [List.drop_length] at p5
              rw [← hrest] at p5
              exact p5
    · have e : i = xs.length := by omega
      subst e
      refine .inl ⟨hJ.stop _ ρ' H' mk.ext.z (Nat.le_refl _), ?_⟩
      rw [List.drop_length] at p
      obtain ⟨vs, hvs, rvs⟩ := mk.ex
      have sd := mk.sim.del hvs hzA
      have sb := sd.back hvs
      have k := p ρ' H' (ext_dl mk.out) sb
      rw [← hK] at k
      exact Post.pure k sb _ ⟨A, vs, rfl, ⟨hvs, mk.out, hzA⟩, by rw [← lim_eq]; exact mk.le, Reps.back sd hvs (Reps.del hvs rvs)⟩
/-- [elt for tg in iter if .. for tg1 in iter1 if ..] -/
theorem s_lc2 {elt tg iter tg1 iter1 : Expr} {ifs ifs1 : List Expr} {scope : Scope} {own : List (Str × Nat)} {vs1 : List Nat} {pos : Pos} {t t1 : Tg} {mi mi1 : Ev → M (List D)} {mc mc1 : Ev → M Bool} {me : Ev → M D}
    (hc : X.calm = true) (hN : X.N.Nodup) (hi : PI X tg iter (tEI W x mi)) (ok : BlkOk X.N X.env.scope scope own) (hv : ∀ i ∈ vs1, i ∈ own.map (·.2)) (ht : tgIn t (own.map (·.2))) (ht1 : tgIn t1 vs1)
    (hg : ∀ (s : Shared) (H : Hp) (C : Addr) (cl : List (Str × Addr)) (fp : List Addr), PG (X.blk s H scope (compEnvC scope cl C X.env) fp) tg (tET W t))
    (hif : ∀ (s : Shared) (H : Hp) (C : Addr) (cl : List (Str × Addr)) (fp : List Addr), PTs (X.blk s H scope (compEnvC scope cl C X.env) fp) ifs (tEb W xF mc))
    (hi1 : ∀ (s : Shared) (H : Hp) (C : Addr) (cl : List (Str × Addr)) (fp : List Addr), PI (X.blk s H scope (compEnvC scope cl C X.env) fp) tg1 iter1 (tEI W xF mi1))
    (hg1 : ∀ (s : Shared) (H : Hp) (C : Addr) (cl : List (Str × Addr)) (fp : List Addr), PG (X.blk s H scope (compEnvC scope cl C X.env) fp) tg1 (tET W t1))
    (hif1 : ∀ (s : Shared) (H : Hp) (C : Addr) (cl : List (Str × Addr)) (fp : List Addr), PTs (X.blk s H scope (compEnvC scope cl C X.env) fp) ifs1 (tEb W xF mc1))
    (he : ∀ (s : Shared) (H : Hp) (C : Addr) (cl : List (Str × Addr)) (fp : List Addr), PE (X.blk s H scope (compEnvC scope cl C X.env) fp) elt (tE W xF me)) (hs : ∀ x, foldedSetIterable iter X.env x = pure x) (hs1 : ∀ env x, foldedSetIterable iter1 env x = pure x) :
    PE X (.ListComp elt [⟨tg, iter, ifs, 0⟩, ⟨tg1, iter1, ifs1, 0⟩] scope pos) (tE W x fun v => mi v >>= fun xs => quiet (foldM' (fun acc d => tgE t (wipeE v (own.map (·.2))) d >>= fun v' => mc v' >>= fun b => if b then (mi1 v' >>= fun ys =>
      foldM' (fun acc d1 => tgE t1 (wipeE v' vs1) d1 >>= fun v2 => mc1 v2 >>= fun b1 => if b1 then (me v2 >>= fun y => pushM acc y) else pure acc) ys acc) else pure acc) xs []) >>= fun r => pure (.lst r)) := by
  exact pe_mono (pe_lc2 hc hN hi ok hv hg hif hi1 hg1 hif1 he hs hs1) fun σ H Q _ h => r_lc2 ht ht1 h
end
end MI
end
/-! MIk -/
section
set_option linter.all false
set_option maxRecDepth 100000
set_option maxHeartbeats 4000000
/-! Statements. -/
namespace MI
open PySem L2

abbrev kF (W : Wd) (D : Ends) : Fl → List C → List Addr → Hp → Prop := fun f _ ρ' H' => match f with
  | .nx v => ∀ σ', EnvR W ρ' H' v σ' → D.nx σ' H'
  | .rt d => ∀ v, Rep W ρ' H' d v → D.rt v H'
  | .bk v => ∀ σ', EnvR W ρ' H' v σ' → D.bk σ' H'
  | .ct v => ∀ σ', EnvR W ρ' H' v σ' → D.ct σ' H'
def tF (W₀ : Wd) (x : XW) (m : Ev → M Fl) : TS := fun D σ H => ∃ W, InW W₀ W ∧ ∃ ρ η env, Sim W ρ η H ∧ EnvR W ρ H env σ ∧ Post W x (m env η) ρ H (kF W D)
section
variable {X : Cx} {W : Wd} {x : XW} {a b c e : Expr} {pos : Pos} {ma mb : Ev → M D} {mt : Ev → M Bool}
theorem t_pas : PS X (.Pass pos) (tF W x fun v => pure (.nx v)) := ps_mono ps_pass fun D σ H _ ⟨W', iw, ρ, η, env, sim, er, h⟩ => h.pure sim σ er
theorem t_brk : PS X (.Break pos) (tF W x fun v => pure (.bk v)) := ps_mono ps_break fun D σ H _ ⟨W', iw, ρ, η, env, sim, er, h⟩ => h.pure sim σ er
theorem t_cnt : PS X (.Continue pos) (tF W x fun v => pure (.ct v)) := ps_mono ps_continue fun D σ H _ ⟨W', iw, ρ, η, env, sim, er, h⟩ => h.pure sim σ er
theorem t_nil : PSs X [] (tF W x fun v => pure (.nx v)) := pss_mono pss_nil fun D σ H _ ⟨W', iw, ρ, η, env, sim, er, h⟩ => h.pure sim σ er
theorem t_cons {st : Stmt} {sts : List Stmt} {m ms : Ev → M Fl} (h1 : PS X st (tF W x m)) (h2 : PSs X sts (tF W x ms)) : PSs X (st :: sts) (tF W x fun v => m v >>= fun r => thenF r ms) := by
  refine pss_mono (pss_cons h1 h2) fun D σ H _ h => ?_
  obtain ⟨W', iw, ρ, η, env, sim, er, h⟩ := h
  refine ⟨W', iw, ρ, η, env, sim, er, h.bind.mono fun r η1 ρ1 H1 e1 s1 h1 => ?_⟩
  cases r with
  | nx v => exact fun σ' er' => ⟨W', iw, ρ1, η1, v, s1, er', h1⟩
  | rt d => exact h1.pure s1
  | bk v => exact h1.pure s1
  | ct v => exact h1.pure s1
theorem t_ret (ha : PE X a (tE W x ma)) : PS X (.Return (some a) pos) (tF W x fun v => ma v >>= fun d => pure (.rt d)) := by
  refine ps_mono (ps_ret ha) fun D σ H _ h => ?_
  obtain ⟨W', iw, ρ, η, env, sim, er, h⟩ := h
  exact ⟨W', iw, ρ, η, env, sim, er, h.bind.mono fun d η1 ρ1 H1 e1 s1 h1 => h1.pure s1⟩
theorem t_retn : PS X (.Return none pos) (tF W x fun _ => pure (.rt .non)) := ps_mono ps_retN fun D σ H _ ⟨W', iw, ρ, η, env, sim, er, h⟩ => h.pure sim _ rfl
theorem t_ex (ha : PE X a (tE W x ma)) (hs : swapsWith a none pos.line X.env = pure false) : PS X (.Expr a pos) (tF W x fun v => ma v >>= fun _ => pure (.nx v)) := by
  refine ps_mono (ps_expr ha hs) fun D σ H _ h => ?_
  obtain ⟨W', iw, ρ, η, env, sim, er, h⟩ := h
  exact ⟨W', iw, ρ, η, env, sim, er, h.bind.mono fun d η1 ρ1 H1 e1 s1 h1 v rv => h1.pure s1 σ (er.ext e1 sim.ok)⟩
theorem t_set_r {i : Nat} {D : Ends} {σ : St} {H : Hp} (h : tF W x (fun v => ma v >>= fun d => pure (.nx (setE v i d))) D σ H) : tAsg (tE W x ma) (gName i) D σ H := by
  obtain ⟨W', iw, ρ, η, env, sim, er, h⟩ := h
  exact ⟨W', iw, ρ, η, env, sim, er, h.bind.mono fun d η1 ρ1 H1 e1 s1 h1 v rv => h1.pure s1 _ ((er.ext e1 sim.ok).set rv i)⟩
theorem t_set {i : Nat} {y : Str} {p : Pos} (hN : X.N.Nodup) (hi : X.N[i]? = some y) (hx : Loc X.env.scope y) (ha : PE X a (tE W x ma)) (hs : swapsWith a (some (.Name y p)) pos.line X.env = pure false) (hf : X.fn y = true ∨ X.env.scope.names.lookup y = some .local) :
    PS X (.Assign [.Name y p] a pos) (tF W x fun v => ma v >>= fun d => pure (.nx (setE v i d))) :=
  ps_mono (ps_set hN hi hx ha hs hf) fun D σ H _ h => t_set_r h
theorem t_aug {i : Nat} {y : Str} {p : Pos} (hN : X.N.Nodup) (hi : X.N[i]? = some y) (hx : Loc X.env.scope y) (ha : PE X a (tE W x ma)) (hf : X.fn y = true ∨ X.env.scope.names.lookup y = some .local) :
    PS X (.AugAssign (.Name y p) .Add a pos) (tF W x fun v => op (v.getD i none) >>= fun d => ma v >>= fun e => op (augD .Add d e) >>= fun z => pure (.nx (setE v i z))) := by
  refine ps_mono (ps_aug (ti := fun x y H Q => ∃ i j, x = .str i ∧ y = .str j ∧ i.length + j.length ≤ sizeLine ∧ Q (.str (i ++ j)) H) hN hi hx ha iop_add_str hf) fun D σ H _ h => ?_
  obtain ⟨W', iw, ρ, η, env, sim, er, h⟩ := h
  cases q : env.getD i none with
  | none =>
    simp only [q, op_none, no_bind] at h
    exact absurd h (fun h => h)
  | some d =>
    simp only [q, op_some, pure_bind'] at h
    obtain ⟨v, e1, rd⟩ := er.2 i d (getD_some q)
    refine ⟨v, e1, W', iw, ρ, η, env, sim, er, h.bind.mono fun e η1 ρ1 H1 x1 s1 h1 u re => ?_⟩
    cases d with
    | str a0 =>
      cases e with
      | str b0 =>
        obtain ⟨rfl, l1⟩ := Rep.str rd
        obtain ⟨rfl, l2⟩ := Rep.str re
        have h1 := h1.bind
        simp only [augD, mkStr] at h1
        split at h1
        · rename_i hl
          rw [lim_eq] at hl
          have hl2 : a0.length + b0.length ≤ sizeLine := by
            have : (a0 ++ b0).length = a0.length + b0.length := Str.length_append a0 b0
            omega
          have w := h1.pure s1
          exact ⟨a0, b0, rfl, rfl, hl2, w.pure s1 _ ((er.ext x1 sim.ok).set (show Rep W' ρ1 H1 (.str (a0 ++ b0)) (.str (a0 ++ b0)) from ⟨rfl, hl⟩) i)⟩
        · exact absurd h1 (fun h => h)
      | _ => exact absurd h1.bind (fun h => h)
    | _ => exact absurd h1.bind (fun h => h)
theorem setc_ok {W : Wd} {ρ : List Addr} {η : List C} {H : Hp} (s : Sim W ρ η H) {xs : List D} {vs : List V} (r : Reps W ρ H xs vs) (hl : xs.length ≤ sizeLine) {p : Addr} (hp : H p = none) :
    Ext ρ H (ρ ++ [p]) (upd H p (.lst vs)) ∧ Sim W (ρ ++ [p]) (η ++ [.lst xs]) (upd H p (.lst vs)) ∧ Rep W (ρ ++ [p]) (upd H p (.lst vs)) (.cel η.length) (.ref p) := by
  have e : Ext ρ H (ρ ++ [p]) (upd H p (.lst vs)) := .newc hp
  have c := s.ok
  refine ⟨e, ⟨?_, fun z hz => ?_, by simp [s.len], fun k a cc e1 e2 => ?_⟩, p, rfl, ?_⟩
  · rw [List.nodup_append]
    exact ⟨s.nd, by simp, fun q hq r hr => by
      have : r = p := by simpa using hr
      subst this
      intro z
      exact new_out s hp (z ▸ hq)⟩
  · obtain ⟨⟨ws, ez⟩, hn⟩ := s.zed z hz
    have ne : z ≠ p := ne_of_none ez hp
    exact ⟨⟨ws, by rw [upd_ne ne]; exact ez⟩, fun m => (List.mem_append.mp m).elim hn fun m => ne (by simpa using m)⟩
  · by_cases hk : k < ρ.length
    · rw [List.getElem?_append_left hk] at e1
      rw [List.getElem?_append_left (by rw [← s.len]; exact hk)] at e2
      have q := s.at_ k a cc e1 e2
      have ne : a ≠ p := by
        rcases c.at_ k a e1 with ⟨ws, z⟩ | ⟨ws, z⟩ <;> exact ne_of_none z hp
      cases cc with
      | lst ds => obtain ⟨ws, z, l, r⟩ := q; exact ⟨ws, by rw [upd_ne ne]; exact z, l, r.ext e c⟩
      | dct ks => obtain ⟨ws, z, l, r⟩ := q; exact ⟨ws, by rw [upd_ne ne]; exact z, l, RepK.ext e c r⟩
    · have hk2 : k < (ρ ++ [p]).length := get_len e1
      have hkk : k = ρ.length := by
        rw [List.length_append] at hk2
        have : [p].length = 1 := rfl
        omega
      subst hkk
      rw [List.getElem?_append_right (Nat.le_refl _)] at e1
      rw [s.len, List.getElem?_append_right (Nat.le_refl _)] at e2
      simp at e1 e2
      subst e1; subst e2
      exact ⟨vs, upd_same, hl, r.ext e c⟩
  · rw [← s.len, List.getElem?_append_right (Nat.le_refl _)]
    simp
theorem newl_post {W : Wd} {x : XW} {xs : List D} {η : List C} {ρ : List Addr} {H : Hp} {k : D → List C → List Addr → Hp → Prop} (h : Post W x (newL xs η) ρ H k) : xs.length ≤ lim ∧ ∀ ρ' H', Ext ρ H ρ' H' → Sim W ρ' (η ++ [.lst xs]) H' → k (.cel η.length) (η ++ [.lst xs]) ρ' H' := by
  unfold newL at h
  split at h
  · rename_i hl
    exact ⟨hl, h⟩
  · exact h.elim
theorem t_setc {i : Nat} {y : Str} {p lp : Pos} {es : List Expr} {ms : Ev → M (List D)} (hN : X.N.Nodup) (hi : X.N[i]? = some y) (hx : Loc X.env.scope y) (hs : PA X es (tEs W x ms)) (hf : X.fn y = true ∨ X.env.scope.names.lookup y = some .local) :
    PS X (.Assign [.Name y p] (.List es lp) pos) (tF W x fun v => ms v >>= fun xs => newL xs >>= fun c => pure (.nx (setE v i c))) := by
  refine ps_mono (ps_set hN hi hx (pe_lst hs) rfl hf) fun D σ H _ h => ?_
  obtain ⟨W', iw, ρ, η, env, sim, er, h⟩ := h
  refine ⟨W', iw, ρ, η, env, sim, er, h.bind.mono fun ds η1 ρ1 H1 e1 s1 h1 vs rs => ?_⟩
  obtain ⟨hl, w⟩ := newl_post h1.bind
  rw [lim_eq] at hl
  refine ⟨by rw [rs.len]; exact hl, fun q hq => ?_⟩
  obtain ⟨g1, g2, g3⟩ := setc_ok s1 rs hl hq
  exact (w _ _ g1 g2).pure g2 _ (((er.ext e1 sim.ok).ext g1 s1.ok).set g3 i)
theorem t_retc {lp : Pos} {es : List Expr} {ms : Ev → M (List D)} (hs : PA X es (tEs W x ms)) :
    PS X (.Return (some (.List es lp)) pos) (tF W x fun v => ms v >>= fun xs => newL xs >>= fun c => pure (.rt c)) := by
  refine ps_mono (ps_ret (pe_lst hs)) fun D σ H _ h => ?_
  obtain ⟨W', iw, ρ, η, env, sim, er, h⟩ := h
  refine ⟨W', iw, ρ, η, env, sim, er, h.bind.mono fun ds η1 ρ1 H1 e1 s1 h1 vs rs => ?_⟩
  obtain ⟨hl, w⟩ := newl_post h1.bind
  rw [lim_eq] at hl
  refine ⟨by rw [rs.len]; exact hl, fun q hq => ?_⟩
  obtain ⟨g1, g2, g3⟩ := setc_ok s1 rs hl hq
  exact (w _ _ g1 g2).pure g2 _ g3
theorem t_iff {ss tt : List Stmt} {m1 m2 : Ev → M Fl} (hc : PT X c (tEb W x mt)) (h1 : PSs X ss (tF W x m1)) (h2 : PSs X tt (tF W x m2)) : PS X (.If c ss tt pos) (tF W x fun v => mt v >>= fun r => if r then m1 v else m2 v) := by
  refine ps_mono (ps_if hc h1 h2) fun D σ H _ h => ?_
  obtain ⟨W', iw, ρ, η, env, sim, er, h⟩ := h
  refine ⟨W', iw, ρ, η, env, sim, er, h.bind.mono fun r η1 ρ1 H1 e1 s1 h1 => ?_⟩
  cases r with
  | true => exact ⟨W', iw, ρ1, η1, env, s1, er.ext e1 sim.ok, h1⟩
  | false => exact ⟨W', iw, ρ1, η1, env, s1, er.ext e1 sim.ok, h1⟩
/-! ### several names -/
theorem sets_ok {W : Wd} {ρ : List Addr} {H : Hp} : ∀ (is : List Nat) (ds : List D) (vs : List V) (env v' : Ev) (σ : St), EnvR W ρ H env σ → Reps W ρ H ds vs → setsE env is ds = some v' → EnvR W ρ H v' ((is.zip vs).foldl (fun σ p => σ.set p.1 (some p.2)) σ)
  | [], [], vs, env, v', σ, er, r, e => by
    have e1 : vs = [] := r
    subst e1
    simp [setsE] at e
    subst e
    exact er
  | i :: is, d :: ds, vs, env, v', σ, er, r, e => by
    obtain ⟨v, r', e1, h1, h2⟩ := (show ∃ v r, vs = v :: r ∧ Rep W ρ H d v ∧ Reps W ρ H ds r from r)
    subst e1
    exact sets_ok is ds r' (setE env i d) v' _ (er.set h1 i) h2 e
  | [], _ :: _, _, _, _, _, _, _, e => by simp [setsE] at e
  | _ :: _, [], _, _, _, _, _, _, e => by simp [setsE] at e
theorem sets_len : ∀ (is : List Nat) (ds : List D) (env v' : Ev), setsE env is ds = some v' → is.length = ds.length
  | [], [], _, _, _ => rfl
  | i :: is, d :: ds, env, v', e => by simp [sets_len is ds (setE env i d) v' e]
  | [], _ :: _, _, _, e => by simp [setsE] at e
  | _ :: _, [], _, _, e => by simp [setsE] at e
/-- names that are stored from the left -/
def gNames : List Nat → TGs
  | [] => gNil
  | i :: is => gCons (gName i) (gNames is)
theorem gnames_ok : ∀ (is : List Nat) (vs : List V) (σ : St) (H : Hp) (Q : St → Hp → Prop), is.length = vs.length → Q ((is.zip vs).foldl (fun σ p => σ.set p.1 (some p.2)) σ) H → gNames is vs σ H Q
  | [], vs, σ, H, Q, l, q => by
    have e : vs = [] := List.eq_nil_of_length_eq_zero l.symm
    subst e
    exact ⟨rfl, q⟩
  | i :: is, vs, σ, H, Q, l, q => by
    cases vs with
    | nil => cases l
    | cons v vs => exact ⟨v, vs, rfl, gnames_ok is vs _ H Q (by simpa using l) q⟩
theorem t_sett {is : List Nat} {ts : List Expr} {k : Nat} {tp : Pos} (hc : X.calm = true) (hK : W.K = X.K) (hg : PGs X ts (gNames is)) (hn : (assignEach ts X.env).length = is.length) (hst : (assignEach ts X.env).findIdx? (·.1) = none)
    (ha : PE X a (tE W x ma)) (hs : swapsWithSole [.Tuple ts k tp] a pos.line X.env = pure false) (hw : swappedStores [.Tuple ts k tp] a X.env = pure none) :
    PS X (.Assign [.Tuple ts k tp] a pos) (tF W x fun v => ma v >>= fun d => (look fun h => unpE v is h d) >>= fun v' => pure (.nx v')) := by
  have hpg : PG X (.Tuple ts k tp) (fun v σ H Q => gTup X.K is.length (gNames is) v σ H Q ∨ gLst X.K is.length (gNames is) v σ H Q) := ⟨fun pins s σ H v u Q I r hh => hh.elim ((pg_tup hc hg hn hst).run pins s σ H v u Q I r) ((pg_lst hc hg hn hst).run pins s σ H v u Q I r)⟩
  refine ps_mono (ps_asg ha hpg hs hw) fun D σ H _ h => ?_
  obtain ⟨W', iw, ρ, η, env, sim, er, h⟩ := h
  refine ⟨W', iw, ρ, η, env, sim, er, h.bind.mono fun d η1 ρ1 H1 e1 s1 h1 v rv => ?_⟩
  obtain ⟨v', hv, w⟩ := h1.bind.look
  have w := w ρ1 H1 .refl s1
  unfold unpE at hv
  split at hv
  · rename_i xs c
    obtain ⟨q, vs, ev, st, l, rr⟩ := see_tup rv c
    subst ev
    have hl := sets_len _ _ _ _ hv
    rw [iw.1.trans hK] at st
    exact .inl ⟨q, vs, rfl, st, by rw [rr.len, hl], gnames_ok is vs σ H1 _ (by rw [rr.len, hl]) (w.pure s1 _ (sets_ok is xs vs env v' σ (er.ext e1 sim.ok) rr hv))⟩
  · rename_i xs c
    obtain ⟨q, vs, ev, st, l, rr⟩ := see_lst s1 rv c
    subst ev
    have hl := sets_len _ _ _ _ hv
    exact .inr ⟨q, vs, rfl, SqL.of st, by rw [rr.len, hl], gnames_ok is vs σ H1 _ (by rw [rr.len, hl]) (w.pure s1 _ (sets_ok is xs vs env v' σ (er.ext e1 sim.ok) rr hv))⟩
  · cases hv
/-- a, b = x, y -/
theorem t_par2 {i j : Nat} {y z : Str} {py pz pt : Pos} {kt k2 : Nat} {pt2 : Pos} {ms : Ev → M (List D)} (hc : X.calm = true) (hN : X.N.Nodup) (hi : X.N[i]? = some y) (hj : X.N[j]? = some z) (hij : i ≠ j)
    (hy : X.env.scope.names.lookup y = some .local) (hz : X.env.scope.names.lookup z = some .local) (ha : PA X [a, b] (tEs W x ms)) (hw : swappedStores [.Tuple [.Name y py, .Name z pz] kt pt] (.Tuple [a, b] k2 pt2) X.env = pure (some [y, z])) :
    PS X (.Assign [.Tuple [.Name y py, .Name z pz] kt pt] (.Tuple [a, b] k2 pt2) pos) (tF W x fun v => ms v >>= fun xs => op (setsE v [i, j] xs) >>= fun v' => pure (.nx v')) := by
  refine ps_mono (ps_par hc hN hi hj hij hy hz ha hw) fun D σ H _ h => ?_
  obtain ⟨W', iw, ρ, η, env, sim, er, h⟩ := h
  refine ⟨W', iw, ρ, η, env, sim, er, h.bind.mono fun ds η1 ρ1 H1 e1 s1 h1 vs rs => ?_⟩
  obtain ⟨v', hv, w⟩ := h1.bind.op
  have hl := sets_len _ _ _ _ hv
  have hl2 := rs.len
  match ds, hl with
  | [d1, d2], _ =>
    obtain ⟨u1, u2, e3, r1, r2⟩ := reps2 rs
    subst e3
    exact ⟨u1, u2, rfl, (w ρ1 H1 .refl s1).pure s1 _ (sets_ok [i, j] [d1, d2] [u1, u2] env v' σ (er.ext e1 sim.ok) rs hv)⟩
/-! ### loops -/
theorem t_for {tg iter : Expr} {body : List Stmt} {t : Tg} {mi : Ev → M (List D)} {m : Ev → M Fl} (hp : PassesOwn (model X.prog X.w) X.A X.env X.xe) (hc : X.calm = true) (hi : PI X tg iter (tEI W x mi)) (hg : PG X tg (tET W t)) (hb : PSs X body (tF W x m))
    (hs : ∀ x, foldedSetIterable iter X.env x = pure x) : PS X (.For tg iter body [] pos) (tF W x fun v => mi v >>= fun xs => forM' (fun d v => tgE t v d >>= fun v' => m v') xs v) := by
  refine ps_mono (ps_for hp hc hi hg hb hs) fun D σ H _ h => ?_
  obtain ⟨W', iw, ρ, η, env, sim, er, h⟩ := h
  refine ⟨W', iw, ρ, η, env, sim, er, h.bind.mono fun xs η1 ρ1 H1 e1 s1 h1 hlen J hJ => ?_⟩
  generalize hstep : (fun (d : MI.D) (v : Ev) => tgE t v d >>= fun v' => m v') = step at h1
  refine ⟨fun i k σ' H' => ∃ ρ' η' env', k = xs.length - i ∧ i ≤ xs.length ∧ Ext ρ1 H1 ρ' H' ∧ Sim W' ρ' η' H' ∧ EnvR W' ρ' H' env' σ' ∧ Post W' x (forM' step (xs.drop i) env' η') ρ' H' (kF W' D), ⟨xs.length, ρ1, η1, env, by simp, Nat.zero_le _, .refl, s1, er.ext e1 sim.ok, h1⟩, ?_⟩
  rintro i k σ' H' ⟨ρ', η', env', rfl, hi', ex, s, er', p⟩
  by_cases hlt : i < xs.length
  · refine .inr ⟨hJ.go i ρ' H' ex.z hlt, fun σ2 H2 => ∃ ρ2 η2 env2, Ext ρ1 H1 ρ2 H2 ∧ Sim W' ρ2 η2 H2 ∧ EnvR W' ρ2 H2 env2 σ2 ∧ Post W' x (forM' step (xs.drop (i + 1)) env2 η2) ρ2 H2 (kF W' D), ?_, ?_⟩
    · rintro σ2 H2 ⟨ρ2, η2, env2, ex2, s2, er2, p2⟩
      exact ⟨xs.length - (i + 1), by omega, ρ2, η2, env2, rfl, hlt, ex2, s2, er2, p2⟩
    · intro v H2 y
      have hd : xs[i]? = some xs[i] := List.getElem?_eq_getElem hlt
      have hdrop : xs.drop i = xs[i] :: xs.drop (i + 1) := List.drop_eq_getElem_cons hlt
      generalize hxi : xs[i] = d at hd hdrop
      obtain ⟨eY, sY, rY⟩ := hJ.yld W' i ρ' η' H' v H2 d .refl ex.z s y hd
      rw [hdrop] at p
      have pt : Post W' x ((step d env' >>= fun r => loopF r (forM' step (xs.drop (i + 1)))) η') ρ' H' (kF W' D) := p
      have hs1 : step d env' = (tgE t env' d >>= fun v' => m v') := by rw [← hstep]
      rw [hs1] at pt
      simp only [bind_assoc'] at pt
      obtain ⟨v', hv', w⟩ := tg_post (pt.ext eY).bind
      have w := w ρ' H2 .refl sY
      refine ⟨W', iw, ρ', η', env', d, v', sY, er'.ext eY s.ok, rY, hv', fun σ2 er2 hl2 _ => ?_⟩
      refine ⟨W', iw, ρ', η', v', sY, er2, w.bind.mono fun r η3 ρ3 H3 e3 s3 h3 => ?_⟩
      cases r with
      | nx u => exact fun σ3 er3 => ⟨ρ3, η3, u, (ex.trans eY).trans e3, s3, er3, h3⟩
      | ct u => exact fun σ3 er3 => ⟨ρ3, η3, u, (ex.trans eY).trans e3, s3, er3, h3⟩
      | bk u => exact h3.pure s3
      | rt u => exact h3.pure s3
  · have e : i = xs.length := by omega
    subst e
    refine .inl ⟨hJ.stop _ ρ' H' ex.z (Nat.le_refl _), ?_⟩
    rw [List.drop_length] at p
    exact Post.pure p s σ' er'
theorem t_wh {body : List Stmt} {m : Ev → M Fl} (n : Nat) (hp : PassesOwn (model X.prog X.w) X.A X.env X.xe) (hc : PT X c (tEb W x mt)) (hb : PSs X body (tF W x m)) : PS X (.While c body [] pos) (tF W x fun v => whM' mt m n v) := by
  refine ps_mono (ps_while hp hc hb) fun D σ H _ h => ?_
  obtain ⟨W', iw, ρ, η, env, sim, er, h⟩ := h
  refine ⟨fun k σ' H' => ∃ ρ' η' env', Sim W' ρ' η' H' ∧ EnvR W' ρ' H' env' σ' ∧ Post W' x (whM' mt m k env' η') ρ' H' (kF W' D), ⟨n, ρ, η, env, sim, er, h⟩, ?_⟩
  rintro k σ' H' ⟨ρ', η', env', s, er', p⟩
  cases k with
  | zero => exact p.elim
  | succ k =>
    have pt : Post W' x ((mt env' >>= fun b => if b = true then (m env' >>= fun r => loopF r (whM' mt m k)) else pure (.nx env')) η') ρ' H' (kF W' D) := p
    refine ⟨W', iw, ρ', η', env', s, er', pt.bind.mono fun b η1 ρ1 H1 e1 s1 h1 => ?_⟩
    cases b with
    | false => exact Post.pure h1 s1 σ' (er'.ext e1 s.ok)
    | true =>
      show ite (true = true) _ _
      rw [if_pos rfl] at h1 ⊢
      refine ⟨fun σ2 H2 => ∃ ρ2 η2 env2, Sim W' ρ2 η2 H2 ∧ EnvR W' ρ2 H2 env2 σ2 ∧ Post W' x (whM' mt m k env2 η2) ρ2 H2 (kF W' D), fun σ2 H2 q => ⟨k, Nat.lt_succ_self _, q⟩, ?_⟩
      refine ⟨W', iw, ρ1, η1, env', s1, er'.ext e1 s.ok, h1.bind.mono fun r η3 ρ3 H3 e3 s3 h3 => ?_⟩
      cases r with
      | nx u => exact fun σ3 er3 => ⟨ρ3, η3, u, s3, er3, h3⟩
      | ct u => exact fun σ3 er3 => ⟨ρ3, η3, u, s3, er3, h3⟩
      | bk u => exact h3.pure s3
      | rt u => exact h3.pure s3
end
end MI
end
/-! MIl -/
section
set_option linter.all false
set_option maxRecDepth 100000
set_option maxHeartbeats 4000000
/-! Cells that are written; a name that a comprehension is stored under; methods. -/
namespace MI
open PySem L2

section
variable {W : Wd} {ρ : List Addr} {η : List C} {H : Hp}
theorem sim_put (s : Sim W ρ η H) {k : Nat} {a : Addr} {c : C} {o : HO} (hr : ρ[k]? = some a)
    (hn : match c with
      | .lst ds => ∃ vs, o = .lst vs ∧ ds.length ≤ sizeLine ∧ Reps W ρ H ds vs
      | .dct ks => ∃ kvs, o = .dK kvs ∧ ks.length ≤ sizeLine ∧ RepK W ρ H ks kvs) : Ext ρ H ρ (upd H a o) ∧ Sim W ρ (η.set k c) (upd H a o) := by
  have hm : a ∈ ρ := List.mem_iff_getElem?.mpr ⟨k, hr⟩
  have e : Ext ρ H ρ (upd H a o) := .cell hm
  have cok := s.ok
  refine ⟨e, s.nd, fun z hz => ?_, by rw [List.length_set]; exact s.len, fun j b cc e1 e2 => ?_⟩
  · obtain ⟨⟨ws, ez⟩, nz⟩ := s.zed z hz
    exact ⟨⟨ws, by rw [upd_ne (fun (q : z = a) => nz (by rw [q]; exact hm))]; exact ez⟩, nz⟩
  · by_cases hj : k = j
    · subst hj
      rw [hr] at e1
      cases e1
      have hk : k < η.length := by rw [← s.len]; exact get_len hr
      rw [List.getElem?_set_self hk] at e2
      cases e2
      cases c with
      | lst ds => obtain ⟨vs, eo, l, r⟩ := hn; exact ⟨vs, by rw [upd_same, eo], l, r.ext e cok⟩
      | dct ks => obtain ⟨vs, eo, l, r⟩ := hn; exact ⟨vs, by rw [upd_same, eo], l, RepK.ext e cok r⟩
    · rw [List.getElem?_set_ne hj] at e2
      have q := s.at_ j b cc e1 e2
      have ne : b ≠ a := fun z => hj (by
        subst z
        exact (List.getElem?_inj (get_len hr) s.nd).mp (hr.trans e1.symm))
      cases cc with
      | lst ds => obtain ⟨ws, z, l, r⟩ := q; exact ⟨ws, by rw [upd_ne ne]; exact z, l, r.ext e cok⟩
      | dct ks => obtain ⟨ws, z, l, r⟩ := q; exact ⟨ws, by rw [upd_ne ne]; exact z, l, RepK.ext e cok r⟩
theorem celL (s : Sim W ρ η H) {k : Nat} {v : V} {xs : List D} (r : Rep W ρ H (.cel k) v) (e : η[k]? = some (.lst xs)) : ∃ a vs, v = .ref a ∧ ρ[k]? = some a ∧ H a = some (.lst vs) ∧ xs.length ≤ sizeLine ∧ Reps W ρ H xs vs := by
  obtain ⟨a, ev, h⟩ := (show ∃ a, v = .ref a ∧ ρ[k]? = some a from r)
  obtain ⟨vs, z, l, rr⟩ := s.at_ k a _ h e
  exact ⟨a, vs, ev, h, z, l, rr⟩
theorem celD (s : Sim W ρ η H) {k : Nat} {v : V} {ks : List (Key × D)} (r : Rep W ρ H (.cel k) v) (e : η[k]? = some (.dct ks)) : ∃ a kvs, v = .ref a ∧ ρ[k]? = some a ∧ H a = some (.dK kvs) ∧ ks.length ≤ sizeLine ∧ RepK W ρ H ks kvs := by
  obtain ⟨a, ev, h⟩ := (show ∃ a, v = .ref a ∧ ρ[k]? = some a from r)
  obtain ⟨vs, z, l, rr⟩ := s.at_ k a _ h e
  exact ⟨a, vs, ev, h, z, l, rr⟩
theorem repK_len : ∀ {ks : List (Key × D)} {kvs : List (Key × V)}, RepK W ρ H ks kvs → kvs.length = ks.length
  | [], kvs, r => by
    have e : kvs = [] := r
    subst e; rfl
  | (k, d) :: ks, kvs, r => by
    obtain ⟨v, r', e, h1, h2⟩ := (show ∃ v r, kvs = (k, v) :: r ∧ Rep W ρ H d v ∧ RepK W ρ H ks r from r)
    subst e
    simp [repK_len h2]
theorem repK_app : ∀ {ks ls : List (Key × D)} {kvs lvs : List (Key × V)}, RepK W ρ H ks kvs → RepK W ρ H ls lvs → RepK W ρ H (ks ++ ls) (kvs ++ lvs)
  | [], ls, kvs, lvs, r, r2 => by
    have e : kvs = [] := r
    subst e; exact r2
  | (k, d) :: ks, ls, kvs, lvs, r, r2 => by
    obtain ⟨v, r', e, h1, h2⟩ := (show ∃ v r, kvs = (k, v) :: r ∧ Rep W ρ H d v ∧ RepK W ρ H ks r from r)
    subst e
    exact ⟨v, r' ++ lvs, rfl, h1, repK_app h2 r2⟩
theorem repK_map {q : Key} {x : D} {u : V} (hx : Rep W ρ H x u) : ∀ {ks : List (Key × D)} {kvs : List (Key × V)}, RepK W ρ H ks kvs → RepK W ρ H (ks.map fun p => if p.1 = q then (p.1, x) else p) (kvs.map fun p => if p.1 = q then (p.1, u) else p)
  | [], kvs, r => by
    have e : kvs = [] := r
    subst e; rfl
  | (k, d) :: ks, kvs, r => by
    obtain ⟨v, r', e, h1, h2⟩ := (show ∃ v r, kvs = (k, v) :: r ∧ Rep W ρ H d v ∧ RepK W ρ H ks r from r)
    subst e
    have ih := repK_map (q := q) hx h2
    by_cases c : k = q
    · subst c
      simp only [List.map_cons, if_pos]
      exact ⟨u, _, rfl, hx, ih⟩
    · simp only [List.map_cons, if_neg c]
      exact ⟨v, _, rfl, h1, ih⟩
theorem repK_any {q : Key} : ∀ {ks : List (Key × D)} {kvs : List (Key × V)}, RepK W ρ H ks kvs → (kvs.any fun p => decide (p.1 = q)) = (ks.any fun p => decide (p.1 = q))
  | [], kvs, r => by
    have e : kvs = [] := r
    subst e; rfl
  | (k, d) :: ks, kvs, r => by
    obtain ⟨v, r', e, h1, h2⟩ := (show ∃ v r, kvs = (k, v) :: r ∧ Rep W ρ H d v ∧ RepK W ρ H ks r from r)
    subst e
    simp only [List.any_cons, repK_any h2]
theorem repK_put {q : Key} {x : D} {u : V} {ks : List (Key × D)} {kvs : List (Key × V)} (r : RepK W ρ H ks kvs) (hx : Rep W ρ H x u) : RepK W ρ H (MI.putK ks q x) (L2.putK kvs q u) := by
  unfold MI.putK L2.putK
  rw [repK_any r]
  split
  · exact repK_map hx r
  · exact repK_app r ⟨u, [], rfl, hx, rfl⟩
end
section
variable {X : Cx} {W : Wd} {x : XW} {a b c e : Expr} {pos : Pos} {ma mb mc : Ev → M D}
theorem post_inv {α : Type} {W : Wd} {x : XW} {r : R α} {ρ : List Addr} {H : Hp} {k : α → List C → List Addr → Hp → Prop} (h : Post W x r ρ H k) (hno : ∀ c d η, r ≠ .exc c d η) : ∃ v η', r = .ok v η' ∧ ∀ ρ' H', Ext ρ H ρ' H' → Sim W ρ' η' H' → k v η' ρ' H' := by
  cases r with
  | no => exact h.elim
  | ok v η' => exact ⟨v, η', rfl, h⟩
  | exc c d η' => exact absurd rfl (hno c d η')
/-- the steps of a[b] = e -/
theorem setC_post {W : Wd} {x : XW} {o i d : D} {η : List C} {ρ : List Addr} {H : Hp} {k : Unit → List C → List Addr → Hp → Prop} {vo vi vd : V} (s : Sim W ρ η H) (h : Post W x (setC o i d η) ρ H k) (ro : Rep W ρ H o vo) (ri : Rep W ρ H i vi) (rd : Rep W ρ H d vd) :
    (rSetL vo vi vd H fun H' => ∃ η', Ext ρ H ρ H' ∧ Sim W ρ η' H' ∧ k () η' ρ H') ∨ (rSetD vo vi vd H fun H' => ∃ η', Ext ρ H ρ H' ∧ Sim W ρ η' H' ∧ k () η' ρ H') := by
  unfold setC at h
  split at h
  · rename_i kk
    split at h
    · rename_i xs j hk
      split at h
      · rename_i jj hj
        obtain ⟨a, vs, ev, hr, hH, l, rr⟩ := celL s ro hk
        subst ev
        have evi : vi = .int j := ri
        subst evi
        have hjj : ixN xs.length j = some jj := by
          unfold atI at hj
          rw [List.length_range] at hj
          cases q : ixN xs.length j with
          | none => rw [q] at hj; cases hj
          | some z =>
            rw [q] at hj
            have hz := (ixN_seq q).2.1
            simp [hz] at hj
            rw [hj]
        refine .inl ⟨a, vs, j, jj, rfl, rfl, hH, by rw [rr.len]; exact hjj, ?_⟩
        obtain ⟨g1, g2⟩ := sim_put (c := .lst (xs.set jj d)) (o := .lst (vs.set jj vd)) s hr ⟨_, rfl, by rw [List.length_set]; exact l, rr.set _ rd⟩
        exact ⟨_, g1, g2, h ρ _ g1 g2⟩
      · exact h.elim
    · rename_i ks hk
      split at h
      · rename_i q hq
        split at h
        · rename_i hl
          obtain ⟨a, kvs, ev, hr, hH, l, rr⟩ := celD s ro hk
          subst ev
          have evi := rep_key ri hq
          subst evi
          have hz : kvs.length < sizeLine := by
            rw [repK_len rr]
            rw [lim_eq] at hl
            exact hl
          refine .inr ⟨a, _, rfl, DPut.k hH hz, ?_⟩
          have hz2 : (MI.putK ks q d).length ≤ sizeLine := by
            rw [lim_eq] at hl
            unfold MI.putK
            split
            · rw [List.length_map]; exact l
            · rw [List.length_append]
              exact hl
          obtain ⟨g1, g2⟩ := sim_put (c := .dct (MI.putK ks q d)) (o := .dK (L2.putK kvs q vd)) s hr ⟨_, rfl, hz2, repK_put rr rd⟩
          exact ⟨_, g1, g2, h ρ _ g1 g2⟩
        · exact h.elim
      · exact h.elim
    · exact h.elim
  · exact h.elim
theorem t_seti {p : Pos} (hu : X.A.units + 1 < cLine) (ha : PE X a (tE W x ma)) (hb : PE X b (tE W x mb)) (he : PE X e (tE W x mc))
    (hs : swapsWithSole [.Subscript a b p] e pos.line X.env = pure false) (hw : swappedStores [.Subscript a b p] e X.env = pure none) (h1 : (assignEach [.Subscript a b p] X.env).map (·.2) = [assign (.Subscript a b p) X.env])
    (hst : ∀ v, assign (.Subscript a b p) X.env v = (do
      let ov ← holding [v] (eval a X.env)
      let iv ← holding [v, ov] (eval b X.env)
      standAt p
      holding [v, ov, iv] (setItem ov iv v)
      release [v, ov, iv] [])) :
    PS X (.Assign [.Subscript a b p] e pos) (tF W x fun v => mc v >>= fun d => ma v >>= fun o => mb v >>= fun i => setC o i d >>= fun _ => pure (.nx v)) := by
  have hset : PSet X (fun o i v H Q => rSetL o i v H Q ∨ rSetD o i v H Q) := fun pins s σ H o i v ov iv u Q I ro ri rv h => h.elim (set_list pins s σ H o i v ov iv u Q I ro ri rv) (set_dict hu pins s σ H o i v ov iv u Q I ro ri rv)
  refine ps_mono (ps_asg he (pg_sub ha hb hset hst) hs hw h1) fun D σ H _ h => ?_
  obtain ⟨W', iw, ρ, η, env, sim, er, h⟩ := h
  refine ⟨W', iw, ρ, η, env, sim, er, h.bind.mono fun d η1 ρ1 H1 e1 s1 h1 vd rd => ?_⟩
  have er1 := er.ext e1 sim.ok
  refine ⟨W', iw, ρ1, η1, env, s1, er1, h1.bind.mono fun o η2 ρ2 H2 e2 s2 h2 vo ro => ?_⟩
  have er2 := er1.ext e2 s1.ok
  refine ⟨W', iw, ρ2, η2, env, s2, er2, h2.bind.mono fun i η3 ρ3 H3 e3 s3 h3 vi ri => ?_⟩
  have er3 := er2.ext e3 s2.ok
  have z := setC_post s3 h3.bind (ro.ext e3 s2.ok) ri ((rd.ext e2 s1.ok).ext e3 s2.ok)
  refine z.imp (fun q => ?_) fun q => ?_
  · obtain ⟨p, xs, k, j, z1, z2, z3, z4, η', g1, g2, z5⟩ := q
    exact ⟨p, xs, k, j, z1, z2, z3, z4, z5.pure g2 σ (er3.ext g1 s3.ok)⟩
  · obtain ⟨p, H', z1, z2, η', g1, g2, z5⟩ := q
    exact ⟨p, H', z1, z2, z5.pure g2 σ (er3.ext g1 s3.ok)⟩
theorem newc_ok {W : Wd} {ρ : List Addr} {η : List C} {H : Hp} (s : Sim W ρ η H) {p : Addr} (hp : H p = none) :
    Ext ρ H (ρ ++ [p]) (upd H p (.dK [])) ∧ Sim W (ρ ++ [p]) (η ++ [.dct []]) (upd H p (.dK [])) ∧ Rep W (ρ ++ [p]) (upd H p (.dK [])) (.cel η.length) (.ref p) := by
  have e : Ext ρ H (ρ ++ [p]) (upd H p (.dK [])) := .newc hp
  have c := s.ok
  refine ⟨e, ⟨?_, fun z hz => ?_, by simp [s.len], fun k a cc e1 e2 => ?_⟩, p, rfl, ?_⟩
  · rw [List.nodup_append]
    exact ⟨s.nd, by simp, fun q hq r hr => by
      have : r = p := by simpa using hr
      subst this
      intro z
      exact new_out s hp (z ▸ hq)⟩
  · obtain ⟨⟨ws, ez⟩, hn⟩ := s.zed z hz
    have ne : z ≠ p := ne_of_none ez hp
    exact ⟨⟨ws, by rw [upd_ne ne]; exact ez⟩, fun m => (List.mem_append.mp m).elim hn fun m => ne (by simpa using m)⟩
  · by_cases hk : k < ρ.length
    · rw [List.getElem?_append_left hk] at e1
      rw [List.getElem?_append_left (by rw [← s.len]; exact hk)] at e2
      have q := s.at_ k a cc e1 e2
      have ne : a ≠ p := by
        rcases c.at_ k a e1 with ⟨ws, z⟩ | ⟨ws, z⟩ <;> exact ne_of_none z hp
      cases cc with
      | lst ds => obtain ⟨ws, z, l, r⟩ := q; exact ⟨ws, by rw [upd_ne ne]; exact z, l, r.ext e c⟩
      | dct ks => obtain ⟨ws, z, l, r⟩ := q; exact ⟨ws, by rw [upd_ne ne]; exact z, l, RepK.ext e c r⟩
    · have hk2 : k < (ρ ++ [p]).length := get_len e1
      have hkk : k = ρ.length := by
        rw [List.length_append] at hk2
        have : [p].length = 1 := rfl
        omega
      subst hkk
      rw [List.getElem?_append_right (Nat.le_refl _)] at e1
      rw [s.len, List.getElem?_append_right (Nat.le_refl _)] at e2
      simp at e1 e2
      subst e1; subst e2
      exact ⟨[], upd_same, Nat.zero_le _, rfl⟩
  · rw [← s.len, List.getElem?_append_right (Nat.le_refl _)]
    simp
theorem t_setd {i : Nat} {y : Str} {p dp : Pos} (hN : X.N.Nodup) (hi : X.N[i]? = some y) (hx : Loc X.env.scope y) (hf : X.fn y = true ∨ X.env.scope.names.lookup y = some .local) :
    PS X (.Assign [.Name y p] (.Dict [] [] dp) pos) (tF W x fun v => newC (.dct []) >>= fun c => pure (.nx (setE v i c))) := by
  refine ps_mono (ps_set hN hi hx pe_dnewK rfl hf) fun D σ H _ h => ?_
  obtain ⟨W', iw, ρ, η, env, sim, er, h⟩ := h
  intro q hq
  obtain ⟨g1, g2, g3⟩ := newc_ok sim hq
  have w := h.bind _ _ g1 g2
  exact w.pure g2 _ ((er.ext g1 sim.ok).set g3 i)
/-- a new list, a new dict, where they stand -/
theorem s_nls {es : List Expr} {lp : Pos} {ms : Ev → M (List D)} (hs : PA X es (tEs W x ms)) : PE X (.List es lp) (tE W x fun v => ms v >>= fun xs => newL xs) := by
  refine pe_mono (pe_lst hs) fun σ H Q _ h => ?_
  obtain ⟨W', iw, ρ, η, env, sim, er, h⟩ := h
  refine ⟨W', iw, ρ, η, env, sim, er, h.bind.mono fun ds η1 ρ1 H1 e1 s1 h1 vs rs => ?_⟩
  obtain ⟨hl, w⟩ := newl_post h1
  rw [lim_eq] at hl
  refine ⟨by rw [rs.len]; exact hl, fun q hq => ?_⟩
  obtain ⟨g1, g2, g3⟩ := setc_ok s1 rs hl hq
  exact w _ _ g1 g2 _ g3
theorem s_ndc {dp : Pos} : PE X (.Dict [] [] dp) (tE W x fun _ => newC (.dct [])) := by
  refine pe_mono pe_dnewK fun σ H Q _ h => ?_
  obtain ⟨W', iw, ρ, η, env, sim, er, h⟩ := h
  intro q hq
  obtain ⟨g1, g2, g3⟩ := newc_ok sim hq
  exact h _ _ g1 g2 _ g3
/-! ### methods -/
theorem appC_post {W : Wd} {x : XW} {o d : D} {η : List C} {ρ : List Addr} {H : Hp} {Q : VK} {vo vd : V} (s : Sim W ρ η H) (h : Post W x (appC o d η) ρ H (kkV W Q)) (ro : Rep W ρ H o vo) (rd : Rep W ρ H d vd) :
    rAppend vo [vd] H Q := by
  unfold appC at h
  split at h
  · rename_i kk
    split at h
    · rename_i xs hk
      split at h
      · rename_i hl
        obtain ⟨a, vs, ev, hr, hH, l, rr⟩ := celL s ro hk
        rw [lim_eq] at hl
        refine ⟨a, vs, vd, ev, rfl, hH, by rw [rr.len]; exact hl, ?_⟩
        obtain ⟨g1, g2⟩ := sim_put (c := .lst (xs ++ [d])) (o := .lst (vs ++ [vd])) s hr ⟨_, rfl, by rw [List.length_append]; exact hl, rr.app (Reps.cons rd Reps.nil)⟩
        exact h ρ _ g1 g2 _ rfl
      · exact h.elim
    · exact h.elim
  · exact h.elim
theorem extC_post {W : Wd} {x : XW} {o d : D} {η : List C} {ρ : List Addr} {H : Hp} {Q : VK} {vo vd : V} (s : Sim W ρ η H) (h : Post W x (extC o d η) ρ H (kkV W Q)) (ro : Rep W ρ H o vo) (rd : Rep W ρ H d vd) :
    rExtend vo [vd] H Q := by
  unfold extC at h
  split at h
  · rename_i kk
    split at h
    · rename_i xs ys hk hy
      split at h
      · rename_i hl
        obtain ⟨a, vs, ev, hr, hH, l, rr⟩ := celL s ro hk
        unfold ownL at hy
        split at hy
        · rename_i zs c
          cases hy
          obtain ⟨b, ws, eb, hb, lb, rb⟩ := see_lst s rd c
          subst eb
          rw [lim_eq] at hl
          refine ⟨a, b, vs, ws, ev, rfl, hH, hb, by rw [rr.len, rb.len]; exact hl, ?_⟩
          obtain ⟨g1, g2⟩ := sim_put (c := .lst (xs ++ ys)) (o := .lst (vs ++ ws)) s hr ⟨_, rfl, by rw [List.length_append]; exact hl, rr.app rb⟩
          exact h ρ _ g1 g2 _ rfl
        · cases hy
      · exact h.elim
    · exact h.elim
  · exact h.elim
theorem getLast_get {α : Type} {l : List α} {y : α} (h : l.getLast? = some y) : l[l.length - 1]? = some y := by
  rw [← h, List.getLast?_eq_getElem?]
theorem Reps.dropLast {W : Wd} {ρ : List Addr} {H : Hp} {ds : List D} {vs : List V} (r : Reps W ρ H ds vs) : Reps W ρ H ds.dropLast vs.dropLast := by
  rw [List.dropLast_eq_take, List.dropLast_eq_take, r.len]
  exact r.take _
theorem popC_post {W : Wd} {x : XW} {o : D} {η : List C} {ρ : List Addr} {H : Hp} {Q : VK} {vo : V} (s : Sim W ρ η H) (h : Post W x (popC o η) ρ H (kkV W Q)) (ro : Rep W ρ H o vo) :
    rPop vo [] H Q := by
  unfold popC at h
  split at h
  · rename_i kk
    split at h
    · rename_i xs hk
      split at h
      · rename_i y hy
        obtain ⟨a, vs, ev, hr, hH, l, rr⟩ := celL s ro hk
        obtain ⟨u, hu, ru⟩ := rr.get (getLast_get hy)
        refine ⟨a, vs, u, ev, rfl, hH, by rw [rr.len]; exact hu, ?_⟩
        obtain ⟨g1, g2⟩ := sim_put (c := .lst xs.dropLast) (o := .lst vs.dropLast) s hr ⟨_, rfl, by rw [List.length_dropLast]; omega, rr.dropLast⟩
        exact h ρ _ g1 g2 _ (ru.ext g1 s.ok)
      · exact h.elim
    · exact h.elim
  · exact h.elim
theorem tyL {K : PySem.W.Frag} {H : Hp} {a : Addr} {vs : List V} (h : H a = some (.lst vs)) : tyV K "list" (.ref a) H := .inl ⟨rfl, vs, SqL.of h⟩
theorem cel_ty {W : Wd} {ρ : List Addr} {η : List C} {H : Hp} {o : D} {v : V} {xs : List D} (s : Sim W ρ η H) (r : Rep W ρ H o v) (h : ownL η o = some xs) : tyV W.K "list" v H := by
  unfold ownL at h
  split at h
  · rename_i zs c
    cases h
    obtain ⟨b, ws, eb, hb, lb, rb⟩ := see_lst s r c
    subst eb
    exact tyL hb
  · cases h
/-! the calls of methods -/
theorem s_meth {o : Expr} {es : List Expr} {name : Str} {apos : Pos} {id : String} {r : V → List V → Hp → VK → Prop} {ms : Ev → M (List D)} {f : D → List D → M D} (slot : Slot "list" name id) (hty : typeOf (.builtin id) = pure (.type "method_descriptor")) (hm : MtR X id r) (hK : W.K = X.K)
    (hr : ∀ (W' : Wd) (o : D) (ds : List D) (η : List C) (ρ : List Addr) (H : Hp) (Q : VK) (vo : V) (vs : List V), Sim W' ρ η H → Post W' x (f o ds η) ρ H (kkV W' Q) → Rep W' ρ H o vo → Reps W' ρ H ds vs → r vo vs H Q)
    (ho : PE X o (tE W x ma)) (ha : PA X (e :: es) (tEs W x ms)) (hbase : attributeBase o name X.env (eval o X.env) = eval o X.env)
    (hfew : ((backTo pos (starEach (e :: es) X.env)).all (fun x => !x.1) && (backToKw pos (keywordEach [] X.env)).all (fun x => x.1.isSome) && decide ((e :: es).length + ([] : List Keyword).length + (if ([] : List Keyword).isEmpty then 0 else 1) < 30)) = true)
    (hline : (apos.endLine == pos.line) = true) (hs : starEach (e :: es) X.env = (false, eval e X.env) :: starEach es X.env) (hplain : (backTo pos (starEach es X.env)).any (·.1) = false) :
    PE X (.Call (.Attribute o name apos) (e :: es) [] pos) (tE W x fun v => ma v >>= fun p => chkL p >>= fun _ => ms v >>= fun q => f p q) := by
  refine pe_mono (pe_bm PySem.F.plainAttrs_list slot hty hm ho ha hbase hfew hline hs hplain) fun σ H Q _ h => ?_
  obtain ⟨W', iw, ρ, η, env, sim, er, h⟩ := h
  refine ⟨W', iw, ρ, η, env, sim, er, h.bind.mono fun p η1 ρ1 H1 e1 s1 h1 vp rp => ?_⟩
  obtain ⟨u, hu, w⟩ := h1.bind.look
  have w := w ρ1 H1 .refl s1
  obtain ⟨zs, hz, _⟩ := Option.map_eq_some_iff.mp hu
  have ty := cel_ty s1 rp hz
  rw [iw.1.trans hK] at ty
  refine ⟨ty, W', iw, ρ1, η1, env, s1, er.ext e1 sim.ok, w.bind.mono fun q η2 ρ2 H2 e2 s2 h2 vq rq => ?_⟩
  exact hr W' p q η2 ρ2 H2 Q vp vq s2 h2 (rp.ext e2 s1.ok) rq
theorem s_meth0 {o : Expr} {name : Str} {apos : Pos} {id : String} {r : V → List V → Hp → VK → Prop} {f : D → M D} (slot : Slot "list" name id) (hty : typeOf (.builtin id) = pure (.type "method_descriptor")) (hm : MtR X id r) (hK : W.K = X.K)
    (hr : ∀ (W' : Wd) (o : D) (η : List C) (ρ : List Addr) (H : Hp) (Q : VK) (vo : V), Sim W' ρ η H → Post W' x (f o η) ρ H (kkV W' Q) → Rep W' ρ H o vo → r vo [] H Q)
    (ho : PE X o (tE W x ma)) (hbase : attributeBase o name X.env (eval o X.env) = eval o X.env) (hline : (apos.endLine == pos.line) = true) :
    PE X (.Call (.Attribute o name apos) [] [] pos) (tE W x fun v => ma v >>= fun p => chkL p >>= fun _ => f p) := by
  refine pe_mono (pe_bm0 PySem.F.plainAttrs_list slot hty hm ho hbase hline) fun σ H Q _ h => ?_
  obtain ⟨W', iw, ρ, η, env, sim, er, h⟩ := h
  refine ⟨W', iw, ρ, η, env, sim, er, h.bind.mono fun p η1 ρ1 H1 e1 s1 h1 vp rp => ?_⟩
  obtain ⟨u, hu, w⟩ := h1.bind.look
  obtain ⟨zs, hz, _⟩ := Option.map_eq_some_iff.mp hu
  have ty := cel_ty s1 rp hz
  rw [iw.1.trans hK] at ty
  exact ⟨ty, hr W' p η1 ρ1 H1 Q vp s1 (w ρ1 H1 .refl s1) rp⟩
end
end MI
end
/-! MIm -/
section
set_option linter.all false
set_option maxRecDepth 100000
set_option maxHeartbeats 4000000
/-! Calls of the text's defs. -/
namespace MI
open PySem L2

/-- a def that keeps a promise where nothing is being shown -/
structure FnG (P : Program) (w : World) (K : PySem.W.Frag) (mg : Str → Option Value) (base : Heap) (cx : CXT) (k : Nat) (f : Addr) (fd : FuncData) (ps : List Str) (sp : Sp) : Prop where
  num : ∀ us H Q E, sp us H Q E → us.length = ps.length
  go : ∀ (A : Around) (fr : List Env) (t : Shared) (H : Hp) (ar : Args) (us : List Value) (vs : List V) (Q : VK) (E : XK), Room k A → A.guards = some [] → Env0 P w K mg base A fr t H → BindsTo t fd ar (ps.zip us) → Vals vs us → sp vs H Q E →
    codeAny (model P w) A (.call (.ref f) ar) (CR cx fr P w H t Q E) t
theorem FnG.lower {P : Program} {w : World} {K : PySem.W.Frag} {mg : Str → Option Value} {base : Heap} {cx : CXT} {j k : Nat} {f : Addr} {fd : FuncData} {ps : List Str} {sp : Sp} (F : FnG P w K mg base cx j f fd ps sp) (h : j ≤ k) : FnG P w K mg base cx k f fd ps sp :=
  ⟨F.num, fun A fr t H ar us vs Q E r g e b v q => F.go A fr t H ar us vs Q E (r.mono h) g e b v q⟩

/-- which of the written values each parameter takes -/
def pick {α : Type} (z : α) (l : List α) (p : List Nat) : List α := p.map fun i => l.getD i z
def BindF (fd : FuncData) (ps : List Str) (n : Nat) (ks : List Str) (p : List Nat) : Prop := ∀ us ws : List Value, us.length = n → ws.length = ks.length → bindArgs fd ⟨us, ks.zip ws⟩ = pure (ps.zip (pick .none (us ++ ws) p))
section
variable {X : Cx} {cx : CXT} {k : Nat} {f : Addr} {fd : FuncData} {ps ks : List Str} {sp : Sp} {E : XK}
/-- the def runs from inside a body -/
theorem run_g {pins : List (Addr × Obj)} {σ : St} {H : Hp} {s : Shared} {Q : VK} {ar us : List Value} {kw : List (Str × Value)} {vs : List V} (F : FnG X.prog X.w X.K X.mg X.base cx k f fd ps sp) (hr : Room k X.A) (hg : X.A.guards = some [])
    (hb : bindArgs fd ⟨ar, kw⟩ = pure (ps.zip us)) (hx : Passes cx X E) (I : Inv X pins σ H s) (r : Vals vs us) (q : sp vs H Q E) : wpAny (model X.prog X.w) X.A (call (.ref f) ar kw) (EP X pins σ Q) X.xe s := by
  refine wpAny_call (codeAny_mono (F.go X.A X.stack s H ⟨ar, kw⟩ us vs Q E hr hg I.env0 (.of_eq hb) r q) fun res t ht => ?_)
  match res, ht with
  | .error e, ht => exact hx pins σ H s e t I ht
  | .ok (.ret u), ht => exact I.after ht
  | .ok .next, ht => exact ht.elim
  | .ok .brk, ht => exact ht.elim
  | .ok .cont, ht => exact ht.elim
theorem vals_pick {vs : List V} {us : List Value} (r : Vals vs us) (p : List Nat) : Vals (pick .non vs p) (pick .none us p) := by
  induction p with
  | nil => exact .nil
  | cons i p ih =>
    refine .cons ?_ ih
    show RelV (vs.getD i .non) (us.getD i .none)
    rw [List.getD_eq_getElem?_getD, List.getD_eq_getElem?_getD]
    by_cases hi : i < vs.length
    · have e : vs[i]? = some vs[i] := List.getElem?_eq_getElem hi
      obtain ⟨u, hu, rr⟩ := r.get e
      rw [e, hu]
      exact rr
    · rw [List.getElem?_eq_none (by omega), List.getElem?_eq_none (by rw [← r.length]; omega)]
      rfl
variable {x : Str} {p pos : Pos} {e : Expr} {es : List Expr} {t : TA}
def tCallG (sp : Sp) (E : XK) (m : Nat) (p : List Nat) (t : TA) : TE := fun σ H Q => t σ H fun vs H1 => vs.length = m ∧ sp (pick .non vs p) H1 Q E
theorem pe_callG {kp : List Nat} (F : FnG X.prog X.w X.K X.mg X.base cx k f fd ps sp) (hr : Room k X.A) (hg : X.A.guards = some []) (hgl : Gl X x) (hm : X.mg x = some (.ref f)) (hk : PySem.W.keepIn X.K (.ref f) = true) (hb : BindF fd ps (e :: es).length [] kp) (hx : Passes cx X E)
    (ha : PA X (e :: es) t) (hd : (x == ("__debug__" : Str)) = false) (he : starEach (e :: es) X.env = (false, eval e X.env) :: starEach es X.env) (hpl : (backTo pos (starEach es X.env)).any (·.1) = false) :
    PE X (.Call (.Name x p) (e :: es) [] pos) (tCallG sp E (e :: es).length kp t) := by
  refine ⟨fun pins s σ H Q I h => wpAny_Call_Name_kw (ld_glob I hgl hm (PySem.W.callWith_K (h₀ := X.base) I.ok.mod.kin hk (thn (ha.run pos pins s σ H _ I h) fun us s1 ⟨vs, H1, I1, r, l, q⟩ => ⟨I1.kIn, ?_⟩) he hpl) hd)⟩
  have hbb := hb us [] (r.length.symm.trans l) rfl
  rw [List.append_nil] at hbb
  exact run_g F hr hg hbb hx I1 (vals_pick r kp) q
theorem pe_callG0 (F : FnG X.prog X.w X.K X.mg X.base cx k f fd ps sp) (hr : Room k X.A) (hg : X.A.guards = some []) (hgl : Gl X x) (hm : X.mg x = some (.ref f)) (hk : PySem.W.keepIn X.K (.ref f) = true) (hb : BindF fd ps 0 [] []) (hx : Passes cx X E)
    (hd : (x == ("__debug__" : Str)) = false) : PE X (.Call (.Name x p) [] [] pos) (tCallG sp E 0 [] tNil) := by
  refine ⟨fun pins s σ H Q I ⟨_, q⟩ => wpAny_Call_Name_kw (ld_glob I hgl hm (PySem.W.callWith_K0 I.kIn hk ?_) hd)⟩
  exact run_g (us := []) F hr hg (hb [] [] rfl rfl) hx I .nil q
/-- all by names -/
def tCallGK (sp : Sp) (E : XK) (n : Nat) (p : List Nat) (tk : TA) : TE := fun σ H Q => tk σ H fun ws H2 => ws.length = n ∧ sp (pick .non ws p) H2 Q E
theorem pe_callGK {kp : List Nat} {kws : List Keyword} {tk : TA} (F : FnG X.prog X.w X.K X.mg X.base cx k f fd ps sp) (hr : Room k X.A) (hg : X.A.guards = some []) (hgl : Gl X x) (hm : X.mg x = some (.ref f)) (hk : PySem.W.keepIn X.K (.ref f) = true) (hb : BindF fd ps 0 ks kp) (hx : Passes cx X E)
    (hkw : PK X kws tk) (hall : (backToKw pos (keywordEach kws X.env)).all (·.1.isSome) = true) (hks : (backToKw pos (keywordEach kws X.env)).filterMap (·.1) = ks)
    (hd : (x == ("__debug__" : Str)) = false) (hpl : ((backTo pos (starEach [] X.env)).any (·.1) || (backToKw pos (keywordEach kws X.env)).any (·.1.isNone)) = false) :
    PE X (.Call (.Name x p) [] kws pos) (tCallGK sp E ks.length kp tk) := by
  refine ⟨fun pins s σ H Q I h => wpAny_Call_Name_kw (ld_glob I hgl hm (PySem.W.callWith_KW0 (h₀ := X.base) I.ok.mod.kin hk hall (thn (hkw.run pos pins s σ H _ I h) fun zs s2 ⟨ws, H2, I2, rz, l2, q2⟩ => ⟨I2.kIn, ?_⟩) hpl) hd)⟩
  rw [hks]
  exact run_g F hr hg (hb [] zs rfl (rz.length.symm.trans l2)) hx I2 (vals_pick rz kp) q2
/-- the name of a slot that holds a def -/
def tCallGV (i : Nat) (f : Addr) (sp : Sp) (E : XK) (m : Nat) (p : List Nat) (t : TA) : TE := fun σ H Q => σ[i]? = some (some (.ref f)) ∧ tCallG sp E m p t σ H Q
theorem pe_callGV {i : Nat} {kp : List Nat} (F : FnG X.prog X.w X.K X.mg X.base cx k f fd ps sp) (hr : Room k X.A) (hg : X.A.guards = some []) (hN : X.N[i]? = some x) (hv : Vis X.env.scope x) (hk : PySem.W.keepIn X.K (.ref f) = true) (hb : BindF fd ps (e :: es).length [] kp) (hx : Passes cx X E)
    (ha : PA X (e :: es) t) (hd : (x == ("__debug__" : Str)) = false) (hc : (x == ("__classdict__" : Str)) = false) (he : starEach (e :: es) X.env = (false, eval e X.env) :: starEach es X.env) (hpl : (backTo pos (starEach es X.env)).any (·.1) = false) :
    PE X (.Call (.Name x p) (e :: es) [] pos) (tCallGV i f sp E (e :: es).length kp t) := by
  refine ⟨fun pins s σ H Q I ⟨hs, h⟩ => wpAny_Call_Name_kw (thn ((pe_var (pos := p) hN hv hd hc).run pins s σ H (fun v H1 => v = .ref f ∧ H = H1) I ⟨.ref f, hs, rfl, rfl⟩) fun u s1 ⟨v, H1, I1, r1, q1⟩ => ?_)⟩
  obtain ⟨rfl, rfl⟩ := q1
  cases r1
  refine PySem.W.callWith_K (h₀ := X.base) I.ok.mod.kin hk (thn (ha.run pos pins s1 σ H _ I1 h) fun us s2 ⟨vs, H2, I2, r, l, q⟩ => ⟨I2.kIn, ?_⟩) he hpl
  have hbb := hb us [] (r.length.symm.trans l) rfl
  rw [List.append_nil] at hbb
  exact run_g F hr hg hbb hx I2 (vals_pick r kp) q
end
end MI
end
/-! ME1 -/
section
set_option linter.all false
set_option maxRecDepth 100000
set_option maxHeartbeats 4000000
/-! super().__init__(text) in the __init__ of an own error class over ValueError. -/
namespace ME
open PySem PySem.W L2
/-- what is known of the def __init__ (at f, code at cda, cell at cc) of the class at D -/
structure InitF (K : PySem.W.Frag) (P : Program) (f cda cc D : Addr) (fd : FuncData) (ar : Arg) : Prop where
  fn : ∃ oc od osl, K.lookup f = some ⟨oc, od, .func fd, osl⟩
  hd : (fd.params.posonlyargs ++ fd.params.args).head? = some ar
  cd : ∃ ccl cdd vs ccs file tf, K.lookup cda = some ⟨ccl, cdd, .fields vs, ccs⟩ ∧ vs[2]? = some (.str file tf) ∧ ((P.main.file : Str) == file) = true
  cell : ∃ cl cld csl, K.lookup cc = some ⟨cl, cld, .cell (some (.ref D)), csl⟩
  clsD : ∃ cdD, clsIn K D = some cdD
  top : (P.main.scope.names.lookup ("super" : Str)).isSome = false
  tp : nsIn K cStatics "thirdparty.any" = some none
/-- what is known of a class at C, made by this __init__ -/
structure InitC (K : PySem.W.Frag) (C D : Addr) : Prop where
  oex : OexC K C
  sub : mroIn K C (.ref D) = some true
  val : subIn K (.ref C) (.type "ValueError") = some true
  sup : ks_superIn K C D "__init__" = some (some (.builtin "ValueError.__init__"))
  clsC : ∃ cd, clsIn K C = some cd
theorem name_glob {X : Cx} {pins : List (Addr × Obj)} {σ : L2.St} {H : Hp} {s : Shared} {E : Value → Shared → Prop} {x : Str} {u : Value} {Q : Value → Shared → Prop} (I : Inv X pins σ H s) (hk : X.env.kindOf x = some .globalImplicit) (hm : X.mg x = none) (hv : bootBuiltins x = some u) (hn : x ≠ "__name__") (h : Q u s) :
    wpAny (model X.prog X.w) X.A (loadName X.env x) Q E s := by
  obtain ⟨mb, h1, h2⟩ := I.mod.blt
  refine ks_loadName_global I.ok.kind hk ?_
  exact Calls.loadGlobal_builtin (by rw [I.ok.glob]; exact I.mod.glob.keeps I.bk) hm (by rw [I.ok.blt]; exact h1.keeps I.bk) ((h2 x hn).trans hv) h
theorem mw_call {X : Cx} {pins : List (Addr × Obj)} {σ : L2.St} {H : Hp} {s : Shared} {C a u : Addr} {us : List Value} {Q : Flow → Shared → Prop} {E : Value → Shared → Prop} (I : Inv X pins σ H s) (T : OexC X.K C) (hH : H a = some (exo a C none)) (hu : s.heap.get? u = some (kxs_mw "ValueError.__init__" a)) (hl : us.length ≤ sizeLine)
    (hq : ∀ s', Inv X pins σ H s' → Q .next s') : wpAny (model X.prog X.w) X.A (call (.ref u) us) (fun _ => Q .next) E s := by
  obtain ⟨nm, q, N, bs, bm, sn, sub, ab, col, dd, k0, k1, k2, k3, k5, hC, hbm⟩ := T.cls
  obtain ⟨t1, he⟩ := exo_at I.hok hH
  have kin := I.kIn
  obtain ⟨hp, g, d, t, os⟩ := s
  refine wpAny_call (codeAny_of_tree ?_)
  show wpAny _ X.A.in1 (callAny (.ref u) ⟨us, []⟩) _ _ _
  simp only [callAny]
  refine wpAny_bind (wpAny_load hu ?_)
  simp only [kxs_mw, show (Value.type "method-wrapper" == Value.type "method" || Value.type "method-wrapper" == Value.type "builtin_function_or_method" || Value.type "method-wrapper" == Value.type "method-wrapper") = true by decide, if_true]
  refine KFB.if_so (by decide) ?_
  refine wpAny_bind (check_bound_init F.excBase_ValueError.toExcCallFacts (kin _ _ hC) he rfl ?_)
  refine wpAny_bind (wpAny_pure (wpAny_pure ?_))
  refine ⟨plainId_quiet F.excBase_ValueError.init.plain _, codeAny_builtin F.excBase_ValueError.initEntry ?_⟩
  refine exc_init_tree (cls := .ref C) (t0 := t1) (dv := none) (c2 := .none) (c3 := .none) (b4 := .bool false) he hl fun h' k e' _ => ?_
  have J := I.write (t' := t) (x := a) (e := a) (o := exo a C none) (by rw [hH]; exact True.intro) (.inl rfl) k ⟨_, e'⟩ (exo_ok e')
  have eu : upd H a (exo a C none) = H := by
    funext b
    by_cases hb : b = a
    · rw [hb, upd_same, hH]
    · rw [upd_ne hb]
  rw [eu] at J
  exact hq _ J
theorem super_init {X : Cx} {pins : List (Addr × Obj)} {σ : L2.St} {H : Hp} {s : Shared} {body : List Stmt} {f cda cc D C a : Addr} {fd : FuncData} {ar : Arg} {m : Str} {p0 p1 p2 p3 p4 p5 : Pos} {j : Nat} {Q : Flow → Shared → Prop} {E : Value → Shared → Prop} {i : Nat}
    (I : Inv X pins σ H s) (F : InitF X.K X.prog f cda cc D fd ar) (G : InitC X.K C D) (hf : X.env.func = some f) (hcda : X.env.code = .ref cda) (hcc : X.env.cells.lookup ("__class__" : Str) = some cc)
    (hks : X.env.kindOf "super" = some .globalImplicit) (hkc : X.env.kindOf "__class__" = some .free) (hka : X.env.kindOf ar.arg = some .local) (hms : X.mg "super" = none) (hN : X.N[i]? = some ar.arg) (hσ : σ[i]? = some (some (.ref a))) (hH : H a = some (exo a C none))
    {pl : Sem Bool} (he : eval (.Call (.Attribute (.Call (.Name "super" p0) [] [] p1) "__init__" p2) [.Constant (.str m) j p3] [] p4) X.env = (do
      let ov ← attributeBase (.Call (.Name "super" p0) [] [] p1) "__init__" X.env (eval (.Call (.Name "super" p0) [] [] p1) X.env)
      standAt p2.atName
      let (f, first) ← holding [ov] (getMethod ov "__init__" pl)
      callWith p4 f first (backTo p4 (starEach [.Constant (.str m) j p3] X.env)) []))
    (hq : ∀ s', Inv X pins σ H s' → Q .next s') :
    wpAt (model X.prog X.w) X.A (.func body X.env) (exec (.Expr (.Call (.Attribute (.Call (.Name "super" p0) [] [] p1) "__init__" p2) [.Constant (.str m) j p3] [] p4) p5) X.env) Q E s := by
  obtain ⟨oc, od, osl, hfn⟩ := F.fn
  obtain ⟨ccl, cdd, vs, ccs, file, tf, hcode, hvs, hfile⟩ := F.cd
  obtain ⟨cl, cld, csl, hcell⟩ := F.cell
  obtain ⟨cdD, hD⟩ := F.clsD
  obtain ⟨cdC, hC⟩ := G.clsC
  obtain ⟨t1, ha⟩ := exo_at I.hok hH
  have kin := I.kIn
  obtain ⟨oD, hD1, hD2⟩ : ∃ oD, s.heap.get? D = some oD ∧ oD.data = .cls cdD := by
    have hD := hD
    unfold clsIn at hD
    split at hD
    · rename_i c d cd' sl ho
      cases hD
      exact ⟨_, kin _ _ ho, rfl⟩
    · cases hD
  obtain ⟨u, ru, hu⟩ : ∃ u, L2.RelV (.ref a) u ∧ ∃ m0, s.heap.Ns X.env.locals m0 ∧ m0 ar.arg = some u := by
    obtain ⟨m0, hns, hl⟩ := I.loc
    obtain ⟨u, ru, lk⟩ := hl i ar.arg _ hN hσ (.inl hka)
    rcases lk with ⟨_, z⟩ | ⟨z, _⟩
    · exact ⟨u, ru, m0, hns, z⟩
    · rw [hka] at z
      rcases z with z | z <;> cases z
  obtain ⟨m0, hns, hm0⟩ := hu
  obtain rfl : u = Value.ref a := ru
  refine ks_wpAt_Expr_any (ks_wpAt_MethodCall (pl := pl) ?_ he) (by unfold interactive; rw [I.ok.kind]; rfl)
  refine ks_wpAt_super_base (env := X.env) hks hkc (by decide) hf (kin _ _ hfn) rfl F.hd hcda (kin _ _ hcode) rfl hvs hfile F.top ?_
  refine name_glob I hks hms (u := .type "super") PyProof.Rows.Boot.super (by decide) ⟨rfl, ?_⟩
  refine wpAny_loadName_free I.ok.kind hkc hcc ⟨_, kin _ _ hcell, rfl⟩ ?_
  refine wpAny_loadName_local I.ok.kind hka hns hm0 ?_
  refine ks_wpAny_isType_cls hD1 hD2 ⟨rfl, ?_⟩
  have IA : InstAt s.heap a { cls := .ref C, dict := none, data := .fields #[.ref t1, .none, .none, .none, .bool false, .none] } C none := ⟨ha, rfl, rfl, trivial⟩
  obtain ⟨hp, g, d, t, os⟩ := s
  refine ks_wpAny_call_super hD1 hD2 ha rfl (fun c e => by cases e) (looks_mroIn kin G.sub) (fun h' e k => ?_)
  have I' : Inv X pins σ H ⟨h', g, d, t, os⟩ := I.kept (t' := t) k
  have kin' := I'.kIn
  have ha' := k _ _ ha
  have IA' : InstAt h' a { cls := .ref C, dict := none, data := .fields #[.ref t1, .none, .none, .none, .bool false, .none] } C none := ⟨ha', rfl, rfl, trivial⟩
  have hsup := G.sup
  unfold ks_superIn at hsup
  rw [hC] at hsup
  refine kxs_getMethod (C := C) (l₀ := cdC.mro) kxs_ValueError e (looks_opaque kin' F.tp) (fun A Q E s k q => wpAny_bind ((looks_clsIn kin' hC) A _ E s k (wpAny_pure q))) rfl kin' hsup (IA'.type.andThen (looks_subIn kin' G.val)) (ks_ne kin' IA' hC) (by decide) ?_
  have k2 : ∀ b u, h'.get? b = some u → (h'.push (kxs_mw "ValueError.__init__" a)).get? b = some u := fun b o e => Heap.get?_push_of_some _ e
  have I2 : Inv X pins σ H ⟨h'.push (kxs_mw "ValueError.__init__" a), g, d, t + 1, os⟩ := I'.kept (t' := t + 1) k2
  have hmw : (h'.push (kxs_mw "ValueError.__init__" a)).get? h'.objs.size = some (kxs_mw "ValueError.__init__" a) := Heap.get?_push_at rfl rfl
  refine kxs_callWith (i := "ValueError.__init__") (x := a) rfl ?_
  refine Calls.evalArgs_plain (Calls.spliced_cons (Calls.Constant_str (pos := p3) (k := j) (Calls.spliced_nil ⟨hmw, ?_⟩)))
  have I3 := I2.tok (t + 1 + 1)
  have ha3 := k2 _ _ ha'
  refine mw_call I3 G.oex hH hmw (by simp [sizeLine_eq]) hq
end ME
end
/-! ME2 -/
section
set_option linter.all false
set_option maxRecDepth 100000
set_option maxHeartbeats 4000000
/-! The __init__ as a def with a promise. -/
namespace ME
open PySem PySem.W L2 NdefX
/-- what the __init__ of the class at D promises -/
def initSp (K : PySem.W.Frag) (D : Addr) : Sp := fun vs H Q _ => ∃ a C v, vs = [.ref a, v] ∧ InitC K C D ∧ PySem.W.findIn K (.ref C) "value" = some none ∧ H a = some (exo a C none) ∧
  ∀ dx, H dx = none → dx ≠ a → Q .non (upd (upd H dx (exd dx [("value", v)])) a (exo a C (some dx)))
abbrev iNames : List Str := ["self", "value", "__class__"]
/-- the text of the __init__ -/
structure InitT (body : List Stmt) : Prop where
  ex : ∃ (m : Str) (j : Nat) (p0 p1 p2 p3 p4 p5 q1 q2 q3 q4 : Pos) (pl : Sem Bool), body = [.Expr (.Call (.Attribute (.Call (.Name "super" p0) [] [] p1) "__init__" p2) [.Constant (.str m) j p3] [] p4) p5, .Assign [.Attribute (.Name "self" q1) "value" q2] (.Name "value" q3) q4] ∧
    (∀ env, eval (.Call (.Attribute (.Call (.Name "super" p0) [] [] p1) "__init__" p2) [.Constant (.str m) j p3] [] p4) env = (do
      let ov ← attributeBase (.Call (.Name "super" p0) [] [] p1) "__init__" env (eval (.Call (.Name "super" p0) [] [] p1) env)
      standAt p2.atName
      let (f, first) ← holding [ov] (getMethod ov "__init__" pl)
      callWith p4 f first (backTo p4 (starEach [.Constant (.str m) j p3] env)) [])) ∧
    ∀ env, swapsWith (.Name "value" q3) (some (.Attribute (.Name "self" q1) "value" q2)) q4.line env = pure false
theorem init_fn {CX : CXT} {P : Program} {w : World} {K : PySem.W.Frag} {mg : Str → Option Value} {base : Heap} {k : Nat} {name qual : Str} {params : Arguments} {body : List Stmt} {scope : Scope} {doc pm ct oc : Value} {od : Option Addr} {osl : Array (Option Value)} {f cda cc D : Addr} {ar : Arg}
    (hfd : K.lookup f = some ⟨oc, od, .func (fnX name qual params body scope [("__class__", cc)] .none .none doc pm none (.ref cda) ct), osl⟩) (hcd : PySem.W.codeIn K (.ref cda) qual = true)
    (F : InitF K P f cda cc D (fnX name qual params body scope [("__class__", cc)] .none .none doc pm none (.ref cda) ct) ar) (har : ar.arg = "self") (S : NScope iNames ["self", "value"] ["__class__"] scope) (hks : scope.names.lookup ("super" : Str) = some .globalImplicit) (hms : mg "super" = none) (T : InitT body) :
    FnOk P w K mg base CX (k + 1) f (fnX name qual params body scope [("__class__", cc)] .none .none doc pm none (.ref cda) ct) ["self", "value"] (initSp K D) := by
  refine ⟨fun vs H Q E h => ?_, fun A outer s H args us vs Q E hr e0 hb r hsp => ?_⟩
  · obtain ⟨a, C, v, rfl, _⟩ := h
    rfl
  obtain ⟨a, C, v, rfl, G, hno, hH, hq⟩ := hsp
  obtain ⟨m, j, p0, p1, p2, p3, p4, p5, q1, q2, q3, q4, pl, rfl, he, hsw⟩ := T.ex
  have lim : s.heap.NoLimit := e0.mod.nolimit.keeps fun b o e => (e0.bs b o e).1
  have kin : K.In s.heap := e0.mod.kin.keeps fun b o e => (e0.bs b o e).1
  let FF : NF := ⟨name, qual, params, [.Expr (.Call (.Attribute (.Call (.Name "super" p0) [] [] p1) "__init__" p2) [.Constant (.str m) j p3] [] p4) p5, .Assign [.Attribute (.Name "self" q1) "value" q2] (.Name "value" q3) q4], scope, [("__class__", cc)], cda⟩
  let X := ncx CX P w K mg base iNames FF f A outer s H E
  have hlk : (["self", "value"].zip us).length = us.length := by
    have := r.length
    simp only [List.length_cons, List.length_nil] at this
    simp [← this]
  refine ks_codeAny_call_defAt hr.depth (kin _ _ hfd) rfl lim (codeRec_of kin hcd) rfl hb S.nocell (fun x hx => S.par x.1 (List.of_mem_zip (show (x.1, x.2) ∈ (["self", "value"] : List Str).zip us from hx)).1) (fun h₁ hns kp => ?_) S.co S.gen S.kind
  obtain ⟨cl, cld, csl, hcell⟩ := F.cell
  have hbase : base.get? cc = some ⟨cl, cld, .cell (some (.ref D)), csl⟩ := e0.mod.kin _ _ hcell
  have I : Inv X [] (startF iNames [.ref a, v] [none]) H { s with heap := h₁, toks := s.toks + ((["self", "value"] : List Str).zip us).length } := by
    refine inv_startN S hr.hd e0 rfl r ⟨rfl, fun y c e => ?_, fun x y c e1 e2 => ?_, fun i y e => ?_⟩ hns kp
    · obtain ⟨rfl, rfl⟩ : y = "__class__" ∧ c = cc := by
        have := PySem.mem_of_lookup e
        simpa [FF] using this
      exact ⟨(e0.bs _ _ hbase).2, _, _, (e0.bs _ _ hbase).1, rfl⟩
    · have h1 := PySem.mem_of_lookup e1
      have h2 := PySem.mem_of_lookup e2
      simp [FF] at h1 h2
      rw [h1.1, h2.1]
    · match i, e with
      | 0, e =>
        cases e
        exact ⟨cc, rfl, fun v e => by cases e⟩
  refine ks_wpAt_execs_cons ?_
  refine ks_wpAt_mono (super_init (X := X) (i := 0) (a := a) (C := C) I F G rfl rfl rfl hks (S.frk _ (by simp)) (by rw [har]; exact S.par _ (by simp)) hms (by rw [har]; rfl) rfl hH (he _) (Q := fun fl s' => fl = .next ∧ Inv X [] (startF iNames [.ref a, v] [none]) H s') (E := fun _ _ => False) (fun s' J => ⟨rfl, J⟩)) (fun fl s' hs => ?_) (fun _ _ z => z.elim)
  obtain ⟨rfl, J⟩ := hs
  refine wpAt_of_wpAny ?_
  have one : PS X (.Assign [.Attribute (.Name "self" q1) "value" q2] (.Name "value" q3) q4) (tOst X.K "value" (tVar 0) (tVar 1)) := ps_ost (pe_var (i := 0) rfl (.inl (S.par _ (by simp)))) (pe_var (i := 1) rfl (.inl (S.par _ (by simp)))) (hsw _)
  have hfin : ∀ fl s'', SP X [] { nx := fun _ H' => Q .non H', rt := Q } fl s'' → CR CX outer P w H s Q E (.ok (.ret (match fl with | .ret v => v | _ => .none))) s'' := by
    intro fl s'' z
    cases fl with
    | ret u =>
      obtain ⟨v6, σ6, H6, S6, r6, q6⟩ := z
      exact ⟨v6, H6, S6.os, S6.bare, S6.base, S6.hok, r6, q6⟩
    | next =>
      obtain ⟨σ6, H6, S6, q6⟩ := z
      exact ⟨V.non, H6, S6.os, S6.bare, S6.base, S6.hok, (rfl : RelV V.non Value.none), q6⟩
    | brk =>
      obtain ⟨_, _, _, q⟩ := z
      exact False.elim q
    | cont =>
      obtain ⟨_, _, _, q⟩ := z
      exact False.elim q
  refine wpAny_mono ((pss_cons one pss_nil).run [] s' _ H { nx := fun _ H' => Q .non H', rt := Q } J ?_) hfin (fun _ _ z => z)
  exact ⟨v, rfl, .ref a, rfl, a, C, rfl, G.oex, hno, .inl ⟨hH, fun dx h1 h2 => hq dx h1 h2⟩⟩
end ME
end
/-! ME3 -/
section
set_option linter.all false
set_option maxRecDepth 100000
set_option maxHeartbeats 4000000
/-! A caught error kept as a value. -/
namespace ME
open PySem PySem.W L2 MI
theorem exv_ok {P : Program} {w : World} {H : Hp} {h : Heap} {a dd : Addr} {cls : Value} {oe : Obj} {vs : Array Value} (e : h.get? a = some oe) (z : Zc cls (some dd) oe) (d : oe.data = .fields vs) : ObjOk P w H h a (exv a cls dd) :=
  ⟨⟨oe, vs, e, z, d⟩, ⟨oe, e⟩, fun _ _ ⟨o, v, q, r⟩ k => ⟨o, v, k o q, r⟩⟩
theorem exv_at {P : Program} {w : World} {H : Hp} {h : Heap} {a dd : Addr} {cls : Value} (hok : HOk P w H h) (he : H a = some (exv a cls dd)) : ∃ (oe : Obj) (vs : Array Value), h.get? a = some oe ∧ Zc cls (some dd) oe ∧ oe.data = .fields vs := by
  have x : ObjOk P w H h a (.ext fun h => ∃ (oe : Obj) (vs : Array Value), h.get? a = some oe ∧ Zc cls (some dd) oe ∧ oe.data = .fields vs) := hok a _ he
  exact x.1
section
variable {X : Cx} {pins : List (Addr × Obj)} {σ : L2.St} {H : Hp} {s : Shared} {a dd : Addr} {cls : Value} {oe : Obj} {vs : Array Value}
theorem track (I : Inv X pins σ H s) (e : s.heap.get? a = some oe) (z : Zc cls (some dd) oe) (d : oe.data = .fields vs) (hn : H a = none) (hnew : X.s_0.heap.get? a = none) (nL : a ≠ X.env.locals) (np : ∀ p ∈ X.pn ++ pins, p.1 ≠ a) :
    Inv X pins σ (upd H a (exv a cls dd)) s := by
  have ne : ∀ {b : Addr} {o : HO}, H b = some o → b ≠ a := fun {b o} q z => by rw [z, hn] at q; cases q
  have nb : ∀ {b : Addr} {o : Obj}, X.s_0.heap.get? b = some o → b ≠ a := fun {b o} q z => by rw [z, hnew] at q; cases q
  refine ⟨I.ok, I.os, I.bare, ⟨I.base.keep, I.base.slot, fun b o q n hx => ?_, I.base.there, fun b xs q => ?_, fun b o v q => ?_, fun b ps q => ?_⟩, I.loc, I.cell, ?_, fun y c q => ?_, fun p hp => ?_, HOk.laidN I.hok (fun _ _ q => q) hn (exv_ok e z d), I.len⟩
  · rw [upd_ne (nb q)]; exact I.base.free b o q n hx
  · have := I.base.tups b xs q
    rw [upd_ne (ne this)]; exact this
  · have := I.base.frzs b o v q
    rw [upd_ne (ne this)]; exact this
  · obtain ⟨ps', h⟩ := I.base.tbls b ps q
    exact ⟨ps', by rw [upd_ne (ne h)]; exact h⟩
  · rw [upd_ne (Ne.symm nL)]; exact I.free
  · have nc : c ≠ a := fun q2 => by
      obtain ⟨v, o, ho, hd⟩ := I.cell y c q
      rw [q2, e] at ho
      cases ho
      rw [d] at hd
      cases hd
    rw [upd_ne nc]; exact I.freeC y c q
  · have h := I.pin p hp
    exact ⟨h.1, by rw [upd_ne (np p hp)]; exact h.2.1, h.2.2⟩
end
/-- what 'except x as n: m = n' wishes of an error of the body: slot i is n's, slot j m's -/
def wVal (K : PySem.W.Frag) (c : Value) (i j : Nat) (Wout : WX) (D : Ends) : WX := fun cls d σ H =>
  ∃ b, PySem.W.exmOne K cls c = some b ∧ (b = true → ∃ dd, d = some dd ∧ ∀ a, H a = none → D.nx (((σ.set i (some (.ref a))).set j (some (.ref a))).set i none) (upd H a (exv a cls dd))) ∧ (b = false → Wout cls d σ H)
section
variable {X : Cx} {x n m : Str} {c : Value} {i j : Nat} {body : List Stmt} {np np2 mp pos pos' pos2 : Pos} {tb : WX → TS} {Wout : WX}
theorem ps_try_val (hs : X.stack = X.env :: X.outer) (hex : X.ex = []) (hf : X.env.frame = some X.env.locals) (hN : X.N.Nodup) (hi : X.N[i]? = some n) (hln : X.env.kindOf n = some .local) (hj : X.N[j]? = some m) (hlm : X.env.kindOf m = some .local) (hc : Names X x c) (tk : Takes X Wout)
    (hb : ∀ (W : WX) (pn : List (Addr × Obj)) (xe : Value → Shared → Prop), Takes (X.tr pn xe) W → PassesOwn (model X.prog X.w) X.A X.env xe → PSs (X.tr pn xe) body (tb W))
    (hd : (n == ("__debug__" : Str)) = false) (hcd : (n == ("__classdict__" : Str)) = false) (hsw : swapsWith (.Name n np2) (some (.Name m mp)) pos2.line X.env = pure false) :
    PS X (.Try body [.ExceptHandler (some (.Name x np)) (some n) [.Assign [.Name m mp] (.Name n np2) pos2] pos'] [] [] pos) (fun D σ H => tb (wVal X.K c i j Wout D) D σ H) := by
  refine ⟨fun pins s σ H D I h => ?_⟩
  have ok := I.ok
  have hfr : X.A.frames = some (X.env :: X.outer) := by rw [ok.frames, hs]
  have hloc : Loc X.env.scope n := .inl hln
  refine wpAny_Try_except ?_
  refine wpAny_mono ((hb (wVal X.K c i j Wout D) (X.pn ++ pins) (fun e s₁ => wpAny (model X.prog X.w) X.A (noteFrame e X.env) (fun _ s₂ => wpAny (model X.prog X.w) X.A (setFlight e none) (fun _ s₃ =>
    wpAny (model X.prog X.w) X.A (handleBy e X.env [.ExceptHandler (some (.Name x np)) (some n) [.Assign [.Name m mp] (.Name n np2) pos2] pos']) (SP X pins D) X.xe s₃) X.xe s₂) X.xe s₁) (fun u s' xx => ?_) PassesOwn.looking).run [] s σ H D (I.toTry _) h) (fun f s1 hsp => ?_) (fun e s1 he => he)
  · obtain ⟨a, B, sI, pins', σ', H', cls, d, rfl, J', nb, up, sky, na, os, ag, b, hb1, hyes, hno⟩ := xx
    have J : Inv X pins σ' H' sI := J'.ofTry ok
    have sky' : Sky B (X.env :: X.outer) a (Zc cls d) X.env.locals s'.heap := by rw [← hs]; exact sky
    show wpAny (model X.prog X.w) X.A (noteFrame (.ref a) X.env) _ _ _
    refine Sky.land Zc.steady hfr hf sky' fun h3 fl3 up3 => ?_
    have J3 : Inv X pins σ' H' { s' with heap := h3 } := J.landed nb fl3.1 (up.trans up3) os ag
    obtain ⟨oe3, vs3, he3, hz3, hd3⟩ := fl3.there
    have notFr : ∀ {h : Heap} {o : Obj} {vs : Array Value}, h.FunFrames B (X.env :: X.outer) → h.get? a = some o → o.data = .fields vs → a ∉ frs (X.env :: X.outer) := fun {h o vs} ff e dd hm => by
      obtain ⟨_, o', e', hnf⟩ := ff.mem hm
      rw [e] at e'; cases e'
      exact hnf _ dd
    have nfr := notFr fl3.2.2.1 he3 hd3
    have nL : a ≠ X.env.locals := fun z => nfr (List.mem_filterMap.mpr ⟨X.env, List.mem_cons_self, by rw [hf, z]⟩)
    have nF : a ∉ X.fs := fun hm => by
      obtain ⟨e, he, q⟩ := List.mem_filterMap.mp hm
      exact nfr (List.mem_filterMap.mpr ⟨e, List.mem_cons_of_mem _ he, q⟩)
    have hBa : B.get? a = none := fl3.2.1
    have hex' : ∀ b o, sI.heap.get? b = some o → b ∉ frs X.stack → b ≠ a := fun b o e hb z => by
      have := nb b o e hb
      rw [z, hBa] at this; cases this
    have hnew : X.s_0.heap.get? a = none := by
      cases q : X.s_0.heap.get? a with
      | none => rfl
      | some o =>
        have hxa : a ∉ X.ex := fun hm => by rw [hex] at hm; cases hm
        obtain ⟨o', e1⟩ := J.base.there a o q hxa
        exact absurd rfl (hex' a o' e1 (by rw [hs]; exact nfr))
    have npin : ∀ p ∈ X.pn ++ pins, p.1 ≠ a := fun p hp z => by
      obtain ⟨h1, _, h3, h4, _⟩ := J.pin p hp
      refine hex' p.1 _ h1 (fun hm => ?_) z
      rw [hs] at hm
      obtain ⟨e, he, q⟩ := List.mem_filterMap.mp hm
      rcases List.mem_cons.mp he with rfl | he
      · rw [hf] at q
        exact h3 (Option.some.inj q).symm
      · exact h4 (List.mem_filterMap.mpr ⟨e, he, q⟩)
    refine wpAny_handleBy_cons (codeAny_handlers_test ?_) (by intro q; cases q)
    have S3 := J3.suite he3 hd3 na nL nF
    have LT : PySem.W.Looks (model X.prog X.w) h3 (typeOf (.ref a)) cls := fun A Q E s k q => wpAny_typeOf_ref (k _ _ he3) (by rw [hz3.1]; exact q)
    have LM := PySem.W.exm_one (M := model X.prog X.w) (J3.kIn) LT hb1
    have test : ∀ {Q : Value → Shared → Prop} {E : Value → Shared → Prop}, Q c { s' with heap := h3 } → wpAny (model X.prog X.w) (X.A.mark (some (.ref a))) (eval (.Name x np) X.env) Q E { s' with heap := h3 } := fun {Q E} q => by
      obtain ⟨hg, hdbg, hm | ⟨hm, hv, hnn⟩⟩ := hc
      · exact ld_glob (X := X.suite a ((a, oe3) :: (X.pn ++ pins))) S3 hg hm q hdbg
      · exact ld_blt (X := X.suite a ((a, oe3) :: (X.pn ++ pins))) S3 hg hm hv q hnn hdbg
    refine test (LM.here ?_)
    cases b with
    | true =>
      obtain ⟨dd, rfl, hgo⟩ := hyes rfl
      have hgo := hgo a na
      refine codeAny_handlers_suite_as ?_
      refine HandSPX.lands_againZ fl3 fun h4 fl4 up4 => ?_
      have J4 : Inv X pins σ' H' { s' with heap := h4 } := J.landed nb fl4.1 ((up.trans up3).trans up4) os ag
      obtain ⟨oe4, vs4, he4, hz4, hd4⟩ := fl4.there
      have S4 := J4.suite he4 hd4 na nL nF
      refine store_ok (X := X.suite a ((a, oe4) :: (X.pn ++ pins))) (v := .ref a) S4 hN hi hloc rfl (fun s5 S5 => ?_) (.inr hln)
      have hlen : i < σ'.length := by
        rw [J.len]
        by_cases hz : i < X.N.length
        · exact hz
        · rw [List.getElem?_eq_none (by omega)] at hi; cases hi
      have one : PS (X.suite a ((a, oe4) :: (X.pn ++ pins))) (.Assign [.Name m mp] (.Name n np2) pos2) (tAsg (tVar i) (gName j)) :=
        ps_set (X := X.suite a ((a, oe4) :: (X.pn ++ pins))) hN hj (.inl hlm) (pe_var (X := X.suite a ((a, oe4) :: (X.pn ++ pins))) hi (.inl hln) hd hcd) hsw (.inr hlm)
      refine wpAny_mono ((pss_cons one pss_nil).run [] s5 _ H' { nx := fun σ6 H6 => σ6 = (σ'.set i (some (.ref a))).set j (some (.ref a)) ∧ H6 = H', rt := fun _ _ => False } S5 ⟨.ref a, by rw [List.getElem?_set_self hlen], rfl, rfl⟩) (fun f s6 hsp => ?_) (fun _ _ z => False.elim z)
      cases f with
      | next =>
        obtain ⟨σ6, H6, S6, rfl, rfl⟩ := hsp
        have hp6 := S6.pin (a, oe4) (List.mem_append_left _ List.mem_cons_self)
        have S7 := track (S6.unsuite ok) hp6.1 hz4 hd4 na hnew nL npin
        exact gone_ok S7 hN hi hln fun s7 J7 => ⟨_, _, J7, hgo⟩
      | brk =>
        obtain ⟨_, _, _, q⟩ := hsp
        exact False.elim q
      | cont =>
        obtain ⟨_, _, _, q⟩ := hsp
        exact False.elim q
      | ret u =>
        obtain ⟨_, _, _, _, _, q⟩ := hsp
        exact False.elim q
    | false =>
      show wpAny _ X.A (handleBy (.ref a) X.env []) _ _ _
      refine wpAny_handleBy_nil ?_
      obtain ⟨k1, k2, k3, oe, vs, T, oT, ts', he, hz, hd, h1, hr⟩ := id fl3
      unfold PySem.passOn
      refine wpAny_bind (wpAny_field he hd h1 ?_)
      rw [if_neg (show ¬ ((Value.ref T == Value.none) = true) from by simp)]
      have fin : wpAny (model X.prog X.w) X.A (setFlight (.ref a) X.env.frame) (fun _ s4 => wpAny (model X.prog X.w) X.A (throw (.ref a) : Sem Flow) (SP X pins D) X.xe s4) X.xe { s' with heap := h3 } := by
        rw [hf]
        refine HandSPX.setFlight_upZ fl3 fun h4 hh4 up4 => wpAny_throw (tk _ _ ?_)
        exact ⟨a, B, sI, pins, σ', H', cls, d, rfl, J, nb, (up.trans up3).trans up4, .inr (.inr (by rw [hs]; exact hh4)), na, os, ag, hno rfl⟩
      first
        | exact wpAny_bind (wpAny_pure (wpAny_bind fin))
        | exact wpAny_bind fin
  · cases f with
    | next =>
      obtain ⟨σ', H', J', q⟩ := hsp
      exact wpAny_execs_nil ⟨σ', H', J'.ofTry ok, q⟩
    | brk =>
      obtain ⟨σ', H', J', q⟩ := hsp
      exact ⟨σ', H', J'.ofTry ok, q⟩
    | cont =>
      obtain ⟨σ', H', J', q⟩ := hsp
      exact ⟨σ', H', J'.ofTry ok, q⟩
    | ret u =>
      obtain ⟨v, σ', H', J', r, q⟩ := hsp
      exact ⟨v, σ', H', J'.ofTry ok, r, q⟩
end
end ME
end
/-! ME4 -/
section
set_option linter.all false
set_option maxRecDepth 100000
set_option maxHeartbeats 4000000
/-! Errors as values of MI: the rules. -/
namespace ME
open PySem PySem.W L2 MI
/-- what is known of a class of errors at C -/
structure ClsF (K : PySem.W.Frag) (fI D C : Addr) : Prop where
  ini : InitC K C D
  iC : PySem.W.findIn K (.ref C) "__init__" = some (some (.ref fI))
  vl : PySem.W.findIn K (.ref C) "value" = some none
  xf : XfC K C
  cl : (PySem.W.clsIn K C).isSome = true
  ca : PySem.W.findIn K (.ref C) "__class__" = some (some (.builtin "object.__class__"))
  sp : PySem.W.specialIn K (.builtin "object.__class__") "__get__" = some (some (.builtin "getset_descriptor.__get__"))
  tk : PySem.W.takesIn K (.builtin "object.__class__") = some true
  ob : PySem.W.mroIn K C (.type "object") = some true
  non : PySem.W.kitOne K (.type "NoneType") (.ref C) = some false
structure InitOk (P : Program) (w : World) (K : PySem.W.Frag) (mg : Str → Option Value) (base : Heap) (cx : CXT) (fI D : Addr) (fd : FuncData) : Prop where
  ty : PySem.W.typeIn K (.ref fI) = some (.type "function")
  F1 : FnOk P w K mg base cx 1 fI fd ["self", "value"] (initSp K D)
  bd : Binds K fd ["self", "value"] []
abbrev ca (W : Wd) (c : Nat) : Addr := W.Fn (clsB + c)
structure ErrOk (cls : List (Str × Nat)) (W : Wd) (cx : CXT) (P : Program) (w : World) (K : PySem.W.Frag) (mg : Str → Option Value) (base : Heap) : Prop where
  ini : ∃ fI D fd, InitOk P w K mg base cx fI D fd ∧ ∀ p ∈ cls, ClsF K fI D (ca W p.2)
  nm : ∀ p ∈ cls, mg p.1 = some (.ref (ca W p.2))
  kit : ∀ p ∈ cls, ∀ q ∈ cls, PySem.W.kitOne K (.ref (ca W p.2)) (.ref (ca W q.2)) = some (subC p.2 q.2)
  exm : ∀ p ∈ cls, ∀ q ∈ cls, q.2 = 0 → PySem.W.exmOne K (.ref (ca W p.2)) (.ref (ca W q.2)) = some true
theorem ErrOk.to {cls : List (Str × Nat)} {W W' : Wd} {cx : CXT} {P : Program} {w : World} {K : PySem.W.Frag} {mg : Str → Option Value} {base : Heap} (h : ErrOk cls W cx P w K mg base) (e : W'.Fn = W.Fn) : ErrOk cls W' cx P w K mg base := by
  have e2 : ∀ c, ca W' c = ca W c := fun c => by show W'.Fn _ = W.Fn _; rw [e]
  refine ⟨?_, fun p m => by rw [e2]; exact h.nm p m, fun p m q n => by rw [e2, e2]; exact h.kit p m q n, fun p m q n => by rw [e2, e2]; exact h.exm p m q n⟩
  obtain ⟨fI, D, fd, h1, h2⟩ := h.ini
  exact ⟨fI, D, fd, h1, fun p m => by rw [e2]; exact h2 p m⟩
section
variable {X : Cx} {W : Wd} {x : XW} {a : Expr} {pos : Pos} {ma : Ev → M D} {cls : List (Str × Nat)} {cx : CXT} {cs : List Nat}
/-- e.value of an error that is kept -/
theorem s_val (hE : ErrOk cls W cx X.prog X.w X.K X.mg X.base) (hcs : ∀ c ∈ cs, ∃ y, (y, c) ∈ cls) (ha : PE X a (tE W x ma)) (hb : attributeBase a "value" X.env (eval a X.env) = eval a X.env) :
    PE X (.Attribute a "value" pos) (tE W x fun v => ma v >>= fun d => op (valD cs d)) := by
  refine ⟨fun pins s σ H Q I h => ?_⟩
  obtain ⟨W', iw, ρ, η, env, sim, er, h⟩ := h
  obtain ⟨fI, D0, fd, _, hc⟩ := (hE.to iw.2).ini
  refine attr_of hb (thn (ha.run pins s σ H (fun v H1 => ∃ a q dd z, v = .ref a ∧ (∃ y, (y, q) ∈ cls) ∧ H1 a = some (exv a (.ref (ca W' q)) dd) ∧ H1 dd = some (vxd z) ∧ Q z H1) I ⟨W', iw, ρ, η, env, sim, er, h.bind.mono fun d η1 ρ1 H1 e1 s1 h1 v rv => ?_⟩) fun u s1 hh => ?_)
  · obtain ⟨z, hz, w⟩ := h1.op
    cases d with
    | err q d =>
      simp only [valD] at hz
      split at hz
      · rename_i hq
        obtain rfl : z = d := (Option.some.inj hz).symm
        obtain ⟨a, dd, z, e, ⟨h1, n1⟩, ⟨h2, n2⟩, r⟩ := (show ∃ a dd x, v = .ref a ∧ (H1 a = some (exv a (.ref (W'.Fn (clsB + q))) dd) ∧ Fr W' ρ1 a) ∧ (H1 dd = some (vxd x) ∧ Fr W' ρ1 dd) ∧ Rep W' ρ1 H1 _ x from rv)
        exact ⟨a, q, dd, z, e, hcs q (by simpa using hq), h1, h2, w ρ1 H1 .refl s1 z r⟩
      · cases hz
    | _ => simp [valD] at hz
  · obtain ⟨v, H1, I1, rx, a, q, dd, z, ex, ⟨y, hy⟩, ea, ed, qq⟩ := hh
    subst ex
    obtain rfl : u = Value.ref a := rx
    have T := hc _ hy
    obtain ⟨oe, vs, hoe, hz, hd⟩ := exv_at I1.hok ea
    have hx : ObjOk X.prog X.w H1 s1.heap dd (.xd [("value", z)]) := I1.hok dd _ ed
    obtain ⟨mA, hns, hr⟩ := hx
    obtain ⟨od, ho, hl⟩ := lookIn_ns hns
    obtain ⟨u, hu, ru⟩ := RelO.some_of (v := z) (o := mA "value") (hr "value")
    have J : PySem.W.InstAt s1.heap a oe (ca W' q) (some od) := ⟨hoe, hz.1, by unfold PySem.W.notCls; rw [hd] <;> rfl, by rw [hz.2]; exact ho⟩
    exact HandSPX.exc_get I1.kIn J T.xf.ga T.xf.gg T.xf.exC (PySem.W.findObj_own T.xf.hdC T.vl rfl (by rw [hl, hu])) (handed_of ru) ⟨z, H1, I1.tok _, ru, qq⟩
/-- isinstance(e, C): e an error or None -/
def rIsC (W : Wd) (c : Nat) (cs : List Nat) : List V → Hp → VK → Prop := fun xs H Q => ∃ ρ d v b, xs = [v, .ref (ca W c)] ∧ Rep W ρ H d v ∧ iscD c cs d = some (.bl b) ∧ Q (.bl b) H
theorem cr_isC {c : Nat} {y0 : Str} (hE : ErrOk cls W cx X.prog X.w X.K X.mg X.base) (hcs : ∀ c ∈ cs, ∃ y, (y, c) ∈ cls) (hc : (y0, c) ∈ cls) : CallR X (.builtin "isinstance") (rIsC W c cs) := by
  intro pins s σ H xs us Q I r h
  obtain ⟨ρ, d, v, b, rfl, rd, hz, q⟩ := h
  obtain ⟨fI, D0, fd, _, hcf⟩ := hE.ini
  cases r with
  | cons rx rr =>
    cases rr with
    | cons rt rr =>
      cases rr
      cases rt
      cases d with
      | non =>
        cases hz
        have e : v = .non := rd
        subst e
        cases rx
        exact PySem.W.kia_one PySem.W.kitx_none I.kIn trivial (hcf _ hc).non (fun z => nomatch z) fun tk => ⟨.bl _, H, I.kept (t' := tk) fun _ _ z => z, rfl, q⟩
      | err p d =>
        simp only [iscD] at hz
        split at hz
        · rename_i hp
          cases hz
          obtain ⟨yp, hyp⟩ := hcs p (by simpa using hp)
          obtain ⟨a, dd, z, e, ⟨h1, n1⟩, ⟨h2, n2⟩, r⟩ := (show ∃ a dd x, v = .ref a ∧ (H a = some (exv a (.ref (W.Fn (clsB + p))) dd) ∧ Fr W ρ a) ∧ (H dd = some (vxd x) ∧ Fr W ρ dd) ∧ Rep W ρ H d x from rd)
          subst e
          cases rx
          have T := hcf _ hyp
          obtain ⟨oe, vs, hoe, hz, hd⟩ := exv_at I.hok h1
          have hx : ObjOk X.prog X.w H s.heap dd (.xd [("value", z)]) := I.hok dd _ h2
          obtain ⟨mA, hns, hr⟩ := hx
          obtain ⟨od, ho, hl⟩ := lookIn_ns hns
          have J : PySem.W.InstAt s.heap a oe (ca W p) (some od) := ⟨hoe, hz.1, by unfold PySem.W.notCls; rw [hd] <;> rfl, by rw [hz.2]; exact ho⟩
          exact PySem.W.kia_one (PySem.W.kitx_exc T.cl T.xf.ga T.xf.gg T.xf.exC T.ca T.sp T.tk T.ob) I.kIn J (hE.kit _ hyp _ hc) (fun z => nomatch z) fun tk => ⟨.bl _, H, I.kept (t' := tk) fun _ _ z => z, rfl, q⟩
        · cases hz
      | _ => simp [iscD] at hz
theorem s_isc {c : Nat} {p pt : Pos} {tn : Str} (hE : ErrOk cls W cx X.prog X.w X.K X.mg X.base) (hcs : ∀ c ∈ cs, ∃ y, (y, c) ∈ cls) (hc : (tn, c) ∈ cls) (hgl : Gl X "isinstance") (hm : X.mg "isinstance" = none) (hgt : Gl X tn) (hd : (tn == ("__debug__" : Str)) = false)
    (ha : PE X a (tE W x ma)) (hna : starEach [a, .Name tn pt] X.env = (false, eval a X.env) :: starEach [.Name tn pt] X.env) :
    PE X (.Call (.Name "isinstance" p) [a, .Name tn pt] [] pos) (tE W x fun v => ma v >>= fun d => op (iscD c cs d)) := by
  have hcr : CallR X (.builtin "isinstance") (fun xs H Q => ∃ W', InW W W' ∧ rIsC W' c cs xs H Q) := by
    intro pins s σ H xs us Q I r ⟨W', iw, q⟩
    exact cr_isC (hE.to iw.2) hcs hc pins s σ H xs us Q I r q
  have hty : PE X (.Name tn pt) (tC (.ref (ca W c))) := pe_glob hgt (hE.nm _ hc) rfl hd
  have fin : PE X (.Call (.Name "isinstance" p) [a, .Name tn pt] [] pos) (tCB (fun xs H Q => ∃ W', InW W W' ∧ rIsC W' c cs xs H Q) (tCons (tE W x ma) (tCons (tC (.ref (ca W c))) tNil))) :=
    pe_callB hcr hgl hm (by decide +kernel) (pa_cons ha (pa_cons hty pa_nil) hna) (by decide) (by decide) hna rfl
  refine pe_mono fin fun σ H Q _ h => ?_
  obtain ⟨W', iw, ρ, η, env, sim, er, h⟩ := h
  refine ⟨W', iw, ρ, η, env, sim, er, h.bind.mono fun d η1 ρ1 H1 e1 s1 h1 v rv => ?_⟩
  obtain ⟨z, hz, w⟩ := h1.op
  have e2 : ca W c = ca W' c := by show W.Fn _ = W'.Fn _; rw [iw.2]
  obtain ⟨b, rfl⟩ : ∃ b, z = .bl b := by
    cases d <;> simp only [iscD] at hz
    · exact ⟨_, (Option.some.inj hz).symm⟩
    all_goals first | (cases hz; done) | (split at hz <;> cases hz <;> exact ⟨_, rfl⟩)
  exact ⟨W', iw, ρ1, d, v, b, by rw [e2], rv, hz, w ρ1 H1 .refl s1 _ rfl⟩
end
end ME
end
/-! MIn -/
section
set_option linter.all false
set_option maxRecDepth 100000
set_option maxHeartbeats 4000000
/-! What a body may count on; calls as steps. -/
namespace MI
open PySem L2

/-- errors: the def's own way out -/
def xK (E : XK) : XW := fun W c d _ ρ H => ∀ v dd, Rep W ρ H d v → H dd = some (vxd v) → E (.ref (W.Fn (clsB + c))) (some dd) H
structure Tab where
  glob : List (Str × D)
  fns : List (Str × Nat × Nat)
  bn : List Str
  kw : List (Nat × List Str × List Nat)
  cls : List (Str × Nat) := []
structure Cn where
  T : Tab
  N : List Str
  sc : Scope
  fn : Str → Bool
def spF (W₀ : Wd) (m : List D → M D) : Sp := fun vs H Q E => ∃ W, InW W₀ W ∧ ∃ ρ η ds, Sim W ρ η H ∧ Reps W ρ H ds vs ∧ Post W (xK E) (m ds η) ρ H (kkV W Q)
/-- a def of the table: its object, its promise, its binding -/
structure Pro (T : Tab) (W : Wd) (call : Nat → List D → M D) (k : Nat) (cx : CXT) (P : Program) (w : World) (K : PySem.W.Frag) (mg : Str → Option Value) (base : Heap) (f : Nat) (fd : FuncData) (ps : List Str) : Prop where
  G : FnG P w K mg base cx k (W.Fn f) fd ps (spF W (call f))
  kp : PySem.W.keepIn K (.ref (W.Fn f)) = true
  bd : BindF fd ps ps.length [] (List.range ps.length)
  kw : ∀ ks p, (f, ks, p) ∈ T.kw → BindF fd ps 0 ks p
  num : ∀ ds η, ds.length ≠ ps.length → call f ds η = .no
structure XOk (c : Cn) (W : Wd) (call : Nat → List D → M D) (k : Nat) (cx : CXT) (E : XK) (X : Cx) : Prop where
  hK : W.K = X.K
  hN : X.N = c.N
  nd : c.N.Nodup
  sc : X.env.scope = c.sc
  calm : X.calm = true
  room : Room k X.A
  hg : X.A.guards = some []
  own : PassesOwn (model X.prog X.w) X.A X.env X.xe
  fnl : ∀ y, c.fn y = true → X.fn y = true
  glob : ∀ p ∈ c.T.glob, ∃ u v, X.mg p.1 = some u ∧ RelV v u ∧ ∀ W' ρ H, InW W W' → Rep W' ρ H p.2 v
  bn : ∀ y ∈ c.T.bn, X.mg y = none
  fns : ∀ p ∈ c.T.fns, X.mg p.1 = some (.ref (W.Fn p.2.1))
  prom : ∀ p ∈ c.T.fns, ∃ fd ps, ps.length = p.2.2 ∧ Pro c.T W call k cx X.prog X.w X.K X.mg X.base p.2.1 fd ps
  hx : Passes cx X E
  hF : ∀ o H s e s', cx o H s (fun _ _ _ => False) e s' → False
  hcx : cx = L2.CX X.prog X.w
  two : 2 ≤ k
  errs : c.T.cls ≠ [] → ME.ErrOk c.T.cls W cx X.prog X.w X.K X.mg X.base
/-- what a def's own body counts on besides -/
structure TopOk (X : Cx) (E : XK) : Prop where
  stk : X.stack = X.env :: X.outer
  frm : X.env.frame = some X.env.locals
  ex : X.ex = []
  tk : Takes X (fun cls d _ H => E cls d H)
section
variable {c : Cn} {W : Wd} {call : Nat → List D → M D} {k : Nat} {cx : CXT} {E : XK} {X : Cx} {e : Expr} {es : List Expr} {pos p : Pos} {y : Str}
theorem pick_range {α : Type} (z : α) (l : List α) : pick z l (List.range l.length) = l := by
  unfold pick
  refine List.ext_getElem (by simp) fun i h1 h2 => ?_
  simp [List.getD_eq_getElem?_getD, List.getElem?_eq_getElem h2]
theorem post_no {α : Type} {W : Wd} {x : XW} {r : R α} {ρ : List Addr} {H : Hp} {q : α → List C → List Addr → Hp → Prop} (h : Post W x r ρ H q) (e : r = .no) : False := by
  subst e
  exact h
theorem reps_pick {W : Wd} {ρ : List Addr} {H : Hp} {ds : List D} {vs : List V} (r : Reps W ρ H ds vs) (p : List Nat) : Reps W ρ H (p.map fun i => ds.getD i .non) (pick .non vs p) := by
  induction p with
  | nil => exact Reps.nil
  | cons i p ih =>
    refine Reps.cons ?_ ih
    show Rep W ρ H (ds.getD i .non) (vs.getD i .non)
    rw [List.getD_eq_getElem?_getD, List.getD_eq_getElem?_getD]
    by_cases hi : i < ds.length
    · have e : ds[i]? = some ds[i] := List.getElem?_eq_getElem hi
      obtain ⟨u, hu, rr⟩ := r.get e
      rw [e, hu]
      exact rr
    · rw [List.getElem?_eq_none (by omega), List.getElem?_eq_none (by rw [r.len]; omega)]
      rfl
theorem s_call (O : XOk c W call k cx E X) {f : Nat} {ms : Ev → M (List D)} (hf : (y, f, (e :: es).length) ∈ c.T.fns) (hgl : Gl X y) (hd : (y == ("__debug__" : Str)) = false) (ha : PA X (e :: es) (tEs W (xK E) ms))
    (he : starEach (e :: es) X.env = (false, eval e X.env) :: starEach es X.env) (hpl : (backTo pos (starEach es X.env)).any (·.1) = false) :
    PE X (.Call (.Name y p) (e :: es) [] pos) (tE W (xK E) fun v => ms v >>= fun xs => call f xs) := by
  obtain ⟨fd, ps, hl, P⟩ := O.prom _ hf
  have hl : ps.length = (e :: es).length := hl
  have hb := P.bd
  rw [hl] at hb
  refine pe_mono (pe_callG P.G O.room O.hg hgl (O.fns _ hf) P.kp hb O.hx ha hd he hpl) fun σ H Q _ h => ?_
  obtain ⟨W', iw, ρ, η, env, sim, er, h⟩ := h
  refine ⟨W', iw, ρ, η, env, sim, er, h.bind.mono fun ds η1 ρ1 H1 e1 s1 h1 vs rs => ?_⟩
  by_cases hn : ds.length = ps.length
  · have e0 : vs.length = (e :: es).length := by rw [rs.len, hn, hl]
    refine ⟨e0, ?_⟩
    rw [← e0, pick_range]
    exact ⟨W', iw, ρ1, η1, ds, s1, rs, h1⟩
  · exact (post_no h1 (P.num _ _ hn)).elim
theorem s_call0 (O : XOk c W call k cx E X) {f : Nat} {ms : Ev → M (List D)} (hf : (y, f, 0) ∈ c.T.fns) (hgl : Gl X y) (hd : (y == ("__debug__" : Str)) = false) (ha : ∀ v, ms v = pure []) :
    PE X (.Call (.Name y p) [] [] pos) (tE W (xK E) fun v => ms v >>= fun xs => call f xs) := by
  obtain ⟨fd, ps, hl, P⟩ := O.prom _ hf
  have hl : ps.length = 0 := hl
  have hb := P.bd
  rw [hl] at hb
  refine pe_mono (pe_callG0 P.G O.room O.hg hgl (O.fns _ hf) P.kp hb O.hx hd) fun σ H Q _ h => ?_
  obtain ⟨W', iw, ρ, η, env, sim, er, h⟩ := h
  have h : Post W' (xK E) ((ms env >>= fun xs => call f xs) η) ρ H (kkV W' Q) := h
  rw [ha] at h
  exact ⟨rfl, W', iw, ρ, η, [], sim, Reps.nil, h⟩
/-- the call of what a slot holds -/
def cvM (call : Nat → List D → M D) (fs : List Nat) (ms : Ev → M (List D)) (v : Ev) (o : Option D) : M D := match o with
  | some (.fn f) => if f ∈ fs then (ms v >>= fun xs => call f xs) else no
  | _ => no
theorem cvM_post {W : Wd} {x : XW} {fs : List Nat} {ms : Ev → M (List D)} {v : Ev} {o : Option D} {η : List C} {ρ : List Addr} {H : Hp} {q : D → List C → List Addr → Hp → Prop} (h : Post W x (cvM call fs ms v o η) ρ H q) :
    ∃ f, o = some (.fn f) ∧ f ∈ fs ∧ Post W x ((ms v >>= fun xs => call f xs) η) ρ H q := by
  unfold cvM at h
  split at h
  · rename_i f
    split at h
    · rename_i hm
      exact ⟨f, rfl, hm, h⟩
    · exact h.elim
  · exact h.elim
theorem s_callv (O : XOk c W call k cx E X) {i : Nat} {fs : List Nat} {ms : Ev → M (List D)} (hf : ∀ f ∈ fs, ∃ y', (y', f, (e :: es).length) ∈ c.T.fns) (hN : X.N[i]? = some y) (hv : Vis X.env.scope y) (hd : (y == ("__debug__" : Str)) = false) (hc : (y == ("__classdict__" : Str)) = false) (ha : PA X (e :: es) (tEs W (xK E) ms))
    (he : starEach (e :: es) X.env = (false, eval e X.env) :: starEach es X.env) (hpl : (backTo pos (starEach es X.env)).any (·.1) = false) :
    PE X (.Call (.Name y p) (e :: es) [] pos) (tE W (xK E) fun v => cvM call fs ms v (v.getD i none)) := by
  refine ⟨fun pins s σ H Q I h => ?_⟩
  obtain ⟨W', iw, ρ, η, env, sim, er, h⟩ := h
  obtain ⟨f, hfv, hmem, h⟩ := cvM_post h
  obtain ⟨y', hy'⟩ := hf f hmem
  obtain ⟨fd, ps, hl, P⟩ := O.prom _ hy'
  have hl : ps.length = (e :: es).length := hl
  have hb := P.bd
  rw [hl] at hb
  obtain ⟨v, h1, h2⟩ := er.2 i _ (getD_some hfv)
  have ev : v = .ref (W'.Fn f) := h2
  rw [iw.2] at ev
  subst ev
  refine (pe_callGV P.G O.room O.hg hN hv P.kp hb O.hx ha hd hc he hpl).run pins s σ H Q I ⟨h1, ?_⟩
  refine ⟨W', iw, ρ, η, env, sim, er, h.bind.mono fun ds η1 ρ1 H1 e1 s1 h1 vs rs => ?_⟩
  by_cases hn : ds.length = ps.length
  · have e0 : vs.length = (e :: es).length := by rw [rs.len, hn, hl]
    refine ⟨e0, ?_⟩
    rw [← e0, pick_range]
    exact ⟨W', iw, ρ1, η1, ds, s1, rs, h1⟩
  · exact (post_no h1 (P.num _ _ hn)).elim
theorem s_callk (O : XOk c W call k cx E X) {f np : Nat} {ks : List Str} {kp : List Nat} {kws : List Keyword} {ms : Ev → M (List D)} (hf : (y, f, np) ∈ c.T.fns) (hkw : (f, ks, kp) ∈ c.T.kw) (hgl : Gl X y) (hd : (y == ("__debug__" : Str)) = false) (ha : PK X kws (tEs W (xK E) ms))
    (hall : (backToKw pos (keywordEach kws X.env)).all (·.1.isSome) = true) (hks : (backToKw pos (keywordEach kws X.env)).filterMap (·.1) = ks)
    (hpl : ((backTo pos (starEach [] X.env)).any (·.1) || (backToKw pos (keywordEach kws X.env)).any (·.1.isNone)) = false) :
    PE X (.Call (.Name y p) [] kws pos) (tE W (xK E) fun v => ms v >>= fun xs => guardM (decide (xs.length = ks.length)) >>= fun _ => call f (kp.map fun i => xs.getD i .non)) := by
  obtain ⟨fd, ps, hl, P⟩ := O.prom _ hf
  refine pe_mono (pe_callGK P.G O.room O.hg hgl (O.fns _ hf) P.kp (P.kw ks kp hkw) O.hx ha hall hks hd hpl) fun σ H Q _ h => ?_
  obtain ⟨W', iw, ρ, η, env, sim, er, h⟩ := h
  refine ⟨W', iw, ρ, η, env, sim, er, h.bind.mono fun ds η1 ρ1 H1 e1 s1 h1 vs rs => ?_⟩
  by_cases hn : ds.length = ks.length
  · rw [decide_eq_true hn, guardM_true] at h1
    exact ⟨by rw [rs.len, hn], W', iw, ρ1, η1, _, s1, reps_pick rs kp, h1⟩
  · rw [decide_eq_false hn, guardM_false, no_bind] at h1
    exact h1.elim
end
end MI
end
/-! MIo -/
section
set_option linter.all false
set_option maxRecDepth 100000
set_option maxHeartbeats 4000000
/-! The checker: a tree of MI against a tree of the text. -/
namespace MI
open PySem L2

def noStar : Expr → Bool
  | .Starred _ _ => false
  | _ => true
theorem star_cons {e : Expr} (h : noStar e = true) (es : List Expr) (env : Env) : starEach (e :: es) env = (false, eval e env) :: starEach es env := by
  cases e <;> first | rfl | cases h
theorem star_any {pos : Pos} {env : Env} : ∀ {es : List Expr}, es.all noStar = true → (backTo pos (starEach es env)).any (·.1) = false
  | [], _ => rfl
  | e :: es, h => by
    simp only [List.all_cons, Bool.and_eq_true] at h
    rw [star_cons h.1]
    show (false || (backTo pos (starEach es env)).any (·.1)) = false
    rw [star_any h.2]
    rfl
def noSet : Expr → Bool
  | .Set _ _ _ => false
  | _ => true
theorem behind_no {o : CmpOp} {e : Expr} (h : noSet e = true) : behindInMarks o e = false := by
  cases e <;> first | rfl | cases h
theorem folded_no {e : Expr} (h : noSet e = true) (env : Env) (x : Value) : foldedSetIterable e env x = pure x := by
  cases e <;> first | rfl | cases h
def noSlice : Expr → Bool
  | .Slice _ _ _ _ => false
  | _ => true
theorem plainIx {e : Expr} (h : noSlice e = true) : PlainIx e := by
  intro o i
  cases e <;> first | rfl | cases h
/-- no test of its own form -/
def plainT : Expr → Bool
  | .UnaryOp .Not _ _ => false
  | .BoolOp _ _ _ => false
  | .IfExp _ _ _ _ => false
  | .Compare _ _ _ _ => false
  | _ => true
theorem isTrue_no {e : Expr} (h : plainT e = true) (env : Env) (whole : Sem Value) : isTrue e env whole = (do let v ← whole; standAt e.pos; holding [v] (truthy v)) := by
  cases e <;> first | rfl | cases h | skip
  rename_i o e p
  cases o <;> first | rfl | cases h
def noIf : Expr → Bool
  | .IfExp _ _ _ _ => false
  | _ => true
def noComp : Expr → Bool
  | .ListComp _ _ _ _ => false
  | .SetComp _ _ _ _ => false
  | .DictComp _ _ _ _ _ => false
  | _ => true
theorem swaps_no {e : Expr} (h : noComp e = true) (t : Option Expr) (l : Nat) (env : Env) : swapsWith e t l env = pure false := by
  cases e <;> first | rfl | cases h
def okBase : Expr → Bool
  | .Call _ _ _ _ => false
  | _ => true
theorem base_no {e : Expr} (h : okBase e = true) (n : Str) (env : Env) (whole : Sem Value) : attributeBase e n env whole = whole := by
  cases e <;> first | rfl | cases h
theorem beqD_eq : ∀ {a b : D}, beqD a b = true → a = b
  | .non, .non, _ => rfl
  | .bl a, .bl b, h => by
    have : a = b := by simpa [beqD] using h
    rw [this]
  | .int i, .int j, h => by
    have : i = j := by simpa [beqD] using h
    rw [this]
  | .str i, .str j, h => by
    have : i = j := by simpa [beqD] using h
    rw [this]
  | .tup xs, .tup ys, h => by
    have h : beqDs xs ys = true := by simpa [beqD] using h
    rw [go xs ys h]
  | .non, .bl _, h => by simp [beqD] at h
  | .non, .int _, h => by simp [beqD] at h
  | .non, .str _, h => by simp [beqD] at h
  | .non, .tup _, h => by simp [beqD] at h
  | .non, .lst _, h => by simp [beqD] at h
  | .non, .scr _, h => by simp [beqD] at h
  | .non, .dct _, h => by simp [beqD] at h
  | .non, .cel _, h => by simp [beqD] at h
  | .non, .fn _, h => by simp [beqD] at h
  | .bl _, .non, h => by simp [beqD] at h
  | .bl _, .int _, h => by simp [beqD] at h
  | .bl _, .str _, h => by simp [beqD] at h
  | .bl _, .tup _, h => by simp [beqD] at h
  | .bl _, .lst _, h => by simp [beqD] at h
  | .bl _, .scr _, h => by simp [beqD] at h
  | .bl _, .dct _, h => by simp [beqD] at h
  | .bl _, .cel _, h => by simp [beqD] at h
  | .bl _, .fn _, h => by simp [beqD] at h
  | .int _, .non, h => by simp [beqD] at h
  | .int _, .bl _, h => by simp [beqD] at h
  | .int _, .str _, h => by simp [beqD] at h
  | .int _, .tup _, h => by simp [beqD] at h
  | .int _, .lst _, h => by simp [beqD] at h
  | .int _, .scr _, h => by simp [beqD] at h
  | .int _, .dct _, h => by simp [beqD] at h
  | .int _, .cel _, h => by simp [beqD] at h
  | .int _, .fn _, h => by simp [beqD] at h
  | .str _, .non, h => by simp [beqD] at h
  | .str _, .bl _, h => by simp [beqD] at h
  | .str _, .int _, h => by simp [beqD] at h
  | .str _, .tup _, h => by simp [beqD] at h
  | .str _, .lst _, h => by simp [beqD] at h
  | .str _, .scr _, h => by simp [beqD] at h
  | .str _, .dct _, h => by simp [beqD] at h
  | .str _, .cel _, h => by simp [beqD] at h
  | .str _, .fn _, h => by simp [beqD] at h
  | .tup _, .non, h => by simp [beqD] at h
  | .tup _, .bl _, h => by simp [beqD] at h
  | .tup _, .int _, h => by simp [beqD] at h
  | .tup _, .str _, h => by simp [beqD] at h
  | .tup _, .lst _, h => by simp [beqD] at h
  | .tup _, .scr _, h => by simp [beqD] at h
  | .tup _, .dct _, h => by simp [beqD] at h
  | .tup _, .cel _, h => by simp [beqD] at h
  | .tup _, .fn _, h => by simp [beqD] at h
  | .lst _, _, h => by simp [beqD] at h
  | .scr _, _, h => by simp [beqD] at h
  | .dct _, _, h => by simp [beqD] at h
  | .cel _, _, h => by simp [beqD] at h
  | .fn _, _, h => by simp [beqD] at h
  | .err _ _, _, h => by simp [beqD] at h
  | .non, .err _ _, h => by simp [beqD] at h
  | .bl _, .err _ _, h => by simp [beqD] at h
  | .int _, .err _ _, h => by simp [beqD] at h
  | .str _, .err _ _, h => by simp [beqD] at h
  | .tup _, .err _ _, h => by simp [beqD] at h
where go : ∀ (xs ys : List D), beqDs xs ys = true → xs = ys
  | [], [], _ => rfl
  | x :: xs, y :: ys, h => by
    have h : beqD x y = true ∧ beqDs xs ys = true := by simpa [beqDs] using h
    rw [beqD_eq h.1, go xs ys h.2]
  | [], _ :: _, h => by simp [beqDs] at h
  | _ :: _, [], h => by simp [beqDs] at h
/-! ### names -/
def locN (c : Cn) (y : Str) : Bool := match c.sc.names.lookup y with
  | some .local => true
  | some .cell => true
  | _ => false
def visN (c : Cn) (y : Str) : Bool := match c.sc.names.lookup y with
  | some .local => true
  | some .cell => true
  | some .free => true
  | _ => false
def glN (c : Cn) (y : Str) : Bool := match c.sc.names.lookup y with
  | some .globalImplicit => true
  | _ => false
def noDbg (y : Str) : Bool := !(y == ("__debug__" : Str)) && !(y == ("__classdict__" : Str)) && !(y == ("__name__" : Str))
def okVar (c : Cn) (i : Nat) (y : Str) : Bool := decide (c.N[i]? = some y) && visN c y && noDbg y
/-- a name that is stored -/
def okSet (c : Cn) (i : Nat) (y : Str) : Bool := decide (c.N[i]? = some y) && locN c y && (c.fn y || decide (c.sc.names.lookup y = some .local))
def okGlo (c : Cn) (y : Str) (d : D) : Bool := glN c y && noDbg y && c.T.glob.any fun p => decide (p.1 = y) && beqD p.2 d
def okBn (c : Cn) (y : Str) : Bool := glN c y && noDbg y && c.T.bn.any fun z => decide (z = y)
def okFn (c : Cn) (y : Str) (f n : Nat) : Bool := glN c y && noDbg y && c.T.fns.any fun p => decide (p = (y, f, n))
def okFnv (c : Cn) (y : Str) (f : Nat) : Bool := glN c y && noDbg y && c.T.fns.any fun p => decide (p.1 = y) && decide (p.2.1 = f)
def okCst : Const → D → Bool
  | .none, .non => true
  | .bool a, .bl b => a == b
  | .int i, .int j => decide (i = j)
  | .str x, .str y => decide (x = y) && decide (x.length ≤ 1000000)
  | _, _ => false
/-- the scope of a comprehension's block -/
def relS (sc scope : Scope) : Scope := { scope with names := scope.names.map fun (n, k) => if (k == .free && sc.kind == .function && sc.names.lookup n == some .cell) then (n, .cell) else (n, k) }
def Cn.blk (c : Cn) (scope : Scope) : Cn := { c with sc := relS c.sc scope, fn := fun y => scope.names.lookup y == some .cell }
def ownOf (N : List Str) (vs : List Nat) : List (Str × Nat) := vs.map fun i => (N.getD i ⟨#[]⟩, i)
theorem own_snd (N : List Str) (vs : List Nat) : (ownOf N vs).map (·.2) = vs := by
  induction vs with
  | nil => rfl
  | cons v vs ih => simp only [ownOf, List.map_cons] at ih ⊢; rw [ih]
def okTg (c : Cn) (vs : List Nat) : Tg → Expr → Bool
  | .one i, .Name y _ => okSet c i y && vs.contains i
  | .two i j, .Tuple [.Name y _, .Name z _] _ _ => okSet c i y && okSet c j z && vs.contains i && vs.contains j
  | _, _ => false
def Es.len : Es → Nat
  | .nil => 0
  | .cons _ es => es.len + 1
/-- classes of errors of the table -/
def okCl (c : Cn) (z : Str) (q : Nat) : Bool := c.T.cls.any fun r => decide (r = (z, q))
def okCs (c : Cn) (cs : List Nat) : Bool := !c.T.cls.isEmpty && cs.all fun q => c.T.cls.any fun r => decide (r.2 = q)
theorem cs_of {c : Cn} {cs : List Nat} (h : okCs c cs = true) : c.T.cls ≠ [] ∧ ∀ q ∈ cs, ∃ y, (y, q) ∈ c.T.cls := by
  unfold okCs at h
  simp only [Bool.and_eq_true, Bool.not_eq_true', List.all_eq_true, List.any_eq_true, decide_eq_true_eq] at h
  refine ⟨fun e => by rw [e] at h; simp at h, fun q hq => ?_⟩
  obtain ⟨r, hr, e⟩ := h.2 q hq
  exact ⟨r.1, by rw [← e]; exact hr⟩
theorem cl_of {c : Cn} {z : Str} {q : Nat} (h : okCl c z q = true) : (z, q) ∈ c.T.cls := by
  unfold okCl at h
  simp only [List.any_eq_true, decide_eq_true_eq] at h
  obtain ⟨r, hr, e⟩ := h
  rw [← e]; exact hr
/-- a constant -/
def okCk (c : Cn) (d : D) : Expr → Bool
  | .Constant k _ _ => okCst k d
  | .Name y _ => okGlo c y d
  | _ => false
def okKey : L2.Key → Bool
  | .inl _ => true
  | .inr s => decide (s.length ≤ 1000)
def okPairs (c : Cn) : List (Option Expr) → List Expr → List (L2.Key × L2.Key) → Bool
  | [], [], [] => true
  | some k :: ks, v :: vs, p :: r => okCk c (keyD p.1) k && okCk c (keyD p.2) v && okKey p.2 && okPairs c ks vs r
  | _, _, _ => false
mutual
def okE : E → Cn → Expr → Bool
  | .var i, c, a => match a with
    | .Name y _ => okVar c i y
    | _ => false
  | .cst d, c, a => match a with
    | .Constant k _ _ => okCst k d
    | .Name y _ => okGlo c y d
    | _ => false
  | .fnv f, c, a => match a with
    | .Name y _ => okFnv c y f
    | _ => false
  | .bin o x y, c, a => match a with
    | .BinOp p o' q _ => decide (o = o') && okE x c p && okE y c q
    | _ => false
  | .neg x, c, a => match a with
    | .UnaryOp .USub p _ => okE x c p
    | _ => false
  | .not x, c, a => match a with
    | .UnaryOp .Not p _ => okE x c p && noIf p
    | _ => false
  | .cmp o x y, c, a => match a with
    | .Compare p [o'] [q] _ => decide (o = o') && okE x c p && okE y c q && noSet q
    | _ => false
  | .chain o o1 x y z, c, a => match a with
    | .Compare p [o', o1'] [q, r] _ => decide (o = o') && decide (o1 = o1') && okE x c p && okE y c q && okE z c r && noSet r
    | _ => false
  | .and es, c, a => match a with
    | .BoolOp .And ps _ => okEs es c ps && ps.all noIf && !ps.isEmpty
    | _ => false
  | .or es, c, a => match a with
    | .BoolOp .Or ps _ => okEs es c ps && ps.all noIf && !ps.isEmpty
    | _ => false
  | .ite t x y, c, a => match a with
    | .IfExp r p q _ => okE t c r && noIf r && okE x c p && okE y c q
    | _ => false
  | .tup es, c, a => match a with
    | .Tuple ps _ _ => okEs es c ps
    | _ => false
  | .lst es, c, a => match a with
    | .List ps _ => okEs es c ps
    | _ => false
  | .nls es, c, a => match a with
    | .List ps _ => okEs es c ps
    | _ => false
  | .ndc, c, a => match a with
    | .Dict [] [] _ => true
    | _ => false
  | .ix x y, c, a => match a with
    | .Subscript p q _ => okE x c p && okE y c q && noSlice q
    | _ => false
  | .sl x lo hi, c, a => match a with
    | .Subscript p (.Slice l h none _) _ => okE x c p && okO lo c l && okO hi c h
    | _ => false
  | .rev x, c, a => match a with
    | .Subscript p (.Slice none none (some (.UnaryOp .USub (.Constant (.int 1) _ _) _)) _) _ => okE x c p
    | _ => false
  | .call f es, c, a => match a with
    | .Call (.Name y _) ps [] _ => okEs es c ps && okFn c y f ps.length
    | _ => false
  | .callv i fs es, c, a => match a with
    | .Call (.Name y _) ps [] _ => okEs es c ps && okVar c i y && !ps.isEmpty && fs.all fun f => c.T.fns.any fun q => decide (q.2 = (f, ps.length))
    | _ => false
  | .callk f es n kp, c, a => match a with
    | .Call (.Name y _) [] ks _ => okKs es c ks && (c.T.fns.any fun q => decide (q.1 = y) && decide (q.2.1 = f)) && glN c y && noDbg y && decide (n = ks.length) && c.T.kw.any fun q => decide (q.1 = f) && decide (q.2.1.map some = ks.map (·.arg)) && decide (q.2.2 = kp)
    | _ => false
  | .bi b es, c, a => match b, a with
    | .zip, .Call (.Name y _) [.Call (.Name z _) [p, q] [] _] [] _ => okEs es c [p, q] && okBn c y && okBn c z && decide (y = "list") && decide (z = "zip")
    | .zip, _ => false
    | .join, .Call (.Attribute (.Constant (.str z) _ _) y apos) [p] [] pos => okEs es c [p] && decide (y = "join") && decide (z = (⟨#[]⟩ : Str)) && (apos.endLine == pos.line)
    | .join, _ => false
    | b, .Call (.Name y _) (p :: ps) [] _ => okEs es c (p :: ps) && okBn c y && decide (y = (biName b).1)
    | _, _ => false
  | .isi x t, c, a => match a with
    | .Call (.Name y _) [p, .Name z _] [] _ => okE x c p && okBn c y && okBn c z && decide (y = "isinstance") && decide (bootBuiltins z = some (.type (tyName t))) && noStar p
    | _ => false
  | .sset x, c, a => match a with
    | .Call (.Name y _) [.Call (.Name z _) [p] [] _] [] _ => okE x c p && okBn c y && okBn c z && decide (y = "sorted") && decide (z = "set") && noStar p
    | _ => false
  | .dgt kds k d, c, a => match a with
    | .Call (.Attribute (.Dict keys values _) y apos) [p, q] [] pos => okPairs c keys values kds && okE k c p && okE d c q && decide (y = "get") && (apos.endLine == pos.line) && noStar p && noStar q && decide (0 < keys.length) && decide (keys.length ≤ 15)
    | _ => false
  | .maxd x d, c, a => match a with
    | .Call (.Name y _) [p] [⟨some n, q, _⟩] _ => okE x c p && okE d c q && okBn c y && decide (y = "max") && decide (n = "default") && noStar p
    | _ => false
  | .lrg n es, c, a => match n, a with
    | 1, .Call (.Name y _) [.Call (.Name z _) [p] [] _] [] _ => okEs es c [p] && okBn c y && okBn c z && decide (y = "list") && decide (z = "range")
    | 2, .Call (.Name y _) [.Call (.Name z _) [p, q] [] _] [] _ => okEs es c [p, q] && okBn c y && okBn c z && decide (y = "list") && decide (z = "range")
    | 3, .Call (.Name y _) [.Call (.Name z _) [p, q, r] [] _] [] _ => okEs es c [p, q, r] && okBn c y && okBn c z && decide (y = "list") && decide (z = "range")
    | _, _ => false
  | .lc x tg it cd vs, c, a => match a with
    | .ListComp p [⟨t, i, ifs, z⟩] scope _ => decide (z = 0) && okI it c t i && blkC c.N c.sc scope (ownOf c.N vs) && okTg (c.blk scope) vs tg t && okC cd (c.blk scope) ifs && okE x (c.blk scope) p && noSet i
    | _ => false
  | .lc2 x tg it cd tg1 it1 cd1 vs vs1, c, a => match a with
    | .ListComp p [⟨t, i, ifs, z⟩, ⟨t1, i1, ifs1, z1⟩] scope _ => decide (z = 0) && decide (z1 = 0) && okI it c t i && blkC c.N c.sc scope (ownOf c.N vs) && okTg (c.blk scope) vs tg t && okC cd (c.blk scope) ifs && okE x (c.blk scope) p && noSet i
        && okI it1 (c.blk scope) t1 i1 && okTg (c.blk scope) vs1 tg1 t1 && okC cd1 (c.blk scope) ifs1 && noSet i1 && vs1.all fun j => vs.contains j
    | _ => false
  | .app x y, c, a => match a with
    | .Call (.Attribute p n ap) [q] [] pos => okE x c p && okE y c q && okBase p && decide (n = "append") && (ap.endLine == pos.line) && noStar q
    | _ => false
  | .ext x y, c, a => match a with
    | .Call (.Attribute p n ap) [q] [] pos => okE x c p && okE y c q && okBase p && decide (n = "extend") && (ap.endLine == pos.line) && noStar q
    | _ => false
  | .pop x, c, a => match a with
    | .Call (.Attribute p n ap) [] [] pos => okE x c p && okBase p && decide (n = "pop") && (ap.endLine == pos.line)
    | _ => false
  | .val x cs, c, a => match a with
    | .Attribute p n _ => okE x c p && okBase p && decide (n = "value") && okCs c cs
    | _ => false
  | .isc x q cs, c, a => match a with
    | .Call (.Name y _) [p, .Name z _] [] _ => okE x c p && okBn c y && decide (y = "isinstance") && noStar p && glN c z && noDbg z && okCl c z q && okCs c cs
    | _ => false
def okEs : Es → Cn → List Expr → Bool
  | .nil, c, a => match a with
    | [] => true
    | _ => false
  | .cons e es, c, a => match a with
    | p :: ps => okE e c p && noStar p && okEs es c ps
    | _ => false
/-- the values of keywords -/
def okKs : Es → Cn → List Keyword → Bool
  | .nil, c, a => match a with
    | [] => true
    | _ => false
  | .cons e es, c, a => match a with
    | ⟨n, p, _⟩ :: ps => okE e c p && n.isSome && okKs es c ps
    | _ => false
def okO : Eo → Cn → Option Expr → Bool
  | .none, c, a => match a with
    | none => true
    | _ => false
  | .some e, c, a => match a with
    | some p => okE e c p
    | _ => false
def okC : Eo → Cn → List Expr → Bool
  | .none, c, a => match a with
    | [] => true
    | _ => false
  | .some e, c, a => match a with
    | [p] => okE e c p && noIf p
    | _ => false
def okI : Wk → Cn → Expr → Expr → Bool
  | .val e, c, t, a => okE e c a
  | .rng1 x, c, t, a => match a with
    | .Call (.Name y _) [p] [] _ => okE x c p && okBn c y && decide (y = "range") && noStar p
    | _ => false
  | .rng2 x z, c, t, a => match a with
    | .Call (.Name y _) [p, q] [] _ => okE x c p && okE z c q && okBn c y && decide (y = "range") && noStar p && noStar q
    | _ => false
  | .rng3 x z w, c, t, a => match a with
    | .Call (.Name y _) [p, q, r] [] _ => okE x c p && okE z c q && okE w c r && okBn c y && decide (y = "range") && noStar p && noStar q && noStar r
    | _ => false
  | .zip x z, c, t, a => match a, t with
    | .Call (.Name y _) [p, q] [] _, .Tuple _ _ _ => okE x c p && okE z c q && okBn c y && decide (y = "zip") && noStar p && noStar q
    | _, _ => false
end
end MI
end
/-! MIw -/
section
set_option linter.all false
set_option maxRecDepth 100000
set_option maxHeartbeats 4000000
/-! A dict of constants, asked with a default. -/
namespace MI
open PySem L2
def PairC (X : Cx) : List (Option Expr) → List Expr → List (Key × Key) → Prop
  | [], [], [] => True
  | some k :: ks, v :: vs, p :: r => (PE X k (tC (kV p.1)) ∧ PE X v (tC (kV p.2))) ∧ PairC X ks vs r
  | _, _, _ => False
theorem pair_pps {X : Cx} {dpos : Pos} : ∀ (ks : List (Option Expr)) (vs : List Expr) (r : List (Key × Key)), PairC X ks vs r → PPs X dpos ks vs (r.map fun p => (tC (kV p.1), tC (kV p.2))) ∧ ks.all (·.isSome) = true ∧ ks.length = vs.length ∧ ks.length = r.length
  | [], [], [], _ => ⟨pps_nil, rfl, rfl, rfl⟩
  | some k :: ks, v :: vs, p :: r, h => by
    obtain ⟨⟨h1, h2⟩, h3⟩ := h
    obtain ⟨a, b, c, d⟩ := pair_pps (dpos := dpos) ks vs r h3
    exact ⟨pps_cons h1 h2 a, by simpa using b, by simp [c], by simp [d]⟩
  | [], [], _ :: _, h => h.elim
  | [], _ :: _, _, h => by cases h
  | none :: _, _, _, h => by cases h
  | some _ :: _, [], _, h => by cases h
  | some _ :: _, _ :: _, [], h => by cases h
theorem tpairs_c {σ : St} : ∀ (r : List (Key × Key)) (H : Hp) (Q : List (V × V) → Hp → Prop), Q (r.map fun p => (kV p.1, kV p.2)) H → tPairs (r.map fun p => (tC (kV p.1), tC (kV p.2))) σ H Q
  | [], H, Q, h => h
  | p :: r, H, Q, h => tpairs_c r H _ h
theorem val_merge (q : Key) (z : V) : ∀ (more acc : List (Key × V)), (valV (mergeK acc more) q).getD z = more.foldl (fun r p => if q = p.1 then p.2 else r) ((valV acc q).getD z)
  | [], acc => rfl
  | p :: more, acc => by
    show (valV (mergeK (L2.putK acc p.1 p.2) more) q).getD z = _
    rw [val_merge q z more, valV_put, List.foldl_cons]
    by_cases e : q = p.1
    · rw [if_pos e, if_pos e]; rfl
    · rw [if_neg e, if_neg e]
theorem upd_upd {H : Hp} {p : Addr} {a b : HO} : upd (upd H p a) p b = upd H p b := by
  funext q
  by_cases e : q = p
  · subst e; rw [upd_same, upd_same]
  · rw [upd_ne e, upd_ne e, upd_ne e]
theorem key_rep {W : Wd} {ρ : List Addr} {H : Hp} {y : D} {v : V} {q : Key} (h : keyOf y = some q) (r : Rep W ρ H y v) : v = kV q := by
  cases y <;> simp only [keyOf] at h <;> first | cases h | skip
  · exact r
  · exact (Rep.str r).1
theorem fold_rep {W : Wd} {ρ : List Addr} {H : Hp} {g : Key} : ∀ (kds : List (Key × Key)) (z : D) (vz : V), (∀ r ∈ kds, ∀ s : Str, r.2 = .inr s → s.length ≤ sizeLine) → Rep W ρ H z vz → Rep W ρ H (kds.foldl (fun r p => if g = p.1 then keyD p.2 else r) z) ((kds.map fun r => (r.1, kV r.2)).foldl (fun r p => if g = p.1 then p.2 else r) vz)
  | [], z, vz, _, rz => rz
  | r :: kds, z, vz, hl, rz => by
    simp only [List.map_cons, List.foldl_cons]
    refine fold_rep kds _ _ (fun t ht => hl t (List.mem_cons_of_mem _ ht)) ?_
    by_cases e : g = r.1
    · rw [if_pos e, if_pos e]
      cases hr : r.2 with
      | inl i => exact rfl
      | inr s => exact ⟨rfl, hl r List.mem_cons_self s hr⟩
    · rw [if_neg e, if_neg e]; exact rz
theorem s_dgt {X : Cx} {W : Wd} {x : XW} {p q : Expr} {keys : List (Option Expr)} {values : List Expr} {dpos apos pos : Pos} {mk md : Ev → M D} {kds : List (Key × Key)}
    (hu : X.A.units + 1 < cLine) (hp : PairC X keys values kds) (h0 : keys ≠ []) (h15 : keys.length ≤ 15) (hl : ∀ r ∈ kds, ∀ s : Str, r.2 = .inr s → s.length ≤ sizeLine)
    (hk : PE X p (tE W x mk)) (hd : PE X q (tE W x md)) (m : M2 X (.Dict keys values dpos) "get" apos p q pos) :
    PE X (.Call (.Attribute (.Dict keys values dpos) "get" apos) [p, q] [] pos) (tE W x fun v => mk v >>= fun y => md v >>= fun z => op (dictD kds y z)) := by
  obtain ⟨p1, p2, p3, p4⟩ := pair_pps (dpos := dpos) keys values kds hp
  refine pe_mono (pe_dget2 hu (pe_disp p1 p2 p3 h0 h15) hk hd m) fun σ H Q _ h => ?_
  obtain ⟨W', iw, ρ, η, env, sim, er, h⟩ := h
  intro a ha
  refine tpairs_c kds _ _ ⟨upd_same, kds.map fun r => (r.1, kV r.2), by rw [List.map_map]; rfl, by rw [List.length_map]; omega, a, rfl, ?_⟩
  rw [upd_upd]
  have s0 := sim.new (o := .dK (mergeK [] (kds.map fun r => (r.1, kV r.2)))) ha
  have x0 : Ext ρ H ρ (upd H a (.dK (mergeK [] (kds.map fun r => (r.1, kV r.2))))) := Ext.new ha
  have na : a ∉ ρ := new_out sim ha
  refine ⟨.inl ⟨_, .inl upd_same⟩, W', iw, ρ, η, env, s0, er.ext x0 sim.ok, (h.ext x0).bind.mono fun y η1 ρ1 H1 e1 s1 h1 vy ry => ?_⟩
  obtain ⟨k1, n1⟩ := e1.keep a _ upd_same na
  refine ⟨W', iw, ρ1, η1, env, s1, (er.ext x0 sim.ok).ext e1 s0.ok, h1.bind.mono fun z η2 ρ2 H2 e2 s2 h2 vz rz => ?_⟩
  obtain ⟨k2, n2⟩ := e2.keep a _ k1 n1
  obtain ⟨d, hd, w⟩ := h2.op
  unfold dictD at hd
  cases qk : keyOf y with
  | none => rw [qk] at hd; cases hd
  | some g =>
    rw [qk] at hd
    cases hd
    have ev := key_rep qk ry
    subst ev
    refine ⟨valV (mergeK [] (kds.map fun r => (r.1, kV r.2))) g, DGet.k k2, ?_⟩
    refine w ρ2 H2 .refl s2 _ ?_
    rw [val_merge]
    exact fold_rep kds z vz hl rz
/-! ### max with a default -/
def rMaxd (K : PySem.W.Frag) : List V → List V → Hp → VK → Prop := fun xs zs H Q => ∃ (a : Addr) (ns : List Int) (z : V), xs = [V.ref a] ∧ zs = [z] ∧ SqL K H a (ns.map V.int) ∧ Q (match maxI ns with
  | none => z
  | some m => .int m) H
theorem vals_hold {h : Heap} : ∀ {ns : List Int} {us : List Value}, Vals (ns.map V.int) us → PySem.W.HoldAll h us ns
  | [], us, r => by cases r; exact PySem.W.HoldAll.nil
  | n :: ns, us, r => by
    rw [List.map_cons] at r
    cases r with
    | cons p q =>
      obtain ⟨t, rfl⟩ := (show ∃ t, _ = Value.int n t from p)
      exact PySem.W.HoldAll.cons ⟨_, .int n t⟩ (vals_hold q)
theorem hold_int {h : Heap} {v : Value} {n : Int} (H : PySem.W.Holds h v n) : ∃ t, v = .int n t := by
  obtain ⟨as, r⟩ := H
  cases r
  exact ⟨_, rfl⟩
theorem maxI_of (y : Int) (ys : List Int) : maxI (y :: ys) = some (PySem.W.maxOf y ys) := by
  show some (ys.foldl (fun a b => if b > a then b else a) y) = some (ys.foldl (fun a b => if PySem.W.DatumOrd.lt a b = true then b else a) y)
  congr 2
  funext a b
  have : (PySem.W.DatumOrd.lt a b = true) = (a < b) := by
    show (decide (a < b) = true) = (a < b)
    simp
  simp only [this]
theorem cr_maxd {X : Cx} (hc : X.calm = true) (hu : X.A.units + 66 < cLine) : CallRK X (.builtin "max") ["default"] (rMaxd X.K) := by
  intro pins s σ H xs zs us ws Q I r1 r2 h
  obtain ⟨a, ns, z, rfl, rfl, hs, q⟩ := h
  obtain ⟨its, rv, hl, _⟩ := I.list hs
  rw [Vals.ref1 r1]
  cases r2 with
  | cons rz r0 =>
    cases r0
    refine PySem.W.max_list_datum_default (α := Int) (I.ok.hd hc) hl.isList (vals_hold rv) (by show X.A.units + 1 + 0 < cLine; omega) (fun e h' tk hk => ?_) (fun y ys i v h' tk e hi ho hk => ?_)
    · subst e
      exact ⟨z, H, I.kept hk, rz, q⟩
    · subst e
      obtain ⟨t, rfl⟩ := hold_int ho
      rw [maxI_of] at q
      exact ⟨.int _, H, I.kept hk, ⟨_, rfl⟩, q⟩
theorem s_maxd {X : Cx} {W : Wd} {x : XW} {a d : Expr} {y n : Str} {p kp pos : Pos} {ma md : Ev → M D} (hK : W.K = X.K) (hc : X.calm = true) (hu : X.A.units + 66 < cLine) (hy : y = "max") (hn : n = "default")
    (hg : Gl X y) (hm : X.mg y = none) (ha : PE X a (tE W x ma)) (hd : PE X d (tE W x md)) (hs : starEach [a] X.env = [(false, eval a X.env)]) :
    PE X (.Call (.Name y p) [a] [⟨some n, d, kp⟩] pos) (tE W x fun v => ma v >>= fun u => md v >>= fun z => look fun h => maxdD h u z) := by
  subst hy; subst hn
  have hb : bootBuiltins "max" = some (.builtin "max") := by decide +kernel
  refine pe_mono (pe_callBK (cr_maxd hc hu) hg hm hb (pa_cons ha pa_nil hs) (pk_cons hd pk_nil) (by decide) (by decide) (by rw [hs]; rfl) (by rw [hs]; rfl)) fun σ H Q _ h => ?_
  obtain ⟨W', iw, ρ, η, env, sim, er, h⟩ := h
  refine ⟨W', iw, ρ, η, env, sim, er, h.bind.mono fun u η1 ρ1 H1 e1 s1 h1 v rv => ?_⟩
  refine ⟨W', iw, ρ1, η1, env, s1, er.ext e1 sim.ok, h1.bind.mono fun z η2 ρ2 H2 e2 s2 h2 vz rz => ?_⟩
  obtain ⟨res, hr, w⟩ := h2.look
  have w := w ρ2 H2 .refl s2
  simp only [maxdD, Option.bind_eq_some_iff, Option.map_eq_some_iff] at hr
  obtain ⟨ys, h1, ns, h2, h3⟩ := hr
  obtain ⟨b, vs, e, q, l, r'⟩ := see_list s2 (rv.ext e2 s1.ok) h1
  subst e
  have e := ints_of r' h2
  subst e
  rw [iw.1.trans hK] at q
  refine ⟨b, ns, vz, rfl, rfl, q, ?_⟩
  subst h3
  cases c : maxI ns with
  | none => rw [c] at w; exact w vz rz
  | some m => rw [c] at w; exact w (.int m) rfl
/-! ### list(range(..)) -/
section
open PyProof.Rows
variable {X : Cx}
def rgC (a c : Int) (n : Nat) : List V := (List.range n).map fun i => V.int (a + (i : Nat) * c)
theorem vals_rgC {a c : Int} {n : Nat} {acc : Array Value} (h : ItemsOf (fun i v => ∃ t, v = .int (a + i * c) t) acc n) : Vals (rgC a c n) acc.toList := by
  have e : acc.toList.length = n := by rw [Array.length_toList]; exact h.1
  unfold rgC
  rw [← e]
  refine vals_of_get acc.toList _ fun j u hj => ?_
  obtain ⟨t, rfl⟩ := h.2 j u (by rw [← hj, Array.getElem?_toList])
  exact ⟨t, rfl⟩
/-- list(range(a, b)), list(range(a, b, c)) -/
theorem pe_lrg3 {a b c : Expr} {ta : TA} {p p2 pos pos2 : Pos} (hc : X.calm = true) (hl : Gl X "list") (hlm : X.mg "list" = none) (hg : Gl X "range") (hm : X.mg "range" = none) (ha : PA X [a, b, c] ta)
    (hs : starEach [a, b, c] X.env = (false, eval a X.env) :: starEach [b, c] X.env) (hpl : (backTo pos2 (starEach [b, c] X.env)).any (·.1) = false) :
    PE X (.Call (.Name "list" p) [.Call (.Name "range" p2) [a, b, c] [] pos2] [] pos) (fun σ H Q => ta σ H fun vs H1 => ∃ i j k n, vs = [V.int i, .int j, .int k] ∧ RgC i j k n ∧ n ≤ 2 ^ 24 ∧ ∀ q, H1 q = none → Q (.ref q) (upd H1 q (.lst (rgC i k n)))) := by
  refine ⟨fun pins s σ H Q I h => ?_⟩
  refine Call_ (ld_blt I hl hlm boot_list (PyProof.Rows.callWith_type1 (args_cons (Call_ (ld_blt I hg hm boot_range (PyProof.Rows.callWith_type1 (thn (ha.run pos2 pins s σ H _ I h) fun us s1 ⟨vs, H1, I1, r1, q1⟩ => ?_) hs hpl))) rfl) rfl))
  obtain ⟨i, j, k, n, e, ⟨c0, c1, c2, c3⟩, c4, q⟩ := q1
  subst e
  cases r1 with
  | cons r rr =>
    cases rr with
    | cons r' rr =>
      cases rr with
      | cons r'' rr =>
        cases rr
        obtain ⟨t, rfl⟩ := r
        obtain ⟨t', rfl⟩ := r'
        obtain ⟨t'', rfl⟩ := r''
        refine call_range_3 c0 ?_ (.inl (PyProof.noPylong_small c1))
        have I2 : L2.Inv X pins σ H1 { s1 with heap := s1.heap.push { cls := .type "range", data := .fields #[.int i t, .int j t', .int k t''] } } := I1.kept (t' := s1.toks) fun b o e => Heap.get?_push_of_some _ e
        refine args_nil ?_
        refine call_list_range (n := n) (I2.ok.hd hc) (IsRange.new ..) c2 c3 c4 fun h' tk acc c' hk e' hi => ?_
        refine ⟨.ref _, upd H1 _ (.lst (rgC i k n)), I2.laid hk (Nat.le_refl _) (show ObjOk X.prog X.w _ _ _ (.lst (rgC i k n)) from ⟨?_, acc.toList, c', vals_rgC hi, ?_⟩), rfl, q _ (I2.hok.fresh (Nat.le_refl _))⟩
        · unfold rgC; rw [List.length_map, List.length_range, sizeLine_eq]; omega
        · rw [Array.toArray_toList]; exact e'
theorem pe_lrg2 {a b : Expr} {ta : TA} {p p2 pos pos2 : Pos} (hc : X.calm = true) (hl : Gl X "list") (hlm : X.mg "list" = none) (hg : Gl X "range") (hm : X.mg "range" = none) (ha : PA X [a, b] ta)
    (hs : starEach [a, b] X.env = (false, eval a X.env) :: starEach [b] X.env) (hpl : (backTo pos2 (starEach [b] X.env)).any (·.1) = false) :
    PE X (.Call (.Name "list" p) [.Call (.Name "range" p2) [a, b] [] pos2] [] pos) (fun σ H Q => ta σ H fun vs H1 => ∃ i j, vs = [V.int i, .int j] ∧ RgOk i j ∧ ∀ q, H1 q = none → Q (.ref q) (upd H1 q (.lst (rgC i 1 (j - i).toNat)))) := by
  refine ⟨fun pins s σ H Q I h => ?_⟩
  refine Call_ (ld_blt I hl hlm boot_list (PyProof.Rows.callWith_type1 (args_cons (Call_ (ld_blt I hg hm boot_range (PyProof.Rows.callWith_type1 (thn (ha.run pos2 pins s σ H _ I h) fun us s1 ⟨vs, H1, I1, r1, q1⟩ => ?_) hs hpl))) rfl) rfl))
  obtain ⟨i, j, e, ⟨b1, b2, b3, b4, b5⟩, q⟩ := q1
  subst e
  cases r1 with
  | cons r rr =>
    cases rr with
    | cons r' rr =>
      cases rr
      obtain ⟨t, rfl⟩ := r
      obtain ⟨t', rfl⟩ := r'
      refine call_range_2 ?_
      have I2 : L2.Inv X pins σ H1 { s1 with heap := s1.heap.push { cls := .type "range", data := .fields #[.int i t, .int j t', .int 1 s1.toks] }, toks := s1.toks + 1 } := I1.kept (t' := s1.toks + 1) fun b o e => Heap.get?_push_of_some _ e
      refine args_nil ?_
      refine call_list_range (n := (j - i).toNat) (I2.ok.hd hc) (IsRange.new ..) (small_one b1 b2 b3 b4) (rangeSize_nat i j) b5 fun h' tk acc c' hk e' hi => ?_
      refine ⟨.ref _, upd H1 _ (.lst (rgC i 1 (j - i).toNat)), I2.laid hk (Nat.le_refl _) (show ObjOk X.prog X.w _ _ _ (.lst (rgC i 1 (j - i).toNat)) from ⟨?_, acc.toList, c', vals_rgC hi, ?_⟩), rfl, q _ (I2.hok.fresh (Nat.le_refl _))⟩
      · unfold rgC; rw [List.length_map, List.length_range, sizeLine_eq]; omega
      · rw [Array.toArray_toList]; exact e'
theorem pe_lrg1 {a : Expr} {ta : TA} {p p2 pos pos2 : Pos} (hc : X.calm = true) (hl : Gl X "list") (hlm : X.mg "list" = none) (hg : Gl X "range") (hm : X.mg "range" = none) (ha : PA X [a] ta)
    (hs : starEach [a] X.env = (false, eval a X.env) :: starEach [] X.env) :
    PE X (.Call (.Name "list" p) [.Call (.Name "range" p2) [a] [] pos2] [] pos) (fun σ H Q => ta σ H fun vs H1 => ∃ j, vs = [V.int j] ∧ RgOk 0 j ∧ ∀ q, H1 q = none → Q (.ref q) (upd H1 q (.lst (rgC 0 1 (j - 0).toNat)))) := by
  refine ⟨fun pins s σ H Q I h => ?_⟩
  refine Call_ (ld_blt I hl hlm boot_list (PyProof.Rows.callWith_type1 (args_cons (Call_ (ld_blt I hg hm boot_range (PyProof.Rows.callWith_type1 (thn (ha.run pos2 pins s σ H _ I h) fun us s1 ⟨vs, H1, I1, r1, q1⟩ => ?_) hs rfl))) rfl) rfl))
  obtain ⟨j, e, ⟨b1, b2, b3, b4, b5⟩, q⟩ := q1
  subst e
  cases r1 with
  | cons r rr =>
    cases rr
    obtain ⟨t, rfl⟩ := r
    refine call_range_1 ?_
    refine args_nil ?_
    have I2 : L2.Inv X pins σ H1 { s1 with heap := s1.heap.push { cls := .type "range", data := .fields #[.int 0 s1.toks, .int j t, .int 1 (s1.toks + 1)] }, toks := s1.toks + 1 + 1 } := I1.kept (t' := s1.toks + 1 + 1) fun b o e => Heap.get?_push_of_some _ e
    refine call_list_range (n := (j - 0).toNat) (I2.ok.hd hc) (IsRange.new ..) (small_one b1 b2 b3 b4) (rangeSize_nat 0 j) b5 fun h' tk acc c' hk e' hi => ?_
    refine ⟨.ref _, upd H1 _ (.lst (rgC 0 1 (j - 0).toNat)), I2.laid hk (Nat.le_refl _) (show ObjOk X.prog X.w _ _ _ (.lst (rgC 0 1 (j - 0).toNat)) from ⟨?_, acc.toList, c', vals_rgC hi, ?_⟩), rfl, q _ (I2.hok.fresh (Nat.le_refl _))⟩
    · unfold rgC; rw [List.length_map, List.length_range, sizeLine_eq]; omega
    · rw [Array.toArray_toList]; exact e'
end
theorem reps_rgC {W : Wd} {ρ : List Addr} {H : Hp} (a c : Int) : ∀ (l : List Nat), Reps W ρ H (l.map fun (i : Nat) => D.int (a + (i : Int) * c)) (l.map fun (i : Nat) => V.int (a + (i : Nat) * c))
  | [] => rfl
  | i :: l => ⟨_, _, rfl, rfl, reps_rgC a c l⟩
theorem s_lrg3 {X : Cx} {W : Wd} {x : XW} {a b c : Expr} {p p2 pos pos2 : Pos} {ms : Ev → M (List D)} (hc : X.calm = true) (hl : Gl X "list") (hlm : X.mg "list" = none) (hg : Gl X "range") (hm : X.mg "range" = none) (ha : PA X [a, b, c] (tEs W x ms))
    (hs : starEach [a, b, c] X.env = (false, eval a X.env) :: starEach [b, c] X.env) (hpl : (backTo pos2 (starEach [b, c] X.env)).any (·.1) = false) :
    PE X (.Call (.Name "list" p) [.Call (.Name "range" p2) [a, b, c] [] pos2] [] pos) (tE W x fun v => ms v >>= fun xs => op ((rng3D xs).map .lst)) := by
  refine pe_mono (pe_lrg3 hc hl hlm hg hm ha hs hpl) fun σ H Q _ h => ?_
  obtain ⟨W', iw, ρ, η, env, sim, er, h⟩ := h
  refine ⟨W', iw, ρ, η, env, sim, er, h.bind.mono fun ds η1 ρ1 H1 e1 s1 h1 vs rs => ?_⟩
  obtain ⟨z, hz, w⟩ := h1.op
  unfold rng3D at hz
  split at hz
  · rename_i n m k
    obtain ⟨v, r', ev, rv, rs⟩ := (show ∃ v r, vs = v :: r ∧ Rep W' ρ1 H1 (.int n) v ∧ Reps W' ρ1 H1 [.int m, .int k] r from rs)
    obtain ⟨u, y, ev2, ru, ry⟩ := reps2 rs
    split at hz
    · rename_i hn
      cases hz
      obtain ⟨hn, hk⟩ := of_decide_eq_true hn
      subst hk
      have e := Rep.int rv
      have e' := Rep.int ru
      have e'' := Rep.int ry
      subst e; subst e'; subst e''
      subst ev2
      refine ⟨n, m, -1, (n - m).toNat, ev, RgC.neg (by omega) (by omega) (by omega) (by omega), by omega, ?_⟩
      exact (see_want w).lst s1 (by simp only [List.length_map, List.length_range]; rw [sizeLine_eq]; omega) (reps_rgC n (-1) _)
    · cases hz
  · cases hz
theorem s_lrg2 {X : Cx} {W : Wd} {x : XW} {a b : Expr} {p p2 pos pos2 : Pos} {ms : Ev → M (List D)} (hc : X.calm = true) (hl : Gl X "list") (hlm : X.mg "list" = none) (hg : Gl X "range") (hm : X.mg "range" = none) (ha : PA X [a, b] (tEs W x ms))
    (hs : starEach [a, b] X.env = (false, eval a X.env) :: starEach [b] X.env) (hpl : (backTo pos2 (starEach [b] X.env)).any (·.1) = false) :
    PE X (.Call (.Name "list" p) [.Call (.Name "range" p2) [a, b] [] pos2] [] pos) (tE W x fun v => ms v >>= fun xs => op ((rng2D xs).map .lst)) := by
  refine pe_mono (pe_lrg2 hc hl hlm hg hm ha hs hpl) fun σ H Q _ h => ?_
  obtain ⟨W', iw, ρ, η, env, sim, er, h⟩ := h
  refine ⟨W', iw, ρ, η, env, sim, er, h.bind.mono fun ds η1 ρ1 H1 e1 s1 h1 vs rs => ?_⟩
  obtain ⟨z, hz, w⟩ := h1.op
  unfold rng2D at hz
  split at hz
  · rename_i n m
    obtain ⟨v, u, ev, rv, ru⟩ := reps2 rs
    split at hz
    · rename_i hn
      cases hz
      have hn := of_decide_eq_true hn
      have e := Rep.int rv
      have e' := Rep.int ru
      subst e; subst e'
      refine ⟨n, m, ev, ⟨by omega, by omega, by omega, by omega, by omega⟩, ?_⟩
      have r := reps_rgC (W := W') (ρ := ρ1) (H := H1) n 1 (List.range (m - n).toNat)
      simp only [Int.mul_one] at r
      have q := (see_want w).lst s1 (by simp only [List.length_map, List.length_range]; rw [sizeLine_eq]; omega) r
      unfold rgC
      simp only [Int.mul_one]
      exact q
    · cases hz
  · cases hz
theorem s_lrg1 {X : Cx} {W : Wd} {x : XW} {a : Expr} {p p2 pos pos2 : Pos} {ms : Ev → M (List D)} (hc : X.calm = true) (hl : Gl X "list") (hlm : X.mg "list" = none) (hg : Gl X "range") (hm : X.mg "range" = none) (ha : PA X [a] (tEs W x ms))
    (hs : starEach [a] X.env = (false, eval a X.env) :: starEach [] X.env) :
    PE X (.Call (.Name "list" p) [.Call (.Name "range" p2) [a] [] pos2] [] pos) (tE W x fun v => ms v >>= fun xs => op ((rng1D xs).map .lst)) := by
  refine pe_mono (pe_lrg1 hc hl hlm hg hm ha hs) fun σ H Q _ h => ?_
  obtain ⟨W', iw, ρ, η, env, sim, er, h⟩ := h
  refine ⟨W', iw, ρ, η, env, sim, er, h.bind.mono fun ds η1 ρ1 H1 e1 s1 h1 vs rs => ?_⟩
  obtain ⟨z, hz, w⟩ := h1.op
  unfold rng1D at hz
  split at hz
  · rename_i m
    obtain ⟨v, ev, rv⟩ := reps1 rs
    split at hz
    · rename_i hn
      cases hz
      have hn := of_decide_eq_true hn
      have e := Rep.int rv
      subst e
      refine ⟨m, ev, ⟨by omega, by omega, by omega, by omega, by omega⟩, ?_⟩
      have r := reps_rgC (W := W') (ρ := ρ1) (H := H1) 0 1 (List.range m.toNat)
      simp only [Int.mul_one, Int.zero_add] at r
      have q := (see_want w).lst s1 (by simp only [List.length_map, List.length_range]; rw [sizeLine_eq]; omega) r
      unfold rgC
      simp only [Int.mul_one, Int.zero_add, Int.sub_zero]
      exact q
    · cases hz
  · cases hz
end MI
end
/-! MIp -/
section
set_option linter.all false
set_option maxRecDepth 100000
set_option maxHeartbeats 4000000
/-! What the checker passes is read by MI: expressions. -/
namespace MI
open PySem L2

section
variable {c : Cn} {W : Wd} {call : Nat → List D → M D} {k : Nat} {cx : CXT} {E' : XK} {X : Cx}
theorem XOk.blk (O : XOk c W call k cx E' X) (s : Shared) (H : Hp) (scope : Scope) (C : Addr) (cl : List (Str × Addr)) (fp : List Addr) :
    XOk (c.blk scope) W call k cx (fun _ _ _ => False) (X.blk s H scope (compEnvC scope cl C X.env) fp) where
  hK := O.hK
  hN := O.hN
  nd := O.nd
  sc := by
    show relabel scope X.env = relS c.sc scope
    rw [← O.sc]
    rfl
  calm := O.calm
  room := O.room
  hg := O.hg
  own := PassesOwn.never
  fnl := fun y h => h
  glob := O.glob
  bn := O.bn
  fns := O.fns
  prom := O.prom
  hx := fun pins σ H s e s' _ h => O.hF _ _ _ _ _ h
  hF := O.hF
  hcx := O.hcx
  two := O.two
  errs := O.errs
theorem Post.xf {α : Type} {W : Wd} {x : XW} {r : R α} {ρ : List Addr} {H : Hp} {q : α → List C → List Addr → Hp → Prop} (h : Post W xF r ρ H q) : Post W x r ρ H q := by
  cases r with
  | no => exact h
  | ok a η => exact h
  | exc c d η => exact fun ρ' H' e s => (h ρ' H' e s).elim
theorem xf_e {X : Cx} {W : Wd} {x : XW} {e : Expr} {m : Ev → M D} (h : PE X e (tE W x m)) : PE X e (tE W xF m) := pe_mono h fun σ H Q _ ⟨W', iw, ρ, η, env, sim, er, h⟩ => ⟨W', iw, ρ, η, env, sim, er, h.xf⟩
theorem xf_a {X : Cx} {W : Wd} {x : XW} {e : List Expr} {m : Ev → M (List D)} (h : PA X e (tEs W x m)) : PA X e (tEs W xF m) := pa_mono h fun σ H Q _ ⟨W', iw, ρ, η, env, sim, er, h⟩ => ⟨W', iw, ρ, η, env, sim, er, h.xf⟩
theorem xf_k {X : Cx} {W : Wd} {x : XW} {e : List Keyword} {m : Ev → M (List D)} (h : PK X e (tEs W x m)) : PK X e (tEs W xF m) := ⟨fun pos pins s σ H Q I ⟨W', iw, ρ, η, env, sim, er, hh⟩ => h.run pos pins s σ H Q I ⟨W', iw, ρ, η, env, sim, er, hh.xf⟩⟩
theorem xf_t {X : Cx} {W : Wd} {x : XW} {e : Expr} {m : Ev → M Bool} (h : PT X e (tEb W x m)) : PT X e (tEb W xF m) := pt_mono h fun σ H Q _ ⟨W', iw, ρ, η, env, sim, er, h⟩ => ⟨W', iw, ρ, η, env, sim, er, h.xf⟩
theorem xf_ts {X : Cx} {W : Wd} {x : XW} {e : List Expr} {m : Ev → M Bool} (h : PTs X e (tEb W x m)) : PTs X e (tEb W xF m) := ⟨fun pins s σ H Q I ⟨W', iw, ρ, η, env, sim, er, hh⟩ => h.run pins s σ H Q I ⟨W', iw, ρ, η, env, sim, er, hh.xf⟩⟩
theorem xf_i {X : Cx} {W : Wd} {x : XW} {t e : Expr} {m : Ev → M (List D)} (h : PI X t e (tEI W x m)) : PI X t e (tEI W xF m) := ⟨fun pins s σ H R I ⟨W', iw, ρ, η, env, sim, er, hh⟩ => h.run pins s σ H R I ⟨W', iw, ρ, η, env, sim, er, hh.xf⟩⟩
theorem XOk.units (O : XOk c W call k cx E' X) : X.A.units + 66 < cLine := by
  have := O.room.un
  omega
theorem vis_of (O : XOk c W call k cx E' X) {y : Str} (h : visN c y = true) : Vis X.env.scope y := by
  unfold visN at h
  unfold Vis
  rw [O.sc]
  split at h <;> simp_all
theorem loc_of (O : XOk c W call k cx E' X) {y : Str} (h : locN c y = true) : Loc X.env.scope y := by
  unfold locN at h
  unfold L2.Loc
  rw [O.sc]
  split at h <;> simp_all
theorem gl_of (O : XOk c W call k cx E' X) {y : Str} (h : glN c y = true) : Gl X y := by
  unfold glN at h
  unfold Gl Env.kindOf
  rw [O.sc]
  split at h <;> simp_all
theorem dbg_of {y : Str} (h : noDbg y = true) : (y == ("__debug__" : Str)) = false ∧ (y == ("__classdict__" : Str)) = false ∧ y ≠ "__name__" := by
  unfold noDbg at h
  simp only [Bool.and_eq_true, Bool.not_eq_true'] at h
  obtain ⟨⟨h1, h2⟩, h3⟩ := h
  refine ⟨h1, h2, fun e => ?_⟩
  subst e
  rw [beq_self_eq_true] at h3
  cases h3
theorem var_of (O : XOk c W call k cx E' X) {i : Nat} {y : Str} {p : Pos} (h : okVar c i y = true) : PE X (.Name y p) (tVar i) := by
  unfold okVar at h
  simp only [Bool.and_eq_true, decide_eq_true_eq] at h
  obtain ⟨⟨h1, h2⟩, h3⟩ := h
  obtain ⟨d1, d2, _⟩ := dbg_of h3
  exact pe_var (by rw [O.hN]; exact h1) (vis_of O h2) d1 d2
theorem bn_of (O : XOk c W call k cx E' X) {y : Str} (h : okBn c y = true) : Gl X y ∧ X.mg y = none ∧ (y == ("__debug__" : Str)) = false ∧ y ≠ "__name__" := by
  unfold okBn at h
  simp only [Bool.and_eq_true, List.any_eq_true, decide_eq_true_eq] at h
  obtain ⟨⟨h1, h2⟩, z, hz, e⟩ := h
  subst e
  obtain ⟨d1, _, d3⟩ := dbg_of h2
  exact ⟨gl_of O h1, O.bn _ hz, d1, d3⟩
theorem fn_of' (O : XOk c W call k cx E' X) {y : Str} {f n : Nat} (h : okFn c y f n = true) : Gl X y ∧ (y, f, n) ∈ c.T.fns ∧ (y == ("__debug__" : Str)) = false := by
  unfold okFn at h
  simp only [Bool.and_eq_true, List.any_eq_true, decide_eq_true_eq] at h
  obtain ⟨⟨h1, h2⟩, z, hz, e⟩ := h
  subst e
  exact ⟨gl_of O h1, hz, (dbg_of h2).1⟩
theorem fnv_of (O : XOk c W call k cx E' X) {y : Str} {f : Nat} {p : Pos} {x : XW} (h : okFnv c y f = true) : PE X (.Name y p) (tE W x fun _ => pure (.fn f)) := by
  unfold okFnv at h
  simp only [Bool.and_eq_true, List.any_eq_true, decide_eq_true_eq] at h
  obtain ⟨⟨h1, h2⟩, z, hz, e1, e2⟩ := h
  subst e1; subst e2
  refine s_cst (v := .ref (W.Fn z.2.1)) (pe_glob (gl_of O h1) (O.fns _ hz) rfl (dbg_of h2).1) fun W' ρ H iw => ?_
  show V.ref _ = V.ref _
  rw [iw.2]
theorem glo_of (O : XOk c W call k cx E' X) {y : Str} {d : D} {p : Pos} {x : XW} (h : okGlo c y d = true) : PE X (.Name y p) (tE W x fun _ => pure d) := by
  unfold okGlo at h
  simp only [Bool.and_eq_true, List.any_eq_true, decide_eq_true_eq] at h
  obtain ⟨⟨h1, h2⟩, z, hz, e1, e2⟩ := h
  subst e1
  have e2 := beqD_eq e2
  subst e2
  obtain ⟨u, v, hm, hr, hv⟩ := O.glob _ hz
  exact s_cst (pe_glob (gl_of O h1) hm hr (dbg_of h2).1) hv
theorem cst_of {a : Const} {d : D} {j : Nat} {p : Pos} {x : XW} (h : okCst a d = true) : PE X (.Constant a j p) (tE W x fun _ => pure d) := by
  cases a <;> cases d <;> simp only [okCst, Bool.false_eq_true] at h
  · exact s_cst pe_non fun _ _ _ _ => rfl
  · rename_i a b
    have e : a = b := by simpa using h
    subst e
    exact s_cst pe_bl fun _ _ _ _ => rfl
  · rename_i a b
    have e : a = b := by simpa using h
    subst e
    exact s_cst pe_int fun _ _ _ _ => rfl
  · rename_i a b
    simp only [Bool.and_eq_true, decide_eq_true_eq] at h
    obtain ⟨e, hl⟩ := h
    subst e
    refine s_cst pe_str fun _ _ _ _ => ⟨rfl, ?_⟩
    rw [sizeLine_eq]
    exact Nat.le_trans hl (by decide)
theorem okCk_of (O : XOk c W call k cx E' X) {q : L2.Key} {e : Expr} (h : okCk c (keyD q) e = true) : PE X e (tC (kV q)) := by
  unfold okCk at h
  split at h
  · rename_i a j p
    cases q <;> cases a <;> simp only [keyD, okCst, Bool.false_eq_true] at h
    · have e := of_decide_eq_true h
      subst e
      exact pe_int
    · simp only [Bool.and_eq_true, decide_eq_true_eq] at h
      obtain ⟨e, _⟩ := h
      subst e
      exact pe_str
  · rename_i y p
    unfold okGlo at h
    simp only [Bool.and_eq_true, List.any_eq_true, decide_eq_true_eq] at h
    obtain ⟨⟨h1, h2⟩, z, hz, e1, e2⟩ := h
    subst e1
    have e2 := beqD_eq e2
    obtain ⟨u, v, hm, hr, hv⟩ := O.glob _ hz
    have r := hv W [] (fun _ => none) ⟨rfl, rfl⟩
    rw [e2] at r
    have ev : v = kV q := by
      cases q with
      | inl i => exact r
      | inr s => exact (Rep.str r).1
    subst ev
    exact pe_glob (gl_of O h1) hm hr (dbg_of h2).1
  · cases h
theorem pairs_of (O : XOk c W call k cx E' X) : ∀ {keys : List (Option Expr)} {values : List Expr} {kds : List (L2.Key × L2.Key)}, okPairs c keys values kds = true → PairC X keys values kds ∧ ∀ r ∈ kds, ∀ s : Str, r.2 = .inr s → s.length ≤ sizeLine
  | [], [], [], _ => ⟨trivial, by simp⟩
  | some a :: ks, v :: vs, p :: r, h => by
    simp only [okPairs, Bool.and_eq_true] at h
    obtain ⟨⟨⟨h1, h2⟩, h3⟩, h4⟩ := h
    obtain ⟨a1, a2⟩ := pairs_of O h4
    refine ⟨⟨⟨okCk_of O h1, okCk_of O h2⟩, a1⟩, fun t ht s hs => ?_⟩
    rcases List.mem_cons.mp ht with rfl | ht
    · rw [hs] at h3
      have := of_decide_eq_true (show decide (s.length ≤ 1000) = true from h3)
      rw [sizeLine_eq]; omega
    · exact a2 t ht s hs
  | [], [], _ :: _, h => by simp [okPairs] at h
  | [], _ :: _, _, h => by simp [okPairs] at h
  | none :: _, _, _, h => by simp [okPairs] at h
  | some _ :: _, [], _, h => by simp [okPairs] at h
  | some _ :: _, _ :: _, [], h => by simp [okPairs] at h
theorem set_of (O : XOk c W call k cx E' X) {i : Nat} {y : Str} (h : okSet c i y = true) : X.N[i]? = some y ∧ Loc X.env.scope y ∧ (X.fn y = true ∨ X.env.scope.names.lookup y = some .local) := by
  unfold okSet at h
  simp only [Bool.and_eq_true, decide_eq_true_eq, Bool.or_eq_true] at h
  obtain ⟨⟨h1, h2⟩, h3⟩ := h
  exact ⟨by rw [O.hN]; exact h1, loc_of O h2, h3.imp (O.fnl y) fun h => by rw [O.sc]; exact h⟩
theorem nd_of (O : XOk c W call k cx E' X) : X.N.Nodup := by rw [O.hN]; exact O.nd
theorem tg_of (O : XOk c W call k cx E' X) {vs : List Nat} {tg : Tg} {t : Expr} (h : okTg c vs tg t = true) : PG X t (tET W tg) ∧ tgIn tg vs := by
  unfold okTg at h
  split at h
  · simp only [Bool.and_eq_true, List.contains_iff_mem] at h
    obtain ⟨h1, h2⟩ := h
    obtain ⟨a1, a2, a3⟩ := set_of O h1
    exact ⟨gt_one W _ (pg_name (nd_of O) a1 a2 a3), h2⟩
  · simp only [Bool.and_eq_true, List.contains_iff_mem] at h
    obtain ⟨⟨⟨h1, h2⟩, h3⟩, h4⟩ := h
    obtain ⟨a1, a2, a3⟩ := set_of O h1
    obtain ⟨b1, b2, b3⟩ := set_of O h2
    exact ⟨gt_two W _ _ O.hK O.calm (pgs_cons (pg_name (nd_of O) a1 a2 a3) (pgs_cons (pg_name (nd_of O) b1 b2 b3) pgs_nil)), h3, h4⟩
  · cases h
/-- a test from a value -/
theorem t_of {a : Expr} {x : XW} {m : Ev → M D} (h : PE X a (tE W x m)) (hp : plainT a = true) : noIf a = true → PT X a (tEb W x fun v => m v >>= testD) := fun _ => s_val h (isTrue_no hp X.env)
theorem teb_eq {a : Expr} {x : XW} {m m' : Ev → M Bool} (h : PT X a (tEb W x m)) (e : m = m') : PT X a (tEb W x m') := e ▸ h
theorem te_eq {a : Expr} {x : XW} {m m' : Ev → M D} (h : PE X a (tE W x m)) (e : m = m') : PE X a (tE W x m') := e ▸ h
theorem tei_eq {t a : Expr} {x : XW} {m m' : Ev → M (List D)} (h : PI X t a (tEI W x m)) (e : m = m') : PI X t a (tEI W x m') := e ▸ h
@[simp] theorem testD_bl (b : Bool) : testD (.bl b) = pure b := rfl
theorem bl_test (m : M Bool) : ((m >>= fun r => pure (D.bl r)) >>= testD) = m := by
  rw [bind_assoc']
  show (m >>= fun r => testD (.bl r)) = m
  exact bind_pure' m
/-- keywords -/
theorem pk_mono {e : List Keyword} {t t' : TA} (h : PK X e t) (f : ∀ σ H Q, Good X.K H → t' σ H Q → t σ H Q) : PK X e t' := ⟨fun pos pins s σ H Q I hw => h.run pos pins s σ H Q I (f σ H Q (inv_good I) hw)⟩
theorem sk_nil {x : XW} : PK X [] (tEs W x fun _ => pure []) := by
  refine pk_mono pk_nil fun σ H Q _ h => ?_
  obtain ⟨W', iw, ρ, η, env, sim, er, h⟩ := h
  exact h.pure sim _ Reps.nil
theorem sk_cons {a : Expr} {n : Option Str} {p : Pos} {es : List Keyword} {x : XW} {ma : Ev → M D} {ms : Ev → M (List D)} (ha : PE X a (tE W x ma)) (hs : PK X es (tEs W x ms)) :
    PK X (⟨n, a, p⟩ :: es) (tEs W x fun v => ma v >>= fun p => ms v >>= fun ps => pure (p :: ps)) := by
  refine pk_mono (pk_cons ha hs) fun σ H Q _ h => ?_
  obtain ⟨W', iw, ρ, η, env, sim, er, h⟩ := h
  refine ⟨W', iw, ρ, η, env, sim, er, h.bind.mono fun p η1 ρ1 H1 e1 s1 h1 vp rp => ?_⟩
  refine ⟨W', iw, ρ1, η1, env, s1, er.ext e1 sim.ok, h1.bind.mono fun q η2 ρ2 H2 e2 s2 h2 vq rq => ?_⟩
  exact h2.pure s2 _ (Reps.cons (rp.ext e2 s1.ok) rq)
theorem kw_all {pos : Pos} {env : Env} : ∀ {ks : List Keyword}, ks.all (·.arg.isSome) = true → (backToKw pos (keywordEach ks env)).all (·.1.isSome) = true ∧ (backToKw pos (keywordEach ks env)).any (·.1.isNone) = false
  | [], _ => ⟨rfl, rfl⟩
  | ⟨n, a, p⟩ :: ks, h => by
    simp only [List.all_cons, Bool.and_eq_true] at h
    obtain ⟨h1, h2⟩ := kw_all (pos := pos) (env := env) h.2
    constructor
    · show (n.isSome && (backToKw pos (keywordEach ks env)).all (·.1.isSome)) = true
      rw [h1, h.1]; rfl
    · show (n.isNone || (backToKw pos (keywordEach ks env)).any (·.1.isNone)) = false
      rw [h2]
      cases n with
      | none => exact absurd h.1 (by decide)
      | some n => rfl
theorem kw_names {pos : Pos} {env : Env} : ∀ {ks : List Keyword} {ns : List Str}, ns.map some = ks.map (·.arg) → (backToKw pos (keywordEach ks env)).filterMap (·.1) = ns
  | [], ns, h => by
    cases ns with
    | nil => rfl
    | cons n ns => cases h
  | ⟨n, a, p⟩ :: ks, ns, h => by
    cases ns with
    | nil => cases h
    | cons m ns =>
      simp only [List.map_cons, List.cons.injEq] at h
      obtain ⟨h1, h2⟩ := h
      show List.filterMap (·.1) ((n, (do let v ← eval a env; standAt pos; pure v)) :: backToKw pos (keywordEach ks env)) = m :: ns
      subst h1
      rw [List.filterMap_cons]
      show m :: List.filterMap (·.1) (backToKw pos (keywordEach ks env)) = m :: ns
      rw [kw_names h2]
theorem pts_mono {ifs : List Expr} {t t' : TT} (h : PTs X ifs t) (f : ∀ σ H Q, t' σ H Q → t σ H Q) : PTs X ifs t' := ⟨fun pins s σ H Q I hw => h.run pins s σ H Q I (f σ H Q hw)⟩
theorem s_ifs0 {x : XW} : PTs X [] (tEb W x fun _ => pure true) := by
  refine pts_mono pts_nil fun σ H Q h => ?_
  obtain ⟨W', iw, ρ, η, env, sim, er, h⟩ := h
  exact h.pure sim
end
end MI
end
/-! MSd -/
section
set_option linter.all false
set_option maxRecDepth 100000
set_option maxHeartbeats 4000000
/-! Sets of nested tuples: the search. -/
namespace MI
open PySem PySem.Spec PySem.SeqAt PyProof.Rows L2

abbrev IsN (h : Heap) (k : NestedKey) (a : Addr) : Prop := NestedIs h k (.ref a) ∧ k.depth ≤ 8
theorem IsN.keep {h h' : Heap} {k : NestedKey} {b : Addr} (x : IsN h k b) (g : ∀ c o, h.get? c = some o → h'.get? c = some o) : IsN h' k b := ⟨NestedIs.at (fun a o _ _ e _ => g a o e) k _ x.1, x.2⟩
theorem IsN.upd {h h' : Heap} {k : NestedKey} {a b : Addr} {o : Obj} {es : Array (Int × Value)} {ep : Nat} {t : SetTable} (x : IsN h k b) (ho : h.get? a = some o) (hd : o.data = .set es ep t) (sb : Heap.SameBut a h h') : IsN h' k b :=
  ⟨NestedIs.at (fun c oc vs n e1 e2 => (sb.2 c fun z => by
    subst z
    rw [ho] at e1
    cases e1
    rw [hd] at e2
    cases e2).trans e1) k _ x.1, x.2⟩
section
variable {P : Program} {w : World}
/-- a question that is answered and leaves the state -/
def Says (P : Program) (w : World) (s : Shared) (t : Sem Bool) (b : Bool) : Prop := ∀ (A : Around) (E : Value → Shared → Prop) (Q : Bool → Shared → Prop), Q b s → wpAny (model P w) A t Q E s
mutual
theorem noClass : ∀ (k : NestedKey) (v : Value) (n : Nat) (s : Shared), NestedIs s.heap k v → k.depth ≤ n → Says P w s (ofAClassStatement n v) false
  | .none, _, n, s, x, _ => by cases x; intro A E Q q; cases n <;> exact wpAny_pure q
  | .num i, _, n, s, x, _ => by cases x <;> intro A E Q q <;> cases n <;> exact wpAny_pure q
  | .text y, _, n, s, x, _ => by cases x; intro A E Q q; cases n <;> exact wpAny_pure q
  | .tup ks, _, n, s, x, hn => by
    simp only [NestedKey.depth] at hn
    cases x with
    | @tup a o vs m _ ho hc hd hk =>
      cases n with
      | zero => omega
      | succ n =>
        have all := noClasses ks vs.toList n s hk (by omega)
        intro A E Q q
        have ty : s.TypeIs (.ref a) "tuple" := ⟨o, ho, hc⟩
        unfold ofAClassStatement
        refine wpAny_bind (wpAny_typeOf ty ?_)
        dsimp only
        simp only [show (("tuple" : String) == "tuple") = true by decide, if_true, Bool.not_true, Bool.false_eq_true, if_false]
        try refine wpAny_bind (wpAny_pure ?_)
        try simp only [Bool.not_true, Bool.false_eq_true, if_false]
        show wpAny _ _ (seqItems? (.ref a) >>= _) _ _ s
        refine wpAny_bind (wpAny_seqItems ho hd ?_)
        dsimp only
        refine wpAny_bind ?_
        show wpAny _ _ (forIn vs _ _) _ _ s
        rw [← Array.forIn_toList]
        refine wpAny_forIn_list _ (fun todo c s' => c.1 = none ∧ s' = s ∧ ∀ u ∈ todo, Says P w s (ofAClassStatement n u) false) _ ?_ ?_ _ _ ⟨rfl, rfl, all⟩
        · rintro u todo c s' ⟨hc, rfl, g⟩
          refine wpAny_bind (g u List.mem_cons_self _ _ _ ?_)
          simp only [Bool.false_eq_true, if_false]
          exact wpAny_pure ⟨rfl, rfl, fun u' hu' => g u' (List.mem_cons_of_mem _ hu')⟩
        · rintro ⟨c1, c2⟩ s' ⟨hc, rfl, _⟩
          simp only at hc
          subst hc
          exact wpAny_pure q
theorem noClasses : ∀ (ks : List NestedKey) (vs : List Value) (n : Nat) (s : Shared), NestedAll s.heap ks vs → NestedKey.depthAll ks ≤ n → ∀ v ∈ vs, Says P w s (ofAClassStatement n v) false
  | [], _, _, _, x, _, v, hv => by cases x; cases hv
  | k :: ks, _, n, s, x, hn, v, hv => by
    simp only [NestedKey.depthAll] at hn
    cases x with
    | cons x1 x2 =>
      rcases List.mem_cons.mp hv with z | z
      · rw [z]; exact noClass k _ n s x1 (by omega)
      · exact noClasses ks _ n s x2 (by omega) v z
end
/-- the hash may or may not be told by the value -/
def Tells (P : Program) (w : World) (s : Shared) (t : Sem Bool) : Prop := ∀ (A : Around) (E : Value → Shared → Prop) (Q : Bool → Shared → Prop), (∀ b, Q b s) → wpAny (model P w) A t Q E s
mutual
theorem byVal : ∀ (k : NestedKey) (v : Value) (n : Nat) (s : Shared), NestedIs s.heap k v → Tells P w s (hashByValue n v)
  | .none, _, n, s, x => by cases x; intro A E Q q; cases n <;> exact wpAny_pure (q _)
  | .num i, _, n, s, x => by cases x <;> intro A E Q q <;> cases n <;> exact wpAny_pure (q _)
  | .text y, _, n, s, x => by cases x; intro A E Q q; cases n <;> exact wpAny_pure (q _)
  | .tup ks, _, n, s, x => by
    cases x with
    | @tup a o vs m _ ho hc hd hk =>
      cases n with
      | zero => intro A E Q q; exact wpAny_pure (q _)
      | succ n =>
        have all := byVals ks vs.toList n s hk
        intro A E Q q
        have ty : s.TypeIs (.ref a) "tuple" := ⟨o, ho, hc⟩
        unfold hashByValue
        refine wpAny_bind (wpAny_specialOf ty F.slot_tuple_hash.lookup ?_)
        show wpAny _ _ (seqItems? (.ref a) >>= _) _ _ s
        refine wpAny_bind (wpAny_seqItems ho hd ?_)
        refine wpAny_bind ?_
        show wpAny _ _ (forIn vs _ _) _ _ s
        rw [← Array.forIn_toList]
        refine wpAny_forIn_list _ (fun todo c s' => c.1 = none ∧ s' = s ∧ ∀ u ∈ todo, Tells P w s (hashByValue n u)) _ ?_ ?_ _ _ ⟨rfl, rfl, all⟩
        · rintro u todo c s' ⟨hc, rfl, g⟩
          refine wpAny_bind (g u List.mem_cons_self _ _ _ fun b => ?_)
          cases b with
          | true =>
            simp only [Bool.not_true, Bool.false_eq_true, if_false]
            exact wpAny_pure ⟨rfl, rfl, fun u' hu' => g u' (List.mem_cons_of_mem _ hu')⟩
          | false =>
            simp only [Bool.not_false, if_true]
            exact wpAny_pure (wpAny_pure (q _))
        · rintro ⟨c1, c2⟩ s' ⟨hc, rfl, _⟩
          simp only at hc
          subst hc
          exact wpAny_pure (q _)
theorem byVals : ∀ (ks : List NestedKey) (vs : List Value) (n : Nat) (s : Shared), NestedAll s.heap ks vs → ∀ v ∈ vs, Tells P w s (hashByValue n v)
  | [], _, _, _, x, v, hv => by cases x; cases hv
  | k :: ks, _, n, s, x, v, hv => by
    cases x with
    | cons x1 x2 =>
      rcases List.mem_cons.mp hv with z | z
      · rw [z]; exact byVal k _ n s x1
      · exact byVals ks _ n s x2 v z
end
/-- a search among such tuples shows nothing -/
theorem unseen {s : Shared} {k : NestedKey} {b : Addr} (hk : IsN s.heap k b) {ys : List Value} (hy : ∀ y ∈ ys, ∃ k' c, y = Value.ref c ∧ IsN s.heap k' c) : Says P w s (searchCouldBeSeen (.ref b) ys) false := by
  intro A E Q q
  unfold searchCouldBeSeen
  refine wpAny_bind (wpAny_forIn_list _ (fun todo c s' => c.1 = none ∧ s' = s ∧ ∀ y ∈ todo, ∃ k' c, y = Value.ref c ∧ IsN s.heap k' c) _ ?_ ?_ _ _ ⟨rfl, rfl, hy⟩)
  · rintro u todo c s' ⟨_, rfl, g⟩
    obtain ⟨k', d, rfl, hd⟩ := g u List.mem_cons_self
    have more : ∀ y ∈ todo, ∃ k' c, y = Value.ref c ∧ IsN s'.heap k' c := fun y hy' => g y (List.mem_cons_of_mem _ hy')
    dsimp only
    by_cases same : (b == d || (carriedByValue (.ref b) && carriedByValue (.ref d))) = true
    · exact wp_if_pos same (wpAny_pure ⟨rfl, rfl, more⟩)
    · refine wp_if_neg same (wpAny_bind (quiet_key k _ 8 s' hk.1 hk.2 _ _ _ ?_))
      simp only [Bool.not_true, Bool.false_eq_true, if_false]
      refine wpAny_bind (quiet_key k' _ 8 s' hd.1 hd.2 _ _ _ ?_)
      simp only [Bool.not_true, Bool.false_eq_true, if_false]
      refine wpAny_bind (noClass k _ 8 s' hk.1 hk.2 _ _ _ ?_)
      simp only [Bool.false_eq_true, if_false]
      refine wpAny_bind (noClass k' _ 8 s' hd.1 hd.2 _ _ _ ?_)
      simp only [Bool.false_eq_true, if_false]
      exact wpAny_pure ⟨rfl, rfl, more⟩
  · rintro ⟨c1, c2⟩ s' ⟨hc, rfl, _⟩
    simp only at hc
    subst hc
    exact wpAny_pure q
end
end MI
end
/-! MSe -/
section
set_option linter.all false
set_option maxRecDepth 100000
set_option maxHeartbeats 4000000
/-! Sets of nested tuples: the table. -/
namespace MI
open PySem PySem.Spec PySem.SeqAt PyProof.Rows L2

abbrev NA := Addr × NestedKey
def hsh (w : World) (p : NA) : Int := p.2.hash w
def rws (w : World) (L : List NA) : List (Int × Value) := L.map fun p => (hsh w p, Value.ref p.1)
/-- the c-th step of the search for a hash -/
abbrev stp (m : Nat) (h : Int) (c : Nat) : SetTable.Probe := nth m (runAt m (SetTable.bits h % (m + 1)) (SetTable.bits h)) c
/-- at a stands a set with the keys L, in the table's sequence -/
structure Bag (w : World) (h : Heap) (a : Addr) (L : List NA) (es : Array (Int × Value)) (ep : Nat) (t : SetTable) : Prop where
  at_ : ∃ o, h.get? a = some o ∧ o.ExactSet ∧ o.data = .set es ep t
  rows : es.toList = rws w L
  tab : TabOk t (L.map (hsh w))
  nd : (L.map (·.2)).Nodup
  keys : ∀ p ∈ L, IsN h p.2 p.1
  led : w.params.followText "set-order" = true ∨ t.led = true
  room : L.length * 5 < t.mask * 3
  few : L.length < 64
section
variable {P : Program} {w : World} {A : Around} {E : Value → Shared → Prop} {s : Shared} {a : Addr} {L : List NA} {es : Array (Int × Value)} {ep : Nat} {t : SetTable}
theorem rws_len (L : List NA) {es : Array (Int × Value)} (h : es.toList = rws w L) : es.size = L.length := by
  rw [← Array.length_toList, h]
  unfold rws
  exact List.length_map ..
theorem rws_at {L : List NA} {es : Array (Int × Value)} (h : es.toList = rws w L) {i : Nat} {p : NA} (e : L[i]? = some p) : es[i]? = some (hsh w p, Value.ref p.1) := by
  rw [← Array.getElem?_toList, h]
  unfold rws
  rw [List.getElem?_map, e]
  rfl
theorem Bag.fits (B : Bag w s.heap a L es ep t) : t.fits es.size = true := by
  have z1 := B.tab.sz
  have z2 := rws_len L B.rows
  have z3 := B.room
  rw [List.length_map] at z1
  unfold SetTable.fits SetTable.fill
  rw [B.tab.dm, Bool.and_eq_true, beq_iff_eq, decide_eq_true_eq]
  exact ⟨by omega, by show t.place.size + 0 ≤ t.mask; omega⟩
theorem Bag.whole (B : Bag w s.heap a L es ep t) : ¬ t.gaveWay = true := by
  unfold SetTable.gaveWay
  rw [mask_odd B.tab.mok]
  exact Bool.false_ne_true ∘ fun z => by simpa using z
theorem stp_dummy (m : Nat) (h : Int) (c : Nat) : (stp m h c).dummy = none := by
  have g : ∀ (n : Nat) (p : SetTable.Probe), p.dummy = none → (nth m p n).dummy = none := by
    intro n
    induction n with
    | zero => exact fun p z => z
    | succ n ih => exact fun p z => ih (adv m p) (by unfold adv; split <;> exact z)
  exact g c _ rfl
theorem stp_more (m : Nat) (h : Int) (c q : Nat) : nth m (stp m h c) q = stp m h (c + q) := (nth_add m c _ q).symm
theorem stp_way (m : Nat) (h : Int) (c q : Nat) : (nth m (stp m h c) q).j = way m h (c + q) := congrArg SetTable.Probe.j (stp_more m h c q)
/-- the search from its c-th step on -/
theorem seek (B : Bag w s.heap a L es ep t) {x : Addr} {k : NestedKey} (hx : IsN s.heap k x) (hu : A.units + 8 < cLine) {K : Nat} (kf : K < 10 * SetTable.turns t.mask)
    (free : way t.mask (k.hash w) K ∉ t.place.toList) (full : ∀ c, c < K → way t.mask (k.hash w) c ∈ t.place.toList) {Q : SetFound → Shared → Prop}
    (yes : k ∈ L.map (·.2) → Q (.there none) s) (no : k ∉ L.map (·.2) → Q (.free (way t.mask (k.hash w) K) false) s) :
    ∀ (f c : Nat) (st : Option SetTable.Probe), st.getD (t.probeStart (k.hash w)) = stp t.mask (k.hash w) c → c ≤ K → K - c < f →
      (∀ (i : Nat) p, L[i]? = some p → p.2 = k → ∃ c', c ≤ c' ∧ c' < K ∧ t.place.toList[i]? = some (way t.mask (k.hash w) c')) →
      wpAny (model P w) A (setSearchFrom a (.ref x) (k.hash w) true f st) Q E s
  | 0, _, _, _, _, z, _ => absurd z (Nat.not_lt_zero _)
  | f + 1, c, st, est, hc, hf, ahead => by
    obtain ⟨o, ho, _, hd⟩ := B.at_
    rw [setSearchFrom_succ]
    refine wpAny_bind (wpAny_setState_of ho hd B.fits ?_)
    dsimp only
    refine wp_if_neg B.whole ?_
    try refine wpAny_bind (wpAny_pure ?_)
    have hashes : ∀ (i : Nat) p, L[i]? = some p → (fun i => (es[i]?.map (·.1)).getD 0) i = hsh w p := fun i p e => by
      show (es[i]?.map (·.1)).getD 0 = _
      rw [rws_at B.rows e]
      rfl
    have found := go_spec t B.tab.ris B.tab.dm (fun i => (es[i]?.map (·.1)).getD 0) (k.hash w) (10 * SetTable.turns t.mask) (K - c) (stp t.mask (k.hash w) c) (stp_dummy _ _ _) (by omega)
      (fun q hq => by rw [stp_way]; exact full (c + q) (by omega)) (by rw [stp_way, show c + (K - c) = K by omega]; exact free)
    rcases found with ⟨q, i, hq, hi, _, before, res⟩ | ⟨before, res⟩
    · rw [stp_way] at hi
      have ans : t.probe (fun i => (es[i]?.map (·.1)).getD 0) (k.hash w) (st.getD (t.probeStart (k.hash w))) = some (.candidate (way t.mask (k.hash w) (c + q)) i (stp t.mask (k.hash w) (c + (q + 1)))) := by
        rw [est, ← stp_way, ← stp_more]
        exact res
      rw [ans]
      dsimp only
      have il : i < L.length := by
        have z1 := (List.getElem?_eq_some_iff.mp hi).1
        have z2 := B.tab.sz
        rw [List.length_map] at z2
        rw [Array.length_toList] at z1
        omega
      obtain ⟨p, hp⟩ : ∃ p, L[i]? = some p := ⟨_, List.getElem?_eq_getElem il⟩
      have pm : p ∈ L := List.mem_of_getElem? hp
      have cand : wpAny (model P w) A (searchRest a (.ref x) (k.hash w) true f es t (way t.mask (k.hash w) (c + q)) i (stp t.mask (k.hash w) (c + (q + 1)))) Q E s := by
        unfold searchRest
        rw [rws_at B.rows hp]
        dsimp only
        refine wpAny_bind (wpAny_holding ((nestedKind P w).eqBool hu (B.keys p pm) hx ?_))
        refine wpAny_bind (wpAny_setState_of ho hd B.fits ?_)
        dsimp only
        by_cases same : p.2 = k
        · refine wp_if_pos (by simp [same]) (wpAny_pure (yes (List.mem_map.mpr ⟨p, pm, same⟩)))
        · refine wp_if_neg (by simp [same]) ?_
          try refine wpAny_bind (wpAny_pure ?_)
          rw [sameMem]
          dsimp only
          have here := slot_live B.tab.ris hi
          simp only [if_true, here, rws_at B.rows hp]
          refine wpAny_bind (wpAny_isSame_ref_self (wpAny_bind (wpAny_pure ?_)))
          simp only [if_true]
          refine wp_if_neg (by simp [same]) (seek B hx hu kf free full yes no f (c + (q + 1)) _ rfl (by omega) (by omega) fun i0 p0 e0 k0 => ?_)
          obtain ⟨c', l1, l2, l3⟩ := ahead i0 p0 e0 k0
          refine ⟨c', ?_, l2, l3⟩
          rcases Nat.lt_trichotomy c' (c + q) with z | z | z
          · refine absurd ?_ (before (c' - c) i0 (by omega) (by rw [stp_way, show c + (c' - c) = c' by omega]; exact l3))
            exact (hashes i0 p0 e0).trans (congrArg (NestedKey.hash w) k0)
          · rw [z] at l3
            have there := slot_live B.tab.ris l3
            rw [here] at there
            have ei : i = i0 := by injection there
            subst ei
            rw [hp] at e0
            cases e0
            exact absurd k0 same
          · omega
      by_cases led : t.led = true
      · refine wp_if_neg (by simp [led]) ?_
        try refine wpAny_bind (wpAny_pure ?_)
        exact cand
      · refine wp_if_pos (by simp [led]) (wpAny_bind (unseen hx (fun y hy => ?_) _ _ _ ?_))
        · obtain ⟨row, hr, rfl⟩ := List.mem_map.mp hy
          have in2 : row ∈ es.toList := by
            have z : row ∈ es ∧ row.1 = k.hash w := by simpa using hr
            simpa using z.1
          rw [B.rows] at in2
          obtain ⟨p2, m2, rfl⟩ := List.mem_map.mp in2
          exact ⟨p2.2, p2.1, rfl, B.keys p2 m2⟩
        · refine wp_if_neg (by decide) ?_
          try refine wpAny_bind (wpAny_pure ?_)
          exact cand
    · have ans : t.probe (fun i => (es[i]?.map (·.1)).getD 0) (k.hash w) (st.getD (t.probeStart (k.hash w))) = some (.empty (way t.mask (k.hash w) K) none) := by
        have e2 : way t.mask (k.hash w) K = (nth t.mask (stp t.mask (k.hash w) c) (K - c)).j := by rw [stp_way, show c + (K - c) = K by omega]
        rw [est, e2]
        exact res
      rw [ans]
      dsimp only
      refine wpAny_pure (no fun hm => ?_)
      obtain ⟨p0, m0, k0⟩ := List.mem_map.mp hm
      obtain ⟨i0, e0⟩ := List.mem_iff_getElem?.mp m0
      obtain ⟨c', l1, l2, l3⟩ := ahead i0 p0 e0 k0
      exact before (c' - c) i0 (by omega) (by rw [stp_way, show c + (c' - c) = c' by omega]; exact l3) ((hashes i0 p0 e0).trans (congrArg (NestedKey.hash w) k0))
theorem seek0 (B : Bag w s.heap a L es ep t) {x : Addr} {k : NestedKey} (hx : IsN s.heap k x) (hu : A.units + 8 < cLine) {Q : SetFound → Shared → Prop} (yes : k ∈ L.map (·.2) → Q (.there none) s)
    (no : ∀ K, k ∉ L.map (·.2) → way t.mask (k.hash w) K ∉ t.place.toList → (∀ c, c < K → way t.mask (k.hash w) c ∈ t.place.toList) → Q (.free (way t.mask (k.hash w) K) false) s) :
    wpAny (model P w) A (setSearch a (.ref x) (k.hash w) true) Q E s := by
  have room := B.room
  obtain ⟨K, kf, free, full⟩ := B.tab.first (by rw [List.length_map]; omega) (k.hash w)
  have low : K < 100000 := by
    have z : SetTable.turns t.mask ≤ 142 := by
      unfold SetTable.turns
      rcases B.tab.mok with e | e | e <;> omega
    omega
  unfold setSearch
  refine seek B hx hu kf free full yes (fun z => no K z free full) 100000 0 none rfl (Nat.zero_le _) (by omega) fun i p hp hk => ?_
  have hh : (L.map (hsh w))[i]? = some (k.hash w) := by
    rw [List.getElem?_map, hp, ← hk]
    rfl
  have il : i < t.place.toList.length := by
    have z1 := (List.getElem?_eq_some_iff.mp hp).1
    have z2 := B.tab.sz
    rw [List.length_map] at z2
    rw [Array.length_toList]
    omega
  have hj := List.getElem?_eq_getElem il
  obtain ⟨c, hc, e⟩ := B.tab.before free hh hj
  exact ⟨c, Nat.zero_le _, hc, by rw [hj, e]⟩
end
end MI
end
/-! MSf -/
section
set_option linter.all false
set_option maxRecDepth 100000
set_option maxHeartbeats 4000000
/-! Sets of nested tuples: one more. -/
namespace MI
open PySem PySem.Spec PySem.SeqAt PyProof.Rows L2
section
variable {P : Program} {w : World} {A : Around} {E : Value → Shared → Prop} {s : Shared} {a : Addr} {L : List NA} {es : Array (Int × Value)} {ep : Nat} {t : SetTable}
/-- the rows laid anew in a new sequence -/
theorem rows_moved (L : List NA) (es : Array (Int × Value)) (order : Array Nat) (hr : es.toList = rws w L) (hp : order.toList.Perm (List.range L.length)) :
    ∃ L2, (order.filterMap (es[·]?)).toList = rws w L2 ∧ L2.Perm L ∧ L2.map (hsh w) = order.toList.map fun i => (es.map (·.1)).getD i 0 := by
  have sz := rws_len L hr
  have one : ∀ i (h : i < L.length), es[i]? = some (hsh w L[i], Value.ref L[i].1) := fun i h => rws_at hr (List.getElem?_eq_getElem h)
  have go : ∀ l : List Nat, (∀ i ∈ l, i < L.length) → ∃ L2 : List NA, l.filterMap (fun i => es[i]?) = rws w L2 ∧ L2 = l.filterMap (fun i => L[i]?) ∧ L2.map (hsh w) = l.map fun i => (es.map (·.1)).getD i 0 := by
    intro l
    induction l with
    | nil => exact fun _ => ⟨[], rfl, rfl, rfl⟩
    | cons i l ih =>
      intro hl
      have hi := hl i List.mem_cons_self
      obtain ⟨M, e1, e2, e3⟩ := ih fun j hj => hl j (List.mem_cons_of_mem _ hj)
      refine ⟨L[i] :: M, ?_, ?_, ?_⟩
      · rw [List.filterMap_cons_some (one i hi), e1]
        rfl
      · rw [List.filterMap_cons_some (List.getElem?_eq_getElem hi), e2]
      · have e4 : (es.map (·.1)).getD i 0 = hsh w L[i] := by
          have z : (es.map (·.1))[i]? = some (hsh w L[i]) := by
            rw [Array.getElem?_map, one i hi]
            rfl
          simp [Array.getD_eq_getD_getElem?, z]
        rw [List.map_cons, List.map_cons, e3, e4]
  obtain ⟨M, e1, e2, e3⟩ := go order.toList fun i hi => List.mem_range.mp (hp.mem_iff.mp hi)
  refine ⟨M, by first | (rw [Array.toList_filterMap]; exact e1) | simpa using e1, ?_, e3⟩
  have all : ∀ n, n ≤ L.length → (List.range n).filterMap (fun i => L[i]?) = L.take n := by
    intro n
    induction n with
    | zero => exact fun _ => rfl
    | succ n ih =>
      intro hn
      rw [List.range_succ, List.filterMap_append, ih (Nat.le_of_lt hn), List.take_succ, List.getElem?_eq_getElem hn, List.filterMap_cons_some (List.getElem?_eq_getElem hn)]
      rfl
  have z := hp.filterMap (fun i => L[i]?)
  rw [all L.length (Nat.le_refl _), List.take_length, ← e2] at z
  exact z
/-- a larger table -/
theorem larger {o : Obj} (ho : s.heap.get? a = some o) (hx : o.ExactSet) (hd : o.data = .set es ep t) (rows : es.toList = rws w L) (full : t.place.size = es.size) (dm : t.dummies = #[]) (fl : es.size ≤ t.mask) (nd : (L.map (·.2)).Nodup)
    (keys : ∀ p ∈ L, IsN s.heap p.2 p.1) (led : w.params.followText "set-order" = true ∨ t.led = true) (few : L.length < 64) {want M : Nat} (hw : SetTable.sizeAbove want - 1 = M) (hM : MaskOk M) (h128 : SetTable.sizeAbove want ≤ 128) (room : L.length * 5 < M * 3)
    {Q : Unit → Shared → Prop} (hQ : ∀ h' L' es' ep' t', Heap.SameBut a s.heap h' → Bag w h' a L' es' ep' t' → L'.Perm L → Q () { s with heap := h' }) : wpAny (model P w) A (setRelay a want) Q E s := by
  have sz := rws_len L rows
  have fits : t.fits es.size = true := by
    unfold SetTable.fits SetTable.fill
    rw [dm, Bool.and_eq_true, beq_iff_eq, decide_eq_true_eq]
    exact ⟨full, by show t.place.size + 0 ≤ t.mask; omega⟩
  obtain ⟨t', order, et, perm, T, em, el, _, _⟩ := relaid_ok t (hs := es.map (·.1)) (wanted := want) hw hM (by rw [Array.size_map, sz]; omega)
  rw [Array.size_map, sz] at perm
  obtain ⟨M2, r1, r2, r3⟩ := rows_moved L es order rows perm
  rw [← r3] at T
  have sz2 : (order.filterMap (es[·]?)).size = es.size := by rw [rws_len M2 r1, r2.length_eq, sz]
  rw [setRelay_eq]
  refine wpAny_bind (wpAny_setState_of ho hd fits ?_)
  dsimp only
  refine wp_if_neg (by rw [sizeLine_eq]; omega) ?_
  try refine wpAny_bind (wpAny_pure ?_)
  rw [et]
  dsimp only
  refine wpAny_bind ?_
  refine wp_if_neg (by rw [sz2]; simp) ?_
  try refine wpAny_bind (wpAny_pure ?_)
  refine wpAny_pure ?_
  dsimp only
  refine wpAny_storeSet_of ho hd ?_ (by rw [sz2, sz, sizeLine_eq]; omega)
  have sb : Heap.SameBut a s.heap (s.heap.update a (Obj.putSet (order.filterMap (es[·]?)) t')) := Heap.SameBut.update ..
  exact hQ _ M2 _ (ep + 1) t' sb ⟨⟨_, store_at ho hd, ⟨hx.1, hx.2.1, hx.2.2⟩, rfl⟩, r1, T, (r2.map (·.2)).nodup_iff.mpr nd, fun p hp => (keys p (r2.mem_iff.mp hp)).upd ho hd sb, by rw [el]; exact led, by rw [r2.length_eq, em]; exact room, by rw [r2.length_eq]; exact few⟩ r2
theorem perm_mid {α : Type} (L : List α) (p : Nat) (x : α) : (L.take p ++ x :: L.drop p).Perm (x :: L) := by
  have z : (L.take p ++ x :: L.drop p).Perm (x :: (L.take p ++ L.drop p)) := List.perm_middle
  rwa [List.take_append_drop] at z
theorem TabOk.un {t : SetTable} {hs : List Int} (T : TabOk t hs) (b : Bool) : TabOk { t with plain := b } hs := ⟨T.ris, T.dm, T.sz, T.mok, T.bd, T.reach⟩
theorem addN (B : Bag w s.heap a L es ep t) {x : Addr} {k : NestedKey} (hx : IsN s.heap k x) (hu : A.units + 8 < cLine) (few : L.length + 1 < 64) {Q : Bool → Shared → Prop}
    (hQ : ∀ b h' L' es' ep' t', Heap.SameBut a s.heap h' → Bag w h' a L' es' ep' t' → (k ∈ L.map (·.2) → L' = L) → (k ∉ L.map (·.2) → L'.Perm ((x, k) :: L)) → Q b { s with heap := h' }) :
    wpAny (model P w) A (setAddHashed a (.ref x) (k.hash w)) Q E s := by
  obtain ⟨o, ho, hx0, hd⟩ := B.at_
  have sz := rws_len L B.rows
  have room := B.room
  unfold setAddHashed
  refine wpAny_holding ?_
  rw [show (100000 : Nat) = 99999 + 1 from rfl, setAddHashedIn_succ]
  refine wpAny_bind (wpAny_setState_of ho hd B.fits ?_)
  dsimp only
  refine wp_if_neg (by simp [byScan, Value.scannable]) ?_
  try refine wpAny_bind (wpAny_pure ?_)
  refine wpAny_bind (seek0 B hx hu (fun hm => ?_) fun K hm free full => ?_)
  · dsimp only
    exact wpAny_pure (hQ false s.heap L es ep t (Heap.SameBut.refl a s.heap) B (fun _ => rfl) fun z => absurd hm z)
  · dsimp only
    refine wpAny_bind (wpAny_setState_of ho hd B.fits ?_)
    dsimp only
    obtain ⟨q1, q2, q3, q4, q5, _, _, _, q9⟩ := B.tab.put free full
    generalize hpt : t.put (way t.mask (k.hash w) K) = pt at q1 q3 q4 q5 q9 ⊢
    obtain ⟨t1, p⟩ := pt
    dsimp only at q1 q3 q4 q5 q9 ⊢
    subst q1
    have rows1 : (SetTable.insertAt es (SetTable.below t.place (way t.mask (k.hash w) K)) (k.hash w, Value.ref x)).toList = rws w (L.take (SetTable.below t.place (way t.mask (k.hash w) K)) ++ (x, k) :: L.drop (SetTable.below t.place (way t.mask (k.hash w) K))) := by
      rw [SetTable.toList_insertAt, B.rows]
      unfold rws
      rw [List.map_append, List.map_cons, List.map_take, List.map_drop]
      rfl
    generalize SetTable.below t.place (way t.mask (k.hash w) K) = p at q2 q3 rows1 ⊢
    have pm := perm_mid L p (x, k)
    have len1 := pm.length_eq
    rw [List.length_cons] at len1
    have hs1 : (L.take p ++ (x, k) :: L.drop p).map (hsh w) = (L.map (hsh w)).take p ++ k.hash w :: (L.map (hsh w)).drop p := by
      rw [List.map_append, List.map_cons, List.map_take, List.map_drop]
      rfl
    rw [← hs1] at q3
    have nd1 : ((L.take p ++ (x, k) :: L.drop p).map (·.2)).Nodup := (pm.map (·.2)).nodup_iff.mpr (by rw [List.map_cons]; exact List.nodup_cons.mpr ⟨hm, B.nd⟩)
    have sz1 := rws_len _ rows1
    rw [len1] at sz1
    generalize SetTable.insertAt es p (k.hash w, Value.ref x) = es1 at rows1 sz1 ⊢
    generalize L.take p ++ (x, k) :: L.drop p = L1 at pm len1 q3 nd1 rows1
    -- whatever is told of the hash
    have rest : ∀ bv : Bool, wpAny (model P w) A (do
        let t := if bv then t1 else { t1 with plain := false }
        storeSet a es1 t
        if !false && t.tooFull then setRelay a (SetTable.grown (es.size + 1))
        return true) Q E s := by
      intro bv
      have T2 : ∃ t2 : SetTable, (if bv then t1 else { t1 with plain := false }) = t2 ∧ TabOk t2 (L1.map (hsh w)) ∧ t2.mask = t.mask ∧ t2.led = t.led ∧ t2.fill = L.length + 1 ∧ t2.dummies = #[] := by
        rw [List.length_map] at q9
        cases bv with
        | true => exact ⟨t1, rfl, q3, q4, q5, q9, q3.dm⟩
        | false => exact ⟨{ t1 with plain := false }, rfl, TabOk.un q3 false, q4, q5, q9, q3.dm⟩
      obtain ⟨t2, e2, T2, m2, l2, f2, d2⟩ := T2
      dsimp only
      rw [e2]
      refine wpAny_bind (wpAny_storeSet_of ho hd ?_ (by rw [sz1, sizeLine_eq]; omega))
      have sb : Heap.SameBut a s.heap (s.heap.update a (Obj.putSet es1 t2)) := Heap.SameBut.update ..
      have ho1 := store_at (es' := es1) (t' := t2) ho hd
      generalize s.heap.update a (Obj.putSet es1 t2) = h1 at sb ho1 ⊢
      have keys1 : ∀ p ∈ L1, IsN h1 p.2 p.1 := fun p hp => by
        rcases List.mem_cons.mp (pm.mem_iff.mp hp) with z | z
        · rw [z]; exact hx.upd ho hd sb
        · exact (B.keys p z).upd ho hd sb
      have led1 : w.params.followText "set-order" = true ∨ t2.led = true := by rw [l2]; exact B.led
      by_cases tf : t2.tooFull = true
      · first
          | (refine wpAny_bind ?_; refine wp_if_pos (by simp [tf]) ?_)
          | (refine wp_if_pos (by simp [tf]) ?_; refine wpAny_bind ?_)
        have many : (L.length + 1) * 5 ≥ t2.mask * 3 := by
          have z := tf
          unfold SetTable.tooFull at z
          rw [decide_eq_true_eq, f2] at z
          exact z
        rw [sz]
        have full1 : t2.place.size = es1.size := by rw [T2.sz, List.length_map, len1, sz1]
        have two : (t.mask = 7 ∧ L.length = 4) ∨ (t.mask = 31 ∧ L.length = 18) := by
          rcases B.tab.mok with e | e | e <;> rw [m2, e] at many <;> rw [e] at room
          · exact .inl ⟨e, by omega⟩
          · exact .inr ⟨e, by omega⟩
          · omega
        have grow : ∀ M, SetTable.sizeAbove (SetTable.grown (L.length + 1)) - 1 = M → MaskOk M → SetTable.sizeAbove (SetTable.grown (L.length + 1)) ≤ 128 → (L.length + 1) * 5 < M * 3 →
            wpAny (model P w) A (setRelay a (SetTable.grown (L.length + 1))) (fun _ s' => wpAny (model P w) A (pure true) Q E s') E { s with heap := h1 } := fun M g1 g2 g3 g4 =>
          larger (s := { s with heap := h1 }) ho1 ⟨hx0.1, hx0.2.1, hx0.2.2⟩ rfl rows1 full1 d2 (by rw [sz1, m2]; rcases two with ⟨e, z⟩ | ⟨e, z⟩ <;> omega) nd1 keys1 led1 (by omega) g1 g2 g3 (by rw [len1]; exact g4)
            fun h2 L2 es2 ep2 t3 sb2 B2 pm2 => wpAny_pure (hQ true h2 L2 es2 ep2 t3 (sb.trans sb2) B2 (fun z => absurd z hm) fun _ => pm2.trans pm)
        rcases two with ⟨_, z⟩ | ⟨_, z⟩
        · exact grow 31 (by rw [z, size_20]) (.inr (.inl rfl)) (by rw [z, size_20]; decide) (by omega)
        · exact grow 127 (by rw [z, size_76]) (.inr (.inr rfl)) (by rw [z, size_76]; decide) (by omega)
      · first
          | refine wp_if_neg (by simp [tf]) ?_
          | (refine wpAny_bind ?_; refine wp_if_neg (by simp [tf]) ?_; refine wpAny_pure ?_)
        refine wpAny_pure (hQ true h1 L1 es1 (ep + 1) t2 sb ⟨⟨_, ho1, ⟨hx0.1, hx0.2.1, hx0.2.2⟩, rfl⟩, rows1, T2, nd1, keys1, led1, ?_, by omega⟩ (fun z => absurd z hm) fun _ => pm)
        have z := tf
        unfold SetTable.tooFull at z
        rw [decide_eq_true_eq, f2] at z
        omega
    by_cases pl : t1.plain = true
    · first
        | (refine wpAny_bind ?_; refine wp_if_pos pl ?_; exact byVal k _ 8 s hx.1 _ _ _ rest)
        | exact wp_if_pos pl (wpAny_bind (byVal k _ 8 s hx.1 _ _ _ rest))
    · first
        | (refine wpAny_bind ?_; refine wp_if_neg pl ?_; exact wpAny_pure (rest true))
        | exact wp_if_neg pl (wpAny_bind (wpAny_pure (rest true)))
        | exact wp_if_neg pl (rest true)
end
end MI
end
/-! MSg -/
section
set_option linter.all false
set_option maxRecDepth 100000
set_option maxHeartbeats 4000000
/-! set(xs) of nested tuples. -/
namespace MI
open PySem PySem.Spec PySem.SeqAt PyProof.Rows L2

/-- what the set has from the first i items -/
structure Met (ks : List NA) (i : Nat) (L : List NA) : Prop where
  sub : ∀ p ∈ L, p ∈ ks.take i
  all : ∀ p ∈ ks.take i, p.2 ∈ L.map (·.2)
  len : L.length ≤ i
theorem take_one {α : Type} {l : List α} {i : Nat} {x : α} (h : l[i]? = some x) : l.take (i + 1) = l.take i ++ [x] := by
  rw [List.take_succ, h]
  rfl
theorem Met.next {ks L L' : List NA} {i : Nat} {x : NA} (g : Met ks i L) (h : ks[i]? = some x) (c1 : x.2 ∈ L.map (·.2) → L' = L) (c2 : x.2 ∉ L.map (·.2) → L'.Perm (x :: L)) : Met ks (i + 1) L' := by
  by_cases c : x.2 ∈ L.map (·.2)
  · rw [c1 c]
    refine ⟨fun p hp => ?_, fun p hp => ?_, Nat.le_succ_of_le g.len⟩
    · rw [take_one h]; exact List.mem_append_left _ (g.sub p hp)
    · rw [take_one h] at hp
      rcases List.mem_append.mp hp with z | z
      · exact g.all p z
      · rw [List.mem_singleton.mp z]; exact c
  · have pm := c2 c
    refine ⟨fun p hp => ?_, fun p hp => ?_, ?_⟩
    · rw [take_one h]
      rcases List.mem_cons.mp (pm.mem_iff.mp hp) with z | z
      · rw [z]; exact List.mem_append_right _ (List.mem_singleton.mpr rfl)
      · exact List.mem_append_left _ (g.sub p z)
    · rw [take_one h] at hp
      rw [(pm.map (·.2)).mem_iff, List.map_cons]
      rcases List.mem_append.mp hp with z | z
      · exact List.mem_cons_of_mem _ (g.all p z)
      · rw [List.mem_singleton.mp z]; exact List.mem_cons_self
    · rw [pm.length_eq, List.length_cons]
      exact Nat.succ_le_succ g.len
section
variable {P : Program} {w : World} {A : Around} {E : Value → Shared → Prop} {s : Shared}
theorem Bag.on {h h' : Heap} {a : Addr} {L : List NA} {es : Array (Int × Value)} {ep : Nat} {t : SetTable} (B : Bag w h a L es ep t) (ha : ∀ o, h.get? a = some o → h'.get? a = some o) (hk : ∀ p ∈ L, IsN h' p.2 p.1) : Bag w h' a L es ep t :=
  let ⟨o, ho, r⟩ := B.at_
  ⟨⟨o, ha o ho, r⟩, B.rows, B.tab, B.nd, hk, B.led, B.room, B.few⟩
abbrev freshSet (w : World) : Obj := { cls := .type "set", dict := none, data := .set #[] 0 (.fresh 0 0 (!w.params.followText "set-order")) }
theorem bag_new {h : Heap} {a : Addr} (ho : h.get? a = some (freshSet w)) : Bag w h a [] #[] 0 (.fresh 0 0 (!w.params.followText "set-order")) where
  at_ := ⟨_, ho, ⟨rfl, rfl, rfl⟩, rfl⟩
  rows := rfl
  tab := ⟨List.Pairwise.nil, rfl, rfl, .inl rfl, fun x z => (by cases z), fun i h j z => (by simp at z)⟩
  nd := List.nodup_nil
  keys := fun p z => (by cases z)
  led := by
    show _ ∨ (!w.params.followText "set-order") = true
    cases w.params.followText "set-order"
    · exact .inr rfl
    · exact .inl rfl
  room := show 0 * 5 < 7 * 3 by decide
  few := show 0 < 64 by decide
/-- the loop of set.update -/
theorem updates {I : Addr} {fp wr : List Addr} {G : Array GenState → Array GenState → Prop} {n : Nat} {Pv : Nat → Value → Prop} {St : Nat → Shared → Prop} {R : Result → Shared → Prop} (W : WalksS P w A.in1 I fp wr G n Pv St) (S : Addr) (off : S ∉ fp) (ks : List NA) (hn : n = ks.length) (few : ks.length < 64)
    (val : ∀ i v, Pv i v → ∃ p, ks[i]? = some p ∧ v = .ref p.1) (h0 : Heap) (hk : ∀ p ∈ ks, IsN h0 p.2 p.1) (newS : h0.get? S = none) (newW : ∀ b ∈ wr, h0.get? b = none) (hu : A.in1.units + 8 < cLine) :
    ∀ (m i : Nat) (s : Shared), n - i = m → i ≤ n → St i s → (∀ b o, h0.get? b = some o → s.heap.get? b = some o) → (∃ L es ep t, Bag w s.heap S L es ep t ∧ Met ks i L) →
      (∀ s' L es ep t, Moved (S :: wr) G s s' → Bag w s'.heap S L es ep t → Met ks n L → (∀ b o, h0.get? b = some o → s'.heap.get? b = some o) → R (.ok (.ret .none)) s') →
      codeAny (model P w) A (.builtin "set.update.loop" ⟨[.ref S, .ref I], []⟩) R s := by
  have offW : S ∉ wr := fun z => off (W.sub _ z)
  have more : ∀ b ∈ wr, b ∈ S :: wr := fun b z => List.mem_cons_of_mem _ z
  have stays : ∀ {s s' : Shared}, Moved wr G s s' → (∀ b o, h0.get? b = some o → s.heap.get? b = some o) → ∀ b o, h0.get? b = some o → s'.heap.get? b = some o := fun mv g b o e =>
    mv.heap b o (fun z => by rw [newW b z] at e; cases e) (g b o e)
  intro m
  induction m with
  | zero =>
    intro i s hm hi st g ⟨L, es, ep, t, B, M⟩ hR
    obtain rfl : i = n := by omega
    refine codeAny_builtin F.entry_set_update_loop ?_
    rw [Around.under_plainId F.plain_set_update_loop _]
    show wpAny _ A.in1 (pyNext (.ref I) >>= _) _ _ s
    refine wpAny_bind (W.done s _ _ st fun s' mv => ?_)
    show wpAny _ A.in1 (ret Value.none) _ _ s'
    have g' := stays mv g
    exact wpAny_pure (hR s' L es ep t (mv.mono more) (B.on (fun o e => mv.heap S o offW e) fun p hp => (hk p (List.mem_of_mem_take (M.sub p hp))).keep g') M g')
  | succ m ih =>
    intro i s hm hi st g ⟨L, es, ep, t, B, M⟩ hR
    have lt : i < n := by omega
    refine codeAny_builtin F.entry_set_update_loop ?_
    rw [Around.under_plainId F.plain_set_update_loop _]
    show wpAny _ A.in1 (pyNext (.ref I) >>= _) _ _ s
    refine wpAny_bind (W.item i s _ _ lt st fun v s' hv st' mv => ?_)
    obtain ⟨p, hp, rfl⟩ := val i v hv
    have g' := stays mv g
    have B' : Bag w s'.heap S L es ep t := B.on (fun o e => mv.heap S o offW e) fun q hq => (hk q (List.mem_of_mem_take (M.sub q hq))).keep g'
    have hx : IsN s'.heap p.2 p.1 := (hk p (List.mem_of_getElem? hp)).keep g'
    show wpAny _ A.in1 (holding [Value.ref p.1] (setAdd S (.ref p.1)) >>= _) _ _ s'
    refine wpAny_bind (wpAny_holding ?_)
    unfold setAdd
    refine wpAny_holding (wpAny_bind ((nestedKind P w).pyHash hu hx ?_))
    refine addN (s := { s' with toks := s'.toks + p.2.draws }) B' hx hu (by have := M.len; omega) fun b h' L' es' ep' t' sb B2 c1 c2 => ?_
    have M' : Met ks (i + 1) L' := M.next hp c1 c2
    have g2 : ∀ b o, h0.get? b = some o → h'.get? b = some o := fun b o e => (sb.2 b (fun z => by rw [z, newS] at e; cases e)).trans (g' b o e)
    refine wpAny_pure ⟨plainId_quiet F.plain_set_update_loop _, ih (i + 1) _ (by omega) lt (W.frame _ s' _ _ st' (Nat.le_add_right _ _) fun b hb o e => ?_) g2 ⟨L', es', ep', t', B2, M'⟩ fun s3 L3 es3 ep3 t3 mv3 B3 M3 g3 => ?_⟩
    · rw [sb.2 b (fun z : b = S => off (by rw [← z]; exact hb))]; exact e
    · refine hR s3 L3 es3 ep3 t3 (Moved.trans W.gtrans ((mv.mono more).then_heap (Nat.le_add_right _ _) fun b o hb e => ?_) mv3) B3 M3 g3
      rw [sb.2 b (fun z : b = S => hb (by rw [z]; exact List.mem_cons_self))]; exact e
set_option maxRecDepth 100000 in
set_option maxHeartbeats 3200000 in
theorem call_set_nested {l : Addr} {items : Array Value} (ks : List NA) {Q : Value → Shared → Prop} (calm : A.handled = none) (hl : s.heap.IsList l items) (hit : items.toList = ks.map fun p => Value.ref p.1) (hk : ∀ p ∈ ks, IsN s.heap p.2 p.1) (few : ks.length < 64) (hu : A.units + 16 < cLine)
    (h : ∀ (h' : Heap) (tk : Nat) L es ep t, Bag w h' s.heap.objs.size L es ep t → Met ks ks.length L → (∀ b o, s.heap.get? b = some o → h'.get? b = some o) → Q (.ref s.heap.objs.size) { s with heap := h', toks := tk }) :
    wpAny (model P w) A (call (.type "set") [.ref l]) Q E s := by
  have sz : items.size = ks.length := by
    have z := congrArg List.length hit
    rwa [Array.length_toList, List.length_map] at z
  obtain ⟨c, tl, mro⟩ := F.called_set.mro
  have made := F.called_set.made
  have sub := F.called_set.sub
  refine wpAny_call (codeAny_of_tree ?_)
  show wpAny _ _ (callAny (.type "set") _) _ _ _
  refine wpAny_pure ⟨Code.quiet_builtin _ (by decide +kernel), codeAny_builtin F.entry_type_call ?_⟩
  rw [Around.under_plain (weight_type_call_type "set" [.ref l] []) rfl]
  have f1 := F.called_set.notType
  have f2 := F.called_set.canCreate
  have f3 := F.typeCall_set_1 (.ref l)
  repeat (any_goals (first | assumption | wp_step))
  refine codeAny_mono (code_set_led1 (.ref l) (E := E) (Q₁ := fun obj t => obj = .ref s.heap.objs.size ∧ t = { s with heap := s.heap.push (freshSet w) }) ⟨rfl, rfl⟩) fun r t hr => ?_
  match r, hr with
  | .error e, hr => exact hr
  | .ok .next, hr => exact hr.elim
  | .ok .brk, hr => exact hr.elim
  | .ok .cont, hr => exact hr.elim
  | .ok (.ret obj), hr =>
    obtain ⟨rfl, rfl⟩ := hr
    have atS : (s.heap.push (freshSet w)).get? s.heap.objs.size = some (freshSet w) := Heap.get?_push_size _ rfl
    have tyS : Shared.TypeIs { s with heap := s.heap.push (freshSet w) } (.ref s.heap.objs.size) "set" := ⟨_, atS, rfl⟩
    have g1 := F.called_set.init.lookup
    have g2 := F.called_set.init.bind (.ref s.heap.objs.size)
    repeat (any_goals (first | assumption | wp_step))
    refine codeAny_mono (codeAny_call_builtin (R := wants (fun r t => r = .none ∧ ∃ h' tk L es ep t', t = { s with heap := h', toks := tk } ∧ Bag w h' s.heap.objs.size L es ep t' ∧ Met ks ks.length L ∧
      (∀ b o, s.heap.get? b = some o → h'.get? b = some o)) E) F.called_set.init.plain F.entry_set_init (check_set_init_1 tyS ?_)) fun r2 t2 hr2 => ?_
    · obtain ⟨ol, hol, hcl, nl, hdl⟩ := hl
      obtain ⟨oc, od, odat, osl⟩ := ol
      simp only at hcl hdl
      subst hcl; subst hdl
      have hol' : (s.heap.push (freshSet w)).get? l = some { cls := .type "list", dict := od, data := .seq items nl, slots := osl } := Heap.get?_push_of_some _ hol
      have s1 := F.sub_list_set
      have s2 := F.sub_list_frozenset
      have s3 : (Value.type "list" == Value.type "dict") = false := by decide
      have hl1 : (s.heap.push (freshSet w)).IsList l items := ⟨_, hol', rfl, nl, rfl⟩
      unfold Builtin.«set.__init__» noKeywords Builtin.Frozenset.updateFrom
      generalize hPI : pyIter = PI
      wp_walk
      subst hPI
      refine wpAny_pyIter_list hl1 ?_
      refine wpAny_bind (wpAny_runValue ?_)
      have lS : l < s.heap.objs.size := Heap.lt_size hol
      have calm3 : A.in1.in1.in1.handled = none := by simp [calm]
      have szp : (s.heap.push (freshSet w)).objs.size = s.heap.objs.size + 1 := Heap.size_push ..
      have offS : s.heap.objs.size ∉ [(s.heap.push (freshSet w)).objs.size, l] := by
        rw [szp]
        intro z
        rcases List.mem_cons.mp z with z | z
        · exact absurd z (Nat.ne_of_lt (Nat.lt_succ_self _))
        · exact absurd (List.mem_singleton.mp z) (Nat.ne_of_gt lS)
      have none_of : ∀ b, s.heap.objs.size ≤ b → s.heap.get? b = none := fun b hb => by
        cases q : s.heap.get? b with
        | none => rfl
        | some o => exact absurd (Nat.lt_of_lt_of_le (Heap.lt_size q) hb) (Nat.lt_irrefl _)
      refine updates (A := A.in1.in1) ((Walks.list calm3 _ l (by rw [szp]; exact Nat.ne_of_lt (Nat.lt_succ_of_lt lS)) items).toS) s.heap.objs.size offS ks sz few (fun i v hv => ?_) s.heap hk (none_of _ (Nat.le_refl _))
        (fun b hb => none_of b (by rw [List.mem_singleton.mp hb, szp]; omega)) (by show A.units + 1 + 1 + 1 + 8 < cLine; omega) (items.size - 0) 0 _ (by omega) (Nat.zero_le _)
        ⟨⟨_, Heap.get?_push_size _ rfl, rfl, rfl⟩, hl1.push _⟩ (fun b o e => Heap.get?_push_of_some _ (Heap.get?_push_of_some _ e)) ?_ ?_
      · have q : items.toList[i]? = some v := by rw [Array.getElem?_toList]; exact hv
        rw [hit, List.getElem?_map] at q
        obtain ⟨p, hp, e⟩ := Option.map_eq_some_iff.mp q
        exact ⟨p, hp, e.symm⟩
      · exact ⟨[], #[], 0, _, bag_new (Heap.get?_push_of_some _ atS), ⟨fun p z => (by cases z), fun p z => (by simp at z), Nat.le_refl _⟩⟩
      · intro s' L es ep t' mv B M g
        obtain ⟨h', gg, d', tk', os'⟩ := s'
        obtain rfl : gg = s.gens := mv.gens
        obtain rfl : d' = s.drawn := mv.drawn
        obtain rfl : os' = s.os := mv.os
        show wpAny _ _ _ _ _ _
        refine wpAny_pure ?_
        show wpAny _ _ (ret Value.none) _ _ _
        rw [sz] at M
        exact wpAny_pure ⟨rfl, h', tk', L, es, ep, t', rfl, B, M, g⟩
    · match r2, hr2 with
      | .error e, hr2 => exact hr2
      | .ok .next, hr2 => exact hr2.elim
      | .ok .brk, hr2 => exact hr2.elim
      | .ok .cont, hr2 => exact hr2.elim
      | .ok (.ret r), hr2 =>
        obtain ⟨rfl, h', tk, L, es, ep, t', rfl, B, M, g⟩ := hr2
        repeat (any_goals (first | assumption | wp_step))
        exact h _ _ _ _ _ _ B M g
end
end MI
end
/-! MOa -/
section
set_option linter.all false
set_option maxRecDepth 100000
set_option maxHeartbeats 4000000
/-! The order of keys, in plain Lean. -/
namespace MI
open PySem
theorem beqD_def (a b : D) : beqD a b = match a, b with
  | .non, .non => true
  | .bl a, .bl b => a == b
  | .int i, .int j => decide (i = j)
  | .str x, .str y => decide (x = y)
  | .tup xs, .tup ys => beqDs xs ys
  | _, _ => false := by cases a <;> cases b <;> rfl
mutual
theorem beqD_refl : ∀ (a : D), hashD a = true → beqD a a = true
  | .int _, _ => by simp [beqD]
  | .str _, _ => by simp [beqD]
  | .tup xs, h => by simp only [beqD]; exact beqDs_refl xs (by simpa [hashD] using h)
  | .non, h => by simp [hashD] at h
  | .bl _, h => by simp [hashD] at h
  | .lst _, h => by simp [hashD] at h
  | .scr _, h => by simp [hashD] at h
  | .dct _, h => by simp [hashD] at h
  | .cel _, h => by simp [hashD] at h
  | .fn _, h => by simp [hashD] at h
  | .err _ _, h => by simp [hashD] at h
theorem beqDs_refl : ∀ (xs : List D), hashDs xs = true → beqDs xs xs = true
  | [], _ => rfl
  | x :: xs, h => by
    simp only [hashDs, Bool.and_eq_true] at h
    simp only [beqDs, beqD_refl x h.1, beqDs_refl xs h.2, Bool.and_self]
end
mutual
theorem beqD_eq' : ∀ (a b : D), beqD a b = true → a = b
  | .non, b, h => by cases b <;> simp [beqD] at h <;> rfl
  | .bl a, b, h => by cases b <;> simp [beqD] at h <;> rw [h]
  | .int a, b, h => by cases b <;> simp [beqD] at h <;> rw [h]
  | .str a, b, h => by cases b <;> simp [beqD] at h <;> rw [h]
  | .tup xs, b, h => by
    cases b <;> simp [beqD] at h
    rw [beqDs_eq' xs _ h]
  | .lst _, b, h => by cases b <;> simp [beqD] at h
  | .scr _, b, h => by cases b <;> simp [beqD] at h
  | .dct _, b, h => by cases b <;> simp [beqD] at h
  | .cel _, b, h => by cases b <;> simp [beqD] at h
  | .fn _, b, h => by cases b <;> simp [beqD] at h
  | .err _ _, b, h => by cases b <;> simp [beqD] at h
theorem beqDs_eq' : ∀ (xs ys : List D), beqDs xs ys = true → xs = ys
  | [], [], _ => rfl
  | [], _ :: _, h => by simp [beqDs] at h
  | _ :: _, [], h => by simp [beqDs] at h
  | x :: xs, y :: ys, h => by
    simp only [beqDs, Bool.and_eq_true] at h
    rw [beqD_eq' x y h.1, beqDs_eq' xs ys h.2]
end
theorem beqD_comm (a b : D) : beqD a b = beqD b a := by
  cases h1 : beqD a b with
  | true =>
    have e := beqD_eq' a b h1
    subst e
    exact h1.symm
  | false =>
    cases h2 : beqD b a with
    | false => rfl
    | true =>
      have e := beqD_eq' b a h2
      subst e
      rw [h1] at h2
      cases h2
mutual
theorem lt_asym : ∀ (a b : D), ltD a b = some true → ltD b a = some false
  | .int i, b, h => by
    cases b <;> simp [ltD] at h ⊢
    omega
  | .str x, b, h => by
    cases b <;> simp only [ltD, Option.some.injEq, decide_eq_true_eq, decide_eq_false_iff_not, reduceCtorEq] at h ⊢
    exact List.lt_asymm h
  | .tup xs, b, h => by
    cases b <;> simp only [ltD, reduceCtorEq] at h ⊢
    exact lts_asym xs _ h
  | .non, b, h => by cases b <;> simp [ltD] at h
  | .bl _, b, h => by cases b <;> simp [ltD] at h
  | .lst _, b, h => by cases b <;> simp [ltD] at h
  | .scr _, b, h => by cases b <;> simp [ltD] at h
  | .dct _, b, h => by cases b <;> simp [ltD] at h
  | .cel _, b, h => by cases b <;> simp [ltD] at h
  | .fn _, b, h => by cases b <;> simp [ltD] at h
  | .err _ _, b, h => by cases b <;> simp [ltD] at h
theorem lts_asym : ∀ (xs ys : List D), ltDs xs ys = some true → ltDs ys xs = some false
  | [], [], h => by simp [ltDs] at h
  | [], _ :: _, h => by simp [ltDs]
  | _ :: _, [], h => by simp [ltDs] at h
  | x :: xs, y :: ys, h => by
    simp only [ltDs] at h ⊢
    rw [beqD_comm y x]
    split at h
    · rename_i c
      rw [if_pos c]
      exact lts_asym xs ys h
    · rename_i c
      rw [if_neg c]
      exact lt_asym x y h
end
mutual
theorem lt_total : ∀ (a b : D), ltD a b = some false → beqD a b = true ∨ ltD b a = some true
  | .int i, b, h => by
    cases b <;> simp [ltD, beqD] at h ⊢
    omega
  | .str x, b, h => by
    cases b <;> simp only [ltD, beqD, Option.some.injEq, decide_eq_true_eq, decide_eq_false_iff_not, reduceCtorEq] at h ⊢
    rename_i y
    rcases Classical.em (x = y) with e | e
    · exact .inl e
    · refine .inr ?_
      rcases Classical.em (y.cps.toList < x.cps.toList) with z | z
      · exact z
      · have q : x.cps.toList = y.cps.toList := List.le_antisymm (List.not_lt.mp z) (List.not_lt.mp h)
        exact absurd (show x = y from by
          obtain ⟨⟨xl⟩⟩ := x; obtain ⟨⟨yl⟩⟩ := y
          simp only at q
          rw [q]) e
  | .tup xs, b, h => by
    cases b <;> simp only [ltD, beqD, reduceCtorEq] at h ⊢
    exact lts_total xs _ h
  | .non, b, h => by cases b <;> simp [ltD] at h
  | .bl _, b, h => by cases b <;> simp [ltD] at h
  | .lst _, b, h => by cases b <;> simp [ltD] at h
  | .scr _, b, h => by cases b <;> simp [ltD] at h
  | .dct _, b, h => by cases b <;> simp [ltD] at h
  | .cel _, b, h => by cases b <;> simp [ltD] at h
  | .fn _, b, h => by cases b <;> simp [ltD] at h
  | .err _ _, b, h => by cases b <;> simp [ltD] at h
theorem lts_total : ∀ (xs ys : List D), ltDs xs ys = some false → beqDs xs ys = true ∨ ltDs ys xs = some true
  | [], [], h => .inl rfl
  | [], _ :: _, h => by simp [ltDs] at h
  | _ :: _, [], h => .inr (by simp [ltDs])
  | x :: xs, y :: ys, h => by
    simp only [ltDs, beqDs] at h ⊢
    rw [beqD_comm y x]
    split at h
    · rename_i c
      rw [c, Bool.true_and, if_pos rfl]
      exact lts_total xs ys h
    · rename_i c
      rw [if_neg c]
      rcases lt_total x y h with z | z
      · exact absurd z c
      · exact .inr z
end
mutual
theorem lt_trans' : ∀ (a b c : D), ltD a b = some true → ltD b c = some true → ltD a c = some true
  | .int i, b, c, h1, h2 => by
    cases b <;> simp [ltD] at h1
    cases c <;> simp [ltD] at h2 ⊢
    omega
  | .str x, b, c, h1, h2 => by
    cases b <;> simp only [ltD, Option.some.injEq, decide_eq_true_eq, reduceCtorEq] at h1
    cases c <;> simp only [ltD, Option.some.injEq, decide_eq_true_eq, reduceCtorEq] at h2 ⊢
    exact List.lt_trans h1 h2
  | .tup xs, b, c, h1, h2 => by
    cases b <;> simp only [ltD, reduceCtorEq] at h1
    cases c <;> simp only [ltD, reduceCtorEq] at h2 ⊢
    exact lts_trans xs _ _ h1 h2
  | .non, b, _, h, _ => by cases b <;> simp [ltD] at h
  | .bl _, b, _, h, _ => by cases b <;> simp [ltD] at h
  | .lst _, b, _, h, _ => by cases b <;> simp [ltD] at h
  | .scr _, b, _, h, _ => by cases b <;> simp [ltD] at h
  | .dct _, b, _, h, _ => by cases b <;> simp [ltD] at h
  | .cel _, b, _, h, _ => by cases b <;> simp [ltD] at h
  | .fn _, b, _, h, _ => by cases b <;> simp [ltD] at h
  | .err _ _, b, _, h, _ => by cases b <;> simp [ltD] at h
theorem lts_trans : ∀ (xs ys zs : List D), ltDs xs ys = some true → ltDs ys zs = some true → ltDs xs zs = some true
  | [], [], _, h1, _ => by simp [ltDs] at h1
  | [], _ :: _, [], _, h2 => by simp [ltDs] at h2
  | [], _ :: _, _ :: _, _, _ => by simp [ltDs]
  | _ :: _, [], _, h1, _ => by simp [ltDs] at h1
  | _ :: _, _ :: _, [], _, h2 => by simp [ltDs] at h2
  | x :: xs, y :: ys, z :: zs, h1, h2 => by
    simp only [ltDs] at h1 h2 ⊢
    by_cases c1 : beqD x y = true
    · have e := beqD_eq' x y c1
      subst e
      rw [if_pos c1] at h1
      by_cases c2 : beqD x z = true
      · rw [if_pos c2] at h2 ⊢
        exact lts_trans xs ys zs h1 h2
      · rw [if_neg c2] at h2 ⊢
        exact h2
    · rw [if_neg c1] at h1
      by_cases c2 : beqD y z = true
      · have e := beqD_eq' y z c2
        subst e
        rw [if_neg c1]
        exact h1
      · rw [if_neg c2] at h2
        have h3 := lt_trans' x y z h1 h2
        rw [if_neg ?_]
        · exact h3
        · intro c3
          have e := beqD_eq' x z c3
          subst e
          have := lt_asym x y h1
          rw [this] at h2
          cases h2
end
theorem lt_irr (a : D) (h : hashD a = true) : ltD a a = some false ∨ ltD a a = none := by
  cases e : ltD a a with
  | none => exact .inr rfl
  | some b =>
    cases b with
    | false => exact .inl rfl
    | true =>
      have := lt_asym a a e
      rw [e] at this
      cases this
/-! ### sorting -/
def Comp (xs : List D) : Prop := ∀ x ∈ xs, ∀ y ∈ xs, ∃ b, ltD x y = some b
theorem ins_mem (x : D) : ∀ (ys : List D) (z : D), z ∈ insD x ys → z = x ∨ z ∈ ys
  | [], z, h => by simpa [insD] using h
  | y :: ys, z, h => by
    unfold insD at h
    split at h
    · exact .inr h
    · split at h
      · rcases List.mem_cons.mp h with e | m
        · exact .inl e
        · exact .inr m
      · rcases List.mem_cons.mp h with e | m
        · exact .inr (e ▸ List.mem_cons_self)
        · rcases ins_mem x ys z m with e | m'
          · exact .inl e
          · exact .inr (List.mem_cons_of_mem _ m')
theorem ins_has (x : D) : ∀ (ys : List D), x ∈ insD x ys ∧ ∀ z ∈ ys, z ∈ insD x ys
  | [] => ⟨by simp [insD], by simp⟩
  | y :: ys => by
    unfold insD
    split
    · rename_i c
      have e := beqD_eq' x y c
      subst e
      exact ⟨List.mem_cons_self, fun z h => h⟩
    · split
      · exact ⟨List.mem_cons_self, fun z h => List.mem_cons_of_mem _ h⟩
      · obtain ⟨h1, h2⟩ := ins_has x ys
        refine ⟨List.mem_cons_of_mem _ h1, fun z h => ?_⟩
        rcases List.mem_cons.mp h with e | m
        · exact e ▸ List.mem_cons_self
        · exact List.mem_cons_of_mem _ (h2 z m)
abbrev Up (xs : List D) : Prop := xs.Pairwise fun a b => ltD a b = some true
theorem ins_up (x : D) : ∀ (ys : List D), Up ys → (∀ y ∈ ys, ∃ b, ltD x y = some b) → Up (insD x ys)
  | [], _, _ => by simp [insD, Up]
  | y :: ys, h, hc => by
    unfold insD
    have h' := List.pairwise_cons.mp h
    split
    · exact h
    · rename_i c
      obtain ⟨b, hb⟩ := hc y List.mem_cons_self
      split
      · rename_i c2
        have c2 : ltD x y = some true := by simpa using c2
        refine List.pairwise_cons.mpr ⟨fun z hz => ?_, h⟩
        rcases List.mem_cons.mp hz with e | m
        · exact e ▸ c2
        · exact lt_trans' x y z c2 (h'.1 z m)
      · rename_i c2
        have hbf : b = false := by
          cases b with
          | false => rfl
          | true => rw [hb] at c2; exact absurd rfl c2
        subst hbf
        have hyx : ltD y x = some true := by
          rcases lt_total x y hb with e | e
          · exact absurd e c
          · exact e
        refine List.pairwise_cons.mpr ⟨fun z hz => ?_, ins_up x ys h'.2 fun z hz => hc z (List.mem_cons_of_mem _ hz)⟩
        rcases ins_mem x ys z hz with e | m
        · exact e ▸ hyx
        · exact h'.1 z m
theorem sort_mem : ∀ (xs : List D) (z : D), z ∈ sortD xs ↔ z ∈ xs
  | [], z => by simp [sortD]
  | x :: xs, z => by
    have ih := sort_mem xs
    unfold sortD
    constructor
    · intro h
      rcases ins_mem x _ z h with e | m
      · exact e ▸ List.mem_cons_self
      · exact List.mem_cons_of_mem _ ((ih z).mp m)
    · intro h
      obtain ⟨h1, h2⟩ := ins_has x (sortD xs)
      rcases List.mem_cons.mp h with e | m
      · exact e ▸ h1
      · exact h2 z ((ih z).mpr m)
theorem sort_up : ∀ (xs : List D), Comp xs → Up (sortD xs)
  | [], _ => List.Pairwise.nil
  | x :: xs, h => ins_up x _ (sort_up xs fun a ha b hb => h a (List.mem_cons_of_mem _ ha) b (List.mem_cons_of_mem _ hb)) fun y hy => h x List.mem_cons_self y (List.mem_cons_of_mem _ ((sort_mem xs y).mp hy))
theorem up_nodup {xs : List D} (h : Up xs) : xs.Nodup := List.Pairwise.imp (fun {a b} hab e => by
  subst e
  have := lt_asym a a hab
  rw [hab] at this
  cases this) h
theorem ins_len (x : D) : ∀ (ys : List D), (insD x ys).length ≤ ys.length + 1
  | [] => by simp [insD]
  | y :: ys => by
    have ih := ins_len x ys
    unfold insD
    split
    · simp
    · split
      · simp
      · simp only [List.length_cons]
        omega
theorem sort_len : ∀ (xs : List D), (sortD xs).length ≤ xs.length
  | [] => by simp [sortD]
  | x :: xs => by
    have h1 := ins_len x (sortD xs)
    have h2 := sort_len xs
    unfold sortD
    simp only [List.length_cons]
    omega
end MI
end
/-! MSh -/
section
set_option linter.all false
set_option maxRecDepth 100000
set_option maxHeartbeats 4000000
/-! sorted of a set of nested tuples. -/
namespace MI
open PySem PySem.Spec PySem.SeqAt PyProof.Rows L2
section
variable {P : Program} {w : World} {A : Around} {E : Value → Shared → Prop} {s : Shared}
/-- as sorting compares two tuples -/
theorem lexK {Q : Bool → Shared → Prop} : ∀ (xs ys : List NestedKey) (vs ws : List Value) (i : Nat) (c fin : Bool), NestedAll s.heap xs vs → NestedAll s.heap ys ws → noBs s.heap xs vs → noBs s.heap ys ws → ltKs xs ys = some c → fin = decide (vs.length < ws.length) →
    (i = 0 → (∃ x r, xs = .text x :: r) ∧ ∃ y r, ys = .text y :: r) → A.units + min (NestedKey.depthAll xs) (NestedKey.depthAll ys) < cLine → Q c s → PySem.W.KatLex P w A true fin Q (vs.zip ws) i s
  | [], [], vs, ws, i, c, fin, h1, h2, _, _, e, ef, _, _, q => by
    cases h1; cases h2
    simp [ltKs] at e
    subst e; subst ef
    exact PySem.W.kat_nil q
  | [], y :: ys, vs, ws, i, c, fin, h1, h2, _, _, e, ef, _, _, q => by
    cases h1; cases h2
    simp [ltKs] at e
    subst e; subst ef
    exact PySem.W.kat_nil q
  | x :: xs, [], vs, ws, i, c, fin, h1, h2, _, _, e, ef, _, _, q => by
    cases h1; cases h2
    simp [ltKs] at e
    subst e; subst ef
    exact PySem.W.kat_nil q
  | x :: xs, y :: ys, _, _, i, c, fin, .cons (v := v) (vs := vs) a1 a2, .cons (v := u) (vs := ws) b1 b2, n1, n2, e, ef, hd, hu, q => by
    simp only [NestedKey.depthAll] at hu
    simp only [ltKs] at e
    have eq0 := eqAt_key x y A s v u a1 b1 (by omega)
    refine PySem.W.kat_cons (eq0 _ _ _ _ ?_)
    by_cases hb : NestedKey.beq x y = true
    · rw [hb]
      rw [if_pos hb] at e
      refine PySem.W.kat_yes (lexK xs ys vs ws (i + 1) c fin a2 b2 n1.2 n2.2 e (by simpa using ef) (fun z => absurd z (Nat.succ_ne_zero i)) (by omega) q)
    · rw [if_neg hb] at e
      have hb' : NestedKey.beq x y = false := by simpa using hb
      rw [hb']
      refine PySem.W.kat_no ?_
      by_cases hi : i = 0
      · obtain ⟨⟨x', r, ex⟩, y', r', ey⟩ := hd hi
        cases ex; cases ey
        simp only [ltK, Option.some.injEq] at e
        subst e
        cases a1; cases b1
        exact oneLt_any_str q
      · have hz : (true && i == 0) = false := by simp [hi]
        rw [hz]
        exact PySem.W.kat_one (E := fun _ _ => False) _ _ (rcLt_key x y c A s v u a1 b1 n1.1 n2.1 e (by omega) _ _ _ _ q)
/-- a tuple whose first item is a text -/
def Headed (k : NestedKey) : Prop := ∃ x r, k = .tup (.text x :: r)
/-- the keys may be sorted by a rank -/
structure Sortable (h : Heap) (L : List NA) (r : NestedKey → Int) : Prop where
  is : ∀ p ∈ L, IsN h p.2 p.1
  nb : ∀ p ∈ L, noB h p.2 (.ref p.1)
  hd : ∀ p ∈ L, Headed p.2
  lt : ∀ p ∈ L, ∀ q ∈ L, ltK p.2 q.2 = some (decide (r p.2 < r q.2))
theorem noB.keep {h h' : Heap} (g : ∀ c o, h.get? c = some o → h'.get? c = some o) : ∀ (k : NestedKey) (v : Value), noB h k v → noB h' k v
  | .tup ks, v, x => by
    obtain ⟨a, o, vs, n, e, e1, e2, x⟩ := x
    exact ⟨a, o, vs, n, e, g a o e1, e2, go ks vs.toList x⟩
  | .none, _, x => x
  | .num _, _, x => x
  | .text _, _, x => x
where go : ∀ (ks : List NestedKey) (vs : List Value), noBs h ks vs → noBs h' ks vs
  | [], _, _ => by unfold noBs; trivial
  | _ :: _, [], _ => trivial
  | k :: ks, v :: vs, x => ⟨noB.keep g k v x.1, go ks vs x.2⟩
theorem Sortable.keep {h h' : Heap} {L : List NA} {r : NestedKey → Int} (S : Sortable h L r) (g : ∀ c o, h.get? c = some o → h'.get? c = some o) : Sortable h' L r :=
  ⟨fun p m => (S.is p m).keep g, fun p m => noB.keep g _ _ (S.nb p m), S.hd, S.lt⟩
/-- the key at a reference -/
def keyAt (L : List NA) (v : Value) : NestedKey := match v with
  | .ref a => ((L.find? fun p => p.1 == a).map (·.2)).getD .none
  | _ => .none
theorem keyAt_mem {h : Heap} {L : List NA} (is : ∀ p ∈ L, IsN h p.2 p.1) {p : NA} (m : p ∈ L) : keyAt L (.ref p.1) = p.2 := by
  show ((L.find? fun q => q.1 == p.1).map (·.2)).getD .none = p.2
  cases e : L.find? fun q => q.1 == p.1 with
  | none =>
    have := List.find?_eq_none.mp e p m
    simp at this
  | some q =>
    have mq := List.mem_of_find?_eq_some e
    have eq : q.1 = p.1 := by simpa using List.find?_some e
    have a1 := is q mq
    have a2 := is p m
    rw [eq] at a1
    simp only [Option.map_some, Option.getD_some]
    exact NestedIs.inj _ _ _ a1.1 a2.1
theorem cmp_keys {L : List NA} {r : NestedKey → Int} (S : Sortable s.heap L r) (hu : A.units + 16 < cLine) {vs : List Value} (hv : ∀ v ∈ vs, ∃ p ∈ L, v = Value.ref p.1) : TS.Cmp P w A s (tuples' true) (pairsOf vs) (fun v => r (keyAt L v)) := by
  intro p q hp hq Q' E' hQ
  rw [pairsOf_toList] at hp hq
  obtain ⟨a, ma, ea⟩ := hv _ (mem_zip_self hp).2
  obtain ⟨b, mb, eb⟩ := hv _ (mem_zip_self hq).2
  have e1 := (mem_zip_self hp).1
  have e2 := (mem_zip_self hq).1
  have hQ : Q' (decide (r (keyAt L p.1) < r (keyAt L q.1))) s := hQ
  rw [ea, eb] at hQ ⊢
  rw [keyAt_mem S.is ma, keyAt_mem S.is mb] at hQ
  have hlt := S.lt a ma b mb
  obtain ⟨x, rx, ex⟩ := S.hd a ma
  obtain ⟨y, ry, ey⟩ := S.hd b mb
  have ia := S.is a ma
  have ib := S.is b mb
  have na := S.nb a ma
  have nb := S.nb b mb
  rw [ex, ey] at hlt
  rw [ex] at ia na
  rw [ey] at ib nb
  rw [ex, ey] at hQ
  obtain ⟨i1, d1⟩ := ia
  obtain ⟨i2, d2⟩ := ib
  simp only [ltK] at hlt
  simp only [NestedKey.depth] at d1 d2
  obtain ⟨a', oa, va, ka, f1, f2, f3, na⟩ := na
  obtain ⟨b', ob, vb, kb, g1, g2, g3, nb⟩ := nb
  cases f1; cases g1
  generalize exs : NestedKey.text x :: rx = xs at *
  generalize eys : NestedKey.text y :: ry = ys at *
  cases i1 with
  | @tup _ o1 v1 m1 _ h1 h2 h3 h4 =>
    cases i2 with
    | @tup _ o2 v2 m2 _ k1 k2 k3 k4 =>
      rw [h1] at f2; cases f2
      rw [h3] at f3; cases f3
      rw [k1] at g2; cases g2
      rw [k3] at g3; cases g3
      refine PySem.W.kat_lt h1 h3 k1 k3 (lexK xs ys _ _ 0 _ _ h4 k4 na nb hlt (by simp) (fun _ => ⟨⟨x, rx, exs.symm⟩, y, ry, eys.symm⟩) (by omega) hQ)
end
end MI
end
/-! MSgT -/
section
set_option linter.all false
set_option maxRecDepth 100000
set_option maxHeartbeats 4000000
/-! set(xs) of a tuple of nested tuples. -/
namespace MI
open PySem PySem.Spec PySem.SeqAt PyProof.Rows L2
section
variable {P : Program} {w : World} {A : Around} {E : Value → Shared → Prop} {s : Shared}
set_option maxRecDepth 100000 in
set_option maxHeartbeats 3200000 in
theorem call_set_nestedT {l : Addr} {items : Array Value} (ks : List NA) {Q : Value → Shared → Prop} (calm : A.handled = none) (hl : s.heap.IsTuple l items) (hit : items.toList = ks.map fun p => Value.ref p.1) (hk : ∀ p ∈ ks, IsN s.heap p.2 p.1) (few : ks.length < 64) (hu : A.units + 16 < cLine)
    (h : ∀ (h' : Heap) (tk : Nat) L es ep t, Bag w h' s.heap.objs.size L es ep t → Met ks ks.length L → (∀ b o, s.heap.get? b = some o → h'.get? b = some o) → Q (.ref s.heap.objs.size) { s with heap := h', toks := tk }) :
    wpAny (model P w) A (call (.type "set") [.ref l]) Q E s := by
  have sz : items.size = ks.length := by
    have z := congrArg List.length hit
    rwa [Array.length_toList, List.length_map] at z
  obtain ⟨c, tl, mro⟩ := F.called_set.mro
  have made := F.called_set.made
  have sub := F.called_set.sub
  refine wpAny_call (codeAny_of_tree ?_)
  show wpAny _ _ (callAny (.type "set") _) _ _ _
  refine wpAny_pure ⟨Code.quiet_builtin _ (by decide +kernel), codeAny_builtin F.entry_type_call ?_⟩
  rw [Around.under_plain (weight_type_call_type "set" [.ref l] []) rfl]
  have f1 := F.called_set.notType
  have f2 := F.called_set.canCreate
  have f3 := F.typeCall_set_1 (.ref l)
  repeat (any_goals (first | assumption | wp_step))
  refine codeAny_mono (code_set_led1 (.ref l) (E := E) (Q₁ := fun obj t => obj = .ref s.heap.objs.size ∧ t = { s with heap := s.heap.push (freshSet w) }) ⟨rfl, rfl⟩) fun r t hr => ?_
  match r, hr with
  | .error e, hr => exact hr
  | .ok .next, hr => exact hr.elim
  | .ok .brk, hr => exact hr.elim
  | .ok .cont, hr => exact hr.elim
  | .ok (.ret obj), hr =>
    obtain ⟨rfl, rfl⟩ := hr
    have atS : (s.heap.push (freshSet w)).get? s.heap.objs.size = some (freshSet w) := Heap.get?_push_size _ rfl
    have tyS : Shared.TypeIs { s with heap := s.heap.push (freshSet w) } (.ref s.heap.objs.size) "set" := ⟨_, atS, rfl⟩
    have g1 := F.called_set.init.lookup
    have g2 := F.called_set.init.bind (.ref s.heap.objs.size)
    repeat (any_goals (first | assumption | wp_step))
    refine codeAny_mono (codeAny_call_builtin (R := wants (fun r t => r = .none ∧ ∃ h' tk L es ep t', t = { s with heap := h', toks := tk } ∧ Bag w h' s.heap.objs.size L es ep t' ∧ Met ks ks.length L ∧
      (∀ b o, s.heap.get? b = some o → h'.get? b = some o)) E) F.called_set.init.plain F.entry_set_init (check_set_init_1 tyS ?_)) fun r2 t2 hr2 => ?_
    · obtain ⟨ol, hol, hcl, nl, hdl⟩ := hl
      obtain ⟨oc, od, odat, osl⟩ := ol
      simp only at hcl hdl
      subst hcl; subst hdl
      have hol' : (s.heap.push (freshSet w)).get? l = some { cls := .type "tuple", dict := od, data := .seq items nl, slots := osl } := Heap.get?_push_of_some _ hol
      have s1 := F.sub_tuple_set
      have s2 := F.sub_tuple_frozenset
      have s3 : (Value.type "tuple" == Value.type "dict") = false := by decide
      have hl1 : (s.heap.push (freshSet w)).IsTuple l items := ⟨_, hol', rfl, nl, rfl⟩
      unfold Builtin.«set.__init__» noKeywords Builtin.Frozenset.updateFrom
      generalize hPI : pyIter = PI
      wp_walk
      subst hPI
      refine wpAny_pyIter_tuple hl1 ?_
      refine wpAny_bind (wpAny_runValue ?_)
      have lS : l < s.heap.objs.size := Heap.lt_size hol
      have calm3 : A.in1.in1.in1.handled = none := by simp [calm]
      have szp : (s.heap.push (freshSet w)).objs.size = s.heap.objs.size + 1 := Heap.size_push ..
      have offS : s.heap.objs.size ∉ [(s.heap.push (freshSet w)).objs.size, l] := by
        rw [szp]
        intro z
        rcases List.mem_cons.mp z with z | z
        · exact absurd z (Nat.ne_of_lt (Nat.lt_succ_self _))
        · exact absurd (List.mem_singleton.mp z) (Nat.ne_of_gt lS)
      have none_of : ∀ b, s.heap.objs.size ≤ b → s.heap.get? b = none := fun b hb => by
        cases q : s.heap.get? b with
        | none => rfl
        | some o => exact absurd (Nat.lt_of_lt_of_le (Heap.lt_size q) hb) (Nat.lt_irrefl _)
      refine updates (A := A.in1.in1) ((Walks.tuple calm3 _ l (by rw [szp]; exact Nat.ne_of_lt (Nat.lt_succ_of_lt lS)) items).toS) s.heap.objs.size offS ks sz few (fun i v hv => ?_) s.heap hk (none_of _ (Nat.le_refl _))
        (fun b hb => none_of b (by rw [List.mem_singleton.mp hb, szp]; omega)) (by show A.units + 1 + 1 + 1 + 8 < cLine; omega) (items.size - 0) 0 _ (by omega) (Nat.zero_le _)
        ⟨⟨_, Heap.get?_push_size _ rfl, rfl, rfl⟩, hl1.push _⟩ (fun b o e => Heap.get?_push_of_some _ (Heap.get?_push_of_some _ e)) ?_ ?_
      · have q : items.toList[i]? = some v := by rw [Array.getElem?_toList]; exact hv
        rw [hit, List.getElem?_map] at q
        obtain ⟨p, hp, e⟩ := Option.map_eq_some_iff.mp q
        exact ⟨p, hp, e.symm⟩
      · exact ⟨[], #[], 0, _, bag_new (Heap.get?_push_of_some _ atS), ⟨fun p z => (by cases z), fun p z => (by simp at z), Nat.le_refl _⟩⟩
      · intro s' L es ep t' mv B M g
        obtain ⟨h', gg, d', tk', os'⟩ := s'
        obtain rfl : gg = s.gens := mv.gens
        obtain rfl : d' = s.drawn := mv.drawn
        obtain rfl : os' = s.os := mv.os
        show wpAny _ _ _ _ _ _
        refine wpAny_pure ?_
        show wpAny _ _ (ret Value.none) _ _ _
        rw [sz] at M
        exact wpAny_pure ⟨rfl, h', tk', L, es, ep, t', rfl, B, M, g⟩
    · match r2, hr2 with
      | .error e, hr2 => exact hr2
      | .ok .next, hr2 => exact hr2.elim
      | .ok .brk, hr2 => exact hr2.elim
      | .ok .cont, hr2 => exact hr2.elim
      | .ok (.ret r), hr2 =>
        obtain ⟨rfl, h', tk, L, es, ep, t', rfl, B, M, g⟩ := hr2
        repeat (any_goals (first | assumption | wp_step))
        exact h _ _ _ _ _ _ B M g
end
end MI
end
/-! MSi -/
section
set_option linter.all false
set_option maxRecDepth 100000
set_option maxHeartbeats 4000000
/-! sorted of a set of nested tuples: the call; as steps of MI. -/
namespace MI
open PySem PySem.Spec PySem.SeqAt PyProof.Rows L2
section
variable {P : Program} {w : World} {A : Around} {E : Value → Shared → Prop} {s : Shared}
theorem refs_from {L : List NA} : ∀ vs : List Value, (∀ v ∈ vs, ∃ q ∈ L, v = Value.ref q.1) → ∃ M : List NA, vs = M.map (fun q => Value.ref q.1) ∧ ∀ q ∈ M, q ∈ L
  | [], _ => ⟨[], rfl, fun q z => (by cases z)⟩
  | v :: vs, h => by
    obtain ⟨q, m, e⟩ := h v List.mem_cons_self
    obtain ⟨M, e2, m2⟩ := refs_from vs fun u hu => h u (List.mem_cons_of_mem _ hu)
    refine ⟨q :: M, by rw [List.map_cons, e, e2], fun r hr => ?_⟩
    rcases List.mem_cons.mp hr with z | z
    · rw [z]; exact m
    · exact m2 r z
theorem sorted_bag {a : Addr} {L : List NA} {es : Array (Int × Value)} {ep : Nat} {t : SetTable} {r : NestedKey → Int} {Q : Value → Shared → Prop} (B : Bag w s.heap a L es ep t) (S : Sortable s.heap L r) (calm : A.handled = none) (hu : A.units + 24 < cLine)
    (hQ : ∀ s' p (out : Array Value) (c : Nat) (M : List NA), (∀ b o, s.heap.get? b = some o → s'.heap.get? b = some o) → s'.gens = s.gens → s'.os = s.os → s.heap.objs.size ≤ p → s'.heap.get? p = some (seqObj "list" out c) →
      out.toList = M.map (fun q => Value.ref q.1) → M.Perm L → M.Pairwise (fun q q' => r q.2 ≤ r q'.2) → Q (.ref p) s') : wpAny (model P w) A (call (.builtin "sorted") [.ref a]) Q E s := by
  obtain ⟨o, ho, hx, hd⟩ := B.at_
  have sz := rws_len L B.rows
  have few := B.few
  refine Calls.call_function_entry kind_sorted plain_sorted entry_sorted (args_sorted1 _) ?_
  unfold Builtin.«sorted»
  refine wpAny_bind (m := checkCount "sorted" 1 1 _) (wpAny_pure ?_)
  refine wpAny_bind (collect_set (A := A.in1) calm ⟨o, ho, hx.1, hd⟩ B.fits (by unfold scanBound; omega) B.tab.ris B.led fun s1 vs k1 z1 g1 o1 pm => ?_)
  have rows2 : es.toList.map (·.2) = L.map fun q => Value.ref q.1 := by
    rw [B.rows]
    unfold rws
    rw [List.map_map]
    rfl
  rw [rows2] at pm
  have inL : ∀ v ∈ vs, ∃ q ∈ L, v = Value.ref q.1 := fun v hv => by
    obtain ⟨q, m, e⟩ := List.mem_map.mp (pm.mem_iff.mp hv)
    exact ⟨q, m, e.symm⟩
  have one : ∀ q ∈ L, ∀ q' ∈ L, q.1 = q'.1 → q = q' := fun q m q' m' e => by
    have a1 := (S.is q m).1
    rw [e] at a1
    exact Prod.ext e (NestedIs.inj _ _ _ a1 (S.is q' m').1)
  have permL : ∀ M : List NA, (∀ q ∈ M, q ∈ L) → (M.map (fun q => Value.ref q.1)).Perm (L.map fun q => Value.ref q.1) → M.Perm L := by
    intro M hs pM
    have nL : L.Nodup := List.Pairwise.of_map (·.2) (fun _ _ ne e => ne (congrArg (·.2) e)) B.nd
    have nR : (L.map fun q => Value.ref q.1).Nodup := List.pairwise_map.mpr (List.Pairwise.imp_of_mem (fun {q q'} m m' ne e => ne (one q m q' m' (by injection e))) nL)
    have nM : M.Nodup := List.Pairwise.of_map (fun q => Value.ref q.1) (fun _ _ ne e => ne (congrArg (fun q : NA => Value.ref q.1) e)) (pM.nodup_iff.mpr nR)
    refine (List.perm_ext_iff_of_nodup nM nL).mpr fun q => ⟨hs q, fun m => ?_⟩
    obtain ⟨q', m', e⟩ := List.mem_map.mp (pM.mem_iff.mpr (List.mem_map.mpr ⟨q, m, rfl⟩))
    rw [← one q' (hs q' m') q m (by injection e)]
    exact m'
  have few2 : vs.length < 64 := by rw [pm.length_eq, List.length_map]; exact few
  refine wpAny_bind (wpAny_newList ?_ (by rw [sizeLine_eq]; omega))
  have atL : (s1.heap.push (seqObj "list" vs.toArray 0)).get? s1.heap.objs.size = some (seqObj "list" vs.toArray 0) := Heap.get?_push_size _ rfl
  have grown : ∀ b u, s.heap.get? b = some u → (s1.heap.push (seqObj "list" vs.toArray 0)).get? b = some u := fun b u e => Heap.get?_push_of_some _ (k1 b u e)
  have Sm : Sortable (TS.midHeap (s1.heap.push (seqObj "list" vs.toArray 0)) s1.heap.objs.size vs) L r := S.keep fun b u e => TS.midHeap_old (Nat.ne_of_lt (Heap.lt_size (k1 b u e))) (grown b u e)
  refine wpAny_bind (wpAny_holding (wpAny_call_entry slot_list_sort ⟨_, atL, rfl⟩ entry_list_sort
    (SK.plain_sort (s := { s1 with heap := s1.heap.push (seqObj "list" vs.toArray 0) }) (r := fun v => r (keyAt L v)) atL few2 (fun h2 Q' hK => ?_) fun ps out p1 p2 p3 => ⟨_, rfl, ?_⟩) (args_list_sort _)))
  · -- what is compared
    have tups : ∀ us : List Value, (∀ u ∈ us, ∃ q ∈ L, u = Value.ref q.1) → ∃ fs, PySem.W.KatTups (TS.midHeap (s1.heap.push (seqObj "list" vs.toArray 0)) s1.heap.objs.size vs) us fs ∧ fs.length = us.length ∧ ∀ f ∈ fs, ∃ x tk, f = Value.str x tk := by
      intro us
      induction us with
      | nil => exact fun _ => ⟨[], trivial, rfl, fun f z => (by cases z)⟩
      | cons u us ih =>
        intro hu'
        obtain ⟨fs, k, l, i⟩ := ih fun v hv => hu' v (List.mem_cons_of_mem _ hv)
        obtain ⟨q, m, rfl⟩ := hu' u List.mem_cons_self
        obtain ⟨x, rs, ek⟩ := Sm.hd q m
        have iq := (Sm.is q m).1
        rw [ek] at iq
        cases iq with
        | @tup _ ob vb nb _ b1 b2 b3 b4 =>
          cases eb : vb.toList with
          | nil => rw [eb] at b4; cases b4
          | cons f fr =>
            rw [eb] at b4
            cases b4 with
            | cons c1 c2 =>
              cases c1 with
              | text _ tk =>
                refine ⟨.str x tk :: fs, ⟨⟨q.1, ob, vb, nb, rfl, b1, b2, b3, by rw [← Array.getElem?_toList, eb]; rfl⟩, k⟩, by simp [l], fun f hf => ?_⟩
                rcases List.mem_cons.mp hf with z | z
                · exact ⟨x, tk, z⟩
                · exact i f z
    obtain ⟨fs, k, l, i⟩ := tups vs inL
    refine PySem.W.kat_kind (T := Value.type "str") k (by omega) (fun f hf => ?_) rfl (hK _ (cmp_keys (s := { s1 with heap := _ }) Sm (by show A.units + 1 + 1 + 16 < cLine; omega) inL))
    obtain ⟨x, tk, rfl⟩ := i f hf
    exact PySem.W.Looks.of_pure rfl
  · obtain ⟨q1, q2⟩ := TS.out_rank (r := fun v => r (keyAt L v)) p1 p2 p3
    obtain ⟨c, hc⟩ := sortedHeap_at (vs := vs) (out := out) atL
    obtain ⟨M, eM, sM⟩ := refs_from out.toList fun v hv => inL v (q1.mem_iff.mp hv)
    have pM : M.Perm L := permL M sM (by rw [← eM]; exact q1.trans pm)
    have wM : M.Pairwise (fun q q' => r q.2 ≤ r q'.2) := by
      rw [eM] at q2
      refine List.Pairwise.imp_of_mem (fun {q q'} m m' h => ?_) (List.pairwise_map.mp q2)
      rw [keyAt_mem S.is (sM q m), keyAt_mem S.is (sM q' m')] at h
      exact h
    refine wpAny_pure ⟨_, rfl, hQ _ s1.heap.objs.size out c M (fun b u e => ?_) g1 o1 z1 hc eM pM wM⟩
    have e1 := k1 b u e
    have lt := Heap.lt_size e1
    show (sortedHeap (s1.heap.push (seqObj "list" vs.toArray 0)) s1.heap.objs.size vs out).get? b = some u
    rw [sortedHeap_old (Nat.ne_of_lt lt) (by rw [size_push']; exact Nat.lt_succ_of_lt lt)]
    exact Heap.get?_push_of_some _ e1
end
end MI
end
/-! MSj -/
section
set_option linter.all false
set_option maxRecDepth 100000
set_option maxHeartbeats 4000000
/-! sorted(set(xs)) as a step of MI. -/
namespace MI
open PySem PySem.Spec PySem.SeqAt PyProof.Rows L2

/-- the set, without the tuples themselves -/
def Bag0 (w : World) (a : Addr) (L : List NA) (h : Heap) : Prop := ∃ (es : Array (Int × Value)) (ep : Nat) (t : SetTable), (∃ o, h.get? a = some o ∧ o.ExactSet ∧ o.data = .set es ep t) ∧ es.toList = rws w L ∧ TabOk t (L.map (hsh w)) ∧ (L.map (·.2)).Nodup ∧
  (w.params.followText "set-order" = true ∨ t.led = true) ∧ L.length * 5 < t.mask * 3 ∧ L.length < 64
abbrev BagO (w : World) (a : Addr) (L : List NA) : HO := .ext (Bag0 w a L)
theorem bagO_ok {P : Program} {w : World} {H : Hp} {h : Heap} {a : Addr} {L : List NA} {es : Array (Int × Value)} {ep : Nat} {t : SetTable} (B : Bag w h a L es ep t) : ObjOk P w H h a (BagO w a L) := by
  obtain ⟨o, ho, r⟩ := B.at_
  refine ⟨⟨es, ep, t, ⟨o, ho, r⟩, B.rows, B.tab, B.nd, B.led, B.room, B.few⟩, ⟨o, ho⟩, fun h1 h2 p k => ?_⟩
  obtain ⟨es', ep', t', ⟨o', ho', r'⟩, q⟩ := p
  exact ⟨es', ep', t', ⟨o', k o' ho', r'⟩, q⟩
theorem setOk_all {xs : List D} (h : setOk xs = true) : (∀ d ∈ xs, hashD d = true ∧ headS d = true ∧ depD d ≤ 8) ∧ Comp xs ∧ xs.length ≤ 32 := by
  unfold setOk at h
  simp only [Bool.and_eq_true, List.all_eq_true, decide_eq_true_eq] at h
  obtain ⟨⟨⟨⟨h1, h2⟩, h3⟩, h4⟩, h5⟩ := h
  exact ⟨fun d m => ⟨h1 d m, h2 d m, h3 d m⟩, fun x mx y my => Option.isSome_iff_exists.mp (h4 x mx y my), h5⟩
mutual
theorem kd_inj : ∀ {d e : D} {k : NestedKey}, kd d = some k → kd e = some k → d = e
  | .int i, e, k, h1, h2 => by
    simp [kd] at h1
    subst h1
    cases e <;> simp [kd] at h2
    rw [h2]
  | .str i, e, k, h1, h2 => by
    simp [kd] at h1
    subst h1
    cases e <;> simp [kd] at h2
    rw [h2]
  | .tup xs, e, k, h1, h2 => by
    simp only [kd, Option.map_eq_some_iff] at h1
    obtain ⟨ks, h1, ek⟩ := h1
    subst ek
    cases e <;> simp [kd] at h2
    rw [kds_inj h1 h2]
  | .non, _, _, h, _ => by simp [kd] at h
  | .bl _, _, _, h, _ => by simp [kd] at h
  | .lst _, _, _, h, _ => by simp [kd] at h
  | .scr _, _, _, h, _ => by simp [kd] at h
  | .dct _, _, _, h, _ => by simp [kd] at h
  | .cel _, _, _, h, _ => by simp [kd] at h
  | .fn _, _, _, h, _ => by simp [kd] at h
  | .err _ _, _, _, h, _ => by simp [kd] at h
theorem kds_inj : ∀ {xs ys : List D} {ks : List NestedKey}, kds xs = some ks → kds ys = some ks → xs = ys
  | [], [], _, _, _ => rfl
  | [], y :: ys, ks, h1, h2 => by
    simp [kds] at h1
    subst h1
    obtain ⟨_, _, _, _, e⟩ := kds_cons h2
    cases e
  | x :: xs, [], ks, h1, h2 => by
    simp [kds] at h2
    subst h2
    obtain ⟨_, _, _, _, e⟩ := kds_cons h1
    cases e
  | x :: xs, y :: ys, ks, h1, h2 => by
    obtain ⟨k, l, a1, a2, e⟩ := kds_cons h1
    subst e
    obtain ⟨k', l', b1, b2, e⟩ := kds_cons h2
    cases e
    rw [kd_inj a1 b1, kds_inj a2 b2]
end
theorem headed_of {d : D} {k : NestedKey} (h : headS d = true) (e : kd d = some k) : Headed k := by
  cases d with
  | tup xs =>
    cases xs with
    | nil => simp [headS] at h
    | cons x xs =>
      cases x with
      | str s =>
        simp only [kd, Option.map_eq_some_iff] at e
        obtain ⟨ks, e, ek⟩ := e
        obtain ⟨k', ks', a1, _, e2⟩ := kds_cons e
        simp [kd] at a1
        subst a1; subst e2; subst ek
        exact ⟨s, ks', rfl⟩
      | _ => simp [headS] at h
  | _ => simp [headS] at h
/-- the addresses and keys of a list of values -/
theorem keys_of {W : Wd} {ρ : List Addr} {H : Hp} : ∀ {xs : List D} {us : List V}, Reps W ρ H xs us → (∀ d ∈ xs, hashD d = true ∧ headS d = true ∧ depD d ≤ 8) → ∃ ks : List NA, us = ks.map (fun p => V.ref p.1) ∧ ks.length = xs.length ∧ (∀ p ∈ ks, ∃ d ∈ xs, kd d = some p.2 ∧ Rep W ρ H d (.ref p.1)) ∧ ∀ d ∈ xs, ∃ p ∈ ks, kd d = some p.2
  | [], us, r, _ => by
    have e : us = [] := r
    subst e
    exact ⟨[], rfl, rfl, fun p z => (by cases z), fun p z => (by cases z)⟩
  | d :: xs, us, r, h => by
    obtain ⟨v, us', e, r1, r2⟩ := (show ∃ v r, us = v :: r ∧ Rep W ρ H d v ∧ Reps W ρ H xs r from r)
    subst e
    obtain ⟨ks, e1, e2, e3, e4⟩ := keys_of r2 fun z m => h z (List.mem_cons_of_mem _ m)
    obtain ⟨g1, g2, g3⟩ := h d List.mem_cons_self
    obtain ⟨k, hk⟩ := hash_kd d g1
    have ev : ∃ a, v = .ref a := by
      cases d with
      | tup ys => obtain ⟨a, _, e, _⟩ := (show ∃ a vs, v = .ref a ∧ SqT W.K H a vs ∧ ys.length ≤ sizeLine ∧ Reps W ρ H ys vs from r1); exact ⟨a, e⟩
      | _ => simp [headS] at g2
    obtain ⟨a, rfl⟩ := ev
    refine ⟨(a, k) :: ks, by rw [List.map_cons, e1], by simp [e2], fun p hp => ?_, fun z hz => ?_⟩
    · rcases List.mem_cons.mp hp with q | q
      · rw [q]; exact ⟨d, List.mem_cons_self, hk, r1⟩
      · obtain ⟨z, m, q⟩ := e3 p q
        exact ⟨z, List.mem_cons_of_mem _ m, q⟩
    · rcases List.mem_cons.mp hz with q | q
      · rw [q]; exact ⟨(a, k), List.mem_cons_self, hk⟩
      · obtain ⟨p, m, q⟩ := e4 z q
        exact ⟨p, List.mem_cons_of_mem _ m, q⟩
theorem refsV : ∀ {ks : List NA} {us : List Value}, Vals (ks.map fun p => V.ref p.1) us → us = ks.map fun p => Value.ref p.1
  | [], us, h => by
    cases h
    rfl
  | p :: ks, us, h => by
    cases h with
    | cons r t =>
      cases r
      rw [refsV t]
      rfl
section
variable {X : Cx}
/-- what the set holds, in terms of MI -/
structure Holds (W : Wd) (ρ : List Addr) (H : Hp) (xs : List D) (L : List NA) : Prop where
  from_ : ∀ p ∈ L, ∃ d ∈ xs, kd d = some p.2 ∧ Rep W ρ H d (.ref p.1)
  all : ∀ d ∈ xs, ∃ p ∈ L, kd d = some p.2
  nd : (L.map (·.2)).Nodup
def rSet (X : Cx) : List V → Hp → VK → Prop := fun vs H Q => ∃ (W : Wd) (ρ : List Addr) (η : List C) (d : D) (xs : List D) (v : V), vs = [v] ∧ W.K = X.K ∧ Sim W ρ η H ∧ Rep W ρ H d v ∧ seqOf η d = some xs ∧ setOk xs = true ∧
  ∀ a L, H a = none → Holds W ρ H xs L → Q (.ref a) (upd H a (BagO X.w a L))
theorem cr_set (hc : X.calm = true) (hu : X.A.units + 64 < cLine) : CallR X (.type "set") (rSet X) := by
  intro pins s σ H vs us Q I r h
  obtain ⟨W, ρ, η, d, xs, v, ev, hK, sim, rd, hs, hok, q⟩ := h
  subst ev
  obtain ⟨u, eu, ru⟩ := vals1 r
  subst eu
  obtain ⟨g1, g2, g3⟩ := setOk_all hok
  have fin : ∀ (ks : List NA) (h' : Heap) (tk : Nat) L es ep t, (∀ p ∈ ks, ∃ d ∈ xs, kd d = some p.2 ∧ Rep W ρ H d (.ref p.1)) → (∀ d ∈ xs, ∃ p ∈ ks, kd d = some p.2) → Bag X.w h' s.heap.objs.size L es ep t → Met ks ks.length L → (∀ b o, s.heap.get? b = some o → h'.get? b = some o) →
      EP X pins σ Q (.ref s.heap.objs.size) { s with heap := h', toks := tk } := fun ks h' tk L es ep t f1 f2 B M k => by
    have hn : H s.heap.objs.size = none := I.hok.fresh (Nat.le_refl _)
    refine ⟨.ref s.heap.objs.size, upd H s.heap.objs.size (BagO X.w s.heap.objs.size L), I.laid (t' := tk) k (Nat.le_refl _) (bagO_ok B), rfl, q _ L hn ⟨fun p m => f1 p (List.mem_of_mem_take (M.sub p m)), fun z m => ?_, B.nd⟩⟩
    obtain ⟨p, mp, ep⟩ := f2 z m
    obtain ⟨p', m', e'⟩ := List.mem_map.mp (M.all p (by rw [List.take_length]; exact mp))
    exact ⟨p', m', by rw [e']; exact ep⟩
  have isN : ∀ (ks : List NA), (∀ p ∈ ks, ∃ d ∈ xs, kd d = some p.2 ∧ Rep W ρ H d (.ref p.1)) → ∀ p ∈ ks, IsN s.heap p.2 p.1 := fun ks f p m => by
    obtain ⟨z, mz, e, rz⟩ := f p m
    exact ⟨nest_of I hK rz rfl e, by rw [← dep_kd e]; exact (g1 z mz).2.2⟩
  have listCase : ∀ (b : Addr) (ws : List V), v = .ref b → SqL X.K H b ws → Reps W ρ H xs ws → wpAny (model X.prog X.w) X.A (call (.type "set") [u]) (EP X pins σ Q) X.xe s := fun b ws e sq rr => by
    subst e
    cases ru
    obtain ⟨ks, e1, e2, e3, e4⟩ := keys_of rr g1
    obtain ⟨its, rv, pl, hz⟩ := I.list sq
    rw [e1] at rv
    exact call_set_nested (P := X.prog) (w := X.w) ks (I.ok.hd hc) pl.isList (by simpa using refsV rv) (isN ks e3) (by omega) (by omega) fun h' tk L es ep t B M k => fin ks h' tk L es ep t e3 e4 B M k
  unfold seqOf at hs
  split at hs
  · rename_i c
    cases hs
    obtain ⟨b, ws, e, hb, _, rr⟩ := see_lst sim rd c
    exact listCase b ws e (SqL.of hb) rr
  · rename_i c
    cases hs
    obtain ⟨b, ws, e, hb, _, rr⟩ := see_tup rd c
    rw [hK] at hb
    subst e
    cases ru
    obtain ⟨ks, e1, e2, e3, e4⟩ := keys_of rr g1
    obtain ⟨its, rv, pl, hz⟩ := I.tuple hb
    rw [e1] at rv
    exact call_set_nestedT (P := X.prog) (w := X.w) ks (I.ok.hd hc) (show s.heap.IsTuple b its.toArray from pl) (by simpa using refsV rv) (isN ks e3) (by omega) (by omega) fun h' tk L es ep t B M k => fin ks h' tk L es ep t e3 e4 B M k
  · rename_i c
    cases hs
    obtain ⟨b, ws, e, hb, _, rr⟩ := see_scr rd c
    rw [hK] at hb
    exact listCase b ws e hb rr
  · cases hs
end
theorem kds_all : ∀ {S : List D}, (∀ d ∈ S, hashD d = true) → ∃ sk, kds S = some sk
  | [], _ => ⟨[], rfl⟩
  | d :: S, h => by
    obtain ⟨k, e1⟩ := hash_kd d (h d List.mem_cons_self)
    obtain ⟨sk, e2⟩ := kds_all fun z m => h z (List.mem_cons_of_mem _ m)
    exact ⟨k :: sk, by simp [kds, e1, e2]⟩
theorem kds_get : ∀ {S : List D} {sk : List NestedKey}, kds S = some sk → sk.length = S.length ∧ ∀ (i : Nat) (d : D) (k : NestedKey), S[i]? = some d → kd d = some k → sk[i]? = some k
  | [], sk, h => by
    simp [kds] at h
    subst h
    exact ⟨rfl, fun i d k e => by simp at e⟩
  | d :: S, sk, h => by
    obtain ⟨k, l, a1, a2, e⟩ := kds_cons h
    subst e
    obtain ⟨g1, g2⟩ := kds_get a2
    refine ⟨by simp [g1], fun i z k' e1 e2 => ?_⟩
    cases i with
    | zero =>
      simp at e1
      subst e1
      rw [a1] at e2
      simpa using e2
    | succ i => simpa using g2 i z k' (by simpa using e1) e2
theorem reps_by {W : Wd} {ρ : List Addr} {H : Hp} : ∀ {S : List D} {M : List NA}, kds S = some (M.map (·.2)) → (∀ q ∈ M, ∃ d, kd d = some q.2 ∧ Rep W ρ H d (.ref q.1)) → Reps W ρ H S (M.map fun q => V.ref q.1)
  | [], M, e, h => by
    simp [kds] at e
    subst e
    exact Reps.nil
  | d :: S, M, e, h => by
    obtain ⟨k, l, a1, a2, el⟩ := kds_cons e
    cases M with
    | nil => cases el
    | cons q M =>
      simp only [List.map_cons, List.cons.injEq] at el
      obtain ⟨ek, el⟩ := el
      subst ek
      obtain ⟨z, hz, rz⟩ := h q List.mem_cons_self
      have ez : z = d := kd_inj hz a1
      subst ez
      exact Reps.cons rz (reps_by (by rw [a2, el]) fun p m => h p (List.mem_cons_of_mem _ m))
theorem kds_mem {S : List D} {sk : List NestedKey} (h : kds S = some sk) {k : NestedKey} (m : k ∈ sk) : ∃ d ∈ S, kd d = some k := by
  induction S generalizing sk with
  | nil =>
    simp [kds] at h
    subst h
    cases m
  | cons d S ih =>
    obtain ⟨k', l, a1, a2, e⟩ := kds_cons h
    subst e
    rcases List.mem_cons.mp m with z | z
    · exact ⟨d, List.mem_cons_self, by rw [z]; exact a1⟩
    · obtain ⟨y, my, ey⟩ := ih a2 z
      exact ⟨y, List.mem_cons_of_mem _ my, ey⟩
/-- the place of a key in a list -/
def place (sk : List NestedKey) (k : NestedKey) : Nat := sk.idxOf k
theorem place_at {sk : List NestedKey} (nd : sk.Nodup) {i : Nat} {k : NestedKey} (e : sk[i]? = some k) : place sk k = i := by
  obtain ⟨hi, e⟩ := List.getElem?_eq_some_iff.mp e
  subst e
  exact nd.idxOf_getElem i hi
theorem up_at {S : List D} (h : Up S) {i j : Nat} {a b : D} (ea : S[i]? = some a) (eb : S[j]? = some b) (hij : i < j) : ltD a b = some true := by
  obtain ⟨hi, ea⟩ := List.getElem?_eq_some_iff.mp ea
  obtain ⟨hj, eb⟩ := List.getElem?_eq_some_iff.mp eb
  subst ea; subst eb
  exact List.pairwise_iff_getElem.mp h i j hi hj hij
section
variable {X : Cx}
def rSorted (X : Cx) : List V → Hp → VK → Prop := fun vs H Q => ∃ (W : Wd) (ρ : List Addr) (a : Addr) (L : List NA) (xs : List D), vs = [.ref a] ∧ W.K = X.K ∧ H a = some (BagO X.w a L) ∧ Holds W ρ H xs L ∧ setOk xs = true ∧
  ∀ p us, Reps W ρ H (sortD xs) us → H p = none → Q (.ref p) (upd H p (.lst us))
theorem cr_sorted (hc : X.calm = true) (hu : X.A.units + 64 < cLine) : CallR X (.builtin "sorted") (rSorted X) := by
  intro pins s σ H vs us Q I r h
  obtain ⟨W, ρ, a, L, xs, ev, hK, ha, hold, hok, q⟩ := h
  subst ev
  rw [Vals.ref1 r]
  obtain ⟨g1, g2, g3⟩ := setOk_all hok
  have S_mem := sort_mem xs
  have S_up := sort_up xs g2
  have S_nd := up_nodup S_up
  have S_hash : ∀ d ∈ sortD xs, hashD d = true := fun d m => (g1 d ((S_mem d).mp m)).1
  obtain ⟨sk, hsk⟩ := kds_all S_hash
  obtain ⟨sk_len, sk_at⟩ := kds_get hsk
  have sk_nd : sk.Nodup := by
    refine List.pairwise_iff_getElem.mpr fun i j hi hj hij e => ?_
    have hj' : j < (sortD xs).length := by rw [← sk_len]; exact hj
    have hi' : i < (sortD xs).length := by omega
    have e : sk[i]? = sk[j]? := by rw [List.getElem?_eq_getElem hi, List.getElem?_eq_getElem hj, e]
    have ei := List.getElem?_eq_getElem hi'
    have ej := List.getElem?_eq_getElem hj'
    obtain ⟨k1, e1⟩ := hash_kd _ (S_hash _ (List.getElem_mem hi'))
    obtain ⟨k2, e2⟩ := hash_kd _ (S_hash _ (List.getElem_mem hj'))
    rw [sk_at i _ k1 ei e1, sk_at j _ k2 ej e2] at e
    cases e
    have := kd_inj e1 e2
    have lt := up_at S_up ei ej hij
    rw [this] at lt
    have := lt_asym _ _ lt
    rw [lt] at this
    cases this
  -- each key has its place
  have at_place : ∀ p ∈ L, ∃ d i, (sortD xs)[i]? = some d ∧ kd d = some p.2 ∧ place sk p.2 = i ∧ Rep W ρ H d (.ref p.1) ∧ d ∈ xs := fun p m => by
    obtain ⟨d, md, ed, rd⟩ := hold.from_ p m
    obtain ⟨i, ei⟩ := List.mem_iff_getElem?.mp ((S_mem d).mpr md)
    exact ⟨d, i, ei, ed, place_at sk_nd (sk_at i d p.2 ei ed), rd, md⟩
  have isN : ∀ p ∈ L, IsN s.heap p.2 p.1 := fun p m => by
    obtain ⟨d, md, ed, rd⟩ := hold.from_ p m
    exact ⟨nest_of I hK rd rfl ed, by rw [← dep_kd ed]; exact (g1 d md).2.2⟩
  have hb : Bag0 X.w a L s.heap := (I.hok a _ ha).1
  obtain ⟨es, ep, t, b1, b2, b3, b4, b5, b6, b7⟩ := hb
  have B : Bag X.w s.heap a L es ep t := ⟨b1, b2, b3, b4, isN, b5, b6, b7⟩
  have srt : Sortable s.heap L (fun k => (place sk k : Int)) := by
    refine ⟨isN, fun p m => ?_, fun p m => ?_, fun p m p' m' => ?_⟩
    · obtain ⟨d, md, ed, rd⟩ := hold.from_ p m
      exact nob_of I hK rd rfl ed
    · obtain ⟨d, md, ed, rd⟩ := hold.from_ p m
      exact headed_of (g1 d md).2.1 ed
    · obtain ⟨d, i, e1, e2, e3, _, md⟩ := at_place p m
      obtain ⟨d', i', f1, f2, f3, _, md'⟩ := at_place p' m'
      rw [← lt_kd e2 f2]
      simp only [e3, f3]
      rcases Nat.lt_trichotomy i i' with z | z | z
      · rw [up_at S_up e1 f1 z, decide_eq_true (by omega)]
      · subst z
        rw [e1] at f1
        cases f1
        rw [decide_eq_false (by omega)]
        rcases lt_irr d (g1 d md).1 with y | y
        · exact y
        · obtain ⟨bb, eb⟩ := g2 d md d md
          rw [y] at eb
          cases eb
      · rw [lt_asym _ _ (up_at S_up f1 e1 z), decide_eq_false (by omega)]
  refine sorted_bag B srt (I.ok.hd hc) (by omega) fun s' p out c M k gg oo hp hg hout pm pw => ?_
  have hM : M.map (·.2) = sk := by
    have mem : ∀ k, k ∈ M.map (·.2) ↔ k ∈ sk := fun k => by
      rw [(pm.map (·.2)).mem_iff]
      constructor
      · intro hk
        obtain ⟨p, mp, e⟩ := List.mem_map.mp hk
        obtain ⟨d, i, e1, e2, e3, _, _⟩ := at_place p mp
        rw [← e]
        exact List.mem_of_getElem? (sk_at i d p.2 e1 e2)
      · intro hk
        obtain ⟨d, md, ed⟩ := kds_mem hsk hk
        obtain ⟨p, mp, ep'⟩ := hold.all d ((S_mem d).mp md)
        rw [ed] at ep'
        cases ep'
        exact List.mem_map.mpr ⟨p, mp, rfl⟩
    have nM : (M.map (·.2)).Nodup := (pm.map (·.2)).nodup_iff.mpr hold.nd
    have perm : (M.map (·.2)).Perm sk := (List.perm_ext_iff_of_nodup nM sk_nd).mpr mem
    refine List.Perm.eq_of_pairwise (le := fun k k' => place sk k ≤ place sk k') (fun k k' h1 h2 l1 l2 => ?_) (List.pairwise_map.mpr (pw.imp fun h => by omega)) ?_ perm
    · obtain ⟨i, ei⟩ := List.mem_iff_getElem?.mp ((mem k).mp h1)
      obtain ⟨j, ej⟩ := List.mem_iff_getElem?.mp h2
      rw [place_at sk_nd ei, place_at sk_nd ej] at l1 l2
      have : i = j := by omega
      subst this
      rw [ei] at ej
      exact Option.some.inj ej
    · rw [List.pairwise_iff_getElem]
      intro i j hi hj hij
      rw [place_at sk_nd (List.getElem?_eq_getElem hi), place_at sk_nd (List.getElem?_eq_getElem hj)]
      omega
  have few : M.length < 64 := by rw [pm.length_eq]; exact b7
  have hlen : (M.map fun q => V.ref q.1).length ≤ sizeLine := by rw [List.length_map, sizeLine_eq]; omega
  have hn : H p = none := I.hok.fresh hp
  have hv : Vals (M.map fun q => V.ref q.1) out.toList := by
    rw [hout]
    clear hout hM pm pw few hlen
    induction M with
    | nil => exact .nil
    | cons q M ih => exact .cons rfl ih
  have J : Inv X pins σ (upd H p (.lst (M.map fun q => V.ref q.1))) { s with heap := s'.heap, gens := s'.gens, drawn := s'.drawn, toks := s'.toks } :=
    I.call (ch := []) (Un.laid k hp hn) (I.hok.laid k hp ⟨hlen, out.toList, c, hv, hg⟩) (by rw [gg]; exact I.bare) (fun _ z => nomatch z)
  have e : s' = { s with heap := s'.heap, gens := s'.gens, drawn := s'.drawn, toks := s'.toks } := by
    cases s'
    cases s
    cases oo
    rfl
  rw [e]
  exact ⟨.ref p, _, J, rfl, q p _ (reps_by (by rw [hsk, hM]) fun z mz => let ⟨d, _, _, e2, _, rd, _⟩ := at_place z (pm.mem_iff.mp mz); ⟨d, e2, rd⟩) hn⟩
/-- sorted(set(e)) -/
theorem s_sset {W : Wd} {x : XW} {a : Expr} {ma : Ev → M D} {p p2 pos pos2 : Pos} (hK : W.K = X.K) (hc : X.calm = true) (hu : X.A.units + 64 < cLine) (g1 : Gl X "sorted") (m1 : X.mg "sorted" = none) (g2 : Gl X "set") (m2 : X.mg "set" = none) (ha : PE X a (tE W x ma))
    (hna : starEach [a] X.env = (false, eval a X.env) :: starEach [] X.env) :
    PE X (.Call (.Name "sorted" p) [.Call (.Name "set" p2) [a] [] pos2] [] pos) (tE W x fun v => ma v >>= fun q => look fun h => (seqOf h q).bind ssetD) := by
  have inner : PE X (.Call (.Name "set" p2) [a] [] pos2) (tCB (rSet X) (tCons (tE W x ma) tNil)) := pe_callTy (cr_set hc hu) g2 m2 (by decide +kernel) (pa_cons ha pa_nil hna) (by decide) (by decide) hna rfl
  have outer : PE X (.Call (.Name "sorted" p) [.Call (.Name "set" p2) [a] [] pos2] [] pos) (tCB (rSorted X) (tCons (tCB (rSet X) (tCons (tE W x ma) tNil)) tNil)) := pe_callB (cr_sorted hc hu) g1 m1 (by decide +kernel) (pa_cons inner pa_nil rfl) (by decide) (by decide) rfl rfl
  refine pe_mono outer fun σ H Q _ h => ?_
  obtain ⟨W', iw, ρ, η, env, sim, er, h⟩ := h
  refine ⟨W', iw, ρ, η, env, sim, er, h.bind.mono fun d η1 ρ1 H1 e1 s1 h1 v rv => ?_⟩
  obtain ⟨z, hz, w⟩ := h1.look
  obtain ⟨xs, hx, hz⟩ := Option.bind_eq_some_iff.mp hz
  unfold ssetD at hz
  split at hz
  · rename_i hok
    cases hz
    refine ⟨W', ρ1, η1, d, xs, v, rfl, iw.1.trans hK, s1, rv, hx, hok, fun a L hA hold => ?_⟩
    have s2 := s1.new (o := BagO X.w a L) hA
    have e2 : Ext ρ1 H1 ρ1 (upd H1 a (BagO X.w a L)) := .new hA
    refine ⟨W', ρ1, a, L, xs, rfl, iw.1.trans hK, upd_same, ⟨fun p m => ?_, hold.all, hold.nd⟩, hok, fun p us rs hp => ?_⟩
    · obtain ⟨d', m', ed, rd⟩ := hold.from_ p m
      exact ⟨d', m', ed, rd.ext e2 s1.ok⟩
    · have hl : (sortD xs).length ≤ sizeLine := by
        have h2 := (setOk_all hok).2.2
        have h3 := sort_len xs
        rw [sizeLine_eq]
        omega
      have w' : Want W' ρ1 η1 (upd H1 a (BagO X.w a L)) (.lst (sortD xs)) Q := fun ρ' H' v' ee ss rr => see_want w ρ' H' v' (e2.trans ee) ss rr
      exact w'.lst s2 hl rs p hp
  · cases hz
end
end MI
end
/-! MSz -/
section
set_option linter.all false
set_option maxRecDepth 100000
set_option maxHeartbeats 4000000
/-! list(zip(xs, ys)) of two lists. -/
namespace MI
open PySem PySem.Spec PySem.SeqAt PyProof.Rows L2

theorem zip_no_len : typeLookup (.type "zip") "__len__" = pure none := by rw [typeLookup_type, builtinLookup_eq_fast]; kernel_rfl
theorem zip_no_hint : typeLookup (.type "zip") "__length_hint__" = pure none := by rw [typeLookup_type, builtinLookup_eq_fast]; kernel_rfl
section
variable {P : Program} {w : World} {A : Around} {E : Value → Shared → Prop} {s : Shared} {z TI TO i1 i2 l1 l2 S : Addr} {xs ys : Array Value}
/-- the zip at z is at its i-th turn, the list S besides -/
def ZipAt (z TI TO i1 i2 l1 l2 S : Addr) (xs ys : Array Value) (i : Nat) (h : Heap) : Prop :=
  IsPair h TI (.ref i1) (.ref i2) ∧ h.IsListIter i1 l1 i ∧ h.IsListIter i2 l2 i ∧ h.IsList l1 xs ∧ h.IsList l2 ys ∧
    ((IsZip h z TI TO .none ∧ ∃ a b, IsPair h TO a b) ∨ ∃ T f oT, IsZipHeld h z TI TO T f ∧ h.get? T = some oT ∧ T ≠ z ∧ T ≠ i1 ∧ T ≠ i2 ∧ T ≠ S)
theorem ZipAt.on {i : Nat} {h h' : Heap} (off : S ≠ z ∧ S ≠ TI ∧ S ≠ TO ∧ S ≠ i1 ∧ S ≠ i2 ∧ S ≠ l1 ∧ S ≠ l2) (x : ZipAt z TI TO i1 i2 l1 l2 S xs ys i h) (k : ∀ b o, b ≠ S → h.get? b = some o → h'.get? b = some o) : ZipAt z TI TO i1 i2 l1 l2 S xs ys i h' := by
  obtain ⟨o1, o2, o3, o4, o5, o6, o7⟩ := off
  obtain ⟨a1, a2, a3, a4, a5, a6⟩ := x
  refine ⟨k _ _ o2.symm a1, a2.at fun o e => k _ o o4.symm e, a3.at fun o e => k _ o o5.symm e, a4.at fun o e => k _ o o6.symm e, a5.at fun o e => k _ o o7.symm e, ?_⟩
  rcases a6 with ⟨b1, a, b, b2⟩ | ⟨T, f, oT, b1, b2, r1, r2, r3, r4⟩
  · exact .inl ⟨k _ _ o1.symm b1, a, b, k _ _ o3.symm b2⟩
  · exact .inr ⟨T, f, oT, k _ _ o1.symm b1, k _ _ r4 b2, r1, r2, r3, r4⟩
/-- the pairs that have been made -/
structure ZPairs (xs ys : Array Value) (lo : Nat) (h : Heap) (Ts : List Addr) : Prop where
  at_ : ∀ (j : Nat) (T : Addr), Ts[j]? = some T → ∃ x y, xs[j]? = some x ∧ ys[j]? = some y ∧ IsPair h T x y
  low : ∀ T ∈ Ts, lo ≤ T
  nd : Ts.Nodup
theorem zip_loop (calm : A.handled = none) (D : ZipApart z TI TO i1 i2 l1 l2) (off : S ≠ z ∧ S ≠ TI ∧ S ≠ TO ∧ S ≠ i1 ∧ S ≠ i2 ∧ S ≠ l1 ∧ S ≠ l2) (small : min xs.size ys.size ≤ sizeLine) (res : Value) {lo : Nat} (los : Nat.lt z lo ∧ Nat.lt TO lo ∧ Nat.lt i1 lo ∧ Nat.lt i2 lo ∧ Nat.lt S lo) {h0 : Heap} {R : Result → Shared → Prop}
    (hR : ∀ h' tk acc c Ts, (∀ b o, b ≠ S → b ≠ z → b ≠ TO → b ≠ i1 → b ≠ i2 → h0.get? b = some o → h'.get? b = some o) → h'.get? S = some { cls := .type "list", dict := none, data := .seq acc c, slots := #[] } → Ts.length = min xs.size ys.size → ZPairs xs ys lo h' Ts →
      acc.toList = Ts.map Value.ref → R (.ok (.ret res)) { s with heap := h', toks := tk }) :
    ∀ (k i : Nat) (h : Heap) (tk c : Nat) (acc : Array Value) (Ts : List Addr), min xs.size ys.size - i = k → i ≤ min xs.size ys.size → ZipAt z TI TO i1 i2 l1 l2 S xs ys i h → (∀ b o, b ≠ S → b ≠ z → b ≠ TO → b ≠ i1 → b ≠ i2 → h0.get? b = some o → h.get? b = some o) →
      h.get? S = some { cls := .type "list", dict := none, data := .seq acc c, slots := #[] } → acc.toList = Ts.map Value.ref → Ts.length = i → ZPairs xs ys lo h Ts → lo ≤ h.objs.size →
      codeAny (model P w) A (.builtin "list.extend.loop" ⟨[.ref S, .ref z, res], []⟩) R { s with heap := h, toks := tk } := by
  obtain ⟨z1, z2, z3, z4, z5⟩ := los
  intro k
  induction k with
  | zero =>
    intro i h tk c acc Ts hk hi st keep hS hacc hl pr hlo
    obtain ⟨a1, a2, a3, a4, a5, a6⟩ := st
    have fin : ∀ h', (∀ c o, c ≠ z → c ≠ TO → c ≠ i1 → c ≠ i2 → h.get? c = some o → h'.get? c = some o) → R (.ok (.ret res)) { s with heap := h', toks := tk } := fun h' k' => by
      refine hR h' tk acc c Ts (fun b o b1 b2 b3 b4 b5 e => k' b o b2 b3 b4 b5 (keep b o b1 b2 b3 b4 b5 e)) (k' S _ off.1 off.2.2.1 off.2.2.2.1 off.2.2.2.2.1 hS) (by omega) ⟨fun j T e => ?_, pr.low, pr.nd⟩ hacc
      obtain ⟨x, y, e1, e2, e3⟩ := pr.at_ j T e
      have hT := pr.low T (List.mem_of_getElem? e)
      exact ⟨x, y, e1, e2, k' T _ (Nat.ne_of_gt (Nat.lt_of_lt_of_le z1 hT)) (Nat.ne_of_gt (Nat.lt_of_lt_of_le z2 hT)) (Nat.ne_of_gt (Nat.lt_of_lt_of_le z3 hT)) (Nat.ne_of_gt (Nat.lt_of_lt_of_le z4 hT)) e3⟩
    have ends : xs[i]? = none ∨ ys[i]? = none := by
      rcases Nat.le_total xs.size ys.size with q | q
      · exact .inl (Array.getElem?_eq_none (by omega))
      · exact .inr (Array.getElem?_eq_none (by omega))
    refine codeAny_builtin PySem.F.entry_extend_loop ?_
    rw [Around.under_plainId PySem.F.plain_extend_loop _]
    show wpAny _ A.in1 (pyNext (.ref z) >>= _) _ _ _
    refine wpAny_bind ?_
    rcases a6 with ⟨b1, a, b, b2⟩ | ⟨T, f, oT, b1, b2, _, _, _, _⟩
    · exact wpAny_pyNext_zip_end (A := A.in1) (s := { s with heap := h, toks := tk }) calm D b1 a1 b2 a2 a3 a4 a5 ends fun h' k' => wpAny_pure (fin h' k')
    · exact wpAny_pyNext_zip_end_held (A := A.in1) (s := { s with heap := h, toks := tk }) calm D b1 b2 a1 a2 a3 a4 a5 ends fun h' k' => wpAny_pure (fin h' fun c o c1 _ c3 c4 e => k' c o c1 c3 c4 e)
  | succ k ih =>
    intro i h tk c acc Ts hk hi st keep hS hacc hl pr hlo
    obtain ⟨a1, a2, a3, a4, a5, a6⟩ := st
    have lt : i < min xs.size ys.size := by omega
    have ex := Array.getElem?_eq_getElem (show i < xs.size by omega)
    have ey := Array.getElem?_eq_getElem (show i < ys.size by omega)
    have sz : acc.size = i := by rw [← Array.length_toList, hacc, List.length_map, hl]
    have new : ∀ {b : Addr} {o : Obj}, h.get? b = some o → h.objs.size ≠ b := fun e => Nat.ne_of_gt (Heap.lt_size e)
    have lS := Heap.lt_size hS
    have next : ∀ h', (∀ c o, c ≠ z → c ≠ TO → c ≠ i1 → c ≠ i2 → h.get? c = some o → h'.get? c = some o) → IsPair h' h.objs.size xs[i] ys[i] → h'.objs.size = h.objs.size + 1 → ZipAt z TI TO i1 i2 l1 l2 S xs ys (i + 1) h' →
        wpAny (model P w) A.in1 (updateSeq S (·.push (Value.ref h.objs.size)) >>= fun _ => again (.builtin "list.extend.loop" ⟨[.ref S, .ref z, res], []⟩))
          (fun fin s' => match fin with | .done f => R (.ok f) s' | .again c' => c'.quiet = true ∧ codeAny (model P w) A c' R s') (fun e s' => R (.error e) s') { s with heap := h', toks := tk } := fun h' k' pT sz' st' => by
      have hS' := k' S _ off.1 off.2.2.1 off.2.2.2.1 off.2.2.2.2.1 hS
      have up : ∀ b o, b ≠ S → h'.get? b = some o → (h'.update S (Obj.mapSeq (·.push (Value.ref h.objs.size)))).get? b = some o := fun b o hb e => (Heap.get?_update_other _ _ (Ne.symm hb)).trans e
      refine wpAny_bind (wpAny_updateSeq hS' rfl (wpAny_pure ⟨plainId_quiet PySem.F.plain_extend_loop _, ih (i + 1) _ tk _ (acc.push (Value.ref h.objs.size)) (Ts ++ [h.objs.size]) (by omega) (by omega) (st'.on off up)
        (fun b o b1 b2 b3 b4 b5 e => up b o b1 (k' b o b2 b3 b4 b5 (keep b o b1 b2 b3 b4 b5 e))) (Heap.get?_update_self _ hS' rfl) (by rw [Array.toList_push, hacc, List.map_append]; rfl) (by rw [List.length_append, hl]; rfl) ⟨fun j T e => ?_, fun T hT => ?_, ?_⟩ ?_⟩) (by rw [sz]; omega) (by show (acc.push (Value.ref h.objs.size)).size ≤ sizeLine + 1; rw [Array.size_push, sz]; omega))
      · rcases Nat.lt_trichotomy j Ts.length with q | q | q
        · rw [List.getElem?_append_left q] at e
          obtain ⟨x, y, e1, e2, e3⟩ := pr.at_ j T e
          have hT := pr.low T (List.mem_of_getElem? e)
          exact ⟨x, y, e1, e2, up T _ (Nat.ne_of_gt (Nat.lt_of_lt_of_le z5 hT)) (k' T _ (Nat.ne_of_gt (Nat.lt_of_lt_of_le z1 hT)) (Nat.ne_of_gt (Nat.lt_of_lt_of_le z2 hT)) (Nat.ne_of_gt (Nat.lt_of_lt_of_le z3 hT)) (Nat.ne_of_gt (Nat.lt_of_lt_of_le z4 hT)) e3)⟩
        · subst q
          have eT : h.objs.size = T := by simpa using e
          subst eT
          exact ⟨_, _, by rw [hl]; exact ex, by rw [hl]; exact ey, up _ _ (Nat.ne_of_gt lS) pT⟩
        · rw [List.getElem?_eq_none (by rw [List.length_append, List.length_singleton]; omega)] at e
          cases e
      · rcases List.mem_append.mp hT with q | q
        · exact pr.low T q
        · rw [List.mem_singleton.mp q]; exact hlo
      · refine List.nodup_append.mpr ⟨pr.nd, by simp, fun a ha b hb e => ?_⟩
        rw [List.mem_singleton.mp hb] at e
        subst e
        obtain ⟨j, ej⟩ := List.mem_iff_getElem?.mp ha
        obtain ⟨x, y, _, _, e3⟩ := pr.at_ j _ ej
        exact absurd (Heap.lt_size e3) (Nat.lt_irrefl _)
      · show lo ≤ (h'.update S (Obj.mapSeq (·.push (Value.ref h.objs.size)))).objs.size
        rw [Heap.size_update, sz']
        omega
    refine codeAny_builtin PySem.F.entry_extend_loop ?_
    rw [Around.under_plainId PySem.F.plain_extend_loop _]
    show wpAny _ A.in1 (pyNext (.ref z) >>= _) _ _ _
    refine wpAny_bind ?_
    rcases a6 with ⟨b1, a, b, b2⟩ | ⟨T, f, oT, b1, b2, r1, r2, r3, r4⟩
    · refine wpAny_pyNext_zip_item (A := A.in1) (s := { s with heap := h, toks := tk }) D b1 a1 b2 a2 a3 a4 a5 ex ey fun h' c1 c2 c3 c4 c5 c6 k' => ?_
      exact next h' k' c5 c6 ⟨k' _ _ D.TIz D.TITO D.TIi1 D.TIi2 a1, c3, c4, a4.at fun o e => k' _ o D.l1z D.l1TO D.l1i1 D.l1i2 e, a5.at fun o e => k' _ o D.l2z D.l2TO D.l2i1 D.l2i2 e,
        .inr ⟨h.objs.size, false, _, c1, c5, new b1, (let ⟨_, e, _⟩ := a2; new e), (let ⟨_, e, _⟩ := a3; new e), new hS⟩⟩
    · refine wpAny_pyNext_zip_item_held (A := A.in1) (s := { s with heap := h, toks := tk }) D b1 b2 a1 a2 a3 a4 a5 ex ey fun h' c1 c3 c4 c5 c6 k' => ?_
      exact next h' (fun c o e1 _ e3 e4 e => k' c o e1 e3 e4 e) c5 c6 ⟨k' _ _ D.TIz D.TIi1 D.TIi2 a1, c3, c4, a4.at fun o e => k' _ o D.l1z D.l1i1 D.l1i2 e, a5.at fun o e => k' _ o D.l2z D.l2i1 D.l2i2 e,
        .inr ⟨T, true, oT, c1, k' _ _ r1 r2 r3 b2, r1, r2, r3, r4⟩⟩
theorem zip_hint {r : Addr} (hT : s.TypeIs (.ref r) "zip") {Q : Bool → Shared → Prop} (h : Q true s) : wpAny (model P w) A (Builtin.List.listLengthHint (.ref r)) Q E s := by
  unfold Builtin.List.listLengthHint
  refine wpAny_bind (wpAny_specialOf hT zip_no_len ?_)
  show wpAny _ A (specialOf (Value.ref r) (Str.ofString "__length_hint__") >>= _) _ _ _
  exact wpAny_bind (wpAny_specialOf hT zip_no_hint (wpAny_pure h))
abbrev Offs (S z TI TO i1 i2 l1 l2 : Addr) : Prop := S ≠ z ∧ S ≠ TI ∧ S ≠ TO ∧ S ≠ i1 ∧ S ≠ i2 ∧ S ≠ l1 ∧ S ≠ l2
theorem zip_extend (calm : A.handled = none) (D : ZipApart z TI TO i1 i2 l1 l2) (off : Offs S z TI TO i1 i2 l1 l2) (small : min xs.size ys.size ≤ sizeLine) (res : Value) (st : ZipAt z TI TO i1 i2 l1 l2 S xs ys 0 s.heap) (hz : IsZip s.heap z TI TO .none) {c₀ : Nat} (hS : s.heap.get? S = some { cls := .type "list", data := .seq #[] c₀ }) {R : Result → Shared → Prop}
    (hR : ∀ h' tk acc c Ts, (∀ b o, b ≠ S → b ≠ z → b ≠ TO → b ≠ i1 → b ≠ i2 → s.heap.get? b = some o → h'.get? b = some o) → h'.get? S = some { cls := .type "list", dict := none, data := .seq acc c, slots := #[] } → Ts.length = min xs.size ys.size → ZPairs xs ys s.heap.objs.size h' Ts →
      acc.toList = Ts.map Value.ref → R (.ok (.ret res)) { s with heap := h', toks := tk }) :
    wpAny (model P w) A.in1 (Builtin.List.listExtendWith (.ref S) (.ref z) res)
      (fun fin s' => match fin with | .done f => R (.ok f) s' | .again c' => c'.quiet = true ∧ codeAny (model P w) A c' R s') (fun e s' => R (.error e) s') s := by
  have ty : s.TypeIs (.ref z) "zip" := ⟨_, hz, rfl⟩
  have l1' := Heap.lt_size hz
  have l5' := Heap.lt_size hS
  have lows : Nat.lt z s.heap.objs.size ∧ Nat.lt TO s.heap.objs.size ∧ Nat.lt i1 s.heap.objs.size ∧ Nat.lt i2 s.heap.objs.size ∧ Nat.lt S s.heap.objs.size := by
    obtain ⟨a1, ⟨o1, a2, _⟩, ⟨o2, a3, _⟩, a4, a5, a6⟩ := st
    refine ⟨l1', ?_, Heap.lt_size a2, Heap.lt_size a3, l5'⟩
    rcases a6 with ⟨_, a, b, b2⟩ | ⟨T, f, oT, b1, _⟩
    · exact Heap.lt_size b2
    · have b1 : s.heap.get? z = _ := b1
      rw [hz] at b1
      cases b1
  have go : ∀ (h : Heap) (c tk : Nat), (∀ b o, b ≠ S → s.heap.get? b = some o → h.get? b = some o) → h.objs.size = s.heap.objs.size → h.get? S = some { cls := .type "list", data := .seq #[] c } →
      codeAny (model P w) A (.builtin "list.extend.loop" ⟨[.ref S, .ref z, res], []⟩) R { s with heap := h, toks := tk } := fun h c tk k sz' hS' =>
    zip_loop calm D off small res lows (h0 := s.heap) (fun h' tk' acc c' Ts g1 g2 g3 g4 g5 => hR h' tk' acc c' Ts g1 g2 g3 g4 g5) (min xs.size ys.size) 0 h tk c #[] [] (Nat.sub_zero _) (Nat.zero_le _) (st.on off k) (fun b o b1 _ _ _ _ e => k b o b1 e) hS' rfl rfl
      ⟨fun j T e => by simp at e, fun T hT => (nomatch hT), List.nodup_nil⟩ (Nat.le_of_eq sz'.symm)
  unfold Builtin.List.listExtendWith
  refine wpAny_bind (wpAny_typeOf ty ?_)
  have f1 : Builtin.List.listSameRef (.ref S) (.ref z) = false := by simp [Builtin.List.listSameRef, off.1]
  have f2 : (Value.type "zip" == Value.type "list") = false := by decide
  have f3 : (Value.type "zip" == Value.type "tuple") = false := by decide
  simp only [f1, f2, f3, Bool.or_false, Bool.false_eq_true, if_false]
  refine wpAny_bind (wpAny_pyIter_zip hz ?_)
  refine wpAny_bind (wpAny_holding (zip_hint ty ?_))
  refine wpAny_ite_split (fun _ => ?_) (fun _ => wpAny_pure ⟨plainId_quiet PySem.F.plain_extend_loop _, go _ c₀ _ (fun b o _ e => e) rfl hS⟩)
  refine wpAny_bind (wpAny_rule ?_)
  refine wpAny_bind ?_
  show wpAny _ _ (updateSeq S (·.push .none) >>= fun _ => updateSeq S (·.pop)) _ _ _
  refine wpAny_bind (wpAny_updateSeq hS rfl ?_)
  have h2 := Heap.get?_update_self (Obj.mapSeq (·.push Value.none)) hS rfl
  refine wpAny_updateSeq (hz := by seq_fits) h2 rfl ?_
  have h3 := Heap.get?_update_self (Obj.mapSeq (·.pop)) h2 rfl
  exact wpAny_pure ⟨plainId_quiet PySem.F.plain_extend_loop _, go _ _ _ (fun b o hb e => (Heap.get?_update_other _ _ (Ne.symm hb)).trans ((Heap.get?_update_other _ _ (Ne.symm hb)).trans e)) (by rw [Heap.size_update, Heap.size_update]) h3⟩
theorem zip_init (calm : A.handled = none) (D : ZipApart z TI TO i1 i2 l1 l2) (off : Offs S z TI TO i1 i2 l1 l2) (small : min xs.size ys.size ≤ sizeLine) (st : ZipAt z TI TO i1 i2 l1 l2 S xs ys 0 s.heap) (hz : IsZip s.heap z TI TO .none) (hS : s.heap.get? S = some { cls := .type "list", data := .seq #[] }) {R : Result → Shared → Prop}
    (hR : ∀ h' tk acc c Ts, (∀ b o, b ≠ S → b ≠ z → b ≠ TO → b ≠ i1 → b ≠ i2 → s.heap.get? b = some o → h'.get? b = some o) → h'.get? S = some { cls := .type "list", dict := none, data := .seq acc c, slots := #[] } → Ts.length = min xs.size ys.size → ZPairs xs ys s.heap.objs.size h' Ts →
      acc.toList = Ts.map Value.ref → R (.ok (.ret .none)) { s with heap := h', toks := tk }) :
    wpAny (model P w) A.in1 (Builtin.«list.__init__» ⟨[.ref S, .ref z], []⟩)
      (fun fin s' => match fin with | .done f => R (.ok f) s' | .again c' => c'.quiet = true ∧ codeAny (model P w) A c' R s') (fun e s' => R (.error e) s') s := by
  show wpAny _ _ (do let old ← Builtin.List.listItems (.ref S); Builtin.List.listUpdate (.ref S) (fun _ => #[]); letGo old.toList.reverse; Builtin.List.listExtendWith (.ref S) (.ref z) .none) _ _ s
  refine wpAny_bind ?_
  unfold Builtin.List.listItems
  refine wpAny_bind (wpAny_seqItems hS rfl (wpAny_pure ?_))
  show wpAny _ _ (updateSeq S (fun _ => #[]) >>= fun _ => letGo (#[] : Array Value).toList.reverse >>= fun _ => Builtin.List.listExtendWith (.ref S) (.ref z) .none) _ _ s
  refine wpAny_bind (wpAny_updateSeq hS rfl ?_)
  have h2 := Heap.get?_update_self (Obj.mapSeq (fun _ => (#[] : Array Value))) hS rfl
  have oth : ∀ b o, b ≠ S → s.heap.get? b = some o → (s.heap.update S (Obj.mapSeq (fun _ => (#[] : Array Value)))).get? b = some o := fun b o hb e => (Heap.get?_update_other _ _ (Ne.symm hb)).trans e
  refine wpAny_bind (wpAny_letGo ?_)
  refine zip_extend (s := { s with heap := s.heap.update S (Obj.mapSeq (fun _ => (#[] : Array Value))) }) calm D off small .none (st.on off oth) (oth _ _ off.1.symm hz) h2 fun h' tk acc c Ts g1 g2 g3 g4 g5 => ?_
  refine hR h' tk acc c Ts (fun b o b1 b2 b3 b4 b5 e => g1 b o b1 b2 b3 b4 b5 (oth b o b1 e)) g2 g3 ?_ g5
  have e : (s.heap.update S (Obj.mapSeq (fun _ => (#[] : Array Value)))).objs.size = s.heap.objs.size := Heap.size_update ..
  rw [← e]
  exact g4
theorem call_list_zip {Q : Value → Shared → Prop} (calm : A.handled = none) (D : ZipApart z TI TO i1 i2 l1 l2) (small : min xs.size ys.size ≤ sizeLine) (hz : IsZip s.heap z TI TO .none) (hTI : IsPair s.heap TI (.ref i1) (.ref i2)) (hTO : ∃ a b, IsPair s.heap TO a b)
    (h1 : s.heap.IsListIter i1 l1 0) (h2 : s.heap.IsListIter i2 l2 0) (hl1 : s.heap.IsList l1 xs) (hl2 : s.heap.IsList l2 ys)
    (hQ : ∀ h' tk acc c Ts, (∀ b o, b ≠ z → b ≠ TO → b ≠ i1 → b ≠ i2 → s.heap.get? b = some o → h'.get? b = some o) → h'.get? s.heap.objs.size = some { cls := .type "list", dict := none, data := .seq acc c, slots := #[] } → Ts.length = min xs.size ys.size → ZPairs xs ys (s.heap.objs.size + 1) h' Ts →
      acc.toList = Ts.map Value.ref → Q (.ref s.heap.objs.size) { s with heap := h', toks := tk }) :
    wpAny (model P w) A (call (.type "list") [.ref z]) Q E s := by
  refine callType_codes (Q₁ := fun obj t => obj = .ref s.heap.objs.size ∧ t = { s with heap := s.heap.push { cls := .type "list", data := .seq #[] } }) PySem.F.called_list (PySem.F.typeCall_list_1 _) PySem.F.entry_list_init (code_list_new _ ⟨rfl, rfl⟩) fun obj t ht => ?_
  obtain ⟨rfl, rfl⟩ := ht
  have atS : (s.heap.push { cls := .type "list", data := .seq #[] }).get? s.heap.objs.size = some { cls := .type "list", data := .seq #[] } := Heap.get?_push_size _ rfl
  have up : ∀ b o, s.heap.get? b = some o → (s.heap.push { cls := .type "list", data := .seq #[] }).get? b = some o := fun b o e => Heap.get?_push_of_some _ e
  have ne : ∀ {b : Addr} {o : Obj}, s.heap.get? b = some o → s.heap.objs.size ≠ b := fun e => Nat.ne_of_gt (Heap.lt_size e)
  obtain ⟨a, b, hTO⟩ := hTO
  have off : Offs s.heap.objs.size z TI TO i1 i2 l1 l2 := ⟨ne hz, ne hTI, ne hTO, (let ⟨_, e, _⟩ := h1; ne e), (let ⟨_, e, _⟩ := h2; ne e), (let ⟨_, e, _⟩ := hl1; ne e), (let ⟨_, e, _⟩ := hl2; ne e)⟩
  have sz : (s.heap.push { cls := .type "list", data := .seq #[] }).objs.size = s.heap.objs.size + 1 := Heap.size_push ..
  refine ⟨⟨_, atS, rfl⟩, PySem.F.args_list_init_2 _ _, zip_init (A := A.in1) (s := { s with heap := s.heap.push { cls := .type "list", data := .seq #[] } }) calm D off small
    ⟨up _ _ hTI, h1.at fun o e => up _ o e, h2.at fun o e => up _ o e, hl1.at fun o e => up _ o e, hl2.at fun o e => up _ o e, .inl ⟨up _ _ hz, a, b, up _ _ hTO⟩⟩ (up _ _ hz) atS fun h' tk acc c Ts g1 g2 g3 g4 g5 => ?_⟩
  refine ⟨rfl, hQ h' tk acc c Ts (fun b o b2 b3 b4 b5 e => g1 b o (Ne.symm (ne e)) b2 b3 b4 b5 (up b o e)) g2 g3 ?_ g5⟩
  rw [← sz]
  exact g4
end
end MI
end
/-! MSy -/
section
set_option linter.all false
set_option maxRecDepth 100000
set_option maxHeartbeats 4000000
/-! list(zip(xs, ys)) as a step of MI. -/
namespace MI
open PySem PySem.Spec PyProof.Rows L2

/-- pairs laid one by one -/
inductive Laid : Hp → List (V × V) → List Addr → Hp → Prop where
  | nil (H : Hp) : Laid H [] [] H
  | cons {H H2 : Hp} {T : Addr} {x y : V} {ps : List (V × V)} {Ts : List Addr} : H T = none → Laid (upd H T (.tup [x, y])) ps Ts H2 → Laid H ((x, y) :: ps) (T :: Ts) H2
section
variable {X : Cx} {pins : List (Addr × Obj)} {σ : L2.St}
theorem track : ∀ (ps : List (V × V)) (Ts : List Addr) (H : Hp) (s : Shared), Inv X pins σ H s → (∀ T ∈ Ts, FpOk X pins H T) → Ts.Nodup → ps.length = Ts.length →
    (∀ (j : Nat) (p : V × V) (T : Addr), ps[j]? = some p → Ts[j]? = some T → ∃ u v, RelV p.1 u ∧ RelV p.2 v ∧ IsPair s.heap T u v) → ∃ H2, Laid H ps Ts H2 ∧ Inv X pins σ H2 s ∧ ∀ b, b ∉ Ts → H2 b = H b
  | [], [], H, s, I, _, _, _, _ => ⟨H, .nil H, I, fun _ _ => rfl⟩
  | p :: ps, T :: Ts, H, s, I, fp, nd, hl, at_ => by
    obtain ⟨u, v, r1, r2, e⟩ := at_ 0 p T rfl rfl
    have hT := fp T List.mem_cons_self
    have nd' := List.nodup_cons.mp nd
    have I1 : Inv X pins σ (upd H T (.tup [p.1, p.2])) s := Inv.take (h' := s.heap) (t' := s.toks) I (fun b ob _ z => z) hT ⟨by show 2 ≤ sizeLine; decide, [u, v], .cons r1 (.cons r2 .nil), ⟨_, e, rfl, _, rfl⟩⟩
    obtain ⟨H2, g1, g2, g3⟩ := track ps Ts (upd H T (.tup [p.1, p.2])) s I1 (fun b hb => by
      obtain ⟨f1, f2⟩ := fp b (List.mem_cons_of_mem _ hb)
      refine ⟨?_, f2⟩
      rw [upd_ne (fun z => nd'.1 (by rw [← z]; exact hb))]
      exact f1) nd'.2 (by simpa using hl) fun j q b e1 e2 => at_ (j + 1) q b (by simpa using e1) (by simpa using e2)
    refine ⟨H2, .cons hT.1 g1, g2, fun b hb => ?_⟩
    rw [g3 b (fun z => hb (List.mem_cons_of_mem _ z)), upd_ne (fun z => hb (by rw [z]; exact List.mem_cons_self))]
  | [], _ :: _, _, _, _, _, _, hl, _ => by cases hl
  | _ :: _, [], _, _, _, _, _, hl, _ => by cases hl
def tLZ (X : Cx) (ta : TA) : TE := fun σ H Q => ta σ H fun vs H1 => ∃ a b xs ys, vs = [.ref a, .ref b] ∧ SqL X.K H1 a xs ∧ SqL X.K H1 b ys ∧ ∀ Ts H2 S, Laid H1 (xs.zip ys) Ts H2 → H2 S = none → Q (.ref S) (upd H2 S (.lst (Ts.map V.ref)))
theorem pe_lz {a b : Expr} {ta : TA} {p p2 pos pos2 : Pos} (hc : X.calm = true) (g1 : Gl X "list") (m1 : X.mg "list" = none) (g2 : Gl X "zip") (m2 : X.mg "zip" = none) (ha : PA X [a, b] ta)
    (hs : starEach [a, b] X.env = (false, eval a X.env) :: starEach [b] X.env) (hpl : (backTo pos2 (starEach [b] X.env)).any (·.1) = false) :
    PE X (.Call (.Name "list" p) [.Call (.Name "zip" p2) [a, b] [] pos2] [] pos) (tLZ X ta) := by
  refine ⟨fun pins s σ H Q I h => ?_⟩
  have hs0 : starEach [.Call (.Name "zip" p2) [a, b] [] pos2] X.env = (false, eval (.Call (.Name "zip" p2) [a, b] [] pos2) X.env) :: starEach [] X.env := rfl
  refine wpAny_Call_Name_kw (ld_blt I g1 m1 (show bootBuiltins "list" = some (.type "list") by decide +kernel) (PyProof.Rows.callWith_type1 ?_ hs0 rfl))
  rw [hs0]
  show wpAny _ _ (spliced ((false, eval (.Call (.Name "zip" p2) [a, b] [] pos2) X.env) :: backTo pos (starEach [] X.env))) _ _ s
  refine Calls.spliced_cons ?_
  refine wpAny_Call_Name_kw (ld_blt I g2 m2 PyProof.Rows.boot_zip (PyProof.Rows.callWith_type1 (thn (ha.run pos2 pins s σ H _ I h) fun us s1 ⟨vs, H1, I1, r1, c, d, xs, ys, ev, sx, sy, q⟩ => ?_) hs hpl))
  subst ev
  cases r1 with
  | cons ra rr =>
    cases rr with
    | cons rb rr =>
      cases rr
      cases ra
      cases rb
      obtain ⟨us, ru, pu, zu⟩ := I1.list sx
      obtain ⟨ws, rw', pw, zw⟩ := I1.list sy
      refine call_zip_2 pu.isList pw.isList fun h' hz hTI hTO h1 h2 hsz hk => ?_
      refine Calls.spliced_nil ?_
      have lu := ru.length
      have lw := rw'.length
      have small : min us.toArray.size ws.toArray.size ≤ sizeLine := by
        rw [List.size_toArray]
        exact Nat.le_trans (Nat.min_le_left _ _) (by rw [← lu]; exact zu)
      have sz : h'.objs.size = s1.heap.objs.size + 5 := hsz
      refine call_list_zip (s := { s1 with heap := h' }) (I1.ok.hd hc) (PySem.W.ktu_apart s1.heap.objs.size c d pu.lt pw.lt) small hz hTI ⟨_, _, hTO⟩ h1 h2 (pu.isList.at fun o e => hk _ o e) (pw.isList.at fun o e => hk _ o e) fun h2' tk acc cc Ts k2 hS hl pr hacc => ?_
      have kk : ∀ e o, s1.heap.get? e = some o → h2'.get? e = some o := fun e o z => by
        have lt := Heap.lt_size z
        exact k2 e o (Nat.ne_of_lt (Nat.lt_of_lt_of_le lt (Nat.le_add_right _ _))) (Nat.ne_of_lt (Nat.lt_of_lt_of_le lt (Nat.le_add_right _ _))) (Nat.ne_of_lt lt) (Nat.ne_of_lt (Nat.lt_of_lt_of_le lt (Nat.le_add_right _ _))) (hk e o z)
      have J0 : Inv X pins σ H1 { s1 with heap := h2', toks := tk } := I1.kept (t' := tk) kk
      have big : ∀ T, s1.heap.objs.size ≤ T → FpOk X pins H1 T := fun T hT => I1.fpOk hT (I1.hok.fresh hT)
      have lowT : ∀ T ∈ Ts, h'.objs.size + 1 ≤ T := pr.low
      have szS : ({ s1 with heap := h' } : Shared).heap.objs.size = s1.heap.objs.size + 5 := sz
      obtain ⟨H2, laid, J, off⟩ := track (xs.zip ys) Ts H1 _ J0 (fun T hT => big T (by have := lowT T hT; omega)) pr.nd (by rw [hl, List.length_zip, List.size_toArray, List.size_toArray, lu, lw]) fun j pq T e1 e2 => by
        obtain ⟨x, y, ex, ey, eT⟩ := pr.at_ j T e2
        obtain ⟨e3, e4⟩ := List.getElem?_zip_eq_some.mp e1
        obtain ⟨u, hu, r5⟩ := ru.get e3
        obtain ⟨v, hv, r6⟩ := rw'.get e4
        have eu : us[j]? = some x := by simpa using ex
        have ev : ws[j]? = some y := by simpa using ey
        rw [hu] at eu
        rw [hv] at ev
        cases eu; cases ev
        exact ⟨_, _, r5, r6, eT⟩
      have nS : h'.objs.size ∉ Ts := fun z => Nat.lt_irrefl _ (lowT _ z)
      have fS := big h'.objs.size (by omega)
      have HS : H2 h'.objs.size = none := by rw [off _ nS]; exact fS.1
      have vals : Vals (Ts.map V.ref) acc.toList := by
        rw [hacc]
        exact vals_refs Ts
      have lenT : (Ts.map V.ref).length ≤ sizeLine := by rw [List.length_map, hl]; exact small
      have J2 : Inv X pins σ (upd H2 h'.objs.size (.lst (Ts.map V.ref))) { s1 with heap := h2', toks := tk } :=
        Inv.take (s := { s1 with heap := h2', toks := tk }) (h' := h2') (t' := tk) J (fun e o _ z => z) ⟨HS, fS.2⟩ (show ObjOk X.prog X.w _ h2' h'.objs.size (.lst (Ts.map V.ref)) from ⟨lenT, acc.toList, cc, vals, by rw [Array.toArray_toList]; exact hS⟩)
      exact ⟨.ref h'.objs.size, _, J2, rfl, q Ts H2 _ laid HS⟩
/-- the laid pairs, in terms of MI -/
theorem laid_ok {W : Wd} {ρ : List Addr} {η : List C} : ∀ {H H2 : Hp} {ps : List (V × V)} {Ts : List Addr} {xs ys : List D} {us ws : List V}, Laid H ps Ts H2 → ps = us.zip ws → Sim W ρ η H → Reps W ρ H xs us → Reps W ρ H ys ws → Ext ρ H ρ H2 ∧ Sim W ρ η H2 ∧ Reps W ρ H2 (zipD xs ys) (Ts.map V.ref) ∧ Ts.length = (zipD xs ys).length
  | H, _, _, _, xs, ys, us, ws, .nil _, e, s, r1, r2 => by
    refine ⟨.refl, s, ?_⟩
    have hz : zipD xs ys = [] := by
      cases us with
      | nil =>
        have := r1.len
        cases xs with
        | nil => simp [zipD]
        | cons x xs => simp at this
      | cons u us =>
        cases ws with
        | nil =>
          have := r2.len
          cases ys with
          | nil => cases xs <;> simp [zipD]
          | cons x xs => simp at this
        | cons w ws => cases e
    rw [hz]
    exact ⟨Reps.nil, rfl⟩
  | H, H2, _, _, xs, ys, us, ws, .cons (T := T) (x := x) (y := y) (ps := ps) (Ts := Ts) hT l, e, s, r1, r2 => by
    cases us with
    | nil => cases e
    | cons u us =>
      cases ws with
      | nil => cases e
      | cons w ws =>
        simp only [List.zip_cons_cons, List.cons.injEq, Prod.mk.injEq] at e
        obtain ⟨⟨ex, ey⟩, e⟩ := e
        subst ex; subst ey
        cases xs with
        | nil => exact absurd r1.len (by simp)
        | cons d1 xs =>
          cases ys with
          | nil => exact absurd r2.len (by simp)
          | cons d2 ys =>
            obtain ⟨v, r, ev, a1, a2⟩ := (show ∃ v r, x :: us = v :: r ∧ Rep W ρ H d1 v ∧ Reps W ρ H xs r from r1)
            cases ev
            obtain ⟨v, r, ev, b1, b2⟩ := (show ∃ v r, y :: ws = v :: r ∧ Rep W ρ H d2 v ∧ Reps W ρ H ys r from r2)
            cases ev
            have e1 : Ext ρ H ρ (upd H T (.tup [x, y])) := .new hT
            have s1 := s.new (o := .tup [x, y]) hT
            obtain ⟨g1, g2, g3, g4⟩ := laid_ok l e s1 (a2.ext e1 s.ok) (b2.ext e1 s.ok)
            have pair : Rep W ρ (upd H T (.tup [x, y])) (.tup [d1, d2]) (.ref T) := ⟨T, [x, y], rfl, SqT.of upd_same, by show 2 ≤ sizeLine; decide, Reps.cons (a1.ext e1 s.ok) (Reps.cons (b1.ext e1 s.ok) Reps.nil)⟩
            exact ⟨e1.trans g1, g2, Reps.cons (pair.ext g1 s1.ok) g3, by simp [zipD, g4]⟩
theorem s_zipl {W : Wd} {x : XW} {a b : Expr} {ms : Ev → M (List D)} {p p2 pos pos2 : Pos} (hK : W.K = X.K) (hc : X.calm = true) (g1 : Gl X "list") (m1 : X.mg "list" = none) (g2 : Gl X "zip") (m2 : X.mg "zip" = none) (ha : PA X [a, b] (tEs W x ms))
    (hs : starEach [a, b] X.env = (false, eval a X.env) :: starEach [b] X.env) (hpl : (backTo pos2 (starEach [b] X.env)).any (·.1) = false) :
    PE X (.Call (.Name "list" p) [.Call (.Name "zip" p2) [a, b] [] pos2] [] pos) (tE W x fun v => ms v >>= fun xs => look fun h => biD h .zip xs) := by
  refine pe_mono (pe_lz hc g1 m1 g2 m2 ha hs hpl) fun σ H Q _ h => ?_
  obtain ⟨W', iw, ρ, η, env, sim, er, h⟩ := h
  refine ⟨W', iw, ρ, η, env, sim, er, h.bind.mono fun ds η1 ρ1 H1 e1 s1 h1 vs rs => ?_⟩
  obtain ⟨z, hz, w⟩ := h1.look
  match ds, hz, rs with
  | [d1, d2], hz, rs =>
    obtain ⟨v1, v2, ev, r1, r2⟩ := reps2 rs
    subst ev
    have hz : zipL η1 d1 d2 = some z := hz
    unfold zipL at hz
    split at hz
    · rename_i xs ys h1 h2
      cases hz
      have see : ∀ (d : D) (v : V) (zs : List D), Rep W' ρ1 H1 d v → lstOf η1 d = some zs → ∃ c us, v = .ref c ∧ SqL X.K H1 c us ∧ Reps W' ρ1 H1 zs us ∧ zs.length ≤ sizeLine := fun d v zs r e => by
        unfold lstOf at e
        split at e
        · rename_i c
          cases e
          obtain ⟨c, us, e1, e2, e3, e4⟩ := see_lst s1 r c
          exact ⟨c, us, e1, SqL.of e2, e4, e3⟩
        · rename_i c
          cases e
          obtain ⟨c, us, e1, e2, e3, e4⟩ := see_scr r c
          rw [iw.1.trans hK] at e2
          exact ⟨c, us, e1, e2, e4, e3⟩
        · cases e
      obtain ⟨c, us, e1, f1, f2, f3⟩ := see d1 v1 xs r1 h1
      obtain ⟨d, ws, e2, f4, f5, f6⟩ := see d2 v2 ys r2 h2
      subst e1; subst e2
      refine ⟨c, d, us, ws, rfl, f1, f4, fun Ts H2 S l hS => ?_⟩
      obtain ⟨x1, x2, x3, x4⟩ := laid_ok l rfl s1 f2 f5
      have w' : Want W' ρ1 η1 H2 (.lst (zipD xs ys)) Q := fun ρ' H' v' ee ss rr => see_want w ρ' H' v' (x1.trans ee) ss rr
      exact w'.lst x2 (by rw [zip_len]; omega) x3 S hS
    · cases hz
  | [], hz, _ => cases hz
  | [_], hz, _ => cases hz
  | _ :: _ :: _ :: _, hz, _ => cases hz
end
end MI
end
/-! MIq -/
section
set_option linter.all false
set_option maxRecDepth 100000
set_option maxHeartbeats 8000000
/-! The checker's word is good: expressions. -/
namespace MI
open PySem L2

section
variable {W : Wd} {call : Nat → List D → M D} {k : Nat} {cx : CXT}
/-- what the checker gives of an expression -/
structure OkE (e : E) (c : Cn) (a : Expr) (E' : XK) (X : Cx) (W : Wd) (call : Nat → List D → M D) : Prop where
  pe : PE X a (tE W (xK E') (evE call e))
  pt : noIf a = true → PT X a (tEb W (xK E') fun v => evE call e v >>= testD)
theorem OkE.of {e : E} {c : Cn} {a : Expr} {E' : XK} {X : Cx} (h : PE X a (tE W (xK E') (evE call e))) (hp : plainT a = true) : OkE e c a E' X W call := ⟨h, t_of h hp⟩
structure OkEs (es : Es) (c : Cn) (as : List Expr) (E' : XK) (X : Cx) (W : Wd) (call : Nat → List D → M D) : Prop where
  pa : PA X as (tEs W (xK E') (evEs call es))
  st : as.all noStar = true
  one : ∀ a, as = [a] → ∃ m, PE X a (tE W (xK E') m) ∧ ∀ v, evEs call es v = (m v >>= fun d => pure [d])
  an : ∀ p, as ≠ [] → as.all noIf = true → PE X (.BoolOp .And as p) (tE W (xK E') (evAnd call es)) ∧ PW X (.BoolOp .And as p) (tEb W (xK E') fun v => evAnd call es v >>= testD)
  orr : ∀ p, as ≠ [] → as.all noIf = true → PE X (.BoolOp .Or as p) (tE W (xK E') (evOr call es)) ∧ PW X (.BoolOp .Or as p) (tEb W (xK E') fun v => evOr call es v >>= testD)
theorem pw_eq {X : Cx} {a : Expr} {x : XW} {m m' : Ev → M Bool} (h : PW X a (tEb W x m)) (e : m = m') : PW X a (tEb W x m') := e ▸ h
theorem meth_few {X : Cx} {e : Expr} {pos : Pos} (h : noStar e = true) : ((backTo pos (starEach [e] X.env)).all (fun x => !x.1) && (backToKw pos (keywordEach [] X.env)).all (fun x => x.1.isSome) && decide ([e].length + ([] : List Keyword).length + (if ([] : List Keyword).isEmpty then 0 else 1) < 30)) = true := by
  rw [star_cons h]
  rfl
mutual
theorem soundE : ∀ (e : E) (c : Cn) (a : Expr) (E' : XK) (X : Cx), okE e c a = true → XOk c W call k cx E' X → OkE e c a E' X W call
  | .var i, c, a, E', X, h, O => by
    cases a <;> simp only [okE, Bool.false_eq_true] at h
    exact .of (s_var (var_of O h)) rfl
  | .cst d, c, a, E', X, h, O => by
    cases a <;> simp only [okE, Bool.false_eq_true] at h
    · exact .of (cst_of h) rfl
    · exact .of (glo_of O h) rfl
  | .fnv f, c, a, E', X, h, O => by
    cases a <;> simp only [okE, Bool.false_eq_true] at h
    exact .of (fnv_of O h) rfl
  | .bin o x y, c, a, E', X, h, O => by
    cases a <;> simp only [okE, Bool.false_eq_true, Bool.and_eq_true, decide_eq_true_eq] at h
    obtain ⟨⟨h1, h2⟩, h3⟩ := h
    subst h1
    exact .of (s_bin O.hK (soundE x c _ E' X h2 O).pe (soundE y c _ E' X h3 O).pe) rfl
  | .neg x, c, a, E', X, h, O => by
    simp only [okE] at h
    split at h
    · exact .of (s_neg (soundE x c _ E' X h O).pe) rfl
    · cases h
  | .not x, c, a, E', X, h, O => by
    simp only [okE] at h
    split at h
    · simp only [Bool.and_eq_true] at h
      have ih := soundE x c _ E' X h.1 O
      refine ⟨s_not (mt := fun _ => pure true) ih.pe, fun _ => ?_⟩
      refine teb_eq (s_notT (ih.pt h.2)) ?_
      funext v
      show _ = ((evE call x v >>= fun p => testD p >>= fun r => pure (D.bl (!r))) >>= testD)
      simp only [bind_assoc']
      rfl
    · cases h
  | .cmp o x y, c, a, E', X, h, O => by
    simp only [okE] at h
    split at h
    · simp only [Bool.and_eq_true, decide_eq_true_eq] at h
      obtain ⟨⟨⟨h1, h2⟩, h3⟩, h4⟩ := h
      subst h1
      have i1 := soundE x c _ E' X h2 O
      have i2 := soundE y c _ E' X h3 O
      have hu : X.A.units + 64 < cLine := by have := O.units; omega
      refine ⟨s_cmp O.hK hu (behind_no h4) i1.pe i2.pe, fun _ => ?_⟩
      refine teb_eq (s_cmpT O.hK hu (behind_no h4) i1.pe i2.pe) ?_
      funext v
      show _ = ((evE call x v >>= fun p => evE call y v >>= fun q => (look fun h => cmpD h o p q) >>= fun r => pure (D.bl r)) >>= testD)
      simp only [bind_assoc', pure_bind', testD_bl, bind_pure']
    · cases h
  | .chain o o1 x y z, c, a, E', X, h, O => by
    simp only [okE] at h
    split at h
    · simp only [Bool.and_eq_true, decide_eq_true_eq] at h
      obtain ⟨⟨⟨⟨⟨h1, h2⟩, h3⟩, h4⟩, h5⟩, h6⟩ := h
      subst h1; subst h2
      have i1 := soundE x c _ E' X h3 O
      have i2 := soundE y c _ E' X h4 O
      have i3 := soundE z c _ E' X h5 O
      have hu : X.A.units + 64 < cLine := by have := O.units; omega
      exact ⟨s_chain O.hK hu (behind_no h6) i1.pe i2.pe i3.pe, fun hp => s_chainT O.hK hu (behind_no h6) i1.pe i2.pe i3.pe⟩
    · cases h
  | .and es, c, a, E', X, h, O => by
    simp only [okE] at h
    split at h
    · rename_i ps p
      simp only [Bool.and_eq_true, Bool.not_eq_true'] at h
      obtain ⟨⟨h1, h2⟩, h3⟩ := h
      have hne : ps ≠ [] := fun e => by rw [e] at h3; cases h3
      have ih := (soundEs es c ps E' X h1 O).an p hne h2
      exact ⟨ih.1, fun _ => ih.2.pt⟩
    · cases h
  | .or es, c, a, E', X, h, O => by
    simp only [okE] at h
    split at h
    · rename_i ps p
      simp only [Bool.and_eq_true, Bool.not_eq_true'] at h
      obtain ⟨⟨h1, h2⟩, h3⟩ := h
      have hne : ps ≠ [] := fun e => by rw [e] at h3; cases h3
      have ih := (soundEs es c ps E' X h1 O).orr p hne h2
      exact ⟨ih.1, fun _ => ih.2.pt⟩
    · cases h
  | .ite t x y, c, a, E', X, h, O => by
    simp only [okE] at h
    split at h
    · simp only [Bool.and_eq_true] at h
      obtain ⟨⟨⟨h1, h2⟩, h3⟩, h4⟩ := h
      refine ⟨te_eq (s_ite ((soundE t c _ E' X h1 O).pt h2) (soundE x c _ E' X h3 O).pe (soundE y c _ E' X h4 O).pe) ?_, fun h => by cases h⟩
      funext v
      show _ = (evE call t v >>= fun r => testD r >>= fun b => if b then evE call x v else evE call y v)
      simp only [bind_assoc']
    · cases h
  | .tup es, c, a, E', X, h, O => by
    cases a <;> simp only [okE, Bool.false_eq_true] at h
    exact .of (s_tup (soundEs es c _ E' X h O).pa) rfl
  | .lst es, c, a, E', X, h, O => by
    cases a <;> simp only [okE, Bool.false_eq_true] at h
    exact .of (s_lst (soundEs es c _ E' X h O).pa) rfl
  | .nls es, c, a, E', X, h, O => by
    cases a <;> simp only [okE, Bool.false_eq_true] at h
    exact .of (s_nls (soundEs es c _ E' X h O).pa) rfl
  | .ndc, c, a, E', X, h, O => by
    simp only [okE] at h
    split at h
    · exact .of s_ndc rfl
    · cases h
  | .ix x y, c, a, E', X, h, O => by
    cases a <;> simp only [okE, Bool.false_eq_true, Bool.and_eq_true] at h
    obtain ⟨⟨h1, h2⟩, h3⟩ := h
    exact .of (s_ix O.hK (plainIx h3) (soundE x c _ E' X h1 O).pe (soundE y c _ E' X h2 O).pe) rfl
  | .sl x lo hi, c, a, E', X, h, O => by
    simp only [okE] at h
    split at h
    · simp only [Bool.and_eq_true] at h
      obtain ⟨⟨h1, h2⟩, h3⟩ := h
      exact .of (s_sl O.hK (soundE x c _ E' X h1 O).pe (soundO lo c _ E' X h2 O) (soundO hi c _ E' X h3 O)) rfl
    · cases h
  | .rev x, c, a, E', X, h, O => by
    simp only [okE] at h
    split at h
    · exact .of (s_rev O.hK (soundE x c _ E' X h O).pe) rfl
    · cases h
  | .call f es, c, a, E', X, h, O => by
    simp only [okE] at h
    split at h
    · rename_i y p ps pos
      simp only [Bool.and_eq_true] at h
      have ih := soundEs es c ps E' X h.1 O
      obtain ⟨g1, g2, g3⟩ := fn_of' O h.2
      cases ps with
      | nil =>
        have he : es = .nil := by
          cases es with
          | nil => rfl
          | cons e es => exact absurd h.1 (by simp [okEs])
        subst he
        exact .of (s_call0 O g2 g1 g3 fun v => rfl) rfl
      | cons q qs =>
        have hst := ih.st
        simp only [List.all_cons, Bool.and_eq_true] at hst
        exact .of (s_call O g2 g1 g3 ih.pa (star_cons hst.1 _ _) (star_any hst.2)) rfl
    · cases h
  | .callv i fs es, c, a, E', X, h, O => by
    simp only [okE] at h
    split at h
    · rename_i y p ps pos
      simp only [Bool.and_eq_true, Bool.not_eq_true', List.all_eq_true, List.any_eq_true, decide_eq_true_eq] at h
      obtain ⟨⟨⟨h1, h2⟩, h3⟩, h4⟩ := h
      have ih := soundEs es c ps E' X h1 O
      unfold okVar at h2
      simp only [Bool.and_eq_true, decide_eq_true_eq] at h2
      obtain ⟨⟨v1, v2⟩, v3⟩ := h2
      obtain ⟨d1, d2, _⟩ := dbg_of v3
      cases ps with
      | nil => cases h3
      | cons q qs =>
        have hst := ih.st
        simp only [List.all_cons, Bool.and_eq_true] at hst
        exact .of (s_callv O (fun f hf => by
          obtain ⟨z, hz, e⟩ := h4 f hf
          exact ⟨z.1, by rw [← e]; exact hz⟩) (by rw [O.hN]; exact v1) (vis_of O v2) d1 d2 ih.pa (star_cons hst.1 _ _) (star_any hst.2)) rfl
    · cases h
  | .callk f es n kp, c, a, E', X, h, O => by
    simp only [okE] at h
    split at h
    · rename_i y p ks pos
      simp only [Bool.and_eq_true, List.any_eq_true, decide_eq_true_eq] at h
      obtain ⟨⟨⟨⟨⟨h1, z, hz, e1, e2⟩, h3⟩, h4⟩, h5⟩, q, hq, ⟨e3, e4⟩, e5⟩ := h
      obtain ⟨ih, hs⟩ := soundKs es c ks E' X h1 O
      obtain ⟨g1, g2⟩ := kw_all (pos := pos) (env := X.env) hs
      obtain ⟨zy, zf, zn⟩ := z
      obtain ⟨qf, qk, qp⟩ := q
      simp only at e1 e2 e3 e4 e5
      subst e1; subst e2; subst e3; subst e5
      have hl : qk.length = ks.length := by
        have := congrArg List.length e4
        simpa using this
      refine .of (te_eq (s_callk (ks := qk) O hz hq (gl_of O h3) (dbg_of h4).1 ih g1 (kw_names e4) (by rw [g2]; rfl)) ?_) rfl
      funext v
      show _ = (evEs call es v >>= fun xs => guardM (decide (xs.length = n)) >>= fun _ => call qf (qp.map fun i => xs.getD i .non))
      rw [h5, hl]
    · cases h
  | .bi b es, c, a, E', X, h, O => by
    simp only [okE] at h
    split at h
    · rename_i y p z p2 q1 q2 pos2 pos
      simp only [Bool.and_eq_true, decide_eq_true_eq] at h
      obtain ⟨⟨⟨⟨h1, h2⟩, h3⟩, h4⟩, h5⟩ := h
      subst h4; subst h5
      have ih := soundEs es c _ E' X h1 O
      have hst := ih.st
      simp only [List.all_cons, Bool.and_eq_true] at hst
      obtain ⟨g1, g2, _, _⟩ := bn_of O h2
      obtain ⟨b1, b2, _, _⟩ := bn_of O h3
      exact .of (s_zipl O.hK O.calm g1 g2 b1 b2 ih.pa (star_cons hst.1 _ _) (star_any (by simpa using hst.2))) rfl
    · cases h
    · rename_i z kz pz y apos p pos
      simp only [Bool.and_eq_true, decide_eq_true_eq] at h
      obtain ⟨⟨⟨h1, h2⟩, h3⟩, h4⟩ := h
      subst h2
      have ih := soundEs es c _ E' X h1 O
      have hst := ih.st
      simp only [List.all_cons, Bool.and_eq_true] at hst
      obtain ⟨m, hm, e⟩ := ih.one p rfl
      exact .of (s_join h3 hm e (star_cons hst.1 _ _) h4) rfl
    · cases h
    · rename_i y p q ps pos hb hb2
      simp only [Bool.and_eq_true, decide_eq_true_eq] at h
      obtain ⟨⟨h1, h2⟩, h3⟩ := h
      have ih := soundEs es c _ E' X h1 O
      have hst := ih.st
      simp only [List.all_cons, Bool.and_eq_true] at hst
      obtain ⟨g1, g2, g3, g4⟩ := bn_of O h2
      exact .of (s_bi b (by first | exact hb | (intro e; subst e; first | exact hb _ rfl | exact hb rfl | simp at hb)) (by first | exact hb2 | (intro e; subst e; first | exact hb2 _ rfl | exact hb2 rfl | simp at hb2)) O.hK O.calm O.hg O.units h3 g1 g2 ih.pa (star_cons hst.1 _ _) (star_any hst.2)) rfl
    · cases h
  | .isi x t, c, a, E', X, h, O => by
    simp only [okE] at h
    split at h
    · rename_i y p q z pz pos
      simp only [Bool.and_eq_true, decide_eq_true_eq] at h
      obtain ⟨⟨⟨⟨⟨h1, h2⟩, h3⟩, h4⟩, h5⟩, h6⟩ := h
      subst h4
      obtain ⟨g1, g2, g3, g4⟩ := bn_of O h2
      obtain ⟨b1, b2, b3, b4⟩ := bn_of O h3
      exact .of (s_isi t O.hK h5 g1 g2 b1 b2 b4 b3 (soundE x c _ E' X h1 O).pe (star_cons h6 _ _)) rfl
    · cases h
  | .sset x, c, a, E', X, h, O => by
    simp only [okE] at h
    split at h
    · simp only [Bool.and_eq_true, decide_eq_true_eq] at h
      obtain ⟨⟨⟨⟨⟨h1, h2⟩, h3⟩, h4⟩, h5⟩, h6⟩ := h
      subst h4; subst h5
      obtain ⟨g1, g2, _, _⟩ := bn_of O h2
      obtain ⟨b1, b2, _, _⟩ := bn_of O h3
      have hu : X.A.units + 64 < cLine := by have := O.units; omega
      exact .of (s_sset O.hK O.calm hu g1 g2 b1 b2 (soundE x c _ E' X h1 O).pe (star_cons h6 _ _)) rfl
    · cases h
  | .lc x tg it cd vs, c, a, E', X, h, O => by
    simp only [okE] at h
    split at h
    · rename_i p t i ifs z scope pos
      simp only [Bool.and_eq_true, decide_eq_true_eq] at h
      obtain ⟨⟨⟨⟨⟨⟨h0, h1⟩, h2⟩, h3⟩, h4⟩, h5⟩, h6⟩ := h
      subst h0
      have tg' := fun s H C cl fp => tg_of (O.blk s H scope C cl fp) h3
      refine .of (te_eq (s_lc (own := ownOf c.N vs) O.calm (nd_of O) (soundI it c t i E' X h1 O) (blkOk_by (by rw [O.hN, O.sc]; exact h2)) (by rw [own_snd]; exact (tg_of (O.blk X.s_0 X.H_0 scope 0 [] []) h3).2)
        (fun s H C cl fp => (tg' s H C cl fp).1) (fun s H C cl fp => xf_ts (soundC cd _ _ _ _ h4 (O.blk s H scope C cl fp))) (fun s H C cl fp => xf_e (soundE x _ _ _ _ h5 (O.blk s H scope C cl fp)).pe) (folded_no h6 _)) ?_) rfl
      rw [own_snd]
      rfl
    · cases h
  | .lc2 x tg it cd tg1 it1 cd1 vs vs1, c, a, E', X, h, O => by
    simp only [okE] at h
    split at h
    · rename_i p t i ifs z t1 i1 ifs1 z1 scope pos
      simp only [Bool.and_eq_true, decide_eq_true_eq, List.all_eq_true, List.contains_iff_mem] at h
      obtain ⟨⟨⟨⟨⟨⟨⟨⟨⟨⟨⟨⟨h0, h00⟩, h1⟩, h2⟩, h3⟩, h4⟩, h5⟩, h6⟩, k1⟩, k2⟩, k3⟩, k4⟩, k5⟩ := h
      subst h0; subst h00
      refine .of (te_eq (s_lc2 (own := ownOf c.N vs) (vs1 := vs1) O.calm (nd_of O) (soundI it c t i E' X h1 O) (blkOk_by (by rw [O.hN, O.sc]; exact h2)) (by rw [own_snd]; exact k5) (by rw [own_snd]; exact (tg_of (O.blk X.s_0 X.H_0 scope 0 [] []) h3).2)
        (tg_of (O.blk X.s_0 X.H_0 scope 0 [] []) k2).2
        (fun s H C cl fp => (tg_of (O.blk s H scope C cl fp) h3).1) (fun s H C cl fp => xf_ts (soundC cd _ _ _ _ h4 (O.blk s H scope C cl fp)))
        (fun s H C cl fp => xf_i (soundI it1 _ _ _ _ _ k1 (O.blk s H scope C cl fp))) (fun s H C cl fp => (tg_of (O.blk s H scope C cl fp) k2).1) (fun s H C cl fp => xf_ts (soundC cd1 _ _ _ _ k3 (O.blk s H scope C cl fp)))
        (fun s H C cl fp => xf_e (soundE x _ _ _ _ h5 (O.blk s H scope C cl fp)).pe) (folded_no h6 _) (folded_no k4)) ?_) rfl
      rw [own_snd]
      rfl
    · cases h
  | .app x y, c, a, E', X, h, O => by
    simp only [okE] at h
    split at h
    · simp only [Bool.and_eq_true, decide_eq_true_eq] at h
      obtain ⟨⟨⟨⟨⟨h1, h2⟩, h3⟩, h4⟩, h5⟩, h6⟩ := h
      subst h4
      have i2 := soundE y c _ E' X h2 O
      refine .of (te_eq (s_meth (f := fun o ds => match ds with | [d] => appC o d | _ => no) PySem.F.slot_list_append PySem.F.type_list_append mt_append O.hK (fun W' o ds η ρ H Q vo vs s p ro rs => ?_) (soundE x c _ E' X h1 O).pe (s_cons i2.pe s_nil (star_cons h6 _ _)) (base_no h3 _ _ _) (meth_few h6) h5 (star_cons h6 _ _) rfl) ?_) rfl
      · match ds, vs, rs, p with
        | [d], vs, rs, p =>
          obtain ⟨u, e, ru⟩ := reps1 rs
          subst e
          exact appC_post s p ro ru
        | [], _, _, p => exact p.elim
        | _ :: _ :: _, _, _, p => exact p.elim
      · funext v
        show _ = (evE call x v >>= fun o => chkL o >>= fun _ => evE call y v >>= fun q => appC o q)
        simp only [bind_assoc', pure_bind']
    · cases h
  | .ext x y, c, a, E', X, h, O => by
    simp only [okE] at h
    split at h
    · simp only [Bool.and_eq_true, decide_eq_true_eq] at h
      obtain ⟨⟨⟨⟨⟨h1, h2⟩, h3⟩, h4⟩, h5⟩, h6⟩ := h
      subst h4
      have i2 := soundE y c _ E' X h2 O
      refine .of (te_eq (s_meth (f := fun o ds => match ds with | [d] => extC o d | _ => no) PySem.F.slot_list_extend PySem.F.type_list_extend mt_extend O.hK (fun W' o ds η ρ H Q vo vs s p ro rs => ?_) (soundE x c _ E' X h1 O).pe (s_cons i2.pe s_nil (star_cons h6 _ _)) (base_no h3 _ _ _) (meth_few h6) h5 (star_cons h6 _ _) rfl) ?_) rfl
      · match ds, vs, rs, p with
        | [d], vs, rs, p =>
          obtain ⟨u, e, ru⟩ := reps1 rs
          subst e
          exact extC_post s p ro ru
        | [], _, _, p => exact p.elim
        | _ :: _ :: _, _, _, p => exact p.elim
      · funext v
        show _ = (evE call x v >>= fun o => chkL o >>= fun _ => evE call y v >>= fun q => extC o q)
        simp only [bind_assoc', pure_bind']
    · cases h
  | .pop x, c, a, E', X, h, O => by
    simp only [okE] at h
    split at h
    · simp only [Bool.and_eq_true, decide_eq_true_eq] at h
      obtain ⟨⟨⟨h1, h3⟩, h4⟩, h5⟩ := h
      subst h4
      exact .of (s_meth0 (f := popC) PySem.F.slot_list_pop PySem.F.type_list_pop mt_pop O.hK (fun W' o η ρ H Q vo s p ro => popC_post s p ro) (soundE x c _ E' X h1 O).pe (base_no h3 _ _ _) h5) rfl
    · cases h
  | .val x cs, c, a, E', X, h, O => by
    simp only [okE] at h
    split at h
    · simp only [Bool.and_eq_true, decide_eq_true_eq] at h
      obtain ⟨⟨⟨h1, h3⟩, h4⟩, h5⟩ := h
      subst h4
      obtain ⟨g1, g2⟩ := cs_of h5
      exact .of (ME.s_val (O.errs g1) g2 (soundE x c _ E' X h1 O).pe (base_no h3 _ _ _)) rfl
    · cases h
  | .isc x q cs, c, a, E', X, h, O => by
    simp only [okE] at h
    split at h
    · simp only [Bool.and_eq_true, decide_eq_true_eq] at h
      obtain ⟨⟨⟨⟨⟨⟨⟨h1, h2⟩, h3⟩, h4⟩, h5⟩, h6⟩, h7⟩, h8⟩ := h
      subst h3
      obtain ⟨g1, g2⟩ := cs_of h8
      obtain ⟨b1, b2, b3, b4⟩ := bn_of O h2
      exact .of (ME.s_isc (O.errs g1) g2 (cl_of h7) b1 b2 (gl_of O h5) (dbg_of h6).1 (soundE x c _ E' X h1 O).pe (star_cons h4 _ _)) rfl
    · cases h
  | .dgt kds u d, c, a, E', X, h, O => by
    simp only [okE] at h
    split at h
    · rename_i keys values dp y apos p q pos
      simp only [Bool.and_eq_true, decide_eq_true_eq] at h
      obtain ⟨⟨⟨⟨⟨⟨⟨⟨h1, h2⟩, h3⟩, h4⟩, h5⟩, h6⟩, h7⟩, h8⟩, h9⟩ := h
      subst h4
      obtain ⟨g1, g2⟩ := pairs_of O h1
      have hs : starEach [p, q] X.env = [(false, eval p X.env), (false, eval q X.env)] := by rw [star_cons h6, star_cons h7]; rfl
      have hu : X.A.units + 1 < cLine := by have := O.units; omega
      have m : M2 X (.Dict keys values dp) "get" apos p q pos := ⟨rfl, by rw [hs]; rfl, h5, by rw [hs]; rfl⟩
      exact .of (s_dgt hu g1 (by intro z; rw [z] at h8; simp at h8) h9 g2 (soundE u c _ E' X h2 O).pe (soundE d c _ E' X h3 O).pe m) rfl
    · cases h
  | .maxd u d, c, a, E', X, h, O => by
    simp only [okE] at h
    split at h
    · rename_i y p0 p n q kp pos
      simp only [Bool.and_eq_true, decide_eq_true_eq] at h
      obtain ⟨⟨⟨⟨⟨h1, h2⟩, h3⟩, h4⟩, h5⟩, h6⟩ := h
      obtain ⟨b1, b2, _, _⟩ := bn_of O h3
      exact .of (s_maxd O.hK O.calm O.units h4 h5 b1 b2 (soundE u c _ E' X h1 O).pe (soundE d c _ E' X h2 O).pe (star_cons h6 _ _)) rfl
    · cases h
  | .lrg n es, c, a, E', X, h, O => by
    simp only [okE] at h
    split at h
    · rename_i y p1 z p2 p q2 q1
      simp only [Bool.and_eq_true, decide_eq_true_eq] at h
      obtain ⟨⟨⟨⟨h1, h2⟩, h3⟩, h4⟩, h5⟩ := h
      subst h4; subst h5
      have ih := soundEs es c _ E' X h1 O
      have hst := ih.st
      simp only [List.all_cons, Bool.and_eq_true] at hst
      obtain ⟨g1, g2, _, _⟩ := bn_of O h2
      obtain ⟨b1, b2, _, _⟩ := bn_of O h3
      exact .of (s_lrg1 O.calm g1 g2 b1 b2 ih.pa (star_cons hst.1 _ _)) rfl
    · rename_i y p1 z p2 p q q2 q1
      simp only [Bool.and_eq_true, decide_eq_true_eq] at h
      obtain ⟨⟨⟨⟨h1, h2⟩, h3⟩, h4⟩, h5⟩ := h
      subst h4; subst h5
      have ih := soundEs es c _ E' X h1 O
      have hst := ih.st
      simp only [List.all_cons, Bool.and_eq_true] at hst
      obtain ⟨g1, g2, _, _⟩ := bn_of O h2
      obtain ⟨b1, b2, _, _⟩ := bn_of O h3
      exact .of (s_lrg2 O.calm g1 g2 b1 b2 ih.pa (star_cons hst.1 _ _) (star_any (by simpa using hst.2))) rfl
    · rename_i y p1 z p2 p q r q2 q1
      simp only [Bool.and_eq_true, decide_eq_true_eq] at h
      obtain ⟨⟨⟨⟨h1, h2⟩, h3⟩, h4⟩, h5⟩ := h
      subst h4; subst h5
      have ih := soundEs es c _ E' X h1 O
      have hst := ih.st
      simp only [List.all_cons, Bool.and_eq_true] at hst
      obtain ⟨g1, g2, _, _⟩ := bn_of O h2
      obtain ⟨b1, b2, _, _⟩ := bn_of O h3
      exact .of (s_lrg3 O.calm g1 g2 b1 b2 ih.pa (star_cons hst.1 _ _) (star_any (by simpa using hst.2))) rfl
    · cases h
theorem soundEs : ∀ (es : Es) (c : Cn) (as : List Expr) (E' : XK) (X : Cx), okEs es c as = true → XOk c W call k cx E' X → OkEs es c as E' X W call
  | .nil, c, as, E', X, h, O => by
    cases as with
    | nil => exact ⟨s_nil, rfl, fun a e => (by cases e), fun p hn => absurd rfl hn, fun p hn => absurd rfl hn⟩
    | cons a as => simp [okEs] at h
  | .cons e es, c, as, E', X, h, O => by
    cases as with
    | nil => simp [okEs] at h
    | cons a as =>
      simp only [okEs, Bool.and_eq_true] at h
      obtain ⟨⟨h1, h2⟩, h3⟩ := h
      have i1 := soundE e c a E' X h1 O
      have i2 := soundEs es c as E' X h3 O
      refine ⟨s_cons i1.pe i2.pa (star_cons h2 _ _), by simp [h2, i2.st], fun b eb => ?_, fun p _ hif => ?_, fun p _ hif => ?_⟩
      · cases eb
        cases es with
        | nil => exact ⟨_, i1.pe, fun v => by simp only [evEs, pure_bind']⟩
        | cons e2 es => simp [okEs] at h3
      · simp only [List.all_cons, Bool.and_eq_true] at hif
        cases es with
        | nil =>
          cases as with
          | nil => exact ⟨s_one i1.pe, s_andT1 (i1.pt hif.1)⟩
          | cons b bs => simp [okEs] at h3
        | cons e2 es =>
          cases as with
          | nil => simp [okEs] at h3
          | cons b bs =>
            obtain ⟨j1, j2⟩ := i2.an p (by simp) hif.2
            refine ⟨s_and i1.pe j1, ?_⟩
            refine pw_eq (s_andT (i1.pt hif.1) j2) ?_
            funext v
            show _ = ((evE call e v >>= fun x => testD x >>= fun r => if r then evAnd call (.cons e2 es) v else pure (.bl false)) >>= testD)
            simp only [bind_assoc']
            congr 1; funext x; congr 1; funext r
            cases r <;> rfl
      · simp only [List.all_cons, Bool.and_eq_true] at hif
        cases es with
        | nil =>
          cases as with
          | nil => exact ⟨s_one i1.pe, s_orT1 (i1.pt hif.1)⟩
          | cons b bs => simp [okEs] at h3
        | cons e2 es =>
          cases as with
          | nil => simp [okEs] at h3
          | cons b bs =>
            obtain ⟨j1, j2⟩ := i2.orr p (by simp) hif.2
            refine ⟨s_or i1.pe j1, ?_⟩
            refine pw_eq (s_orT (i1.pt hif.1) j2) ?_
            funext v
            show _ = ((evE call e v >>= fun x => testD x >>= fun r => if r then pure (.bl true) else evOr call (.cons e2 es) v) >>= testD)
            simp only [bind_assoc']
            congr 1; funext x; congr 1; funext r
            cases r <;> rfl
theorem soundKs : ∀ (es : Es) (c : Cn) (ks : List Keyword) (E' : XK) (X : Cx), okKs es c ks = true → XOk c W call k cx E' X → PK X ks (tEs W (xK E') (evEs call es)) ∧ ks.all (·.arg.isSome) = true
  | .nil, c, ks, E', X, h, O => by
    cases ks with
    | nil => exact ⟨sk_nil, rfl⟩
    | cons a as => simp [okKs] at h
  | .cons e es, c, ks, E', X, h, O => by
    cases ks with
    | nil => simp [okKs] at h
    | cons a as =>
      obtain ⟨n, p, pos⟩ := a
      simp only [okKs, Bool.and_eq_true] at h
      obtain ⟨⟨h1, h2⟩, h3⟩ := h
      obtain ⟨i1, i2⟩ := soundKs es c as E' X h3 O
      exact ⟨sk_cons (soundE e c _ E' X h1 O).pe i1, by simp [h2, i2]⟩
theorem soundO : ∀ (e : Eo) (c : Cn) (a : Option Expr) (E' : XK) (X : Cx), okO e c a = true → XOk c W call k cx E' X → PO X a (tEo W (xK E') (evO call e))
  | .none, c, a, E', X, h, O => by
    cases a with
    | none => exact s_onone
    | some a => simp [okO] at h
  | .some e, c, a, E', X, h, O => by
    cases a with
    | none => simp [okO] at h
    | some a => exact s_osome (soundE e c _ E' X (by simpa [okO] using h) O).pe
theorem soundC : ∀ (e : Eo) (c : Cn) (a : List Expr) (E' : XK) (X : Cx), okC e c a = true → XOk c W call k cx E' X → PTs X a (tEb W (xK E') (evC call e))
  | .none, c, a, E', X, h, O => by
    cases a with
    | nil => exact s_ifs0
    | cons b a => simp [okC] at h
  | .some e, c, a, E', X, h, O => by
    match a, h with
    | [a], h =>
      simp only [okC, Bool.and_eq_true] at h
      exact pts_one ((soundE e c _ E' X h.1 O).pt h.2)
    | [], h => simp [okC] at h
    | _ :: _ :: _, h => simp [okC] at h
theorem soundI : ∀ (e : Wk) (c : Cn) (t a : Expr) (E' : XK) (X : Cx), okI e c t a = true → XOk c W call k cx E' X → PI X t a (tEI W (xK E') (evI call e))
  | .val e, c, t, a, E', X, h, O => s_ival O.hK (soundE e c a E' X (by simpa [okI] using h) O).pe
  | .rng1 x, c, t, a, E', X, h, O => by
    simp only [okI] at h
    split at h
    · simp only [Bool.and_eq_true, decide_eq_true_eq] at h
      obtain ⟨⟨⟨h1, h2⟩, h3⟩, h4⟩ := h
      subst h3
      obtain ⟨g1, g2, _, _⟩ := bn_of O h2
      refine tei_eq (s_irng1 g1 g2 (s_cons (soundE x c _ E' X h1 O).pe s_nil (star_cons h4 _ _)) (star_cons h4 _ _)) ?_
      funext v
      show _ = (evE call x v >>= fun p => op (rng1D [p]))
      simp only [bind_assoc', pure_bind']
    · cases h
  | .rng2 x z, c, t, a, E', X, h, O => by
    simp only [okI] at h
    split at h
    · simp only [Bool.and_eq_true, decide_eq_true_eq] at h
      obtain ⟨⟨⟨⟨⟨h1, h2⟩, h3⟩, h4⟩, h5⟩, h6⟩ := h
      subst h4
      obtain ⟨g1, g2, _, _⟩ := bn_of O h3
      refine tei_eq (s_irng2 g1 g2 (s_cons (soundE x c _ E' X h1 O).pe (s_cons (soundE z c _ E' X h2 O).pe s_nil (star_cons h6 _ _)) (star_cons h5 _ _)) (by rw [star_cons h5, star_cons h6]; rfl) (star_cons h6 _ _)) ?_
      funext v
      show _ = (evE call x v >>= fun p => evE call z v >>= fun q => op (rng2D [p, q]))
      simp only [bind_assoc', pure_bind']
    · cases h
  | .rng3 x z w, c, t, a, E', X, h, O => by
    simp only [okI] at h
    split at h
    · simp only [Bool.and_eq_true, decide_eq_true_eq] at h
      obtain ⟨⟨⟨⟨⟨⟨⟨h1, h2⟩, h3⟩, h4⟩, h5⟩, h6⟩, h7⟩, h8⟩ := h
      subst h5
      obtain ⟨g1, g2, _, _⟩ := bn_of O h4
      refine tei_eq (s_irng3 g1 g2 (s_cons (soundE x c _ E' X h1 O).pe (s_cons (soundE z c _ E' X h2 O).pe (s_cons (soundE w c _ E' X h3 O).pe s_nil (star_cons h8 _ _)) (star_cons h7 _ _)) (star_cons h6 _ _)) (star_cons h6 _ _) (star_any (by simp [h7, h8]))) ?_
      funext v
      show _ = (evE call x v >>= fun p => evE call z v >>= fun q => evE call w v >>= fun r => op (rng3D [p, q, r]))
      simp only [bind_assoc', pure_bind']
    · cases h
  | .zip x z, c, t, a, E', X, h, O => by
    simp only [okI] at h
    split at h
    · simp only [Bool.and_eq_true, decide_eq_true_eq] at h
      obtain ⟨⟨⟨⟨⟨h1, h2⟩, h3⟩, h4⟩, h5⟩, h6⟩ := h
      subst h4
      obtain ⟨g1, g2, _, _⟩ := bn_of O h3
      exact s_izip O.hK g1 g2 (soundE x c _ E' X h1 O).pe (soundE z c _ E' X h2 O).pe (star_cons h5 _ _) (star_cons h6 _ _) (by rw [star_cons h6]; rfl)
    · cases h
end
end
end MI
end
/-! ME5 -/
section
set_option linter.all false
set_option maxRecDepth 100000
set_option maxHeartbeats 8000000
/-! raise X(e); try: calls, except LineError as n: m = n. -/
namespace MI
open PySem L2 ME
section
variable {W : Wd} {call : Nat → List D → M D} {k : Nat} {cx : CXT} {c : Cn} {E : XK} {X : Cx}
theorem s_raise (O : XOk c W call k cx E X) (TP : TopOk X E) {a : Expr} {y : Str} {q : Nat} {p pos pos2 : Pos} {ma : Ev → M D} (hc : (y, q) ∈ c.T.cls) (hgl : Gl X y) (hd : (y == ("__debug__" : Str)) = false) (ha : PE X a (tE W (xK E) ma)) (hst : noStar a = true) :
    PS X (.Raise (some (.Call (.Name y p) [a] [] pos)) none pos2) (tF W (xK E) fun v => ma v >>= fun d => raiseM q d) := by
  have hne : c.T.cls ≠ [] := fun e => by rw [e] at hc; cases hc
  obtain ⟨fI, D0, fd, IO, hcf⟩ := (O.errs hne).ini
  have T := hcf _ hc
  have hx0 : Passes cx X (fun _ _ _ => False) := fun pins σ H s e s' _ h => (O.hF _ _ _ _ _ h).elim
  have mk := pmk_oex (pos := pos) (p := p) T.ini.oex T.iC IO.ty IO.F1 (O.room.mono O.two) IO.bd .nil hx0 hgl ((O.errs hne).nm _ hc) (pa_cons ha pa_nil (star_cons hst _ _)) hd (star_cons hst _ _) rfl
  refine ps_mono (ps_raise O.calm TP.tk mk) fun D σ H _ h => ?_
  obtain ⟨W', iw, ρ, η, env, sim, er, h⟩ := h
  show tCons (tE W (xK E) ma) tNil σ H _
  refine ⟨W', iw, ρ, η, env, sim, er, h.bind.mono fun d η1 ρ1 H1 e1 s1 h1 v rv => ?_⟩
  show ([v] : List V).length ≤ 1000 ∧ _
  refine ⟨by simp, fun a na => ⟨a, ca W q, v, rfl, T.ini, T.vl, upd_same, fun dx nd ne => ⟨rfl, dx, [("value", v)], upd_same, by rw [upd_ne ne, upd_same], ?_, ?_⟩⟩⟩
  · rw [upd_ne ne] at nd
    exact nd
  · have nd' : H1 dx = none := by rw [upd_ne ne] at nd; exact nd
    have eq : upd (del (upd (upd (upd H1 a (exo a (ca W q) none)) dx (exd dx [("value", v)])) a (exo a (ca W q) (some dx))) a) dx (.xd [("value", v)]) = upd H1 dx (vxd v) := by
      funext b
      by_cases h1 : b = dx
      · rw [h1, upd_same, upd_same]; rfl
      · rw [upd_ne h1, upd_ne h1]
        by_cases h2 : b = a
        · rw [h2, del_same, na]
        · rw [del_ne h2, upd_ne h2, upd_ne h1, upd_ne h2]
    rw [eq]
    have x : Ext ρ1 H1 ρ1 (upd H1 dx (vxd v)) := Ext.new nd'
    have := h1 ρ1 _ x (s1.new nd') v dx (rv.ext x s1.ok) upd_same
    rw [iw.2] at this
    exact this
/-! ### the body of a try -/
theorem run_gs {f : Addr} {fd : FuncData} {ps : List Str} {sp : Sp} {pins : List (Addr × Obj)} {σ : St} {H : Hp} {s : Shared} {Q : VK} {ar us : List Value} {kw : List (Str × Value)} {vs : List V} (F : FnG X.prog X.w X.K X.mg X.base cx k f fd ps sp) (hr : Room k X.A) (hg : X.A.guards = some [])
    (hb : bindArgs fd ⟨ar, kw⟩ = pure (ps.zip us)) (hx : PassesAt cx X σ E) (I : Inv X pins σ H s) (r : Vals vs us) (q : sp vs H Q E) : wpAny (model X.prog X.w) X.A (PySem.call (.ref f) ar kw) (EP X pins σ Q) X.xe s := by
  refine wpAny_call (codeAny_mono (F.go X.A X.stack s H ⟨ar, kw⟩ us vs Q E hr hg I.env0 (.of_eq hb) r q) fun res t ht => ?_)
  match res, ht with
  | .error e, ht => exact hx pins H s e t I ht
  | .ok (.ret u), ht => exact I.after ht
  | .ok .next, ht => exact ht.elim
  | .ok .brk, ht => exact ht.elim
  | .ok .cont, ht => exact ht.elim
def tTb (W₀ : Wd) (Wx : WX) (m : Ev → M D) : TS := fun D σ H => ∃ W, InW W₀ W ∧ ∃ ρ η env, Sim W ρ η H ∧ EnvR W ρ H env σ ∧ Post W (xK (WE Wx σ)) (m env η) ρ H (fun _ _ _ H' => D.nx σ H')
/-- a call whose errors are told by the slots -/
def tCl (W₀ : Wd) (Wx : WX) (m : Ev → M D) : TE := fun σ H Q => ∃ W, InW W₀ W ∧ ∃ ρ η env, Sim W ρ η H ∧ EnvR W ρ H env σ ∧ Post W (xK (WE Wx σ)) (m env η) ρ H (kkV W Q)
theorem quiet_bind {α β : Type} {W : Wd} {x : XW} {m : M α} {f : α → M β} {η : List C} {ρ : List Addr} {H : Hp} {q : β → List C → List Addr → Hp → Prop} (h : Post W x ((quiet m >>= f) η) ρ H q) : Post W xF (m η) ρ H (fun a η1 ρ1 H1 => Post W x (f a η1) ρ1 H1 q) := quiet_post h.bind
variable {Wx : WX} {y : Str} {e : Expr} {es : List Expr} {p pos : Pos}
theorem tb_call (O : XOk c W call k cx (fun _ _ _ => False) X) (tk : Takes X Wx) {f : Nat} {ms : Ev → M (List D)} (hf : (y, f, (e :: es).length) ∈ c.T.fns) (hgl : Gl X y) (hd : (y == ("__debug__" : Str)) = false) (ha : PA X (e :: es) (tEs W (xK fun _ _ _ => False) ms))
    (he : starEach (e :: es) X.env = (false, eval e X.env) :: starEach es X.env) (hpl : (backTo pos (starEach es X.env)).any (·.1) = false) :
    PE X (.Call (.Name y p) (e :: es) [] pos) (tCl W Wx fun v => quiet (ms v) >>= fun xs => call f xs) := by
  obtain ⟨fd, ps, hl, P⟩ := O.prom _ hf
  have hl : ps.length = (e :: es).length := hl
  have hb := P.bd
  rw [hl] at hb
  refine ⟨fun pins s σ H Q I h => wpAny_Call_Name_kw (ld_glob I hgl (O.fns _ hf) (PySem.W.callWith_K (h₀ := X.base) I.ok.mod.kin P.kp (thn ((xf_a ha).run pos pins s σ H (fun vs H1 => vs.length = (e :: es).length ∧ spF W (call f) vs H1 Q (WE Wx σ)) I ?_) fun us s1 ⟨vs, H1, I1, r, l, q⟩ => ⟨I1.kIn, ?_⟩) he hpl) hd)⟩
  · obtain ⟨W', iw, ρ, η, env, sim, er, h⟩ := h
    refine ⟨W', iw, ρ, η, env, sim, er, (quiet_bind h).mono fun ds η1 ρ1 H1 e1 s1 h1 vs rs => ?_⟩
    by_cases hn : ds.length = ps.length
    · exact ⟨by rw [rs.len, hn, hl], W', iw, ρ1, η1, ds, s1, rs, h1⟩
    · exact (post_no h1 (P.num _ _ hn)).elim
  · have hbb := hb us [] (r.length.symm.trans l) rfl
    rw [List.append_nil] at hbb
    have e0 : us.length = (e :: es).length := r.length.symm.trans l
    rw [← e0, pick_range] at hbb
    have hpa := passAt tk σ
    rw [← O.hcx] at hpa
    exact run_gs P.G O.room O.hg hbb hpa I1 r q
theorem tb_callk (O : XOk c W call k cx (fun _ _ _ => False) X) (tk : Takes X Wx) {f np : Nat} {ks : List Str} {kp : List Nat} {kws : List Keyword} {ms : Ev → M (List D)} (hf : (y, f, np) ∈ c.T.fns) (hkw : (f, ks, kp) ∈ c.T.kw) (hgl : Gl X y) (hd : (y == ("__debug__" : Str)) = false) (ha : PK X kws (tEs W (xK fun _ _ _ => False) ms))
    (hall : (backToKw pos (keywordEach kws X.env)).all (·.1.isSome) = true) (hks : (backToKw pos (keywordEach kws X.env)).filterMap (·.1) = ks)
    (hpl : ((backTo pos (starEach [] X.env)).any (·.1) || (backToKw pos (keywordEach kws X.env)).any (·.1.isNone)) = false) :
    PE X (.Call (.Name y p) [] kws pos) (tCl W Wx fun v => quiet (ms v) >>= fun xs => guardM (decide (xs.length = ks.length)) >>= fun _ => call f (kp.map fun i => xs.getD i .non)) := by
  obtain ⟨fd, ps, hl, P⟩ := O.prom _ hf
  have hb := P.kw ks kp hkw
  refine ⟨fun pins s σ H Q I h => wpAny_Call_Name_kw (ld_glob I hgl (O.fns _ hf) (PySem.W.callWith_KW0 (h₀ := X.base) I.ok.mod.kin P.kp hall (thn ((xf_k ha).run pos pins s σ H (fun ws H1 => ws.length = ks.length ∧ spF W (call f) (pick .non ws kp) H1 Q (WE Wx σ)) I ?_) fun zs s2 ⟨ws, H2, I2, rz, l2, q2⟩ => ⟨I2.kIn, ?_⟩) hpl) hd)⟩
  · obtain ⟨W', iw, ρ, η, env, sim, er, h⟩ := h
    refine ⟨W', iw, ρ, η, env, sim, er, (quiet_bind h).mono fun ds η1 ρ1 H1 e1 s1 h1 vs rs => ?_⟩
    by_cases hn : ds.length = ks.length
    · rw [decide_eq_true hn, guardM_true] at h1
      exact ⟨by rw [rs.len, hn], W', iw, ρ1, η1, _, s1, reps_pick rs kp, h1⟩
    · rw [decide_eq_false hn, guardM_false, no_bind] at h1
      exact h1.elim
  · rw [hks]
    have hpa := passAt tk σ
    rw [← O.hcx] at hpa
    exact run_gs P.G O.room O.hg (hb [] zs rfl (rz.length.symm.trans l2)) hpa I2 (vals_pick rz kp) q2
theorem tb_ex {m : Ev → M D} (he : PE X e (tCl W Wx m)) (hs : swapsWith e none pos.line X.env = pure false) : PSs X [.Expr e pos] (tTb W Wx m) := by
  refine pss_mono (pss_cons (ps_expr he hs) pss_nil) fun D σ H _ h => ?_
  obtain ⟨W', iw, ρ, η, env, sim, er, h⟩ := h
  exact ⟨W', iw, ρ, η, env, sim, er, h.mono fun d η1 ρ1 H1 e1 s1 h1 v rv => h1⟩
theorem tb_if {sa sb : List Stmt} {mt : Ev → M Bool} {m1 m2 : Ev → M D} (ht : PT X e (tEb W (xK fun _ _ _ => False) mt)) (ha : PSs X sa (tTb W Wx m1)) (hb : PSs X sb (tTb W Wx m2)) : PSs X [.If e sa sb pos] (tTb W Wx fun v => quiet (mt v) >>= fun r => if r then m1 v else m2 v) := by
  refine pss_mono (pss_cons (ps_if (xf_t ht) ha hb) pss_nil) fun D σ H _ h => ?_
  obtain ⟨W', iw, ρ, η, env, sim, er, h⟩ := h
  refine ⟨W', iw, ρ, η, env, sim, er, (quiet_bind h).mono fun r η1 ρ1 H1 e1 s1 h1 => ?_⟩
  cases r with
  | true => exact ⟨W', iw, ρ1, η1, env, s1, er.ext e1 sim.ok, h1⟩
  | false => exact ⟨W', iw, ρ1, η1, env, s1, er.ext e1 sim.ok, h1⟩
end
end MI
end
/-! ME6 -/
section
set_option linter.all false
set_option maxRecDepth 100000
set_option maxHeartbeats 8000000
/-! try as a statement of MI. -/
namespace MI
open PySem L2 ME
def okTb : Tb → Cn → List Stmt → Bool
  | .call f es, c, a => match a with
    | [.Expr (.Call (.Name y _) (p :: ps) [] _) _] => okEs es c (p :: ps) && okFn c y f (p :: ps).length
    | _ => false
  | .callk f es n kp, c, a => match a with
    | [.Expr (.Call (.Name y _) [] ks _) _] => okKs es c ks && (c.T.fns.any fun q => decide (q.1 = y) && decide (q.2.1 = f)) && glN c y && noDbg y && decide (n = ks.length) && c.T.kw.any fun q => decide (q.1 = f) && decide (q.2.1.map some = ks.map (·.arg)) && decide (q.2.2 = kp)
    | _ => false
  | .ite t x y, c, a => match a with
    | [.If v ss tt _] => okE t c v && noIf v && okTb x c ss && okTb y c tt
    | _ => false
theorem quiet_test {m : M D} : (quiet (m >>= testD) : M Bool) = (quiet m >>= testD) := by
  funext h
  simp only [quiet, bind_def]
  cases e : m h with
  | no => rfl
  | ok a h' => cases a <;> rfl
  | exc c d h' => rfl
section
variable {W : Wd} {call : Nat → List D → M D} {k : Nat} {cx : CXT}
theorem tb_eq {X : Cx} {Wx : WX} {st : List Stmt} {m m' : Ev → M D} (h : PSs X st (tTb W Wx m)) (e : m = m') : PSs X st (tTb W Wx m') := e ▸ h
theorem tcl_eq {X : Cx} {Wx : WX} {st : Expr} {m m' : Ev → M D} (h : PE X st (tCl W Wx m)) (e : m = m') : PE X st (tCl W Wx m') := e ▸ h
theorem soundTb : ∀ (b : Tb) (c : Cn) (sts : List Stmt) (X : Cx) (Wx : WX), okTb b c sts = true → XOk c W call k cx (fun _ _ _ => False) X → Takes X Wx → PSs X sts (tTb W Wx (evTb call b))
  | .call f es, c, sts, X, Wx, h, O, tk => by
    simp only [okTb] at h
    split at h
    · simp only [Bool.and_eq_true] at h
      obtain ⟨h1, h2⟩ := h
      obtain ⟨g1, g3, g2⟩ := fn_of' O h2
      have P := soundEs es c _ _ X h1 O
      have hst := P.st
      simp only [List.all_cons, Bool.and_eq_true] at hst
      exact tb_ex (tb_call O tk g3 g1 g2 P.pa (star_cons hst.1 _ _) (star_any hst.2)) (swaps_no rfl _ _ _)
    · cases h
  | .callk f es n kp, c, sts, X, Wx, h, O, tk => by
    simp only [okTb] at h
    split at h
    · rename_i y p ks pos pos2
      simp only [Bool.and_eq_true, List.any_eq_true, decide_eq_true_eq] at h
      obtain ⟨⟨⟨⟨⟨h1, z, hz, e1, e2⟩, h3⟩, h4⟩, h5⟩, q, hq, ⟨e3, e4⟩, e5⟩ := h
      obtain ⟨ih, hs⟩ := soundKs es c ks _ X h1 O
      obtain ⟨g1, g2⟩ := kw_all (pos := pos) (env := X.env) hs
      obtain ⟨zy, zf, zn⟩ := z
      obtain ⟨qf, qk, qp⟩ := q
      simp only at e1 e2 e3 e4 e5
      subst e1; subst e2; subst e3; subst e5
      have hl : qk.length = ks.length := by
        have := congrArg List.length e4
        simpa using this
      refine tb_ex (tcl_eq (tb_callk (ks := qk) O tk hz hq (gl_of O h3) (dbg_of h4).1 ih g1 (kw_names e4) (by rw [g2]; rfl)) ?_) (swaps_no rfl _ _ _)
      funext v
      show _ = (quiet (evEs call es v) >>= fun xs => guardM (decide (xs.length = n)) >>= fun _ => call qf (qp.map fun i => xs.getD i .non))
      rw [h5, hl]
    · cases h
  | .ite t x y, c, sts, X, Wx, h, O, tk => by
    simp only [okTb] at h
    split at h
    · simp only [Bool.and_eq_true] at h
      obtain ⟨⟨⟨h1, h2⟩, h3⟩, h4⟩ := h
      refine tb_eq (tb_if ((soundE t c _ _ X h1 O).pt h2) (soundTb x c _ X Wx h3 O tk) (soundTb y c _ X Wx h4 O tk)) ?_
      funext v
      show _ = (quiet (evE call t v) >>= fun x_1 => testD x_1 >>= fun r => if r then evTb call x v else evTb call y v)
      rw [quiet_test, bind_assoc']
    · cases h
/-- in a try the body's errors are the handler's -/
theorem XOk.tr {c : Cn} {E : XK} {X : Cx} (O : XOk c W call k cx E X) (pn : List (Addr × Obj)) (xe : Value → Shared → Prop) (ow : PassesOwn (model X.prog X.w) X.A X.env xe) : XOk c W call k cx (fun _ _ _ => False) (X.tr pn xe) where
  hK := O.hK
  hN := O.hN
  nd := O.nd
  sc := O.sc
  calm := O.calm
  room := O.room
  hg := O.hg
  own := ow
  fnl := O.fnl
  glob := O.glob
  bn := O.bn
  fns := O.fns
  prom := O.prom
  hx := fun pins σ H s e s' _ h => (O.hF _ _ _ _ _ h).elim
  hF := O.hF
  hcx := O.hcx
  two := O.two
  errs := O.errs
theorem s_try {c : Cn} {E : XK} {X : Cx} (O : XOk c W call k cx E X) (TP : TopOk X E) {b : Tb} {i j : Nat} {cs : List Nat} {body : List Stmt} {x n m : Str} {np np2 mp pos pos' pos2 : Pos} (hb : okTb b c body = true) (hi : X.N[i]? = some n) (hln : X.env.kindOf n = some .local) (hj : X.N[j]? = some m) (hlm : X.env.kindOf m = some .local)
    (hcs : ∀ q ∈ cs, ∃ y, (y, q) ∈ c.T.cls) (h0 : (x, 0) ∈ c.T.cls) (hgx : Gl X x) (hdx : (x == ("__debug__" : Str)) = false) (hd : (n == ("__debug__" : Str)) = false) (hcd : (n == ("__classdict__" : Str)) = false) :
    PS X (.Try body [.ExceptHandler (some (.Name x np)) (some n) [.Assign [.Name m mp] (.Name n np2) pos2] pos'] [] [] pos) (tF W (xK E) fun v => fun h => catchF i j cs v (evTb call b v h)) := by
  have hne : c.T.cls ≠ [] := fun e => by rw [e] at h0; cases h0
  have EO := O.errs hne
  have base := ps_try_val (X := X) (np := np) (np2 := np2) (mp := mp) (pos := pos) (pos' := pos') (pos2 := pos2) TP.stk TP.ex TP.frm (nd_of O) hi hln hj hlm (c := .ref (ca W 0)) ⟨hgx, hdx, .inl (EO.nm _ h0)⟩ TP.tk (fun Wx pn xe tk ow => soundTb b c body (X.tr pn xe) Wx hb (O.tr pn xe ow) tk) hd hcd rfl
  refine ps_mono base fun D σ H _ h => ?_
  obtain ⟨W', iw, ρ, η, env, sim, er, h⟩ := h
  refine ⟨W', iw, ρ, η, env, sim, er, ?_⟩
  have h : Post W' (xK E) (catchF i j cs env (evTb call b env η)) ρ H (kF W' D) := h
  cases e : evTb call b env η with
  | no => rw [e] at h; exact h
  | ok d η1 =>
    rw [e] at h
    intro ρ1 H1 e1 s1
    exact h ρ1 H1 e1 s1 σ (er.ext e1 sim.ok)
  | exc q d η1 =>
    rw [e] at h
    simp only [catchF] at h
    split at h
    · rename_i hq
      intro ρ1 H1 e1 s1 v dd rv hdd
      obtain ⟨yq, hyq⟩ := hcs q (by simpa using hq)
      have eca : ca W' q = ca W q := by show W'.Fn _ = W.Fn _; rw [iw.2]
      refine ⟨true, ?_, fun _ => ⟨dd, rfl, fun a na => ?_⟩, fun z => by cases z⟩
      · have := EO.exm _ hyq _ h0 rfl
        rw [← eca] at this
        exact this
      · have x1 : Ext ρ1 H1 ρ1 (upd H1 a (exv a (.ref (ca W' q)) dd)) := Ext.new na
        have s2 := s1.new (o := exv a (.ref (ca W' q)) dd) na
        have nda : dd ≠ a := fun z => by rw [z, na] at hdd; cases hdd
        have fr : ∀ {b : Addr} {o : HO}, (upd H1 a (exv a (.ref (ca W' q)) dd)) b = some o → (∀ vs, o ≠ .lst vs) → (∀ vs, o ≠ .dK vs) → Fr W' ρ1 b := fun {b o} hb n1 n2 => by
          refine ⟨fun m => ?_, fun m => ?_⟩
          · obtain ⟨k0, ek⟩ := List.mem_iff_getElem?.mp m
            rcases s2.ok.at_ k0 b ek with ⟨vs, z⟩ | ⟨vs, z⟩
            · rw [hb] at z; exact n1 _ (Option.some.inj z)
            · rw [hb] at z; exact n2 _ (Option.some.inj z)
          · obtain ⟨vs, z⟩ := (s2.zed b m).1
            rw [hb] at z; exact n1 _ (Option.some.inj z)
        have hdd2 : (upd H1 a (exv a (.ref (ca W' q)) dd)) dd = some (vxd v) := by rw [upd_ne nda]; exact hdd
        have re : Rep W' ρ1 (upd H1 a (exv a (.ref (ca W' q)) dd)) (.err q d) (.ref a) :=
          ⟨a, dd, v, rfl, ⟨upd_same, fr upd_same (fun _ => exv_lst) (fun _ => exv_dK)⟩, ⟨hdd2, fr hdd2 (fun _ z => by cases z) (fun _ z => by cases z)⟩, rv.ext x1 s1.ok⟩
        refine h ρ1 _ (e1.trans x1) s2 _ ?_
        exact (((er.ext (e1.trans x1) sim.ok).set re i).set re j).unset i
    · exact h.elim
end
end MI
end
/-! MIr -/
section
set_option linter.all false
set_option maxRecDepth 100000
set_option maxHeartbeats 8000000
/-! The checker's word is good: statements. -/
namespace MI
open PySem L2

def noTup : Expr → Bool
  | .Tuple _ _ _ => false
  | _ => true
/-- a name that is seen in a block within -/
def nonLoc (c : Cn) : Expr → Bool
  | .Name y _ => !(c.sc.names.lookup y == some .local)
  | _ => false
/-- a tuple of constants -/
def cstTup : Expr → Bool
  | .Tuple vs _ _ => vs.all (foldedForSure 8)
  | _ => false
/-- is a comprehension stored where it ends? -/
def swN (c : Cn) (y : Str) (p : Pos) : Expr → Bool
  | .ListComp _ _ scope pos => (c.sc.kind == .function) && (c.sc.names.lookup y == some .local) && p.line == pos.line && !(scope.names.any fun (n, k) => n == y && (k == .local || k == .cell))
  | _ => false
/-- the block is a def's -/
def okSw (c : Cn) : Expr → Bool
  | .ListComp _ _ _ _ => c.sc.kind == .function
  | .SetComp _ _ _ _ => false
  | .DictComp _ _ _ _ _ => false
  | _ => true
def okNames (c : Cn) : List Nat → List Expr → Bool
  | [], [] => true
  | i :: is, .Name y _ :: ts => okSet c i y && okNames c is ts
  | _, _ => false
/-- a, b = x, y is stored from the right -/
def okPar (c : Cn) (y z : Str) (py pz : Pos) (vs : List Expr) : Bool :=
  (c.sc.kind == .function) && decide (c.sc.names.lookup y = some .local) && decide (c.sc.names.lookup z = some .local) && pz.line == py.line && decide (y ≠ z) && !(vs.all (foldedForSure 8)) && !(vs.all (constantsAlone 8)) && vs.all noStar
def okPar3 (c : Cn) (x y z : Str) (px py pz : Pos) (vs : List Expr) : Bool :=
  (c.sc.kind == .function) && decide (c.sc.names.lookup x = some .local) && decide (c.sc.names.lookup y = some .local) && decide (c.sc.names.lookup z = some .local) && py.line == px.line && pz.line == px.line && decide (x ≠ y) && decide (x ≠ z) && decide (y ≠ z) && !(vs.all (foldedForSure 8)) && !(vs.all (constantsAlone 8)) && vs.all noStar
def tgS : Tg → List Nat
  | .one i => [i]
  | .two i j => [i, j]
mutual
def okS : S → Cn → Stmt → Bool
  | .set i e, c, st => match st with
    | .Assign [.Name y _] v _ => okE e c v && okSet c i y && okSw c v
    | _ => false
  | .setc i es, c, st => match st with
    | .Assign [.Name y _] (.List ps _) _ => okEs es c ps && okSet c i y
    | _ => false
  | .setd i, c, st => match st with
    | .Assign [.Name y _] (.Dict [] [] _) _ => okSet c i y
    | _ => false
  | .sett is e, c, st => match st with
    | .Assign [.Tuple ts _ _] v _ => okE e c v && okNames c is ts && noComp v && (noTup v || (ts.any (nonLoc c) || cstTup v))
    | _ => false
  | .par is es, c, st => match is, st with
    | [i, j], .Assign [.Tuple [.Name y py, .Name z pz] _ _] (.Tuple [v, w] _ _) _ => okEs es c [v, w] && decide (i ≠ j) && okSet c i y && okSet c j z && okPar c y z py pz [v, w]
    | [i, j, l], .Assign [.Tuple [.Name x px, .Name y py, .Name z pz] _ _] (.Tuple [u, v, w] _ _) _ => okEs es c [u, v, w] && decide (i ≠ j) && decide (i ≠ l) && decide (j ≠ l) && okSet c i x && okSet c j y && okSet c l z && okPar3 c x y z px py pz [u, v, w]
    | _, _ => false
  | .aug i o e, c, st => match o, st with
    | .Add, .AugAssign (.Name y _) .Add v _ => okE e c v && okSet c i y
    | _, _ => false
  | .seti a b e, c, st => match st with
    | .Assign [.Subscript p q _] v _ => okE a c p && okE b c q && okE e c v && noComp v && noSlice q
    | _ => false
  | .ex e, c, st => match st with
    | .Expr v _ => okE e c v && noComp v
    | _ => false
  | .ret e, c, st => match st with
    | .Return (some v) _ => okE e c v
    | _ => false
  | .retn, c, st => match st with
    | .Return none _ => true
    | _ => false
  | .retc es, c, st => match st with
    | .Return (some (.List ps _)) _ => okEs es c ps
    | _ => false
  | .iff t a b, c, st => match st with
    | .If v ss tt _ => okE t c v && noIf v && okSs a c ss && okSs b c tt
    | _ => false
  | .for tg it b, c, st => match st with
    | .For t i ss [] _ => okI it c t i && okTg c (tgS tg) tg t && okSs b c ss && noSet i
    | _ => false
  | .wh n t b, c, st => match st with
    | .While v ss [] _ => okE t c v && noIf v && okSs b c ss
    | _ => false
  | .pas, c, st => match st with
    | .Pass _ => true
    | _ => false
  | .brk, c, st => match st with
    | .Break _ => true
    | _ => false
  | .cnt, c, st => match st with
    | .Continue _ => true
    | _ => false
  | .never, c, st => true
  | .raise q e, c, st => match st with
    | .Raise (some (.Call (.Name y _) [p] [] _)) none _ => okE e c p && noStar p && okCl c y q && glN c y && noDbg y
    | _ => false
  | .tryv b i j cs, c, st => match st with
    | .Try body [.ExceptHandler (some (.Name x _)) (some n) [.Assign [.Name m _] (.Name n2 _) _] _] [] [] _ => okTb b c body && decide (n2 = n) && decide (c.N[i]? = some n) && decide (c.N[j]? = some m) && decide (c.sc.names.lookup n = some .local) && decide (c.sc.names.lookup m = some .local) && okCs c cs && okCl c x 0 && glN c x && noDbg x && noDbg n
    | _ => false
def okSs : Ss → Cn → List Stmt → Bool
  | .nil, c, a => match a with
    | [] => true
    | _ => false
  | .cons s ss, c, a => match a with
    | p :: ps => okS s c p && okSs ss c ps
    | _ => false
end
section
variable {W : Wd} {call : Nat → List D → M D} {k : Nat} {cx : CXT} {c : Cn} {E' : XK} {X : Cx}
theorem tf_eq {st : Stmt} {x : XW} {m m' : Ev → M Fl} (h : PS X st (tF W x m)) (e : m = m') : PS X st (tF W x m') := e ▸ h
theorem names_each {env : Env} : ∀ {is : List Nat} {ts : List Expr}, okNames c is ts = true → (assignEach ts env).length = is.length ∧ (assignEach ts env).findIdx? (·.1) = none
  | [], [], _ => ⟨rfl, rfl⟩
  | i :: is, .Name y p :: ts, h => by
    simp only [okNames, Bool.and_eq_true] at h
    obtain ⟨h1, h2⟩ := names_each (env := env) h.2
    have e : assignEach (.Name y p :: ts) env = (false, assign (.Name y p) env) :: assignEach ts env := rfl
    rw [e]
    refine ⟨by simp [h1], ?_⟩
    rw [List.findIdx?_cons]
    simp only [Bool.false_eq_true, if_false]
    rw [h2]
    rfl
theorem names_pgs (O : XOk c W call k cx E' X) : ∀ {is : List Nat} {ts : List Expr}, okNames c is ts = true → PGs X ts (gNames is)
  | [], [], _ => pgs_nil
  | i :: is, .Name y p :: ts, h => by
    simp only [okNames, Bool.and_eq_true] at h
    obtain ⟨a1, a2, a3⟩ := set_of O h.1
    exact pgs_cons (pg_name (nd_of O) a1 a2 a3) (names_pgs O h.2) rfl
theorem sole_no {v : Expr} (h : noComp v = true) (t : Expr) (l : Nat) (env : Env) : swapsWithSole [t] v l env = pure false := swaps_no h _ _ _
theorem stores_no {v : Expr} (h : noTup v = true) (ts : List Expr) (kt : Nat) (p : Pos) (env : Env) : swappedStores [.Tuple ts kt p] v env = pure none := by
  cases v <;> first | rfl | (cases h; done)
theorem map_short {α β : Type} {f : α → Option β} : ∀ {l : List α} {a : α}, a ∈ l → f a = none → (l.filterMap f).length < l.length
  | x :: l, a, h, e => by
    rcases List.mem_cons.mp h with rfl | h
    · rw [List.filterMap_cons, e]
      have := List.length_filterMap_le f l
      simp only [List.length_cons]; omega
    · have := map_short h e
      rw [List.filterMap_cons]
      cases f x <;> simp only [List.length_cons] <;> omega
theorem stores_cell {c : Cn} {env : Env} (hsc : env.scope = c.sc) {ts : List Expr} (h : ts.any (nonLoc c) = true) (v : Expr) (kt : Nat) (p : Pos) : swappedStores [.Tuple ts kt p] v env = pure none := by
  obtain ⟨t, ht, hn⟩ := List.any_eq_true.mp h
  cases v with
  | Tuple vs k2 p2 =>
    unfold swappedStores
    simp only [pure_bind]
    split
    · rfl
    split
    · rfl
    split
    · rfl
    · rename_i hl
      exfalso
      apply hl
      have sh := map_short (f := fun e => match e with
        | .Name id pos => if env.kindOf id == some .local && pos.line == (ts.head?.map (·.pos.line)).getD 0 then some id else none
        | _ => none) ht (by
        cases t with
        | Name y q =>
          simp only [nonLoc, Bool.not_eq_true'] at hn
          have : (env.kindOf y == some .local) = false := by unfold Env.kindOf; rw [hsc]; exact hn
          simp [this]
        | _ => simp [nonLoc] at hn)
      simp only [Bool.or_eq_true, bne_iff_ne, ne_eq]
      left
      exact Nat.ne_of_lt sh
  | _ => rfl
theorem stores_cst {v : Expr} (h : cstTup v = true) (ts : List Expr) (kt : Nat) (p : Pos) (env : Env) : swappedStores [.Tuple ts kt p] v env = pure none := by
  cases v with
  | Tuple vs k2 p2 =>
    have h : vs.all (foldedForSure 8) = true := h
    unfold swappedStores
    simp only [pure_bind]
    split
    · rfl
    split
    · rfl
    split
    · rfl
    · rfl
  | _ => cases h
theorem stores_sub {v a b : Expr} {p : Pos} (env : Env) : swappedStores [.Subscript a b p] v env = pure none := by
  cases v <;> rfl
theorem block_fn {env : Env} (h : env.scope.kind = .function) : env.blockKind = .function := by
  unfold Env.blockKind
  rw [h]
  rfl
theorem sw_val (O : XOk c W call k cx E' X) {e : Expr} {gs : List Comprehension} {scope : Scope} {pos p : Pos} {y : Str} {l : Nat} (hk : c.sc.kind = .function) :
    swapsWith (.ListComp e gs scope pos) (some (.Name y p)) l X.env = pure (swN c y p (.ListComp e gs scope pos)) := by
  have hb := block_fn (env := X.env) (by rw [O.sc]; exact hk)
  have ky : X.env.kindOf y = c.sc.names.lookup y := by unfold Env.kindOf; rw [O.sc]
  unfold swapsWith swN
  simp only [hb, ky, hk, Expr.pos]
theorem assign_sub {a b : Expr} (h : noSlice b = true) (p : Pos) (env : Env) (v : Value) : assign (.Subscript a b p) env v = (do
      let ov ← holding [v] (eval a env)
      let iv ← holding [v, ov] (eval b env)
      standAt p
      holding [v, ov, iv] (setItem ov iv v)
      release [v, ov, iv] []) := by
  cases b <;> first | rfl | (cases h; done)
theorem setLc_of (O : XOk c W call k cx E' X) {e : E} {i : Nat} {y : Str} {elt : Expr} {gs : List Comprehension} {scope : Scope} {lp p pos : Pos} (h : okE e c (.ListComp elt gs scope lp) = true) (hi : X.N[i]? = some y) (hl : X.env.scope.names.lookup y = some .local)
    (hsw : swapsWith (.ListComp elt gs scope lp) (some (.Name y p)) pos.line X.env = pure true) : PS X (.Assign [.Name y p] (.ListComp elt gs scope lp) pos) (tF W (xK E') fun v => evE call e v >>= fun d => pure (.nx (setE v i d))) := by
  cases e with
  | lc x tg it cd vs =>
    simp only [okE] at h
    split at h
    · rename_i p1 t ii ifs z scope1 pos1 hgs
      cases hgs
      simp only [Bool.and_eq_true, decide_eq_true_eq] at h
      obtain ⟨⟨⟨⟨⟨⟨h0, h1⟩, h2⟩, h3⟩, h4⟩, h5⟩, h6⟩ := h
      subst h0
      have base := ps_setLc (own := ownOf c.N vs) O.calm (nd_of O) hi hl hsw (soundI it c t ii E' X h1 O) (blkOk_by (by rw [O.hN, O.sc]; exact h2))
        (fun s H C cl fp => (tg_of (O.blk s H scope C cl fp) h3).1) (fun s H C cl fp => xf_ts (soundC cd _ _ _ _ h4 (O.blk s H scope C cl fp))) (fun s H C cl fp => xf_e (soundE x _ _ _ _ h5 (O.blk s H scope C cl fp)).pe) (folded_no h6 _)
      refine ps_mono base fun D σ H _ hq => ?_
      rw [own_snd]
      have z := t_set_r (i := i) hq
      exact r_lc (tg_of (O.blk X.s_0 X.H_0 scope 0 [] []) h3).2 z
    · cases h
  | lc2 x tg it cd tg1 it1 cd1 vs vs1 =>
    simp only [okE] at h
    split at h
    · rename_i p1 t ii ifs z t1 i1 ifs1 z1 scope1 pos1 hgs
      cases hgs
      simp only [Bool.and_eq_true, decide_eq_true_eq, List.all_eq_true, List.contains_iff_mem] at h
      obtain ⟨⟨⟨⟨⟨⟨⟨⟨⟨⟨⟨⟨h0, h00⟩, h1⟩, h2⟩, h3⟩, h4⟩, h5⟩, h6⟩, k1⟩, k2⟩, k3⟩, k4⟩, k5⟩ := h
      subst h0; subst h00
      have base := ps_setLc2 (own := ownOf c.N vs) (vs1 := vs1) O.calm (nd_of O) hi hl hsw (soundI it c t ii E' X h1 O) (blkOk_by (by rw [O.hN, O.sc]; exact h2)) (by rw [own_snd]; exact k5)
        (fun s H C cl fp => (tg_of (O.blk s H scope C cl fp) h3).1) (fun s H C cl fp => xf_ts (soundC cd _ _ _ _ h4 (O.blk s H scope C cl fp)))
        (fun s H C cl fp => xf_i (soundI it1 _ _ _ _ _ k1 (O.blk s H scope C cl fp))) (fun s H C cl fp => (tg_of (O.blk s H scope C cl fp) k2).1) (fun s H C cl fp => xf_ts (soundC cd1 _ _ _ _ k3 (O.blk s H scope C cl fp)))
        (fun s H C cl fp => xf_e (soundE x _ _ _ _ h5 (O.blk s H scope C cl fp)).pe) (folded_no h6 _) (folded_no k4)
      refine ps_mono base fun D σ H _ hq => ?_
      rw [own_snd]
      have z := t_set_r (i := i) hq
      exact r_lc2 (tg_of (O.blk X.s_0 X.H_0 scope 0 [] []) h3).2 (tg_of (O.blk X.s_0 X.H_0 scope 0 [] []) k2).2 z
    · cases h
  | bi b es => cases b <;> simp [okE] at h
  | _ => simp [okE] at h
theorem par_stores (O : XOk c W call k cx E' X) {y z : Str} {py pz pt pt2 : Pos} {kt k2 : Nat} {a b : Expr} (h : okPar c y z py pz [a, b] = true) :
    swappedStores [.Tuple [.Name y py, .Name z pz] kt pt] (.Tuple [a, b] k2 pt2) X.env = pure (some [y, z]) := by
  unfold okPar at h
  simp only [Bool.and_eq_true, decide_eq_true_eq, beq_iff_eq, Bool.not_eq_true'] at h
  obtain ⟨⟨⟨⟨⟨⟨⟨h1, h2⟩, h3⟩, h4⟩, h5⟩, h6⟩, h7⟩, h8⟩ := h
  have hb := block_fn (env := X.env) (by rw [O.sc]; exact h1)
  have ky : X.env.kindOf y = some .local := by unfold Env.kindOf; rw [O.sc]; exact h2
  have kz : X.env.kindOf z = some .local := by unfold Env.kindOf; rw [O.sc]; exact h3
  simp only [List.all_cons, List.all_nil, Bool.and_true, Bool.and_eq_true] at h8
  obtain ⟨s1, s2⟩ := h8
  have t1 : ∀ e : Expr, noStar e = true → (match e with | .Starred .. => true | _ => false) = false := fun e he => by
    cases e <;> first | rfl | (cases he; done)
  have he : [y, z].eraseDups.length = 2 := by
    have hz : (z == y) = false := beq_false_of_ne fun e => h5 e.symm
    simp [List.eraseDups_cons, hz]
  unfold swappedStores
  simp [hb, ky, kz, h6, h7, h4, Expr.pos, he]
  intro hx
  rcases hx with hx | hx
  · cases a <;> first | (cases s1; done) | (cases hx; done)
  · cases b <;> first | (cases s2; done) | (cases hx; done)
theorem par3_stores (O : XOk c W call k cx E' X) {x y z : Str} {px py pz pt pt2 : Pos} {kt k2 : Nat} {a b d : Expr} (h : okPar3 c x y z px py pz [a, b, d] = true) :
    swappedStores [.Tuple [.Name x px, .Name y py, .Name z pz] kt pt] (.Tuple [a, b, d] k2 pt2) X.env = pure (some [x, y, z]) := by
  unfold okPar3 at h
  simp only [Bool.and_eq_true, decide_eq_true_eq, beq_iff_eq, Bool.not_eq_true'] at h
  obtain ⟨⟨⟨⟨⟨⟨⟨⟨⟨⟨⟨h1, h2⟩, h3⟩, h4⟩, h5⟩, h6⟩, h7⟩, h8⟩, h9⟩, h10⟩, h11⟩, h12⟩ := h
  have hb := block_fn (env := X.env) (by rw [O.sc]; exact h1)
  have kx : X.env.kindOf x = some .local := by unfold Env.kindOf; rw [O.sc]; exact h2
  have ky : X.env.kindOf y = some .local := by unfold Env.kindOf; rw [O.sc]; exact h3
  have kz : X.env.kindOf z = some .local := by unfold Env.kindOf; rw [O.sc]; exact h4
  simp only [List.all_cons, List.all_nil, Bool.and_true, Bool.and_eq_true] at h12
  obtain ⟨s1, s2, s3⟩ := h12
  have he : [x, y, z].eraseDups.length = 3 := by
    have e1 : (y == x) = false := beq_false_of_ne fun e => h7 e.symm
    have e2 : (z == x) = false := beq_false_of_ne fun e => h8 e.symm
    have e3 : (z == y) = false := beq_false_of_ne fun e => h9 e.symm
    simp [List.eraseDups_cons, e1, e2, e3]
  unfold swappedStores
  simp [hb, kx, ky, kz, h10, h11, h5, h6, Expr.pos, he]
  intro hx
  rcases hx with hx | hx | hx
  · cases a <;> first | (cases s1; done) | (cases hx; done)
  · cases b <;> first | (cases s2; done) | (cases hx; done)
  · cases d <;> first | (cases s3; done) | (cases hx; done)
theorem t_par3 {i j l : Nat} {x y z : Str} {px py pz pt : Pos} {kt k2 : Nat} {pt2 pos : Pos} {a b d : Expr} {xx : XW} {ms : Ev → M (List D)} (hc : X.calm = true) (hN : X.N.Nodup) (hi : X.N[i]? = some x) (hj : X.N[j]? = some y) (hl : X.N[l]? = some z) (hij : i ≠ j) (hil : i ≠ l) (hjl : j ≠ l)
    (hx : X.env.scope.names.lookup x = some .local) (hy : X.env.scope.names.lookup y = some .local) (hz : X.env.scope.names.lookup z = some .local) (ha : PA X [a, b, d] (tEs W xx ms)) (hw : swappedStores [.Tuple [.Name x px, .Name y py, .Name z pz] kt pt] (.Tuple [a, b, d] k2 pt2) X.env = pure (some [x, y, z])) :
    PS X (.Assign [.Tuple [.Name x px, .Name y py, .Name z pz] kt pt] (.Tuple [a, b, d] k2 pt2) pos) (tF W xx fun v => ms v >>= fun xs => op (setsE v [i, j, l] xs) >>= fun v' => pure (.nx v')) := by
  refine ps_mono (ps_par3 hc hN hi hj hl hij hil hjl hx hy hz ha hw) fun D σ H _ h => ?_
  obtain ⟨W', iw, ρ, η, env, sim, er, h⟩ := h
  refine ⟨W', iw, ρ, η, env, sim, er, h.bind.mono fun ds η1 ρ1 H1 e1 s1 h1 vs rs => ?_⟩
  obtain ⟨v', hv, w⟩ := h1.bind.op
  have hl := sets_len _ _ _ _ hv
  match ds, hl with
  | [d1, d2, d3], _ =>
    obtain ⟨u1, r', e3, r1, r2⟩ := (show ∃ v r, vs = v :: r ∧ Rep W' ρ1 H1 d1 v ∧ Reps W' ρ1 H1 [d2, d3] r from rs)
    obtain ⟨u2, u3, e4, r3, r4⟩ := reps2 r2
    subst e4; subst e3
    exact ⟨u1, u2, u3, rfl, (w ρ1 H1 .refl s1).pure s1 _ (sets_ok [i, j, l] [d1, d2, d3] [u1, u2, u3] env v' σ (er.ext e1 sim.ok) rs hv)⟩
mutual
theorem soundS : ∀ (s : S) (c : Cn) (st : Stmt) (E' : XK) (X : Cx), okS s c st = true → XOk c W call k cx E' X → TopOk X E' → PS X st (tF W (xK E') (evS call s))
  | .set i e, c, st, E', X, h, O, TP => by
    simp only [okS] at h
    split at h
    · rename_i y p v pos
      simp only [Bool.and_eq_true] at h
      obtain ⟨⟨h1, h2⟩, h3⟩ := h
      obtain ⟨a1, a2, a3⟩ := set_of O h2
      have ih := (soundE e c v E' X h1 O).pe
      by_cases hc : noComp v = true
      · exact t_set (nd_of O) a1 a2 ih (swaps_no hc _ _ _) a3
      · cases v <;> simp only [noComp, not_true_eq_false] at hc <;> simp only [okSw, Bool.false_eq_true] at h3
        rename_i elt gs scope lp
        have hk : c.sc.kind = .function := by simpa using h3
        have hsw := sw_val (l := pos.line) (y := y) (p := p) (e := elt) (gs := gs) (scope := scope) (pos := lp) O hk
        cases hq : swN c y p (.ListComp elt gs scope lp) with
        | false => exact t_set (nd_of O) a1 a2 ih (by rw [hsw, hq]) a3
        | true =>
          rw [hq] at hsw
          have hl : X.env.scope.names.lookup y = some .local := by
            unfold swN at hq
            simp only [Bool.and_eq_true, beq_iff_eq] at hq
            rw [O.sc]
            exact hq.1.1.2
          exact setLc_of O h1 a1 hl hsw
    · cases h
  | .setc i es, c, st, E', X, h, O, TP => by
    simp only [okS] at h
    split at h
    · simp only [Bool.and_eq_true] at h
      obtain ⟨a1, a2, a3⟩ := set_of O h.2
      exact t_setc (nd_of O) a1 a2 (soundEs es c _ E' X h.1 O).pa a3
    · cases h
  | .setd i, c, st, E', X, h, O, TP => by
    simp only [okS] at h
    split at h
    · obtain ⟨a1, a2, a3⟩ := set_of O h
      exact t_setd (nd_of O) a1 a2 a3
    · cases h
  | .sett is e, c, st, E', X, h, O, TP => by
    simp only [okS] at h
    split at h
    · simp only [Bool.and_eq_true] at h
      obtain ⟨⟨⟨h1, h2⟩, h3⟩, h4⟩ := h
      obtain ⟨n1, n2⟩ := names_each (env := X.env) h2
      refine t_sett O.calm O.hK (names_pgs O h2) n1 n2 (soundE e c _ E' X h1 O).pe (sole_no h3 _ _ _) ?_
      rcases Bool.or_eq_true_iff.mp h4 with h4 | h4
      · exact stores_no h4 _ _ _ _
      · rcases Bool.or_eq_true_iff.mp h4 with h4 | h4
        · exact stores_cell O.sc h4 _ _ _
        · exact stores_cst h4 _ _ _ _
    · cases h
  | .par is es, c, st, E', X, h, O, TP => by
    simp only [okS] at h
    split at h
    · rename_i i j y py z pz kt pt v w k2 pt2 pos
      simp only [Bool.and_eq_true, decide_eq_true_eq] at h
      obtain ⟨⟨⟨⟨h1, h2⟩, h3⟩, h4⟩, h5⟩ := h
      obtain ⟨a1, a2, a3⟩ := set_of O h3
      obtain ⟨b1, b2, b3⟩ := set_of O h4
      have hp := par_stores (pt := pt) (pt2 := pt2) (kt := kt) (k2 := k2) O h5
      unfold okPar at h5
      simp only [Bool.and_eq_true, decide_eq_true_eq] at h5
      exact t_par2 O.calm (nd_of O) a1 b1 h2 (by rw [O.sc]; exact h5.1.1.1.1.1.1.2) (by rw [O.sc]; exact h5.1.1.1.1.1.2) (soundEs es c _ E' X h1 O).pa hp
    · rename_i i j l x px y py z pz kt pt u v w k2 pt2 pos
      simp only [Bool.and_eq_true, decide_eq_true_eq] at h
      obtain ⟨⟨⟨⟨⟨⟨⟨h1, h2⟩, h3⟩, h4⟩, g1⟩, g2⟩, g3⟩, h5⟩ := h
      obtain ⟨a1, a2, a3⟩ := set_of O g1
      obtain ⟨b1, b2, b3⟩ := set_of O g2
      obtain ⟨c1, c2, c3⟩ := set_of O g3
      have hp := par3_stores (pt := pt) (pt2 := pt2) (kt := kt) (k2 := k2) O h5
      unfold okPar3 at h5
      simp only [Bool.and_eq_true, decide_eq_true_eq] at h5
      exact t_par3 O.calm (nd_of O) a1 b1 c1 h2 h3 h4 (by rw [O.sc]; exact h5.1.1.1.1.1.1.1.1.1.1.2) (by rw [O.sc]; exact h5.1.1.1.1.1.1.1.1.1.2) (by rw [O.sc]; exact h5.1.1.1.1.1.1.1.1.2) (soundEs es c _ E' X h1 O).pa hp
    · cases h
  | .aug i o e, c, st, E', X, h, O, TP => by
    simp only [okS] at h
    split at h
    · simp only [Bool.and_eq_true] at h
      obtain ⟨a1, a2, a3⟩ := set_of O h.2
      exact t_aug (nd_of O) a1 a2 (soundE e c _ E' X h.1 O).pe a3
    · cases h
  | .seti a b e, c, st, E', X, h, O, TP => by
    simp only [okS] at h
    split at h
    · simp only [Bool.and_eq_true] at h
      obtain ⟨⟨⟨⟨h1, h2⟩, h3⟩, h4⟩, h5⟩ := h
      have hu : X.A.units + 1 < cLine := by have := O.units; omega
      exact t_seti hu (soundE a c _ E' X h1 O).pe (soundE b c _ E' X h2 O).pe (soundE e c _ E' X h3 O).pe (sole_no h4 _ _ _) (stores_sub _) rfl (assign_sub h5 _ _)
    · cases h
  | .ex e, c, st, E', X, h, O, TP => by
    simp only [okS] at h
    split at h
    · simp only [Bool.and_eq_true] at h
      exact t_ex (soundE e c _ E' X h.1 O).pe (swaps_no h.2 _ _ _)
    · cases h
  | .ret e, c, st, E', X, h, O, TP => by
    simp only [okS] at h
    split at h
    · exact t_ret (soundE e c _ E' X h O).pe
    · cases h
  | .retn, c, st, E', X, h, O, TP => by
    simp only [okS] at h
    split at h
    · exact t_retn
    · cases h
  | .retc es, c, st, E', X, h, O, TP => by
    simp only [okS] at h
    split at h
    · exact t_retc (soundEs es c _ E' X h O).pa
    · cases h
  | .iff t a b, c, st, E', X, h, O, TP => by
    simp only [okS] at h
    split at h
    · simp only [Bool.and_eq_true] at h
      obtain ⟨⟨⟨h1, h2⟩, h3⟩, h4⟩ := h
      refine tf_eq (t_iff ((soundE t c _ E' X h1 O).pt h2) (soundSs a c _ E' X h3 O TP) (soundSs b c _ E' X h4 O TP)) ?_
      funext v
      show _ = (evE call t v >>= fun x => testD x >>= fun r => if r then evSs call a v else evSs call b v)
      simp only [bind_assoc']
    · cases h
  | .for tg it b, c, st, E', X, h, O, TP => by
    simp only [okS] at h
    split at h
    · simp only [Bool.and_eq_true] at h
      obtain ⟨⟨⟨h1, h2⟩, h3⟩, h4⟩ := h
      exact t_for O.own O.calm (soundI it c _ _ E' X h1 O) (tg_of O h2).1 (soundSs b c _ E' X h3 O TP) (folded_no h4 _)
    · cases h
  | .wh n t b, c, st, E', X, h, O, TP => by
    simp only [okS] at h
    split at h
    · simp only [Bool.and_eq_true] at h
      obtain ⟨⟨h1, h2⟩, h3⟩ := h
      exact t_wh n O.own ((soundE t c _ E' X h1 O).pt h2) (soundSs b c _ E' X h3 O TP)
    · cases h
  | .pas, c, st, E', X, h, O, TP => by
    simp only [okS] at h
    split at h
    · exact t_pas
    · cases h
  | .brk, c, st, E', X, h, O, TP => by
    simp only [okS] at h
    split at h
    · exact t_brk
    · cases h
  | .cnt, c, st, E', X, h, O, TP => by
    simp only [okS] at h
    split at h
    · exact t_cnt
    · cases h
  | .never, c, st, E', X, h, O, TP => ps_mono ps_never fun D σ H _ ⟨W', iw, ρ, η, env, sim, er, h⟩ => h
  | .raise q e, c, st, E', X, h, O, TP => by
    simp only [okS] at h
    split at h
    · simp only [Bool.and_eq_true] at h
      obtain ⟨⟨⟨⟨h1, h2⟩, h3⟩, h4⟩, h5⟩ := h
      exact s_raise O TP (cl_of h3) (gl_of O h4) (dbg_of h5).1 (soundE e c _ E' X h1 O).pe h2
    · cases h
  | .tryv b i j cs, c, st, E', X, h, O, TP => by
    simp only [okS] at h
    split at h
    · simp only [Bool.and_eq_true, decide_eq_true_eq] at h
      obtain ⟨⟨⟨⟨⟨⟨⟨⟨⟨⟨h1, h2⟩, h3⟩, h4⟩, h5⟩, h6⟩, h7⟩, h8⟩, h9⟩, h10⟩, h11⟩ := h
      subst h2
      exact s_try O TP h1 (by rw [O.hN]; exact h3) (by unfold Env.kindOf; rw [O.sc]; exact h5) (by rw [O.hN]; exact h4) (by unfold Env.kindOf; rw [O.sc]; exact h6) (cs_of h7).2 (cl_of h8) (gl_of O h9) (dbg_of h10).1 (dbg_of h11).1 (dbg_of h11).2.1
    · cases h
theorem soundSs : ∀ (ss : Ss) (c : Cn) (sts : List Stmt) (E' : XK) (X : Cx), okSs ss c sts = true → XOk c W call k cx E' X → TopOk X E' → PSs X sts (tF W (xK E') (evSs call ss))
  | .nil, c, sts, E', X, h, O, TP => by
    cases sts with
    | nil => exact t_nil
    | cons a as => simp [okSs] at h
  | .cons s ss, c, sts, E', X, h, O, TP => by
    cases sts with
    | nil => simp [okSs] at h
    | cons a as =>
      simp only [okSs, Bool.and_eq_true] at h
      exact t_cons (soundS s c a E' X h.1 O TP) (soundSs ss c as E' X h.2 O TP)
end
end
end MI
end
/-! MIs -/
section
set_option linter.all false
set_option maxRecDepth 100000
set_option maxHeartbeats 8000000
/-! A def's body keeps its promise: what MI says of the call. -/
namespace MI
open PySem L2

section
variable {W : Wd} {ρ ρ' : List Addr} {η η' : List C} {H : Hp}
theorem pre_mem (hp : ρ <+: ρ') {a : Addr} (h : a ∈ ρ) : a ∈ ρ' := by
  obtain ⟨t, rfl⟩ := hp
  exact List.mem_append_left _ h
theorem pre_cut (hp : ρ <+: ρ') {k : Nat} {a : Addr} (hk : k < ρ.length) (h : ρ'[k]? = some a) : ρ[k]? = some a := by
  obtain ⟨t, rfl⟩ := hp
  rw [List.getElem?_append_left hk] at h
  exact h
mutual
theorem Rep.cut (hp : ρ <+: ρ') : ∀ {d : D} {v : V}, below ρ.length d = true → Rep W ρ' H d v → Rep W ρ H d v
  | .non, _, _, h => h
  | .bl _, _, _, h => h
  | .int _, _, _, h => h
  | .str _, _, _, h => h
  | .tup ds, v, b, h => by
    obtain ⟨a, vs, e, q, l, r⟩ := (show ∃ a vs, v = .ref a ∧ SqT W.K H a vs ∧ ds.length ≤ sizeLine ∧ Reps W ρ' H ds vs from h)
    exact ⟨a, vs, e, q, l, Reps.cut hp (by simpa [below] using b) r⟩
  | .lst ds, v, b, h => by
    obtain ⟨a, vs, e, ⟨q, n⟩, l, r⟩ := (show ∃ a vs, v = .ref a ∧ (H a = some (.lst vs) ∧ Fr W ρ' a) ∧ ds.length ≤ sizeLine ∧ Reps W ρ' H ds vs from h)
    exact ⟨a, vs, e, ⟨q, fun m => n.1 (pre_mem hp m), n.2⟩, l, Reps.cut hp (by simpa [below] using b) r⟩
  | .scr ds, v, b, h => by
    obtain ⟨a, vs, e, q, l, r⟩ := (show ∃ a vs, v = .ref a ∧ ((Rd H a (.lst vs) ∧ Fr W ρ' a) ∨ KL W.K a vs) ∧ ds.length ≤ sizeLine ∧ Reps W ρ' H ds vs from h)
    exact ⟨a, vs, e, q.imp (fun ⟨q, n⟩ => ⟨q, fun m => n.1 (pre_mem hp m), n.2⟩) id, l, Reps.cut hp (by simpa [below] using b) r⟩
  | .dct ks, v, b, h => by
    obtain ⟨a, vs, e, ⟨q, n⟩, l, r⟩ := (show ∃ a kvs, v = .ref a ∧ (H a = some (.dK kvs) ∧ Fr W ρ' a) ∧ ks.length ≤ sizeLine ∧ RepK W ρ' H ks kvs from h)
    exact ⟨a, vs, e, ⟨q, fun m => n.1 (pre_mem hp m), n.2⟩, l, RepK.cut hp (by simpa [below] using b) r⟩
  | .cel k, v, b, h => by
    obtain ⟨a, e, q⟩ := (show ∃ a, v = .ref a ∧ ρ'[k]? = some a from h)
    exact ⟨a, e, pre_cut hp (by simpa [below] using b) q⟩
  | .fn _, _, _, h => h
  | .err q d, v, b, h => by
    obtain ⟨a, dd, z, e, ⟨h1, n1⟩, ⟨h2, n2⟩, r⟩ := (show ∃ a dd x, v = .ref a ∧ (H a = some (exv a (.ref (W.Fn (clsB + q))) dd) ∧ Fr W ρ' a) ∧ (H dd = some (vxd x) ∧ Fr W ρ' dd) ∧ Rep W ρ' H d x from h)
    exact ⟨a, dd, z, e, ⟨h1, fun m => n1.1 (pre_mem hp m), n1.2⟩, ⟨h2, fun m => n2.1 (pre_mem hp m), n2.2⟩, Rep.cut hp (by simpa [below] using b) r⟩
theorem Reps.cut (hp : ρ <+: ρ') : ∀ {ds : List D} {vs : List V}, belows ρ.length ds = true → Reps W ρ' H ds vs → Reps W ρ H ds vs
  | [], _, _, h => h
  | d :: ds, vs, b, h => by
    obtain ⟨v, r, e, h1, h2⟩ := (show ∃ v r, vs = v :: r ∧ Rep W ρ' H d v ∧ Reps W ρ' H ds r from h)
    simp only [belows, Bool.and_eq_true] at b
    exact ⟨v, r, e, Rep.cut hp b.1 h1, Reps.cut hp b.2 h2⟩
theorem RepK.cut (hp : ρ <+: ρ') : ∀ {ds : List (Key × D)} {vs : List (Key × V)}, belowk ρ.length ds = true → RepK W ρ' H ds vs → RepK W ρ H ds vs
  | [], _, _, h => h
  | (k, d) :: ds, vs, b, h => by
    obtain ⟨v, r, e, h1, h2⟩ := (show ∃ v r, vs = (k, v) :: r ∧ Rep W ρ' H d v ∧ RepK W ρ' H ds r from h)
    simp only [belowk, Bool.and_eq_true] at b
    exact ⟨v, r, e, Rep.cut hp b.1 h1, RepK.cut hp b.2 h2⟩
end
theorem Sim.cut (hp : ρ <+: ρ') (s : Sim W ρ' η H) (hb : (η.take ρ.length).all (belowC ρ.length) = true) : Sim W ρ (η.take ρ.length) H := by
  have hl := hp.length_le
  refine ⟨?_, fun z hz => ⟨(s.zed z hz).1, fun m => (s.zed z hz).2 (pre_mem hp m)⟩, ?_, fun k a cc e1 e2 => ?_⟩
  · obtain ⟨t, e⟩ := hp
    have := s.nd
    rw [← e] at this
    exact (List.nodup_append.mp this).1
  · rw [List.length_take, ← s.len]
    omega
  · have hk : k < ρ.length := get_len e1
    have hbc : belowC ρ.length cc = true := List.all_eq_true.mp hb _ (List.mem_of_getElem? e2)
    rw [List.getElem?_take_of_lt hk] at e2
    have q := s.at_ k a cc (pre_get hp e1) e2
    cases cc with
    | lst ds => obtain ⟨vs, z, l, r⟩ := q; exact ⟨vs, z, l, Reps.cut hp hbc r⟩
    | dct ks => obtain ⟨vs, z, l, r⟩ := q; exact ⟨vs, z, l, RepK.cut hp hbc r⟩
theorem Ext.cut {H0 : Hp} {ρ1 : List Addr} (e : Ext ρ H0 ρ1 H) : Ext ρ H0 ρ H := ⟨List.prefix_refl _, fun b o h n => ⟨(e.keep b o h n).1, n⟩, e.was⟩
theorem freeze (hp : ρ <+: ρ') (s : Sim W ρ' η H) {k : Nat} {v : V} (hk : ¬ k < ρ.length) (r : Rep W ρ' H (.cel k) v) (hb : below ρ.length (view η (.cel k)) = true) : Rep W ρ H (view η (.cel k)) v := by
  obtain ⟨a, e, q⟩ := (show ∃ a, v = .ref a ∧ ρ'[k]? = some a from r)
  obtain ⟨cc, hc⟩ := s.cell q
  have z := s.at_ k a cc q hc
  have hv : view η (.cel k) = (match cc with | .lst xs => .lst xs | .dct ks => .dct ks) := by
    simp only [view, hc]
    cases cc <;> rfl
  rw [hv] at hb ⊢
  have na : a ∉ ρ := fun m => by
    obtain ⟨j, ej⟩ := List.mem_iff_getElem?.mp m
    have ej' := pre_get hp ej
    have := (List.getElem?_inj (get_len q) s.nd).mp (q.trans ej'.symm)
    exact hk (by rw [this]; exact get_len ej)
  have nz : a ∉ W.Z := fun m => (s.zed a m).2 (List.mem_iff_getElem?.mpr ⟨k, q⟩)
  cases cc with
  | lst ds =>
    obtain ⟨vs, z1, z2, z3⟩ := z
    exact ⟨a, vs, e, ⟨z1, na, nz⟩, z2, Reps.cut hp (by simpa [below] using hb) z3⟩
  | dct ks =>
    obtain ⟨vs, z1, z2, z3⟩ := z
    exact ⟨a, vs, e, ⟨z1, na, nz⟩, z2, RepK.cut hp (by simpa [below] using hb) z3⟩
/-- the end of a call -/
theorem settle_post {x : XW} {H0 : Hp} {ρ1 : List Addr} {d : D} {Q : VK} {v : V} (s0 : Sim W ρ η' H0) (e : Ext ρ H0 ρ1 H) (s : Sim W ρ1 η H) (rd : Rep W ρ1 H d v) (h : Post W x (settle η'.length d η) ρ H0 (kkV W Q)) : Q v H := by
  unfold settle at h
  split at h
  · exact h ρ1 H e s v rd
  · rename_i hn
    rw [← s0.len] at h hn
    have hgen : ∀ d' : D, (below ρ.length d' = true → Rep W ρ H d' v) → Post W x (if below ρ.length d' && (η.take ρ.length).all (belowC ρ.length) then R.ok d' (η.take ρ.length) else R.no) ρ H0 (kkV W Q) → Q v H := by
      intro d' hr hh
      split at hh
      · rename_i hb
        simp only [Bool.and_eq_true] at hb
        exact hh ρ H e.cut (s.cut e.pre hb.2) v (hr hb.1)
      · exact hh.elim
    cases d with
    | cel k =>
      by_cases hk : k < ρ.length
      · refine hgen (.cel k) (fun hb => rd.cut e.pre hb) ?_
        simpa [hk] using h
      · refine hgen (view η (.cel k)) (fun hb => freeze e.pre s hk rd hb) ?_
        simpa [hk] using h
    | _ => exact hgen _ (fun hb => rd.cut e.pre hb) h
theorem run_post {x : XW} (hx : ∀ W c d η ρ ρ' H, ρ <+: ρ' → below ρ.length d = true → x W c d (η.take ρ.length) ρ H → x W c d η ρ' H) {call : Nat → List D → M D} {fi : Fn} {ds : List D} {Q : VK} (s0 : Sim W ρ η H) (h : Post W x (runF call fi ds η) ρ H (kkV W Q)) :
    ds.length = fi.np ∧ Post W x (evSs call fi.body (startE fi.ns ds) η) ρ H (kF W { nx := fun _ H' => Q .non H', rt := Q }) := by
  unfold runF at h
  split at h
  · rename_i hl
    refine ⟨hl, ?_⟩
    split at h
    · exact h.elim
    · rename_i c d h' e
      rw [e]
      split at h
      · rename_i hb
        simp only [Bool.and_eq_true] at hb
        intro ρ' H' ee s
        rw [← s0.len] at h hb
        exact hx W c d h' ρ ρ' H' ee.pre hb.1 (h ρ H' ee.cut (s.cut ee.pre hb.2))
      · exact h.elim
    · rename_i r h' e
      rw [e]
      intro ρ' H' ee s
      split at h
      · intro σ' er
        split at h
        · exact h ρ' H' ee s _ rfl
        · exact settle_post s0 ee s (d := .non) rfl h
      · intro v rv
        split at h
        · exact h ρ' H' ee s _ rv
        · exact settle_post s0 ee s rv h
      · exact h.elim
  · exact h.elim
theorem env_start {N : List Str} {n : Nat} {ds : List D} {vs : List V} (hn : n = N.length) (r : Reps W ρ H ds vs) : EnvR W ρ H (startE n ds) (L2.start N vs) := by
  subst hn
  refine ⟨by simp [startE, L2.start, r.len], fun i d h => ?_⟩
  unfold startE at h
  unfold L2.start
  by_cases hi : i < ds.length
  · rw [List.getElem?_append_left (by simpa using hi), List.getElem?_map] at h
    rw [List.getElem?_append_left (by rw [List.length_map, r.len]; exact hi), List.getElem?_map]
    cases e : ds[i]? with
    | none => rw [e] at h; cases h
    | some d' =>
      rw [e] at h
      simp at h
      subst h
      obtain ⟨v, hv, rv⟩ := r.get e
      exact ⟨v, by rw [hv]; rfl, rv⟩
  · rw [List.getElem?_append_right (by simpa using Nat.le_of_not_lt hi), List.getElem?_replicate] at h
    split at h <;> simp at h
end
end MI
end
/-! MIt -/
section
set_option linter.all false
set_option maxRecDepth 100000
set_option maxHeartbeats 8000000
/-! The promise of every def of a table, by the depth. -/
namespace MI
open PySem L2 PyProof.Rows

theorem xk_cut (E : XK) : ∀ W c d η ρ ρ' H, ρ <+: ρ' → below ρ.length d = true → xK E W c d (η.take ρ.length) ρ H → xK E W c d η ρ' H := fun _ _ _ _ _ _ _ hp hb h v dd r q => h v dd (Rep.cut hp hb r) q
/-- a def of the text and its tree of MI -/
structure DefOk (T : Tab) (W : Wd) (f : Nat) (fi : Fn) (ps : List Str) : Prop where
  ex : ∃ (x qual : Str) (params : Arguments) (body : List Stmt) (scope : Scope) (N : List Str) (fd : FuncData), FunD W.K x qual params body scope [] [] (W.Fn f) fd ∧ FnScope N ps scope ∧ fi.np = ps.length ∧ fi.ns = N.length ∧
    okSs fi.body ⟨T, N, scope, fun _ => true⟩ body = true ∧
    (∀ (kV doc pm : Value) (an : Option Addr) (cdv ct : Value), BindF (PySem.W.fnOf x qual params body scope .none kV doc pm an cdv ct) ps ps.length [] (List.range ps.length) ∧
      ∀ ks p, (f, ks, p) ∈ T.kw → BindF (PySem.W.fnOf x qual params body scope .none kV doc pm an cdv ct) ps 0 ks p)
section
variable {T : Tab} {W : Wd} {fx : Nat → Option Fn} {cx : CXT} {P : Program} {w : World} {mg : Str → Option Value} {base : Heap}
/-- the table's word about the module -/
structure TabOk (T : Tab) (W : Wd) (fx : Nat → Option Fn) (mg : Str → Option Value) : Prop where
  glob : ∀ p ∈ T.glob, ∃ u v, mg p.1 = some u ∧ RelV v u ∧ ∀ W' ρ H, InW W W' → Rep W' ρ H p.2 v
  bn : ∀ y ∈ T.bn, mg y = none
  fns : ∀ p ∈ T.fns, mg p.1 = some (.ref (W.Fn p.2.1))
  defs : ∀ p ∈ T.fns, ∃ fi ps, fx p.2.1 = some fi ∧ ps.length = p.2.2 ∧ DefOk T W p.2.1 fi ps
/-- the def's object as the written part has it -/
theorem fund_eq {K : PySem.W.Frag} {x qual : Str} {params : Arguments} {body : List Stmt} {scope : Scope} {f : Addr} {fd : FuncData} (F : FunD K x qual params body scope [] [] f fd) :
    ∃ (oc : Value) (od : Option Addr) (kV doc pm : Value) (an : Option Addr) (cdv ct : Value) (osl : Array (Option Value)), fd = PySem.W.fnOf x qual params body scope .none kV doc pm an cdv ct ∧ K.lookup f = some ⟨oc, od, .func fd, osl⟩ ∧ PySem.W.codeIn K cdv qual = true := by
  obtain ⟨oc, od, dV, kV, doc, pm, an, cdv, ct, osl, e, lk, hcd, hD, _⟩ := F.ex
  rcases hD with ⟨_, e0⟩ | ⟨e0, _⟩
  · subst e0
    exact ⟨oc, od, kV, doc, pm, an, cdv, ct, osl, e, lk, hcd⟩
  · exact absurd rfl e0
theorem body_go {cx : CXT} {K : PySem.W.Frag} {k : Nat} {f : Addr} {name qual : Str} {params : Arguments} {body : List Stmt} {scope : Scope} {dV kV doc pm cdv ct oc : Value} {an od : Option Addr}
    {osl : Array (Option Value)} {N ps : List Str} {sp : Sp} (lk : K.lookup f = some ⟨oc, od, .func (PySem.W.fnOf name qual params body scope dV kV doc pm an cdv ct), osl⟩) (hcd : PySem.W.codeIn K cdv qual = true) (S : FnScope N ps scope) (num : ∀ us H Q E, sp us H Q E → us.length = ps.length)
    (hb : ∀ (A : Around) (fr : List Env) (t : Shared) (H : Hp) (vs : List V) (Q : VK) (E : XK), Room k (A.deeper (envOfC qual scope t.heap.objs.size f cdv)) → A.guards = some [] → sp vs H Q E →
      ∃ r, PSs (cxOf cx P w K mg base N qual scope f cdv A fr t H E) body r ∧ r { nx := fun _ H' => Q .non H', rt := Q } (L2.start N vs) H) :
    FnG P w K mg base cx (k + 1) f (PySem.W.fnOf name qual params body scope dV kV doc pm an cdv ct) ps sp := by
  refine ⟨num, fun A fr t H ar us vs Q E room hg e0 bt rv hsp => ?_⟩
  have inH : K.In t.heap := e0.mod.kin.keeps fun b o e => (e0.bs b o e).1
  have lim0 : t.heap.NoLimit := e0.mod.nolimit.keeps fun b o e => (e0.bs b o e).1
  refine codeAny_call_function room.depth (inH _ _ lk) rfl S.co S.gen rfl (PySem.W.codeRec_of inH hcd) (bt _ _ _ _ (wpAny_newFunctionEnv_cells S.kind (fun y hy => ?_) fun env henv t1 inc => ?_))
  · rcases S.par y.1 (List.of_mem_zip (show (y.1, y.2) ∈ ps.zip us from hy)).1 with z | z
    · exact .inl z
    · exact .inr ⟨z, PySem.W.cellsFrom_some _ _ _ (.inl z)⟩
  · subst henv
    obtain ⟨r, hr, hq⟩ := hb A fr t H vs Q E (room.deeper _) hg hsp
    have I0 : Inv (cxOf cx P w K mg base N qual scope f cdv A fr t H E) [] (L2.start N vs) H t1 := inv_start S room.hd e0 (num _ _ _ _ hsp) rv inc
    refine ⟨lim0.keeps inc.toInCall.keep, codeAny_func (wpAny_mono (hr.run [] t1 _ H _ I0 hq) (fun fl t2 z => ?_) fun e t2 z => z)⟩
    match fl, z with
    | .ret u, ⟨v, σ', H', J, rr, q⟩ => exact ⟨v, H', J.os, J.bare, J.base, J.hok, rr, q⟩
    | .next, ⟨σ', H', J, q⟩ => exact ⟨V.non, H', J.os, J.bare, J.base, J.hok, (rfl : RelV V.non Value.none), q⟩
    | .brk, ⟨_, _, _, q⟩ => exact q.elim
    | .cont, ⟨_, _, _, q⟩ => exact q.elim
theorem proms (TO : TabOk T W fx mg) (hcx : cx = L2.CX P w) (hE : T.cls ≠ [] → ∀ base, ME.ErrOk T.cls W cx P w W.K mg base) :
    ∀ (k : Nat), ∀ p ∈ T.fns, ∃ fd ps, ps.length = p.2.2 ∧ ∀ base, Pro T W (callF fx k) (k + 2) cx P w W.K mg base p.2.1 fd ps
  | 0, p, hp => by
    obtain ⟨fi, ps, hfi, hl, D⟩ := TO.defs p hp
    obtain ⟨x, qual, params, body, scope, N, fd, F, S, h1, h2, h3, h4⟩ := D.ex
    obtain ⟨oc, od, kV, doc, pm, an, cdv, ct, osl, e, lk, hcd⟩ := fund_eq F
    subst e
    obtain ⟨b1, b2⟩ := h4 kV doc pm an cdv ct
    exact ⟨_, ps, hl, fun base => ⟨⟨fun _ _ _ _ ⟨_, _, _, _, _, _, _, h⟩ => h.elim, fun _ _ _ _ _ _ _ _ _ _ _ _ _ _ ⟨_, _, _, _, _, _, _, h⟩ => h.elim⟩, F.kp, b1, b2, fun _ _ _ => rfl⟩⟩
  | k + 1, p, hp => by
    obtain ⟨fi, ps, hfi, hl, D⟩ := TO.defs p hp
    obtain ⟨x, qual, params, body, scope, N, fd, F, S, h1, h2, h3, h4⟩ := D.ex
    obtain ⟨oc, od, kV, doc, pm, an, cdv, ct, osl, e, lk, hcd⟩ := fund_eq F
    subst e
    obtain ⟨b1, b2⟩ := h4 kV doc pm an cdv ct
    have hc : ∀ ds, callF fx (k + 1) p.2.1 ds = runF (callF fx k) fi ds := fun ds => by
      show (match fx p.2.1 with | some fi => runF (callF fx k) fi ds | none => no) = _
      rw [hfi]
    have num : ∀ ds η, ds.length ≠ ps.length → callF fx (k + 1) p.2.1 ds η = .no := fun ds η hn => by
      rw [hc]
      unfold runF
      rw [if_neg (by rw [h1]; exact hn)]
    refine ⟨_, ps, hl, fun base => ⟨body_go lk hcd S (fun us H Q E ⟨W', iw, ρ, η, ds, sim, rs, h⟩ => ?_) (fun A fr t H vs Q E room hg hsp => ?_), F.kp, b1, b2, num⟩⟩
    · by_cases hn : ds.length = ps.length
      · rw [rs.len, hn]
      · exact (post_no h (num ds η hn)).elim
    · obtain ⟨W', iw, ρ, η, ds, sim, rs, h⟩ := hsp
      rw [hc] at h
      obtain ⟨g1, g2⟩ := run_post (xk_cut E) sim h
      have hF : ∀ o H s e s', cx o H s (fun _ _ _ => False) e s' → False := fun o H s e s' h => by
        rw [hcx] at h
        obtain ⟨_, _, _, _, _, _, _, _, _, _, _, _, z⟩ := h
        exact z
      have tk : Takes (cxOf cx P w W.K mg base N qual scope (W.Fn p.2.1) cdv A fr t H E) (fun cls d _ H => E cls d H) := by
        subst hcx
        exact takes_of rfl rfl rfl rfl
      have hx : Passes cx (cxOf cx P w W.K mg base N qual scope (W.Fn p.2.1) cdv A fr t H E) E := by
        subst hcx
        exact fun pins σ H0 s e s' I h => tk e s' (XE.of_call I (fun cls d H' h => h) h)
      refine ⟨_, soundSs fi.body ⟨T, N, scope, fun _ => true⟩ body E _ h3 (W := W) (call := callF fx k) (k := k + 2) (cx := cx) ?_ ⟨rfl, rfl, rfl, tk⟩, W', iw, ρ, η, startE fi.ns ds, sim, env_start h2 rs, g2⟩
      exact {
        hK := rfl
        hN := rfl
        nd := S.nd
        sc := rfl
        calm := rfl
        room := room
        hg := hg
        own := passes_of (K := fun e t2 => cx fr H t E e t2) rfl
        fnl := fun _ _ => rfl
        glob := TO.glob
        bn := TO.bn
        fns := TO.fns
        prom := fun q hq => let ⟨fd, ps, l, Z⟩ := proms TO hcx hE k q hq; ⟨fd, ps, l, Z base⟩
        hx := hx
        hF := hF
        hcx := hcx
        two := Nat.le_add_left 2 k
        errs := fun h => hE h base }
end
end MI
end
/-! MIu -/
section
set_option linter.all false
set_option maxRecDepth 100000
set_option maxHeartbeats 8000000
/-! The law's end over a promise of MI. -/
namespace MI
open PySem PySem.Spec L2 PyProof.Rows

/-- the law is called: the script alone is tracked, if the module has not made it -/
theorem law_go {P : Program} {w : World} {K : PySem.W.Frag} {mg mb : Str → Option Value} {cx : CXT} {k : Nat} {fa a : Addr} {fd : FuncData} {y : Str} {sp : Sp} {t : Shared} {items : List Value} {zs : List Int}
    (inK : K.In t.heap) (nsG : t.heap.Ns mainGlobals mg) (nsB : t.heap.Ns builtinsNs mb) (bB : ∀ z : Str, z ≠ "__name__" → mb z = bootBuiltins z) (noLim : t.heap.NoLimit) (noGen : t.gens = #[])
    (atA : t.heap.get? a = some { cls := .type "list", data := .seq items.toArray }) (zints : IntsAre items zs) (few : zs.length ≤ sizeLine) (room : Room k callerA)
    (F : ∀ base : Heap, K.In base → base.Ns mainGlobals mg → FnG P w K mg base cx k fa fd [y] sp) (bd : ∀ (s : Shared) (u : Value), BindsTo s fd ⟨[u], []⟩ [(y, u)])
    (hsp : ∀ G : Hp, SqL K G a (zs.map V.int) → sp [.ref a] G (fun v _ => v = .bl true) fun _ _ _ => False)
    (noX : ∀ G e t', cx [] G t (fun _ _ _ => False) e t' → False) :
    codeAny (model P w) callerA (.call (.ref fa) ⟨[.ref a], []⟩) (fun r t' => r = .ok (.ret (.bool true)) ∧ OldK t.heap t'.heap ∧ t'.os = t.os ∧ AllBare t'.gens) t := by
  have rel := vals_ints zints
  have len := zints.length
  -- G tracks the script or nothing
  suffices main : ∀ G : Hp, (∀ b u, G b = some u → b = a ∧ K.lookup a = none ∧ u = .frz { cls := .type "list", data := .seq items.toArray } (.lst (zs.map V.int))) → SqL K G a (zs.map V.int) →
      codeAny (model P w) callerA (.call (.ref fa) ⟨[.ref a], []⟩) (fun r t' => r = .ok (.ret (.bool true)) ∧ OldK t.heap t'.heap ∧ t'.os = t.os ∧ AllBare t'.gens) t by
    cases hk : K.lookup a with
    | some o =>
      have same := inK a o hk
      rw [atA] at same
      cases same
      exact main (fun _ => none) (fun b u z => by cases z) (.inr ⟨_, items.toArray, _, hk, rfl, rfl, rfl, by rw [List.size_toArray, len]; exact few, by simpa using rel⟩)
    | none =>
      refine main (fun b => if b = a then some (.frz { cls := .type "list", data := .seq items.toArray } (.lst (zs.map V.int))) else none) (fun b u z => ?_) (.inl (.inr ⟨_, if_pos rfl⟩))
      by_cases c : b = a
      · rw [if_pos c] at z
        cases z
        exact ⟨c, hk, rfl⟩
      · rw [if_neg c] at z
        cases z
  intro G only sq
  have hok : HOk P w G t.heap := fun b u z => by
    obtain ⟨rfl, _, rfl⟩ := only b u z
    exact ⟨atA, by rw [List.length_map]; exact few, items, _, rel, atA⟩
  have keepsK : ∀ b o, K.lookup b = some o → G b = none := fun b o z => by
    cases q : G b with
    | none => rfl
    | some u =>
      obtain ⟨rfl, n, _⟩ := only b u q
      rw [n] at z; cases z
  have notDict : ∀ {b : Addr} {o : Obj} {es : Array DictEntry} {n : Nat}, t.heap.get? b = some o → o.data = .dict es n → G b = none := fun {b o es n} z d => by
    cases q : G b with
    | none => rfl
    | some u =>
      obtain ⟨rfl, _, _⟩ := only b u q
      rw [atA] at z
      cases z
      cases (show Data.seq items.toArray _ = Data.dict es n from d)
  have toBase : ∀ {b : Addr} {m : Str → Option Value}, t.heap.Ns b m → (hidT t.heap G).Ns b m := fun ⟨o, es, n, e, d, r⟩ => ⟨o, es, n, hidT_get e (notDict e d), d, r⟩
  have kBase : K.In (hidT t.heap G) := fun b o z => hidT_get (inK b o z) (keepsK b o z)
  obtain ⟨mc, lim1, lim2⟩ := noLim
  have modB : Mod K mg (hidT t.heap G) := ⟨kBase, toBase nsG, ⟨mb, toBase nsB, bB⟩, mc, toBase lim1, lim2⟩
  have start0 : Env0 P w K mg (hidT t.heap G) callerA [] t G := ⟨rfl, modB, fun _ _ z => of_hidT z, Nat.le_of_eq (hidT_size _ _), trivial, fun b z => absurd (show b ∈ ([] : List Addr) from z) (by simp), hok, .of_eq noGen⟩
  refine codeAny_mono ((F _ kBase (toBase nsG)).go callerA [] t G _ [.ref a] [.ref a] _ _ room rfl start0 (bd t _) (.cons rfl .nil) (hsp G sq)) fun r t' res => ?_
  match r, res with
  | .error e, res => exact (noX G e t' res).elim
  | .ok .next, res => exact res.elim
  | .ok .brk, res => exact res.elim
  | .ok .cont, res => exact res.elim
  | .ok (.ret u), ⟨v, G', sameOs, bare, un, ok', rv, q⟩ =>
    have q : v = .bl true := q
    subst q
    have eu : u = Value.bool true := rv
    subst eu
    refine ⟨rfl, .of_keep fun b o z => ?_, sameOs, bare⟩
    cases c : G b with
    | none => exact un.keep b o z c (fun m => absurd (show b ∈ ([] : List Addr) from m) (by simp)) (by simp)
    | some u' =>
      obtain ⟨rfl, _, rfl⟩ := only b u' c
      rw [atA] at z
      cases z
      exact (ok' _ _ (un.frzs _ _ _ c)).1
theorem walk_g {l : PySem.W.OpenLaw} {n k : Nat} {q : Program} {loose : List Str} {XP : (Str → Option Value) → Heap → Prop} {YP : World → Heap → Prop} {d : DefRec} {cx : World → CXT}
    (most : l.most = some n) (le : n ≤ sizeLine) (noDef : d.params.defaults = []) (room : Room k callerA)
    (F : ∀ (w : World) (mg : Str → Option Value) (fa : Addr) (h : Heap), YP w h → h.Ns mainGlobals mg → mg d.name = some (.ref fa) →
      ∃ (K : PySem.W.Frag) (fd : FuncData) (y : Str) (sp : Sp), K.In h ∧ (∀ (s : Shared) (u : Value), BindsTo s fd ⟨[u], []⟩ [(y, u)]) ∧
        (∀ (G : Hp) (a : Addr) (zs : List Int), zs.length ≤ n → (∀ z ∈ zs, Builtin.Int.intBits z ≤ 1048576) → SqL K G a (zs.map V.int) → sp [.ref a] G (fun v _ => v = .bl true) fun _ _ _ => False) ∧
        ∀ base : Heap, K.In base → base.Ns mainGlobals mg → FnG l.prog w K mg base (cx w) k fa fd [y] sp)
    (noX : ∀ (w : World) (G : Hp) (s : Shared) (e : Value) (t' : Shared), cx w [] G s (fun _ _ _ => False) e t' → False) :
    PySem.W.WalkO q loose XP YP l.row.toRowW d [] (fun f vs => PySem.call f vs) :=
  Att.attach_callB most noDef fun w _ t mg mb fa _ _ _ _ a items zs G Y _ _ _ hmg atA zints few bits gens =>
    let ⟨_, _, _, _, inK, bd, hsp, hF⟩ := F w mg fa _ Y G.T.g hmg
    law_go inK G.T.g G.T.b G.T.builtins G.T.nolimit gens atA zints (Nat.le_trans few le) room hF bd (fun G0 sq => hsp G0 a zs few bits sq) fun G0 e t' => noX w G0 t e t'
/-- the script's value -/
theorem law_sp {W : Wd} (hZ : W.Z = []) {m : List D → M D} {H : Hp} {a : Addr} {zs : List Int} {E : XK} (hl : zs.length ≤ sizeLine) (sq : SqL W.K H a (zs.map V.int)) (hm : m [.scr (zs.map .int)] [] = .ok (.bl true) []) :
    spF W m [.ref a] H (fun v _ => v = .bl true) E := by
  have reps : ∀ zs : List Int, Reps W [] H (zs.map D.int) (zs.map V.int) := fun zs => by
    induction zs with
    | nil => exact Reps.nil
    | cons z zs ih => exact Reps.cons rfl ih
  refine ⟨W, ⟨rfl, rfl⟩, [], [], [.scr (zs.map .int)], ⟨List.nodup_nil, fun z hz => ?_, rfl, fun k a c e => by simp at e⟩, Reps.cons ⟨a, _, rfl, ?_, by rw [List.length_map]; exact hl, reps zs⟩ Reps.nil, ?_⟩
  · rw [hZ] at hz
    exact absurd hz (by simp)
  · rcases sq with q | q
    · exact .inl ⟨q, by simp, by rw [hZ]; simp⟩
    · exact .inr q
  · rw [hm]
    intro ρ' H' _ _ v rv
    exact rv
end MI
end
/-! K12a -/
section
set_option linter.all false
set_option maxRecDepth 1000000
set_option maxHeartbeats 0
/-! The trees of the law. -/
namespace K12
open PySem L2 MI
/-- is_tuple: value, low, high -/
def b_is_tuple : Ss :=
  .cons (.ret (.and (.cons (.isi (.var 0) .tuple) (.cons (.cmp .GtE (.bi .len (.cons (.var 0) (.nil))) (.var 1)) (.cons (.or (.cons (.cmp .Is (.var 2) (.cst (.non))) (.cons (.cmp .LtE (.bi .len (.cons (.var 0) (.nil))) (.var 2)) (.nil)))) (.nil)))))) (.nil)
/-- is_word: value, words -/
def b_is_word : Ss :=
  .cons (.ret (.and (.cons (.isi (.var 0) .str) (.cons (.cmp .In (.var 0) (.var 1)) (.nil))))) (.nil)
/-- anew: value, part -/
def b_anew : Ss :=
  .cons (.iff (.isi (.var 0) .list) (.cons (.ret (.lc (.call 2 (.cons (.var 1) (.nil))) (.one 1) (.val (.var 0)) (.none) [1])) (.nil)) (.nil)) (.cons (.iff (.isi (.var 0) .tuple) (.cons (.ret (.bi .tuple (.cons (.lc (.call 2 (.cons (.var 1) (.nil))) (.one 1) (.val (.var 0)) (.none) [1]) (.nil)))) (.nil)) (.nil)) (.cons (.ret (.var 0)) (.nil)))
/-- is_formed: value, part -/
def b_is_formed : Ss :=
  .cons (.iff (.or (.cons (.not (.call 0 (.cons (.var 0) (.cons (.cst (.int 1)) (.cons (.cst (.int 3)) (.nil)))))) (.cons (.not (.call 1 (.cons (.ix (.var 0) (.cst (.int 0))) (.cons (.bin .Add (.tup (.cons (.cst (.str "yes")) (.cons (.cst (.str "is")) (.cons (.cst (.str "not")) (.nil))))) (.cst (.tup [.str "and", .str "or", .str "until", .str "since"]))) (.nil))))) (.nil)))) (.cons (.ret (.cst (.bl false))) (.nil)) (.nil)) (.cons (.iff (.cmp .Eq (.ix (.var 0) (.cst (.int 0))) (.cst (.str "yes"))) (.cons (.ret (.cmp .Eq (.bi .len (.cons (.var 0) (.nil))) (.cst (.int 1)))) (.nil)) (.nil)) (.cons (.iff (.cmp .Eq (.ix (.var 0) (.cst (.int 0))) (.cst (.str "is"))) (.cons (.ret (.and (.cons (.cmp .Eq (.bi .len (.cons (.var 0) (.nil))) (.cst (.int 2))) (.cons (.call 1 (.cons (.ix (.var 0) (.cst (.int 1))) (.cons (.cst (.tup [.str "a", .str "b", .str "c", .str "d", .str "e", .str "f", .str "g", .str "h"])) (.nil)))) (.nil))))) (.nil)) (.nil)) (.cons (.iff (.cmp .NotEq (.bi .len (.cons (.var 0) (.nil))) (.ite (.cmp .Eq (.ix (.var 0) (.cst (.int 0))) (.cst (.str "not"))) (.cst (.int 2)) (.cst (.int 3)))) (.cons (.ret (.cst (.bl false))) (.nil)) (.nil)) (.cons (.ret (.bi .all (.cons (.lc (.call 3 (.cons (.var 1) (.nil))) (.one 1) (.val (.sl (.var 0) (.some (.cst (.int 1))) (.none))) (.none) [1]) (.nil)))) (.nil)))))
/-- inner_sayings: saying -/
def b_inner_sayings : Ss :=
  .cons (.ret (.ite (.cmp .In (.ix (.var 0) (.cst (.int 0))) (.tup (.cons (.cst (.str "yes")) (.cons (.cst (.str "is")) (.nil))))) (.tup (.nil)) (.sl (.var 0) (.some (.cst (.int 1))) (.none)))) (.nil)
/-- words_of: saying, part -/
def b_words_of : Ss :=
  .cons (.ret (.bin .Add (.cst (.int 1)) (.bi .sum (.cons (.lc (.call 5 (.cons (.var 1) (.nil))) (.one 1) (.val (.call 4 (.cons (.var 0) (.nil)))) (.none) [1]) (.nil))))) (.nil)
/-- levels_of: saying, part -/
def b_levels_of : Ss :=
  .cons (.ret (.bin .Add (.cst (.int 1)) (.maxd (.lc (.call 6 (.cons (.var 1) (.nil))) (.one 1) (.val (.call 4 (.cons (.var 0) (.nil)))) (.none) [1]) (.cst (.int 0))))) (.nil)
/-- swapped: saying, word, part -/
def b_swapped : Ss :=
  .cons (.set 1 (.dgt [(.inr "until", .inr "since"), (.inr "since", .inr "until")] (.ix (.var 0) (.cst (.int 0))) (.ix (.var 0) (.cst (.int 0))))) (.cons (.iff (.cmp .In (.ix (.var 0) (.cst (.int 0))) (.tup (.cons (.cst (.str "yes")) (.cons (.cst (.str "is")) (.nil))))) (.cons (.ret (.var 0)) (.nil)) (.nil)) (.cons (.ret (.bin .Add (.tup (.cons (.var 1) (.nil))) (.bi .tuple (.cons (.lc (.call 7 (.cons (.var 2) (.nil))) (.one 2) (.val (.call 4 (.cons (.var 0) (.nil)))) (.none) [2]) (.nil))))) (.nil)))
/-- is_saying: value -/
def b_is_saying : Ss :=
  .cons (.ret (.and (.cons (.call 3 (.cons (.var 0) (.nil))) (.cons (.cmp .LtE (.call 5 (.cons (.var 0) (.nil))) (.cst (.int 40))) (.cons (.cmp .LtE (.call 6 (.cons (.var 0) (.nil))) (.cst (.int 12))) (.nil)))))) (.nil)
/-- need_saying: saying -/
def b_need_saying : Ss :=
  .cons (.iff (.not (.call 8 (.cons (.var 0) (.nil)))) (.cons (.raise 1 (.call 2 (.cons (.var 0) (.nil)))) (.nil)) (.nil)) (.nil)
/-- turned: saying -/
def b_turned : Ss :=
  .cons (.ex (.call 9 (.cons (.var 0) (.nil)))) (.cons (.ret (.call 7 (.cons (.var 0) (.nil)))) (.nil))
/-- met_behind: kept, wanted, found, comes, own, wish -/
def b_met_behind : Ss :=
  .cons (.par [2, 3] (.cons (.nls (.nil)) (.cons (.cst (.bl false)) (.nil)))) (.cons (.for (.two 4 5) (.zip (.rev (.var 0)) (.rev (.var 1))) (.cons (.ex (.app (.var 2) (.var 3))) (.cons (.set 3 (.or (.cons (.var 5) (.cons (.and (.cons (.var 4) (.cons (.var 3) (.nil)))) (.nil))))) (.nil)))) (.cons (.ret (.rev (.var 2))) (.nil)))
/-- truths: word, saying, letter, own, one, other, mine, yours -/
def b_truths : Ss :=
  .cons (.iff (.cmp .Eq (.ix (.var 1) (.cst (.int 0))) (.cst (.str "yes"))) (.cons (.ret (.lc (.cst (.bl true)) (.one 2) (.val (.var 0)) (.none) [2])) (.nil)) (.nil)) (.cons (.iff (.cmp .Eq (.ix (.var 1) (.cst (.int 0))) (.cst (.str "is"))) (.cons (.ret (.lc (.cmp .Eq (.var 2) (.ix (.var 1) (.cst (.int 1)))) (.one 2) (.val (.var 0)) (.none) [2])) (.nil)) (.nil)) (.cons (.iff (.cmp .Eq (.ix (.var 1) (.cst (.int 0))) (.cst (.str "not"))) (.cons (.ret (.lc (.not (.var 3)) (.one 3) (.val (.call 12 (.cons (.var 0) (.cons (.ix (.var 1) (.cst (.int 1))) (.nil))))) (.none) [3])) (.nil)) (.nil)) (.cons (.par [4, 5] (.cons (.call 12 (.cons (.var 0) (.cons (.ix (.var 1) (.cst (.int 1))) (.nil)))) (.cons (.call 12 (.cons (.var 0) (.cons (.ix (.var 1) (.cst (.int 2))) (.nil)))) (.nil)))) (.cons (.iff (.cmp .Eq (.ix (.var 1) (.cst (.int 0))) (.cst (.str "until"))) (.cons (.ret (.call 11 (.cons (.var 4) (.cons (.var 5) (.nil))))) (.nil)) (.nil)) (.cons (.iff (.cmp .Eq (.ix (.var 1) (.cst (.int 0))) (.cst (.str "since"))) (.cons (.ret (.rev (.call 11 (.cons (.rev (.var 4)) (.cons (.rev (.var 5)) (.nil)))))) (.nil)) (.nil)) (.cons (.iff (.cmp .Eq (.ix (.var 1) (.cst (.int 0))) (.cst (.str "and"))) (.cons (.ret (.lc (.and (.cons (.var 6) (.cons (.var 7) (.nil)))) (.two 6 7) (.zip (.var 4) (.var 5)) (.none) [6, 7])) (.nil)) (.nil)) (.cons (.ret (.lc (.or (.cons (.var 6) (.cons (.var 7) (.nil)))) (.two 6 7) (.zip (.var 4) (.var 5)) (.none) [6, 7])) (.nil))))))))
/-- need_word: word, sign -/
def b_need_word : Ss :=
  .cons (.iff (.or (.cons (.not (.isi (.var 0) .str)) (.cons (.not (.chain .LtE .LtE (.cst (.int 1)) (.bi .len (.cons (.var 0) (.nil))) (.cst (.int 300)))) (.cons (.bi .any (.cons (.lc (.cmp .NotIn (.var 1) (.cst (.tup [.str "a", .str "b", .str "c", .str "d", .str "e", .str "f", .str "g", .str "h"]))) (.one 1) (.val (.var 0)) (.none) [1]) (.nil))) (.nil))))) (.cons (.raise 2 (.call 2 (.cons (.var 0) (.nil)))) (.nil)) (.nil)) (.nil)
/-- truth: word, saying -/
def b_truth : Ss :=
  .cons (.ex (.call 13 (.cons (.var 0) (.nil)))) (.cons (.ex (.call 9 (.cons (.var 1) (.nil)))) (.cons (.ret (.bi .tuple (.cons (.call 12 (.cons (.var 0) (.cons (.var 1) (.nil)))) (.nil)))) (.nil)))
/-- _law_well: script, k, cell, whole, part, blend -/
def b_law_well : Ss :=
  .cons (.set 2 (.ite (.cmp .Lt (.var 1) (.bi .len (.cons (.var 0) (.nil)))) (.bi .int (.cons (.ix (.var 0) (.var 1)) (.nil))) (.bin .Add (.bin .Mult (.cst (.int 89)) (.var 1)) (.cst (.int 43))))) (.cons (.set 3 (.bin .Add (.cst (.int 41)) (.bi .len (.cons (.var 0) (.nil))))) (.cons (.for (.one 4) (.val (.sl (.var 0) (.none) (.some (.cst (.int 63))))) (.cons (.set 3 (.bin .Mod (.bi .int (.cons (.bin .Add (.bin .Mult (.var 3) (.cst (.int 6007))) (.bin .Mod (.bi .int (.cons (.var 4) (.nil))) (.bin .Add (.bin .Pow (.cst (.int 10)) (.cst (.int 19))) (.cst (.int 51))))) (.nil))) (.bin .Add (.bin .Pow (.cst (.int 10)) (.cst (.int 25))) (.cst (.int 13))))) (.nil))) (.cons (.set 5 (.bin .Mod (.bi .int (.cons (.bin .Add (.bin .Add (.bin .Add (.bin .Mult (.bi .abs (.cons (.var 2) (.nil))) (.cst (.int 7411))) (.bin .Mult (.var 3) (.cst (.int 43)))) (.bin .Mult (.cst (.int 5)) (.bi .int (.cons (.cmp .Lt (.var 2) (.cst (.int 0))) (.nil))))) (.bin .Mult (.cst (.int 67)) (.var 1))) (.nil))) (.bin .Add (.bin .Pow (.cst (.int 10)) (.cst (.int 28))) (.cst (.int 331))))) (.cons (.retc (.cons (.bi .max2 (.cons (.cst (.int 0)) (.cons (.bin .Sub (.bi .abs (.cons (.var 2) (.nil))) (.bin .Pow (.cst (.int 10)) (.cst (.int 18)))) (.nil)))) (.cons (.var 5) (.cons (.cst (.int 0)) (.nil))))) (.nil)))))
/-- _law_draw: well, many, found, step, blend -/
def b_law_draw : Ss :=
  .cons (.iff (.cmp .Gt (.ix (.var 0) (.cst (.int 0))) (.cst (.int 0))) (.cons (.set 2 (.bin .Mod (.bi .int (.cons (.ix (.var 0) (.cst (.int 0))) (.nil))) (.var 1))) (.cons (.seti (.var 0) (.cst (.int 0)) (.bin .FloorDiv (.ix (.var 0) (.cst (.int 0))) (.var 1))) (.cons (.ret (.var 2)) (.nil)))) (.nil)) (.cons (.seti (.var 0) (.cst (.int 2)) (.bin .Add (.ix (.var 0) (.cst (.int 2))) (.cst (.int 1)))) (.cons (.set 3 (.ix (.var 0) (.cst (.int 2)))) (.cons (.set 4 (.bin .Mod (.bi .int (.cons (.bin .Add (.bin .Add (.bin .Mult (.bin .Mult (.bin .Add (.ix (.var 0) (.cst (.int 1))) (.cst (.int 41))) (.bin .Add (.var 3) (.cst (.int 9)))) (.cst (.int 998244353))) (.bin .Mult (.bin .Mult (.bin .Mult (.var 3) (.var 3)) (.var 3)) (.cst (.int 424242427)))) (.cst (.int 93))) (.nil))) (.bin .Add (.bin .Pow (.cst (.int 10)) (.cst (.int 29))) (.cst (.int 319))))) (.cons (.set 4 (.bin .Mod (.bi .int (.cons (.bin .Add (.bin .Add (.bin .Mult (.var 4) (.var 4)) (.bin .Mult (.ix (.var 0) (.cst (.int 1))) (.cst (.int 5)))) (.var 3)) (.nil))) (.bin .Add (.bin .Pow (.cst (.int 10)) (.cst (.int 31))) (.cst (.int 33))))) (.cons (.set 4 (.bin .Mod (.bi .int (.cons (.bin .Add (.bin .Mult (.bin .Mult (.var 4) (.var 4)) (.cst (.int 3))) (.bin .Mult (.var 4) (.cst (.int 17)))) (.nil))) (.bin .Add (.bin .Pow (.cst (.int 10)) (.cst (.int 33))) (.cst (.int 603))))) (.cons (.ret (.bin .Mod (.bi .int (.cons (.bin .FloorDiv (.var 4) (.cst (.int 50021))) (.nil))) (.var 1))) (.nil)))))))
/-- _law_lot: well, deep, way -/
def b_law_lot : Ss :=
  .cons (.set 2 (.call 16 (.cons (.var 0) (.cons (.cst (.int 7)) (.nil))))) (.cons (.iff (.or (.cons (.cmp .Eq (.var 1) (.cst (.int 0))) (.cons (.cmp .Lt (.var 2) (.cst (.int 3))) (.nil)))) (.cons (.ret (.ix (.lst (.cons (.tup (.cons (.cst (.str "yes")) (.nil))) (.cons (.tup (.cons (.cst (.str "is")) (.cons (.cst (.str "a")) (.nil)))) (.cons (.tup (.cons (.cst (.str "is")) (.cons (.cst (.str "b")) (.nil)))) (.cons (.tup (.cons (.cst (.str "is")) (.cons (.cst (.str "a")) (.nil)))) (.nil)))))) (.call 16 (.cons (.var 0) (.cons (.cst (.int 4)) (.nil)))))) (.nil)) (.nil)) (.cons (.iff (.cmp .Lt (.var 2) (.cst (.int 5))) (.cons (.ret (.tup (.cons (.cst (.str "not")) (.cons (.call 17 (.cons (.var 0) (.cons (.bin .Sub (.var 1) (.cst (.int 1))) (.nil)))) (.nil))))) (.nil)) (.nil)) (.cons (.ret (.tup (.cons (.ix (.lst (.cons (.cst (.str "and")) (.cons (.cst (.str "or")) (.nil)))) (.bin .Sub (.var 2) (.cst (.int 5)))) (.cons (.call 17 (.cons (.var 0) (.cons (.bin .Sub (.var 1) (.cst (.int 1))) (.nil)))) (.cons (.call 17 (.cons (.var 0) (.cons (.bin .Sub (.var 1) (.cst (.int 1))) (.nil)))) (.nil)))))) (.nil))))
/-- _law_asked: well, most, word, own, other, way -/
def b_law_asked : Ss :=
  .cons (.set 2 (.ix (.lst (.cons (.cst (.str "until")) (.cons (.cst (.str "since")) (.nil)))) (.call 16 (.cons (.var 0) (.cons (.cst (.int 2)) (.nil)))))) (.cons (.set 3 (.tup (.cons (.var 2) (.cons (.call 17 (.cons (.var 0) (.cons (.cst (.int 1)) (.nil)))) (.cons (.call 17 (.cons (.var 0) (.cons (.cst (.int 1)) (.nil)))) (.nil)))))) (.cons (.iff (.and (.cons (.cmp .Gt (.var 1) (.cst (.int 1))) (.cons (.cmp .Gt (.call 16 (.cons (.var 0) (.cons (.cst (.int 3)) (.nil)))) (.cst (.int 0))) (.nil)))) (.cons (.set 4 (.call 18 (.cons (.var 0) (.cons (.bin .Sub (.var 1) (.cst (.int 1))) (.nil))))) (.cons (.set 5 (.call 16 (.cons (.var 0) (.cons (.cst (.int 4)) (.nil))))) (.cons (.iff (.cmp .Eq (.var 5) (.cst (.int 0))) (.cons (.ret (.tup (.cons (.var 2) (.cons (.var 4) (.cons (.ix (.var 3) (.cst (.int 2))) (.nil)))))) (.nil)) (.nil)) (.cons (.iff (.cmp .Eq (.var 5) (.cst (.int 1))) (.cons (.ret (.tup (.cons (.var 2) (.cons (.ix (.var 3) (.cst (.int 1))) (.cons (.tup (.cons (.cst (.str "and")) (.cons (.var 4) (.cons (.ix (.var 3) (.cst (.int 2))) (.nil))))) (.nil)))))) (.nil)) (.nil)) (.cons (.ret (.tup (.cons (.ix (.lst (.cons (.cst (.str "and")) (.cons (.cst (.str "or")) (.nil)))) (.bin .Sub (.var 5) (.cst (.int 2)))) (.cons (.var 3) (.cons (.ite (.cmp .Eq (.call 16 (.cons (.var 0) (.cons (.cst (.int 2)) (.nil)))) (.cst (.int 0))) (.tup (.cons (.cst (.str "not")) (.cons (.var 4) (.nil)))) (.var 4)) (.nil)))))) (.nil)))))) (.nil)) (.cons (.ret (.var 3)) (.nil))))
/-- _law_parts: saying, pile, found, own -/
def b_law_parts : Ss :=
  .cons (.never) (.cons (.never) (.cons (.never) (.nil)))
/-- _law_truth: word, saying, letter, first, own, second, found, at, places -/
def b_law_truth : Ss :=
  .cons (.iff (.cmp .In (.ix (.var 1) (.cst (.int 0))) (.tup (.cons (.cst (.str "yes")) (.cons (.cst (.str "is")) (.nil))))) (.cons (.ret (.lc (.or (.cons (.cmp .Eq (.ix (.var 1) (.cst (.int 0))) (.cst (.str "yes"))) (.cons (.cmp .Eq (.var 2) (.ix (.var 1) (.cst (.int 1)))) (.nil)))) (.one 2) (.val (.var 0)) (.none) [2])) (.nil)) (.nil)) (.cons (.set 3 (.call 20 (.cons (.var 0) (.cons (.ix (.var 1) (.cst (.int 1))) (.nil))))) (.cons (.iff (.cmp .Eq (.ix (.var 1) (.cst (.int 0))) (.cst (.str "not"))) (.cons (.ret (.lc (.not (.var 4)) (.one 4) (.val (.var 3)) (.none) [4])) (.nil)) (.nil)) (.cons (.par [5, 6] (.cons (.call 20 (.cons (.var 0) (.cons (.ix (.var 1) (.cst (.int 2))) (.nil)))) (.cons (.nls (.nil)) (.nil)))) (.cons (.for (.one 7) (.rng1 (.bi .len (.cons (.var 0) (.nil)))) (.cons (.iff (.cmp .In (.ix (.var 1) (.cst (.int 0))) (.tup (.cons (.cst (.str "and")) (.cons (.cst (.str "or")) (.nil))))) (.cons (.ex (.app (.var 6) (.ite (.cmp .Eq (.ix (.var 1) (.cst (.int 0))) (.cst (.str "and"))) (.and (.cons (.ix (.var 3) (.var 7)) (.cons (.ix (.var 5) (.var 7)) (.nil)))) (.or (.cons (.ix (.var 3) (.var 7)) (.cons (.ix (.var 5) (.var 7)) (.nil))))))) (.nil)) (.cons (.set 8 (.ite (.cmp .Eq (.ix (.var 1) (.cst (.int 0))) (.cst (.str "until"))) (.lrg 2 (.cons (.bin .Add (.var 7) (.cst (.int 1))) (.cons (.bi .len (.cons (.var 0) (.nil))) (.nil)))) (.lrg 3 (.cons (.bin .Sub (.var 7) (.cst (.int 1))) (.cons (.neg (.cst (.int 1))) (.cons (.neg (.cst (.int 1))) (.nil))))))) (.cons (.ex (.app (.var 6) (.call 21 (.cons (.var 3) (.cons (.var 5) (.cons (.var 8) (.nil))))))) (.nil)))) (.nil))) (.cons (.ret (.var 6)) (.nil))))))
/-- _law_comes: first, second, places, place -/
def b_law_comes : Ss :=
  .cons (.for (.one 3) (.val (.var 2)) (.cons (.iff (.ix (.var 1) (.var 3)) (.cons (.ret (.cst (.bl true))) (.nil)) (.nil)) (.cons (.iff (.not (.ix (.var 0) (.var 3))) (.cons (.ret (.cst (.bl false))) (.nil)) (.nil)) (.nil)))) (.cons (.ret (.cst (.bl false))) (.nil))
/-- _law_steps_right: word, saying, told, first, second, at, due -/
def b_law_steps_right : Ss :=
  .cons (.par [2, 3, 4] (.cons (.call 14 (.cons (.var 0) (.cons (.var 1) (.nil)))) (.cons (.call 14 (.cons (.var 0) (.cons (.ix (.var 1) (.cst (.int 1))) (.nil)))) (.cons (.call 14 (.cons (.var 0) (.cons (.ix (.var 1) (.cst (.int 2))) (.nil)))) (.nil))))) (.cons (.for (.one 5) (.rng1 (.bi .len (.cons (.var 0) (.nil)))) (.cons (.set 6 (.and (.cons (.cmp .Lt (.bin .Add (.var 5) (.cst (.int 1))) (.bi .len (.cons (.var 0) (.nil)))) (.cons (.or (.cons (.ix (.var 4) (.bin .Add (.var 5) (.cst (.int 1)))) (.cons (.and (.cons (.ix (.var 3) (.bin .Add (.var 5) (.cst (.int 1)))) (.cons (.ix (.var 2) (.bin .Add (.var 5) (.cst (.int 1)))) (.nil)))) (.nil)))) (.nil))))) (.cons (.iff (.cmp .NotEq (.ix (.var 2) (.var 5)) (.var 6)) (.cons (.ret (.cst (.bl false))) (.nil)) (.nil)) (.nil)))) (.cons (.ret (.cst (.bl true))) (.nil)))
/-- _law_refused: word, saying, caught, error -/
def b_law_refused : Ss :=
  .cons (.set 2 (.cst (.non))) (.cons (.tryv (.call 14 (.cons (.var 0) (.cons (.var 1) (.nil)))) 3 2 [0, 1, 2]) (.cons (.iff (.cmp .Is (.var 2) (.cst (.non))) (.cons (.ret (.cst (.non))) (.nil)) (.nil)) (.cons (.ret (.tup (.cons (.isc (.var 2) 2 [0, 1, 2]) (.cons (.isc (.var 2) 1 [0, 1, 2]) (.cons (.bi .repr (.cons (.val (.var 2) [0, 1, 2]) (.nil))) (.nil)))))) (.nil))))
/-- law: script, k, well, turn, word, letter, saying, due, until, bad, none -/
def b_law : Ss :=
  .cons (.for (.one 1) (.rng1 (.bi .max2 (.cons (.cst (.int 1)) (.cons (.bi .min2 (.cons (.cst (.int 4)) (.cons (.bi .len (.cons (.var 0) (.nil))) (.nil)))) (.nil))))) (.cons (.set 2 (.call 15 (.cons (.var 0) (.cons (.var 1) (.nil))))) (.cons (.for (.one 3) (.rng1 (.cst (.int 5))) (.cons (.set 4 (.bi .join (.cons (.lc (.ix (.cst (.str "abc")) (.call 16 (.cons (.var 2) (.cons (.cst (.int 3)) (.nil))))) (.one 5) (.rng1 (.bin .Add (.cst (.int 1)) (.call 16 (.cons (.var 2) (.cons (.cst (.int 12)) (.nil)))))) (.none) [5]) (.nil)))) (.cons (.iff (.and (.cons (.cmp .Eq (.var 3) (.cst (.int 4))) (.cons (.cmp .Eq (.var 1) (.cst (.int 0))) (.nil)))) (.cons (.set 4 (.sl (.bin .Mult (.var 4) (.cst (.int 300))) (.none) (.some (.cst (.int 300))))) (.nil)) (.nil)) (.cons (.set 6 (.call 18 (.cons (.var 2) (.cons (.cst (.int 3)) (.nil))))) (.cons (.set 7 (.bi .tuple (.cons (.call 20 (.cons (.var 4) (.cons (.var 6) (.nil)))) (.nil)))) (.cons (.iff (.cmp .NotEq (.bi .repr (.cons (.lst (.cons (.call 14 (.cons (.var 4) (.cons (.var 6) (.nil)))) (.cons (.callk 14 (.cons (.var 6) (.cons (.var 4) (.nil))) 2 [1, 0]) (.nil)))) (.nil))) (.bi .repr (.cons (.lst (.cons (.var 7) (.cons (.var 7) (.nil)))) (.nil)))) (.cons (.ret (.cst (.bl false))) (.nil)) (.nil)) (.cons (.iff (.cmp .NotEq (.call 14 (.cons (.rev (.var 4)) (.cons (.call 10 (.cons (.var 6) (.nil))) (.nil)))) (.rev (.var 7))) (.cons (.ret (.cst (.bl false))) (.nil)) (.nil)) (.cons (.set 8 (.tup (.cons (.cst (.str "until")) (.cons (.call 17 (.cons (.var 2) (.cons (.cst (.int 1)) (.nil)))) (.cons (.call 18 (.cons (.var 2) (.cons (.cst (.int 1)) (.nil)))) (.nil)))))) (.cons (.iff (.not (.call 22 (.cons (.var 4) (.cons (.var 8) (.nil))))) (.cons (.ret (.cst (.bl false))) (.nil)) (.nil)) (.cons (.par [9, 10] (.cons (.ix (.lst (.cons (.cst (.non)) (.cons (.cst (.str "")) (.cons (.cst (.str "i")) (.cons (.bin .Mult (.cst (.str "a")) (.cst (.int 301))) (.cons (.lst (.cons (.cst (.str "a")) (.nil))) (.cons (.cst (.str "a b")) (.nil)))))))) (.call 16 (.cons (.var 2) (.cons (.cst (.int 6)) (.nil))))) (.cons (.ix (.lst (.cons (.cst (.non)) (.cons (.tup (.cons (.cst (.str "is")) (.cons (.cst (.str "z")) (.nil)))) (.cons (.lst (.cons (.tup (.cons (.cst (.str "yes")) (.nil))) (.nil))) (.nil))))) (.call 16 (.cons (.var 2) (.cons (.cst (.int 3)) (.nil))))) (.nil)))) (.cons (.iff (.or (.cons (.cmp .NotEq (.call 23 (.cons (.var 9) (.cons (.var 10) (.nil)))) (.tup (.cons (.cst (.bl true)) (.cons (.cst (.bl false)) (.cons (.bi .repr (.cons (.var 9) (.nil))) (.nil)))))) (.cons (.cmp .NotEq (.call 23 (.cons (.var 4) (.cons (.var 10) (.nil)))) (.tup (.cons (.cst (.bl false)) (.cons (.cst (.bl true)) (.cons (.bi .repr (.cons (.var 10) (.nil))) (.nil)))))) (.nil)))) (.cons (.ret (.cst (.bl false))) (.nil)) (.nil)) (.nil)))))))))))) (.nil)))) (.cons (.ret (.cst (.bl true))) (.nil))
def fns : Nat → Option Fn
  | 0 => some ⟨3, 3, false, b_is_tuple⟩
  | 1 => some ⟨2, 2, false, b_is_word⟩
  | 2 => some ⟨1, 2, false, b_anew⟩
  | 3 => some ⟨1, 2, false, b_is_formed⟩
  | 4 => some ⟨1, 1, false, b_inner_sayings⟩
  | 5 => some ⟨1, 2, false, b_words_of⟩
  | 6 => some ⟨1, 2, false, b_levels_of⟩
  | 7 => some ⟨1, 3, false, b_swapped⟩
  | 8 => some ⟨1, 1, false, b_is_saying⟩
  | 9 => some ⟨1, 1, false, b_need_saying⟩
  | 10 => some ⟨1, 1, false, b_turned⟩
  | 11 => some ⟨2, 6, false, b_met_behind⟩
  | 12 => some ⟨2, 8, false, b_truths⟩
  | 13 => some ⟨1, 2, false, b_need_word⟩
  | 14 => some ⟨2, 2, false, b_truth⟩
  | 15 => some ⟨2, 6, true, b_law_well⟩
  | 16 => some ⟨2, 5, false, b_law_draw⟩
  | 17 => some ⟨2, 3, false, b_law_lot⟩
  | 18 => some ⟨2, 6, false, b_law_asked⟩
  | 19 => some ⟨1, 4, false, b_law_parts⟩
  | 20 => some ⟨2, 9, false, b_law_truth⟩
  | 21 => some ⟨3, 4, false, b_law_comes⟩
  | 22 => some ⟨2, 7, false, b_law_steps_right⟩
  | 23 => some ⟨2, 4, false, b_law_refused⟩
  | 24 => some ⟨1, 11, false, b_law⟩
  | _ => none
def tab : Tab where
  glob := [(("LETTERS" : Str), .tup [.str "a", .str "b", .str "c", .str "d", .str "e", .str "f", .str "g", .str "h"]), (("YES" : Str), .str "yes"), (("IS" : Str), .str "is"), (("NOT" : Str), .str "not"), (("AND" : Str), .str "and"), (("UNTIL" : Str), .str "until"), (("SINCE" : Str), .str "since"), (("PAIRS" : Str), .tup [.str "and", .str "or", .str "until", .str "since"]), (("MOST_WORDS" : Str), .int 40), (("MOST_LEVELS" : Str), .int 12), (("MOST_WORD" : Str), .int 300)]
  fns := [(("is_tuple" : Str), 0, 3), (("is_word" : Str), 1, 2), (("anew" : Str), 2, 1), (("is_formed" : Str), 3, 1), (("inner_sayings" : Str), 4, 1), (("words_of" : Str), 5, 1), (("levels_of" : Str), 6, 1), (("swapped" : Str), 7, 1), (("is_saying" : Str), 8, 1), (("need_saying" : Str), 9, 1), (("turned" : Str), 10, 1), (("met_behind" : Str), 11, 2), (("truths" : Str), 12, 2), (("need_word" : Str), 13, 1), (("truth" : Str), 14, 2), (("_law_well" : Str), 15, 2), (("_law_draw" : Str), 16, 2), (("_law_lot" : Str), 17, 2), (("_law_asked" : Str), 18, 2), (("_law_parts" : Str), 19, 1), (("_law_truth" : Str), 20, 2), (("_law_comes" : Str), 21, 3), (("_law_steps_right" : Str), 22, 2), (("_law_refused" : Str), 23, 2), (("law" : Str), 24, 1)]
  bn := [("abs" : Str), ("all" : Str), ("any" : Str), ("int" : Str), ("isinstance" : Str), ("len" : Str), ("list" : Str), ("max" : Str), ("min" : Str), ("range" : Str), ("repr" : Str), ("sorted" : Str), ("str" : Str), ("sum" : Str), ("tuple" : Str), ("zip" : Str)]
  cls := [(("LineError" : Str), 0), (("InvalidSaying" : Str), 1), (("InvalidWord" : Str), 2)]
  kw := [(14, [("saying" : Str), ("word" : Str)], [1, 0])]

abbrev top (i : Nat) : Stmt := PySem.Challenge.pw_momentlines_k12_truth_in_finite_historie.main.body.getD i (.Pass ⟨0, 0, 0, 0⟩)
abbrev st_is_tuple : Stmt := top 5
def N_is_tuple : List Str := ["value", "low", "high"]
theorem ok_is_tuple : okSs b_is_tuple ⟨tab, N_is_tuple, defScope st_is_tuple, fun _ => true⟩ (defBody st_is_tuple) = true := by decide +kernel
abbrev st_is_word : Stmt := top 6
def N_is_word : List Str := ["value", "words"]
theorem ok_is_word : okSs b_is_word ⟨tab, N_is_word, defScope st_is_word, fun _ => true⟩ (defBody st_is_word) = true := by decide +kernel
abbrev st_anew : Stmt := top 7
def N_anew : List Str := ["value", "part"]
theorem ok_anew : okSs b_anew ⟨tab, N_anew, defScope st_anew, fun _ => true⟩ (defBody st_anew) = true := by decide +kernel
abbrev st_is_formed : Stmt := top 18
def N_is_formed : List Str := ["value", "part"]
theorem ok_is_formed : okSs b_is_formed ⟨tab, N_is_formed, defScope st_is_formed, fun _ => true⟩ (defBody st_is_formed) = true := by decide +kernel
abbrev st_inner_sayings : Stmt := top 19
def N_inner_sayings : List Str := ["saying"]
theorem ok_inner_sayings : okSs b_inner_sayings ⟨tab, N_inner_sayings, defScope st_inner_sayings, fun _ => true⟩ (defBody st_inner_sayings) = true := by decide +kernel
abbrev st_words_of : Stmt := top 20
def N_words_of : List Str := ["saying", "part"]
theorem ok_words_of : okSs b_words_of ⟨tab, N_words_of, defScope st_words_of, fun _ => true⟩ (defBody st_words_of) = true := by decide +kernel
abbrev st_levels_of : Stmt := top 21
def N_levels_of : List Str := ["saying", "part"]
theorem ok_levels_of : okSs b_levels_of ⟨tab, N_levels_of, defScope st_levels_of, fun _ => true⟩ (defBody st_levels_of) = true := by decide +kernel
abbrev st_swapped : Stmt := top 22
def N_swapped : List Str := ["saying", "word", "part"]
theorem ok_swapped : okSs b_swapped ⟨tab, N_swapped, defScope st_swapped, fun _ => true⟩ (defBody st_swapped) = true := by decide +kernel
abbrev st_is_saying : Stmt := top 27
def N_is_saying : List Str := ["value"]
theorem ok_is_saying : okSs b_is_saying ⟨tab, N_is_saying, defScope st_is_saying, fun _ => true⟩ (defBody st_is_saying) = true := by decide +kernel
abbrev st_need_saying : Stmt := top 28
def N_need_saying : List Str := ["saying"]
theorem ok_need_saying : okSs b_need_saying ⟨tab, N_need_saying, defScope st_need_saying, fun _ => true⟩ (defBody st_need_saying) = true := by decide +kernel
abbrev st_turned : Stmt := top 29
def N_turned : List Str := ["saying"]
theorem ok_turned : okSs b_turned ⟨tab, N_turned, defScope st_turned, fun _ => true⟩ (defBody st_turned) = true := by decide +kernel
abbrev st_met_behind : Stmt := top 30
def N_met_behind : List Str := ["kept", "wanted", "found", "comes", "own", "wish"]
theorem ok_met_behind : okSs b_met_behind ⟨tab, N_met_behind, defScope st_met_behind, fun _ => true⟩ (defBody st_met_behind) = true := by decide +kernel
abbrev st_truths : Stmt := top 31
def N_truths : List Str := ["word", "saying", "letter", "own", "one", "other", "mine", "yours"]
theorem ok_truths : okSs b_truths ⟨tab, N_truths, defScope st_truths, fun _ => true⟩ (defBody st_truths) = true := by decide +kernel
abbrev st_need_word : Stmt := top 32
def N_need_word : List Str := ["word", "sign"]
theorem ok_need_word : okSs b_need_word ⟨tab, N_need_word, defScope st_need_word, fun _ => true⟩ (defBody st_need_word) = true := by decide +kernel
abbrev st_truth : Stmt := top 33
def N_truth : List Str := ["word", "saying"]
theorem ok_truth : okSs b_truth ⟨tab, N_truth, defScope st_truth, fun _ => true⟩ (defBody st_truth) = true := by decide +kernel
abbrev st_law_well : Stmt := top 35
def N_law_well : List Str := ["script", "k", "cell", "whole", "part", "blend"]
theorem ok_law_well : okSs b_law_well ⟨tab, N_law_well, defScope st_law_well, fun _ => true⟩ (defBody st_law_well) = true := by decide +kernel
abbrev st_law_draw : Stmt := top 36
def N_law_draw : List Str := ["well", "many", "found", "step", "blend"]
theorem ok_law_draw : okSs b_law_draw ⟨tab, N_law_draw, defScope st_law_draw, fun _ => true⟩ (defBody st_law_draw) = true := by decide +kernel
abbrev st_law_lot : Stmt := top 37
def N_law_lot : List Str := ["well", "deep", "way"]
theorem ok_law_lot : okSs b_law_lot ⟨tab, N_law_lot, defScope st_law_lot, fun _ => true⟩ (defBody st_law_lot) = true := by decide +kernel
abbrev st_law_asked : Stmt := top 38
def N_law_asked : List Str := ["well", "most", "word", "own", "other", "way"]
theorem ok_law_asked : okSs b_law_asked ⟨tab, N_law_asked, defScope st_law_asked, fun _ => true⟩ (defBody st_law_asked) = true := by decide +kernel
abbrev st_law_parts : Stmt := top 39
def N_law_parts : List Str := ["saying", "pile", "found", "own"]
theorem ok_law_parts : okSs b_law_parts ⟨tab, N_law_parts, defScope st_law_parts, fun _ => true⟩ (defBody st_law_parts) = true := by decide +kernel
abbrev st_law_truth : Stmt := top 40
def N_law_truth : List Str := ["word", "saying", "letter", "first", "own", "second", "found", "at", "places"]
theorem ok_law_truth : okSs b_law_truth ⟨tab, N_law_truth, defScope st_law_truth, fun _ => true⟩ (defBody st_law_truth) = true := by decide +kernel
abbrev st_law_comes : Stmt := top 41
def N_law_comes : List Str := ["first", "second", "places", "place"]
theorem ok_law_comes : okSs b_law_comes ⟨tab, N_law_comes, defScope st_law_comes, fun _ => true⟩ (defBody st_law_comes) = true := by decide +kernel
abbrev st_law_steps_right : Stmt := top 42
def N_law_steps_right : List Str := ["word", "saying", "told", "first", "second", "at", "due"]
theorem ok_law_steps_right : okSs b_law_steps_right ⟨tab, N_law_steps_right, defScope st_law_steps_right, fun _ => true⟩ (defBody st_law_steps_right) = true := by decide +kernel
abbrev st_law_refused : Stmt := top 43
def N_law_refused : List Str := ["word", "saying", "caught", "error"]
theorem ok_law_refused : okSs b_law_refused ⟨tab, N_law_refused, defScope st_law_refused, fun _ => true⟩ (defBody st_law_refused) = true := by decide +kernel
abbrev st_law : Stmt := top 44
def N_law : List Str := ["script", "k", "well", "turn", "word", "letter", "saying", "due", "until", "bad", "none"]
theorem ok_law : okSs b_law ⟨tab, N_law, defScope st_law, fun _ => true⟩ (defBody st_law) = true := by decide +kernel
end K12
end
/-! MOb -/
section
set_option linter.all false
set_option maxRecDepth 100000
set_option maxHeartbeats 4000000
/-! Data: shown and compared. -/
namespace MI
open PySem
mutual
/-- plain data; its whole numbers have at most ninety digits -/
def datD : D → Bool
  | .non => true
  | .bl _ => true
  | .int i => decide (i.natAbs < 10 ^ 90)
  | .str x => PyData.strOk x
  | .tup xs => datDs xs
  | .lst xs => datDs xs
  | _ => false
def datDs : List D → Bool
  | [] => true
  | x :: xs => datD x && datDs xs
end
mutual
def dpD : D → Nat
  | .tup xs => dpDs xs + 1
  | .lst xs => dpDs xs + 1
  | _ => 0
def dpDs : List D → Nat
  | [] => 0
  | x :: xs => max (dpD x) (dpDs xs)
end
mutual
def wtD : D → Nat
  | .str x => x.cps.size
  | .int i => if i == 0 then 0 else i.natAbs.log2 + 1
  | .tup xs => wtDs xs
  | .lst xs => wtDs xs
  | _ => 0
def wtDs : List D → Nat
  | [] => 0
  | x :: xs => wtD x + 1 + wtDs xs
end
mutual
/-- equal as data -/
def eqvD : D → D → Bool
  | .non, .non => true
  | .bl a, .bl b => a == b
  | .bl a, .int j => (if a then 1 else 0) == j
  | .int i, .bl b => i == (if b then 1 else 0)
  | .int i, .int j => i == j
  | .str x, .str y => x == y
  | .tup xs, .tup ys => eqvDs xs ys
  | .lst xs, .lst ys => eqvDs xs ys
  | _, _ => false
def eqvDs : List D → List D → Bool
  | [], [] => true
  | x :: xs, y :: ys => eqvD x y && eqvDs xs ys
  | _, _ => false
end
structure PyOk (d : D) (p : PyData) : Prop where
  py : py d = some p
  lay : p.canLay0 = true
  dp : p.depth = dpD d
  wt : p.weight = wtD d
  sh : p.showable = true
  sm : p.intsShort 100 = true
structure PysOk (d : List D) (p : List PyData) : Prop where
  py : pys d = some p
  lay : PyData.canLayAll0 p = true
  dp : PyData.depthAll p = dpDs d
  wt : PyData.weightAll p = wtDs d
  sh : PyData.showableAll p = true
  sm : PyData.intsShortAll 100 p = true
theorem log_small {n : Nat} (h : n < 10 ^ 90) : n.log2 < 1920 := by
  by_cases z : n = 0
  · subst z; decide
  · have h2 : n < 2 ^ 300 := Nat.lt_of_lt_of_le h (by decide)
    have := (Nat.log2_lt z).mpr h2
    omega
theorem shown_int {i : Int} (h : i.natAbs < 10 ^ 90) : (PyData.shown (.int i)).length ≤ 100 := by
  have e := int_text_length_le10 (k := 90) (by decide) h
  show (Str.ofString (toString i)).length ≤ 100
  rw [ofString_length]
  omega
mutual
theorem py_dat : ∀ (d : D), datD d = true → ∃ p, PyOk d p
  | .non, _ => ⟨.none, rfl, rfl, rfl, rfl, rfl, rfl⟩
  | .bl b, _ => ⟨.bool b, rfl, rfl, rfl, rfl, rfl, rfl⟩
  | .int i, h => by
    have h : i.natAbs < 10 ^ 90 := by simpa [datD] using h
    exact ⟨.int i, rfl, rfl, rfl, rfl, by simp only [PyData.showable, decide_eq_true_eq]; exact log_small h, by simp only [PyData.intsShort, decide_eq_true_eq]; exact shown_int h⟩
  | .str x, h => by
    have h : PyData.strOk x = true := by simpa [datD] using h
    exact ⟨.str x, rfl, by simp only [PyData.canLay0, h], rfl, rfl, rfl, rfl⟩
  | .tup xs, h => by
    obtain ⟨ps, q⟩ := pys_dat xs (by simpa [datD] using h)
    exact ⟨.tuple ps, by simp only [MI.py, q.py, Option.map_some], by simp only [PyData.canLay0, q.lay], by simp only [PyData.depth, q.dp, dpD], by simp only [PyData.weight, q.wt, wtD], by simp only [PyData.showable, q.sh], by simp only [PyData.intsShort, q.sm]⟩
  | .lst xs, h => by
    obtain ⟨ps, q⟩ := pys_dat xs (by simpa [datD] using h)
    exact ⟨.list ps, by simp only [MI.py, q.py, Option.map_some], by simp only [PyData.canLay0, q.lay], by simp only [PyData.depth, q.dp, dpD], by simp only [PyData.weight, q.wt, wtD], by simp only [PyData.showable, q.sh], by simp only [PyData.intsShort, q.sm]⟩
  | .scr _, h => by simp [datD] at h
  | .dct _, h => by simp [datD] at h
  | .cel _, h => by simp [datD] at h
  | .fn _, h => by simp [datD] at h
  | .err _ _, h => by simp [datD] at h
theorem pys_dat : ∀ (ds : List D), datDs ds = true → ∃ ps, PysOk ds ps
  | [], _ => ⟨[], rfl, rfl, rfl, rfl, rfl, rfl⟩
  | d :: ds, h => by
    simp only [datDs, Bool.and_eq_true] at h
    obtain ⟨p, q⟩ := py_dat d h.1
    obtain ⟨ps, r⟩ := pys_dat ds h.2
    exact ⟨p :: ps, by simp only [pys, q.py, r.py], by simp only [PyData.canLayAll0, q.lay, r.lay, Bool.and_self], by simp only [PyData.depthAll, q.dp, r.dp, dpDs], by simp only [PyData.weightAll, q.wt, r.wt, wtDs], by simp only [PyData.showableAll, q.sh, r.sh, Bool.and_self], by simp only [PyData.intsShortAll, q.sm, r.sm, Bool.and_self]⟩
end
mutual
theorem eqv_dat : ∀ (d e : D) (p q : PyData), py d = some p → py e = some q → PyData.eqv p q = eqvD d e
  | d, e, p, q, h1, h2 => by
    cases d <;> cases e <;> simp only [MI.py, Option.map_eq_some_iff, Option.some.injEq, reduceCtorEq] at h1 h2
    all_goals first
      | (obtain ⟨ps, h1, rfl⟩ := h1; obtain ⟨qs, h2, rfl⟩ := h2; first | (simp only [PyData.eqv, eqvD]; exact eqvs_dat _ _ _ _ h1 h2) | (simp only [PyData.eqv, eqvD]))
      | (obtain ⟨ps, h1, rfl⟩ := h1; subst h2; simp only [PyData.eqv, eqvD])
      | (obtain ⟨ps, h2, rfl⟩ := h2; subst h1; simp only [PyData.eqv, eqvD])
      | (subst h1; subst h2; simp only [PyData.eqv, eqvD])
theorem eqvs_dat : ∀ (d e : List D) (p q : List PyData), pys d = some p → pys e = some q → PyData.eqvAll p q = eqvDs d e
  | [], [], p, q, h1, h2 => by
    simp only [pys, Option.some.injEq] at h1 h2
    subst h1; subst h2; simp only [PyData.eqvAll, eqvDs]
  | [], e :: es, p, q, h1, h2 => by
    simp only [pys, Option.some.injEq] at h1 h2
    subst h1
    split at h2
    · cases h2; simp only [PyData.eqvAll, eqvDs]
    · cases h2
  | d :: ds, [], p, q, h1, h2 => by
    simp only [pys, Option.some.injEq] at h1 h2
    subst h2
    split at h1
    · cases h1; simp only [PyData.eqvAll, eqvDs]
    · cases h1
  | d :: ds, e :: es, p, q, h1, h2 => by
    simp only [pys] at h1 h2
    split at h1
    · rename_i a1 b1 c1 d1
      split at h2
      · rename_i a2 b2 c2 d2
        cases h1
        cases h2
        simp only [PyData.eqvAll, eqvDs, eqv_dat d e _ _ c1 c2, eqvs_dat ds es _ _ d1 d2]
      · cases h2
    · cases h1
end
mutual
theorem eqvD_refl : ∀ (d : D), datD d = true → eqvD d d = true
  | .non, _ => rfl
  | .bl b, _ => by simp [eqvD]
  | .int i, _ => by simp [eqvD]
  | .str x, _ => by simp [eqvD]
  | .tup xs, h => by simp only [eqvD]; exact eqvDs_refl xs (by simpa [datD] using h)
  | .lst xs, h => by simp only [eqvD]; exact eqvDs_refl xs (by simpa [datD] using h)
  | .scr _, h => by simp [datD] at h
  | .dct _, h => by simp [datD] at h
  | .cel _, h => by simp [datD] at h
  | .fn _, h => by simp [datD] at h
  | .err _ _, h => by simp [datD] at h
theorem eqvDs_refl : ∀ (ds : List D), datDs ds = true → eqvDs ds ds = true
  | [], _ => rfl
  | d :: ds, h => by
    simp only [datDs, Bool.and_eq_true] at h
    simp only [eqvDs, eqvD_refl d h.1, eqvDs_refl ds h.2, Bool.and_self]
end
theorem ok_dat {d : D} {p : PyData} (q : PyOk d p) (h : dpD d ≤ 64) : okPy p = true := by
  show (PyData.canLay0 p && decide (PyData.depth p ≤ 64)) = true
  rw [q.lay, q.dp]
  simpa using h
theorem view_dat {η : List C} {d : D} (h : datD d = true) : view η d = d := by
  cases d <;> first | rfl | simp [datD] at h
theorem eq_dat {η : List C} {a b : D} (h1 : datD (view η a) = true) (h2 : datD (view η b) = true) (d1 : dpD (view η a) ≤ 64) (d2 : dpD (view η b) ≤ 64) : eqD η a b = some (eqvD (view η a) (view η b)) := by
  obtain ⟨p, hp⟩ := py_dat _ h1
  obtain ⟨q, hq⟩ := py_dat _ h2
  unfold eqD
  split
  · simp only [view, eqvD]
    congr 1
  · simp only [hp.py, hq.py, ok_dat hp d1, ok_dat hq d2, Bool.and_self, if_true, eqv_dat _ _ _ _ hp.py hq.py]
theorem repr_dat {η : List C} {d : D} (h : datD (view η d) = true) (hd : dpD (view η d) ≤ 64) (hw : wtD (view η d) ≤ 2 ^ 16) : ∃ s : Str, reprD η d = some (.str s) := by
  obtain ⟨p, q⟩ := py_dat _ h
  have hl : p.shown.length ≤ lim := by
    have h1 := PyData.shown_le 100 (by decide) p (PyData.leavesShort_of_canLay0 100 p q.lay q.sm)
    rw [q.wt] at h1
    have e : (2 : Nat) ^ 16 = 65536 := by decide
    have h2 : (100 + 2) * wtD (view η d) ≤ 102 * 65536 := Nat.mul_le_mul (by omega) (by omega)
    simp only [lim]
    omega
  refine ⟨p.shown, ?_⟩
  simp only [reprD, q.py, Option.bind_some, ok_dat q hd, q.sh, hl, decide_true, Bool.and_self, if_true]
theorem dat_all {xs : List D} (h : ∀ x ∈ xs, datD x = true) : datDs xs = true := by
  induction xs with
  | nil => rfl
  | cons x xs ih => simp only [datDs, h x List.mem_cons_self, ih fun y hy => h y (List.mem_cons_of_mem _ hy), Bool.and_self]
theorem dp_all {xs : List D} {m : Nat} (h : ∀ x ∈ xs, dpD x ≤ m) : dpDs xs ≤ m := by
  induction xs with
  | nil => exact Nat.zero_le _
  | cons x xs ih =>
    have h1 := h x List.mem_cons_self
    have h2 := ih fun y hy => h y (List.mem_cons_of_mem _ hy)
    simp only [dpDs]; omega
theorem wt_all {xs : List D} {m : Nat} (h : ∀ x ∈ xs, wtD x ≤ m) : wtDs xs ≤ (m + 1) * xs.length := by
  induction xs with
  | nil => exact Nat.zero_le _
  | cons x xs ih =>
    have h1 := h x List.mem_cons_self
    have h2 := ih fun y hy => h y (List.mem_cons_of_mem _ hy)
    simp only [wtDs, List.length_cons, Nat.mul_succ]; omega
end MI
end
/-! MQ -/
section
set_option linter.all false
set_option maxRecDepth 100000
set_option maxHeartbeats 4000000
/-! What MI says of expressions: a kit. -/
namespace MI
open PySem
section
variable {call : Nat → List D → M D}
theorem ev_bi (b : Bi) (es : Es) (v : Ev) : evE call (.bi b es) v = (do
    let xs ← evEs call es v
    look fun h => biD h b xs) := by simp only [evE]
theorem ev_and (es : Es) (v : Ev) : evE call (.and es) v = evAnd call es v := by simp only [evE]
theorem ev_or (es : Es) (v : Ev) : evE call (.or es) v = evOr call es v := by simp only [evE]
theorem ev_not (a : E) (v : Ev) : evE call (.not a) v = (do
    let x ← evE call a v
    let b ← testD x
    pure (.bl !b)) := by simp only [evE]
theorem ev_var (i : Nat) (v : Ev) : evE call (.var i) v = op (v.getD i none) := by simp only [evE]
theorem ev_cst (d : D) (v : Ev) : evE call (.cst d) v = pure d := by simp only [evE]
theorem ev_call (f : Nat) (es : Es) (v : Ev) : evE call (.call f es) v = (do
    let xs ← evEs call es v
    call f xs) := by simp only [evE]
theorem ev_cmp (o : CmpOp) (a b : E) (v : Ev) : evE call (.cmp o a b) v = (do
    let x ← evE call a v
    let y ← evE call b v
    let r ← look fun h => cmpD h o x y
    pure (.bl r)) := by simp only [evE]
theorem ev_ix (a b : E) (v : Ev) : evE call (.ix a b) v = (do
    let x ← evE call a v
    let y ← evE call b v
    look fun h => ixD h x y) := by simp only [evE]
theorem ev_isi (e : E) (t : Ty) (v : Ev) : evE call (.isi e t) v = (do
    let x ← evE call e v
    let r ← look fun h => isTy h x t
    pure (.bl r)) := by simp only [evE]
theorem ev_ite (c a b : E) (v : Ev) : evE call (.ite c a b) v = (do
    let x ← evE call c v
    let r ← testD x
    if r then evE call a v else evE call b v) := by simp only [evE]
theorem ev_tup (es : Es) (v : Ev) : evE call (.tup es) v = (do
    let xs ← evEs call es v
    op (mkTup xs)) := by simp only [evE]
theorem ev_lst (es : Es) (v : Ev) : evE call (.lst es) v = (do
    let xs ← evEs call es v
    op (mkLst xs)) := by simp only [evE]
theorem ev_bin (o : Operator) (a b : E) (v : Ev) : evE call (.bin o a b) v = (do
    let x ← evE call a v
    let y ← evE call b v
    look fun h => binD h o x y) := by simp only [evE]
theorem ev_neg (a : E) (v : Ev) : evE call (.neg a) v = (do
    let x ← evE call a v
    op ((intOf x).map fun i => .int (-i))) := by simp only [evE]
theorem ev_callv (i : Nat) (fs : List Nat) (es : Es) (v : Ev) : evE call (.callv i fs es) v = match v.getD i none with
    | some (.fn f) => if f ∈ fs then do
        let xs ← evEs call es v
        call f xs
      else no
    | _ => no := by simp only [evE]; try rfl
theorem ev_fnv (f : Nat) (v : Ev) : evE call (.fnv f) v = pure (.fn f) := by simp only [evE]
theorem ev_sl (a : E) (lo hi : Eo) (v : Ev) : evE call (.sl a lo hi) v = (do
    let x ← evE call a v
    let l ← evO call lo v
    let u ← evO call hi v
    look fun h => slD h x l u) := by simp only [evE]
theorem ev_rev (a : E) (v : Ev) : evE call (.rev a) v = (do
    let x ← evE call a v
    look fun h => revD h x) := by simp only [evE]
theorem ev_sset (e : E) (v : Ev) : evE call (.sset e) v = (do
    let x ← evE call e v
    look fun h => (seqOf h x).bind ssetD) := by simp only [evE]
end
theorem in_go {η : List C} {w : D} {xs : List D} {b : Bool} (h : inSeq w xs = some b) : inD η w (.tup xs) = some b := by simpa [inD, view] using h
@[simp] theorem at_0 (x : D) (xs : List D) : L2.atI (x :: xs) 0 = some x := by simp [L2.atI, L2.ixN]
@[simp] theorem at_1 (x y : D) (xs : List D) : L2.atI (x :: y :: xs) 1 = some y := by
  have h : (1 : Int) < (xs.length : Int) + 1 + 1 := by omega
  simp [L2.atI, L2.ixN, h]
@[simp] theorem ty_tup {η : List C} {xs : List D} {t : Ty} : isTy η (.tup xs) t = some (match t with | .tuple => true | _ => false) := by cases t <;> rfl
@[simp] theorem ty_str {η : List C} {xs : Str} {t : Ty} : isTy η (.str xs) t = some (match t with | .str => true | _ => false) := by cases t <;> rfl
theorem at_last {xs : List D} (h : xs ≠ []) : L2.atI xs (-1) = xs.getLast? := by
  have l : 0 < xs.length := List.length_pos_iff.mpr h
  have e : ((-1 : Int) + (xs.length : Int)).toNat = xs.length - 1 := by omega
  simp only [L2.atI, L2.ixN]
  rw [if_neg (by decide), if_pos (by omega), e, List.getLast?_eq_getElem?]
  rfl
theorem fold_map {α : Type} {F : List D → α → M (List D)} {f : α → D} {η : List C} : ∀ (xs : List α) (acc : List D), (∀ a ∈ xs, ∀ acc : List D, acc.length < lim → F acc a η = .ok (acc ++ [f a]) η) → acc.length + xs.length ≤ lim → foldM' F xs acc η = .ok (acc ++ xs.map f) η
  | [], acc, _, _ => by simp [foldM', pure_def]
  | x :: xs, acc, h, l => by
    simp only [List.length_cons] at l
    simp only [foldM', bind_def]
    rw [h x List.mem_cons_self acc (by omega)]
    simp only []
    rw [fold_map xs _ (fun a ha => h a (List.mem_cons_of_mem _ ha)) (by simp; omega)]
    simp
theorem lc_go {call : Nat → List D → M D} {x : E} {i : Nat} {it : Wk} {vs : List Nat} {v : Ev} {η : List C} {xs : List D} (f : D → D) (hi : evI call it v η = .ok xs η) (hx : ∀ d ∈ xs, evE call x (setE (wipeE v vs) i d) η = .ok (f d) η) (l : xs.length ≤ lim) : evE call (.lc x (.one i) it .none vs) v η = .ok (.lst (xs.map f)) η := by
  simp only [evE, bind_def, hi, quiet]
  rw [fold_map (f := f) xs []]
  · simp [pure_def]
  · intro a ha acc hl
    simp [tgE, bind_def, pure_def, evC, hx a ha, pushM, hl]
  · simpa using l
theorem lc_go2 {call : Nat → List D → M D} {x : E} {i j : Nat} {it : Wk} {vs : List Nat} {v : Ev} {η : List C} {ps : List (D × D)} (f : D × D → D) (hi : evI call it v η = .ok (ps.map fun p => .tup [p.1, p.2]) η) (hx : ∀ p ∈ ps, evE call x (setE (setE (wipeE v vs) i p.1) j p.2) η = .ok (f p) η) (l : ps.length ≤ lim) : evE call (.lc x (.two i j) it .none vs) v η = .ok (.lst (ps.map f)) η := by
  simp only [evE, bind_def, hi, quiet]
  rw [fold_map (f := fun d => match d with | .tup [a, b] => f (a, b) | d => d) _ []]
  · simp [pure_def]
  · intro a ha acc hl
    simp only [List.mem_map] at ha
    obtain ⟨p, hp, rfl⟩ := ha
    simp [tgE, bind_def, pure_def, evC, hx p hp, pushM, hl]
  · simpa using l
theorem zip_eq : ∀ (xs ys : List D), zipD xs ys = (xs.zip ys).map fun p => .tup [p.1, p.2]
  | [], ys => by simp [zipD]
  | x :: xs, [] => by simp [zipD]
  | x :: xs, y :: ys => by simp [zipD, zip_eq xs ys]
theorem cut1 (xs : List D) : cutD xs (some 1) none = xs.drop 1 := by
  simp only [cutD, HT.sIx]
  cases xs with
  | nil => simp
  | cons x xs => simp
theorem cut1' (xs : List D) : cutD xs (some 1) none = xs.tail := by rw [cut1]; simp
theorem all_some {α : Type} {f : α → Bool} : ∀ (xs : List α), allSome blOf (xs.map fun a => .bl (f a)) = some (xs.map f)
  | [] => rfl
  | x :: xs => by simp [allSome, blOf, all_some xs]
theorem all_bl {η : List C} {α : Type} {f : α → Bool} (xs : List α) : allD η (.lst (xs.map fun a => .bl (f a))) = some (.bl (xs.all f)) := by simp [allD, lstOf, view, all_some]
theorem any_bl {η : List C} {α : Type} {f : α → Bool} (xs : List α) : anyD η (.lst (xs.map fun a => .bl (f a))) = some (.bl (xs.any f)) := by simp [anyD, lstOf, view, all_some]
theorem lt_lim {n : Nat} (h : n ≤ 1000) : n ≤ lim := by simp only [lim]; omega
theorem fold_flat {α : Type} {F : List D → α → M (List D)} {g : α → List D} {η : List C} : ∀ (xs : List α) (acc : List D), (∀ a ∈ xs, ∀ acc : List D, (acc ++ g a).length ≤ lim → F acc a η = .ok (acc ++ g a) η) → (acc ++ xs.flatMap g).length ≤ lim → foldM' F xs acc η = .ok (acc ++ xs.flatMap g) η
  | [], acc, _, _ => by simp [foldM', pure_def]
  | x :: xs, acc, h, l => by
    simp only [List.flatMap_cons, List.length_append] at l
    simp only [foldM', bind_def]
    rw [h x List.mem_cons_self acc (by simp only [List.length_append]; omega)]
    simp only []
    rw [fold_flat xs _ (fun a ha => h a (List.mem_cons_of_mem _ ha)) (by simp only [List.length_append]; omega)]
    simp
theorem fold_map' {α : Type} {F : List D → α → M (List D)} {f : α → D} {η : List C} (xs : List α) (acc : List D) (h : ∀ a ∈ xs, ∀ acc : List D, acc.length < lim → F acc a η = .ok (acc ++ [f a]) η) (l : (acc ++ xs.map f).length ≤ lim) : foldM' F xs acc η = .ok (acc ++ xs.map f) η := fold_map xs acc h (by simpa using l)
theorem lc2_go {call : Nat → List D → M D} {x : E} {i j : Nat} {it it1 : Wk} {vs vs1 : List Nat} {v : Ev} {η : List C} {xs : List D} (g : D → List D) (hi : evI call it v η = .ok xs η) (h1 : ∀ d ∈ xs, evI call it1 (setE (wipeE v vs) i d) η = .ok (g d) η) (hx : ∀ d ∈ xs, ∀ e ∈ g d, evE call x (setE (wipeE (setE (wipeE v vs) i d) vs1) j e) η = .ok e η) (l : (xs.flatMap g).length ≤ lim) : evE call (.lc2 x (.one i) it .none (.one j) it1 .none vs vs1) v η = .ok (.lst (xs.flatMap g)) η := by
  simp only [evE, bind_def, hi, quiet]
  rw [fold_flat (g := g) xs []]
  · simp [pure_def]
  · intro a ha acc hl
    simp only [tgE, bind_def, pure_def, evC, if_true, h1 a ha]
    rw [fold_map' (f := id) (g a) acc]
    · simp
    · intro b hb acc' hl'
      simp [tgE, bind_def, pure_def, evC, hx a ha b hb, pushM, hl']
    · simpa using hl
  · simpa using l
theorem for_cat {F : D → Ev → M Fl} {mk : List D → Option D → Ev} {g : D → List D} {η : List C} : ∀ (xs : List D) (acc : List D) (o : Option D), (∀ x ∈ xs, ∀ acc o, (acc ++ g x).length ≤ lim → F x (mk acc o) η = .ok (.nx (mk (acc ++ g x) (some x))) η) → (acc ++ xs.flatMap g).length ≤ lim → ∃ o', forM' F xs (mk acc o) η = .ok (.nx (mk (acc ++ xs.flatMap g) o')) η
  | [], acc, o, _, _ => ⟨o, by simp [forM', pure_def]⟩
  | x :: xs, acc, o, h, l => by
    simp only [List.flatMap_cons, List.length_append] at l
    obtain ⟨o', e⟩ := for_cat xs (acc ++ g x) (some x) (fun a ha => h a (List.mem_cons_of_mem _ ha)) (by simp only [List.length_append]; omega)
    refine ⟨o', ?_⟩
    simp only [forM', bind_def]
    rw [h x List.mem_cons_self acc o (by simp only [List.length_append]; omega)]
    simp only [loopF, e]
    simp
theorem ev_set {call : Nat → List D → M D} (i : Nat) (e : E) (v : Ev) : evS call (.set i e) v = (do
    let x ← evE call e v
    pure (.nx (setE v i x))) := by simp only [evS]
theorem ev_ret {call : Nat → List D → M D} (e : E) (v : Ev) : evS call (.ret e) v = (do
    let x ← evE call e v
    pure (.rt x)) := by simp only [evS]
theorem ev_ex {call : Nat → List D → M D} (e : E) (v : Ev) : evS call (.ex e) v = (do
    let _ ← evE call e v
    pure (.nx v)) := by simp only [evS]
theorem ev_callk {call : Nat → List D → M D} (f : Nat) (es : Es) (n : Nat) (p : List Nat) (v : Ev) : evE call (.callk f es n p) v = (do
    let xs ← evEs call es v
    let _ ← guardM (decide (xs.length = n))
    call f (p.map fun i => xs.getD i .non)) := by simp only [evE]
theorem binL_go {η : List C} {xs ys : List D} (h : (xs ++ ys).length ≤ lim) : binD η .Add (.lst xs) (.lst ys) = some (.lst (xs ++ ys)) := by
  simp only [binD, ownL, view, binL, mkLst]
  rw [if_pos h]
theorem eq_int {η : List C} (i j : Int) : eqD η (.int i) (.int j) = some (decide (i = j)) := by
  have h1 : ∀ i : Int, okPy (.int i) = true := fun i => rfl
  have h2 : PyData.eqv (.int i) (.int j) = decide (i = j) := rfl
  simp only [eqD, view, py, h1, h2]
  rfl
theorem flat_one : ∀ (xs : List D), (xs.flatMap fun d => [d]) = xs
  | [] => rfl
  | x :: xs => by simp [List.flatMap_cons, flat_one xs]
theorem sum_some {f : D → Nat} : ∀ (xs : List D), allSome intOf (xs.map fun x => .int (f x : Int)) = some (xs.map fun x => (f x : Int))
  | [] => rfl
  | x :: xs => by simp [allSome, intOf, sum_some xs]
theorem sum_cast {f : D → Nat} : ∀ (xs : List D), (xs.map fun x => (f x : Int)).sum = ((xs.map f).sum : Nat)
  | [] => rfl
  | x :: xs => by simp [sum_cast xs]
theorem set0 (η : List C) (w : Nat) (x a b c : D) (h : η[w]? = some (.lst [a, b, c])) : setC (.cel w) (.int 0) x η = .ok () (η.set w (.lst [x, b, c])) := by
  simp only [setC, h]; rfl
theorem set2 (η : List C) (w : Nat) (x a b c : D) (h : η[w]? = some (.lst [a, b, c])) : setC (.cel w) (.int 2) x η = .ok () (η.set w (.lst [a, b, x])) := by
  simp only [setC, h]; rfl
theorem lk {η : List C} {w : Nat} {c : C} (h : η[w]? = some c) (c' : C) : (η.set w c')[w]? = some c' := by
  have : w < η.length := by
    by_cases hl : w < η.length
    · exact hl
    · rw [List.getElem?_eq_none (by omega)] at h; cases h
  simp [this]
theorem sm_r {i j : Int} (h : -(2 ^ 64) < j ∧ j < 2 ^ 64) : mulSm i j = true := by
  simp only [mulSm, decide_eq_true_eq]; exact .inr h
theorem sm_l {i j : Int} (h : -(2 ^ 64) < i ∧ i < 2 ^ 64) : mulSm i j = true := by
  simp only [mulSm, decide_eq_true_eq]; exact .inl h
theorem lg {i : Int} (h0 : 0 ≤ i) (h : i < 2 ^ 200) : i.natAbs.log2 ≤ 200 := by
  by_cases z : i.natAbs = 0
  · rw [z]; decide
  · have : i.natAbs < 2 ^ 200 := by omega
    exact Nat.le_of_lt ((Nat.log2_lt z).mpr this)
theorem mul_ok {i j : Int} (h0 : 0 ≤ i) (h : i < 2 ^ 200) (h0' : 0 ≤ j) (h' : j < 2 ^ 200) : mulOk i j = true := by
  have h1 := lg h0 h
  have h2 := lg h0' h'
  simp only [mulOk, decide_eq_true_eq]; omega
theorem mul_go {i j : Int} (h : mulSm i j = true ∨ mulOk i j = true) : binI .Mult i j = some (.int (i * j)) := by
  simp only [binI]
  rw [if_pos (by rcases h with h | h <;> simp [h])]
theorem ss_cons {call : Nat → List D → M D} {s : S} {ss : Ss} {v v' : Ev} {η η' : List C} {r : R Fl} (h : evS call s v η = .ok (.nx v') η') (h2 : evSs call ss v' η' = r) : evSs call (.cons s ss) v η = r := by
  simp only [evSs, bind_def, h, thenF, h2]
theorem less_int (i j : Int) : lessD (.int i) (.int j) = some (decide (i < j)) := by
  simp [lessD, hashD, depD, ltD]
theorem b_add (x y : Int) : binI .Add x y = some (.int (x + y)) := rfl
theorem b_sub (x y : Int) : binI .Sub x y = some (.int (x - y)) := rfl
theorem b_mod (x : Int) {y : Int} (h : 0 < y) : binI .Mod x y = some (.int (x % y)) := by simp [binI, h]
theorem b_mulr (x : Int) {y : Int} (h : -(2 ^ 64) < y ∧ y < 2 ^ 64) : binI .Mult x y = some (.int (x * y)) := mul_go (.inl (sm_r h))
theorem b_mull {x : Int} (y : Int) (h : -(2 ^ 64) < x ∧ x < 2 ^ 64) : binI .Mult x y = some (.int (x * y)) := mul_go (.inl (sm_l h))
theorem b_pow (j : Nat) (hj : j ≤ 1000) : binI .Pow 10 (j : Int) = some (.int (10 ^ j)) := by
  have h1 : (0 : Int) ≤ (j : Int) ∧ (j : Int) ≤ 1000 ∧ (10 : Int).natAbs < 2 ^ 64 := ⟨by omega, by omega, by decide⟩
  simp only [binI]
  rw [if_pos (by simpa using h1)]
  simp
def wellC (a b s : Int) : C := .lst [.int a, .int b, .int s]
theorem fold_filter {α : Type} {F : List D → α → M (List D)} {c : α → Bool} {f : α → D} {η : List C} : ∀ (xs : List α) (acc : List D), (∀ a ∈ xs, ∀ acc : List D, acc.length < lim → F acc a η = .ok (if c a then acc ++ [f a] else acc) η) → acc.length + xs.length ≤ lim → foldM' F xs acc η = .ok (acc ++ (xs.filter c).map f) η
  | [], acc, _, _ => by simp [foldM', pure_def]
  | x :: xs, acc, h, l => by
    simp only [List.length_cons] at l
    simp only [foldM', bind_def]
    rw [h x List.mem_cons_self acc (by omega)]
    simp only []
    cases hc : c x
    · simp only [Bool.false_eq_true, if_false]
      rw [fold_filter xs _ (fun a ha => h a (List.mem_cons_of_mem _ ha)) (by omega)]
      simp [hc]
    · simp only [if_true]
      rw [fold_filter xs _ (fun a ha => h a (List.mem_cons_of_mem _ ha)) (by simp; omega)]
      simp [hc]
theorem lc_go3 {call : Nat → List D → M D} {x c : E} {i j : Nat} {it : Wk} {vs : List Nat} {v : Ev} {η : List C} {ps : List (D × D)} {g : D → D} (p : D × D → Bool) (f : D) (hi : evI call it v η = .ok (ps.map fun p => .tup [g p.1, g p.2]) η) (hc : ∀ q ∈ ps, evE call c (setE (setE (wipeE v vs) i (g q.1)) j (g q.2)) η = .ok (.bl (p q)) η) (hx : ∀ q ∈ ps, evE call x (setE (setE (wipeE v vs) i (g q.1)) j (g q.2)) η = .ok f η) (l : ps.length ≤ lim) : evE call (.lc x (.two i j) it (.some c) vs) v η = .ok (.lst ((ps.filter p).map fun _ => f)) η := by
  have go : ∀ (F : List D → D → M (List D)), (∀ q ∈ ps, ∀ acc : List D, acc.length < lim → F acc (.tup [g q.1, g q.2]) η = .ok (if p q then acc ++ [f] else acc) η) → foldM' F (ps.map fun p => .tup [g p.1, g p.2]) [] η = .ok ((ps.filter p).map fun _ => f) η := by
    intro F hF
    have e : ∀ (qs : List (D × D)) (acc : List D), foldM' F (qs.map fun p => .tup [g p.1, g p.2]) acc = foldM' (fun acc q => F acc (.tup [g q.1, g q.2])) qs acc := by
      intro qs
      induction qs with
      | nil => intro acc; rfl
      | cons q qs ih => intro acc; simp only [List.map_cons, foldM', ih]
    rw [e, fold_filter (c := p) (f := fun _ => f) ps [] hF (by simpa using l)]
    simp
  simp only [evE, bind_def, hi, quiet]
  rw [go]
  · simp [pure_def]
  · intro q hq acc hl
    cases hp : p q
    · simp [tgE, bind_def, pure_def, evC, hc q hq, hp, testD]
    · simp [tgE, bind_def, pure_def, evC, hc q hq, hp, testD, hx q hq, pushM, hl]
theorem in_true {η : List C} {f : D → Bool} (xs : List D) : inD η (.bl true) (.lst (xs.map fun x => .bl (f x))) = some (xs.any f) := by
  have h1 : (xs.map fun x => D.bl (f x)).all flatB = true := by simp [flatB]
  simp only [inD, view, inSeq, flatB, Bool.true_and, h1, if_true]
  congr 1
  rw [Bool.eq_iff_iff]
  simp [eqF]
theorem filt_empty {α : Type} {p : α → Bool} (xs : List α) : (!(xs.filter p).isEmpty) = xs.any p := by
  induction xs with
  | nil => rfl
  | cons x xs ih => cases h : p x <;> simp [h] at ih ⊢; exact ih
theorem cell0 (η : List C) (a b : C) : (η ++ [a, b])[η.length]? = some a := by simp
theorem cell1 (η : List C) (a b : C) : (η ++ [a, b])[η.length + 1]? = some b := by
  rw [List.getElem?_append_right (by omega)]
  simp
theorem put0 (η : List C) (a b c : C) : (η ++ [a, b]).set η.length c = η ++ [c, b] := by
  rw [List.set_append_right _ _ (by omega)]; simp
theorem put1 (η : List C) (a b c : C) : (η ++ [a, b]).set (η.length + 1) c = η ++ [a, c] := by
  rw [List.set_append_right _ _ (by omega)]; simp
theorem belowk_true (n : Nat) : ∀ {ks : List (L2.Key × D)}, (∀ p ∈ ks, p.2 = .bl true) → belowk n ks = true
  | [], _ => by simp [belowk]
  | (a, x) :: ks, h => by
    have h1 : x = .bl true := h (a, x) List.mem_cons_self
    subst h1
    simp [belowk, below, belowk_true n fun p hp => h p (List.mem_cons_of_mem _ hp)]
end MI
end
/-! MT -/
section
set_option linter.all false
set_option maxRecDepth 100000
set_option maxHeartbeats 4000000
/-! Terms of letters a to h, as data. -/
namespace MT
open PySem MI
def LETS : List Str := ["a", "b", "c", "d", "e", "f", "g", "h"]
def isLet (c : Str) : Prop := c ∈ LETS
instance (c : Str) : Decidable (isLet c) := inferInstanceAs (Decidable (c ∈ LETS))
def leafD (c : Str) : D := .tup [.str c]
def onD (d : D) : D := .tup [.str "on", d]
def backD (d : D) : D := .tup [.str "back", d]
def rowD (xs : List D) : D := .tup [.str "row", .tup xs]
def mixD (xs : List D) : D := .tup [.str "mix", .tup xs]
inductive Vw where
  | leaf | on (d : D) | back (d : D) | row (xs : List D) | mix (xs : List D)
def vw : D → Vw
  | .tup [.str w, e] => if w = "on" then .on e else if w = "back" then .back e else match e with
    | .tup xs => if w = "row" then .row xs else if w = "mix" then .mix xs else .leaf
    | _ => .leaf
  | _ => .leaf
theorem ne_on_back : (("back" : Str) = "on") = False := by simp only [eq_iff_iff, iff_false]; decide
theorem ne_row_on : (("row" : Str) = "on") = False := by simp only [eq_iff_iff, iff_false]; decide
theorem ne_row_back : (("row" : Str) = "back") = False := by simp only [eq_iff_iff, iff_false]; decide
theorem ne_mix_on : (("mix" : Str) = "on") = False := by simp only [eq_iff_iff, iff_false]; decide
theorem ne_mix_back : (("mix" : Str) = "back") = False := by simp only [eq_iff_iff, iff_false]; decide
theorem ne_mix_row : (("mix" : Str) = "row") = False := by simp only [eq_iff_iff, iff_false]; decide
@[simp] theorem vw_leaf (c : Str) : vw (leafD c) = .leaf := rfl
@[simp] theorem vw_on (d : D) : vw (onD d) = .on d := by simp [vw, onD]
@[simp] theorem vw_back (d : D) : vw (backD d) = .back d := by simp [vw, backD, ne_on_back]
@[simp] theorem vw_row (xs : List D) : vw (rowD xs) = .row xs := by simp [vw, rowD, ne_row_on, ne_row_back]
@[simp] theorem vw_mix (xs : List D) : vw (mixD xs) = .mix xs := by simp [vw, mixD, ne_mix_on, ne_mix_back, ne_mix_row]
def isRow (d : D) : Bool := match vw d with
  | .row _ => true
  | _ => false
@[simp] theorem isRow_leaf (c : Str) : isRow (leafD c) = false := rfl
@[simp] theorem isRow_on (d : D) : isRow (onD d) = false := by simp [isRow]
@[simp] theorem isRow_back (d : D) : isRow (backD d) = false := by simp [isRow]
@[simp] theorem isRow_row (xs : List D) : isRow (rowD xs) = true := by simp [isRow]
@[simp] theorem isRow_mix (xs : List D) : isRow (mixD xs) = false := by simp [isRow]
/-- a term of height n at most -/
def Wf : Nat → D → Prop
  | 0, d => ∃ c, isLet c ∧ d = leafD c
  | n + 1, d => (∃ c, isLet c ∧ d = leafD c) ∨ (∃ e, Wf n e ∧ d = onD e) ∨ (∃ e, Wf n e ∧ d = backD e)
    ∨ (∃ xs, (∀ x ∈ xs, Wf n x ∧ isRow x = false) ∧ 2 ≤ xs.length ∧ xs.length ≤ 1000 ∧ d = rowD xs)
    ∨ ∃ xs, (∀ x ∈ xs, Wf n x) ∧ xs ≠ [] ∧ xs.length ≤ 32 ∧ Up xs ∧ d = mixD xs
theorem Wf.leaf {n : Nat} {c : Str} (h : isLet c) : Wf n (leafD c) := by
  cases n with
  | zero => exact ⟨c, h, rfl⟩
  | succ n => exact .inl ⟨c, h, rfl⟩
theorem Wf.up {n : Nat} {d : D} (h : Wf n d) : Wf (n + 1) d := by
  induction n generalizing d with
  | zero => exact .inl h
  | succ n ih =>
    rcases h with h | ⟨e, h, rfl⟩ | ⟨e, h, rfl⟩ | ⟨xs, h, l, l2, rfl⟩ | ⟨xs, h, l, l2, u, rfl⟩
    · exact .inl h
    · exact .inr (.inl ⟨e, ih h, rfl⟩)
    · exact .inr (.inr (.inl ⟨e, ih h, rfl⟩))
    · exact .inr (.inr (.inr (.inl ⟨xs, fun x hx => ⟨ih (h x hx).1, (h x hx).2⟩, l, l2, rfl⟩)))
    · exact .inr (.inr (.inr (.inr ⟨xs, fun x hx => ih (h x hx), l, l2, u, rfl⟩)))
theorem Wf.le {n m : Nat} {d : D} (h : Wf n d) (l : n ≤ m) : Wf m d := by
  induction l with
  | refl => exact h
  | step _ ih => exact ih.up
/-- one rule for all cases -/
theorem Wf.cases' {n : Nat} {d : D} {p : D → Prop} (h : Wf n d) (h1 : ∀ c, isLet c → p (leafD c)) (h2 : ∀ m e, m < n → Wf m e → p (onD e)) (h3 : ∀ m e, m < n → Wf m e → p (backD e))
    (h4 : ∀ m xs, m < n → (∀ x ∈ xs, Wf m x ∧ isRow x = false) → 2 ≤ xs.length → xs.length ≤ 1000 → p (rowD xs)) (h5 : ∀ m xs, m < n → (∀ x ∈ xs, Wf m x) → xs ≠ [] → xs.length ≤ 32 → Up xs → p (mixD xs)) : p d := by
  cases n with
  | zero => obtain ⟨c, hc, rfl⟩ := h; exact h1 c hc
  | succ n =>
    rcases h with ⟨c, hc, rfl⟩ | ⟨e, h, rfl⟩ | ⟨e, h, rfl⟩ | ⟨xs, h, l, l2, rfl⟩ | ⟨xs, h, l, l2, u, rfl⟩
    · exact h1 c hc
    · exact h2 n e (by omega) h
    · exact h3 n e (by omega) h
    · exact h4 n xs (by omega) h l l2
    · exact h5 n xs (by omega) h l l2 u
def inner (d : D) : List D := match vw d with
  | .leaf => []
  | .on e => [e]
  | .back e => [e]
  | .row xs => xs
  | .mix xs => xs
def size : Nat → D → Nat
  | 0, _ => 1
  | n + 1, d => 1 + ((inner d).map (size n)).sum
theorem size_pos {n : Nat} {d : D} : 1 ≤ size n d := by
  cases n with
  | zero => exact Nat.le_refl _
  | succ n => simp only [size]; omega
theorem in_sub {n : Nat} {d : D} (h : Wf n d) : ∀ x ∈ inner d, ∃ m, m < n ∧ Wf m x := by
  refine h.cases' (p := fun d => ∀ x ∈ inner d, ∃ m, m < n ∧ Wf m x) (fun c _ x hx => ?_) (fun m e hm he x hx => ?_) (fun m e hm he x hx => ?_) (fun m xs hm hx _ _ x hxx => ?_) (fun m xs hm hx _ _ _ x hxx => ?_)
  · simp [inner] at hx
  · simp [inner] at hx; subst hx; exact ⟨m, hm, he⟩
  · simp [inner] at hx; subst hx; exact ⟨m, hm, he⟩
  · simp [inner] at hxx; exact ⟨m, hm, (hx x hxx).1⟩
  · simp [inner] at hxx; exact ⟨m, hm, hx x hxx⟩
theorem in_sub' {n : Nat} {d : D} (h : Wf (n + 1) d) : ∀ x ∈ inner d, Wf n x := fun x hx => let ⟨m, hm, hw⟩ := in_sub h x hx; hw.le (by omega)
theorem in_len {n : Nat} {d : D} (h : Wf n d) : (inner d).length ≤ 1000 := by
  refine h.cases' (p := fun d => (inner d).length ≤ 1000) (fun c _ => ?_) (fun m e hm he => ?_) (fun m e hm he => ?_) (fun m xs hm hx l l2 => ?_) (fun m xs hm hx l l2 _ => ?_) <;> simp [inner] <;> omega
theorem in_zero {d : D} (h : Wf 0 d) : inner d = [] := by
  obtain ⟨c, _, rfl⟩ := h
  simp [inner]
/-! ### order -/
theorem hash_all {xs : List D} (h : ∀ x ∈ xs, hashD x = true) : hashDs xs = true := by
  induction xs with
  | nil => simp [hashDs]
  | cons x xs ih =>
    simp only [hashDs]
    rw [h x List.mem_cons_self, ih fun y hy => h y (List.mem_cons_of_mem _ hy)]; rfl
theorem Wf.hash {n : Nat} {d : D} (h : Wf n d) : hashD d = true := by
  induction n using Nat.strongRecOn generalizing d with
  | _ n ih =>
    refine h.cases' (p := fun d => hashD d = true) (fun c _ => rfl) (fun m e hm he => ?_) (fun m e hm he => ?_) (fun m xs hm hx l l2 => ?_) (fun m xs hm hx l l2 _ => ?_)
    · simp [onD, hashD, hashDs, ih m hm he]
    · simp [backD, hashD, hashDs, ih m hm he]
    · simp [rowD, hashD, hashDs, hash_all fun x hxx => ih m hm (hx x hxx).1]
    · simp [mixD, hashD, hashDs, hash_all fun x hxx => ih m hm (hx x hxx)]
theorem Wf.head {n : Nat} {d : D} (h : Wf n d) : headS d = true := h.cases' (p := fun d => headS d = true) (fun c _ => rfl) (fun _ _ _ _ => rfl) (fun _ _ _ _ => rfl) (fun _ _ _ _ _ _ => rfl) (fun _ _ _ _ _ _ _ => rfl)
theorem dep_all {xs : List D} {m : Nat} (h : ∀ x ∈ xs, depD x ≤ m) : depDs xs ≤ m := by
  induction xs with
  | nil => simp [depDs]
  | cons x xs ih =>
    simp only [depDs]
    have h1 := h x List.mem_cons_self
    have h2 := ih fun y hy => h y (List.mem_cons_of_mem _ hy)
    omega
theorem Wf.dep {n : Nat} {d : D} (h : Wf n d) : depD d ≤ 2 * n + 1 := by
  induction n using Nat.strongRecOn generalizing d with
  | _ n ih =>
    refine h.cases' (p := fun d => depD d ≤ 2 * n + 1) (fun c _ => ?_) (fun m e hm he => ?_) (fun m e hm he => ?_) (fun m xs hm hx l l2 => ?_) (fun m xs hm hx l l2 _ => ?_)
    · simp [leafD, depD, depDs]
    · have := ih m hm he
      simp [onD, depD, depDs]; omega
    · have := ih m hm he
      simp [backD, depD, depDs]; omega
    · have := dep_all (m := 2 * m + 1) fun x hxx => ih m hm (hx x hxx).1
      simp [rowD, depD, depDs]; omega
    · have := dep_all (m := 2 * m + 1) fun x hxx => ih m hm (hx x hxx)
      simp [mixD, depD, depDs]; omega
theorem lts_some {xs : List D} : ∀ {ys : List D}, (∀ x ∈ xs, ∀ y ∈ ys, ∃ b, ltD x y = some b) → ∃ b, ltDs xs ys = some b := by
  induction xs with
  | nil => intro ys _; cases ys <;> simp [ltDs]
  | cons x xs ih =>
    intro ys h
    cases ys with
    | nil => simp [ltDs]
    | cons y ys =>
      simp only [ltDs]
      split
      · exact ih fun a ha b hb => h a (List.mem_cons_of_mem _ ha) b (List.mem_cons_of_mem _ hb)
      · exact h x List.mem_cons_self y List.mem_cons_self
theorem lt_str (x y : Str) : ∃ b, ltD (.str x) (.str y) = some b := ⟨_, by simp [ltD]; rfl⟩
theorem lt_heads {x y : Str} {xs ys : List D} (h : x = y → ∃ b, ltDs xs ys = some b) : ∃ b, ltD (.tup (.str x :: xs)) (.tup (.str y :: ys)) = some b := by
  simp only [ltD, ltDs]
  split
  · rename_i hb
    have : x = y := by simpa [beqD] using hb
    exact h this
  · exact lt_str x y
theorem lets_ne {c : Str} (h : isLet c) : c ≠ "on" ∧ c ≠ "back" ∧ c ≠ "row" ∧ c ≠ "mix" := by
  simp only [isLet, LETS, List.mem_cons, List.not_mem_nil, or_false] at h
  rcases h with rfl | rfl | rfl | rfl | rfl | rfl | rfl | rfl <;> decide
theorem lt_one (x y : D) (h : ∃ b, ltD x y = some b) : ∃ b, ltDs [x] [y] = some b := lts_some (by simpa using h)
theorem lt_tup {xs ys : List D} (h : ∀ x ∈ xs, ∀ y ∈ ys, ∃ b, ltD x y = some b) : ∃ b, ltD (.tup xs) (.tup ys) = some b := by
  simp only [ltD]
  exact lts_some h
theorem Wf.lt {n : Nat} {d e : D} (h : Wf n d) (h' : Wf n e) : ∃ b, ltD d e = some b := by
  induction n generalizing d e with
  | zero =>
    obtain ⟨c, _, rfl⟩ := h
    obtain ⟨c', _, rfl⟩ := h'
    exact lt_heads fun _ => ⟨_, rfl⟩
  | succ n ih =>
    rcases h with ⟨c, hc, rfl⟩ | ⟨d, h, rfl⟩ | ⟨d, h, rfl⟩ | ⟨xs, h, l, l2, rfl⟩ | ⟨xs, h, l, l2, u, rfl⟩ <;> rcases h' with ⟨c', hc', rfl⟩ | ⟨e, h', rfl⟩ | ⟨e, h', rfl⟩ | ⟨ys, h', m, m2, rfl⟩ | ⟨ys, h', m, m2, v, rfl⟩
    all_goals first
      | exact lt_heads fun _ => ⟨_, rfl⟩
      | exact lt_heads fun _ => lt_one _ _ (ih h h')
      | exact lt_heads fun _ => lt_one _ _ (lt_tup fun a ha b hb => ih (h a ha).1 (h' b hb).1)
      | exact lt_heads fun _ => lt_one _ _ (lt_tup fun a ha b hb => ih (h a ha) (h' b hb))
      | exact lt_heads fun q => absurd q (by decide)
theorem comp_of {n : Nat} {xs : List D} (h : ∀ x ∈ xs, Wf n x) : Comp xs := fun x hx y hy => (h x hx).lt (h y hy)
theorem set_ok {n : Nat} (hn : n ≤ 3) {xs : List D} (h : ∀ x ∈ xs, Wf n x) (l : xs.length ≤ 32) : setOk xs = true := by
  simp only [setOk, Bool.and_eq_true, List.all_eq_true, decide_eq_true_eq]
  refine ⟨⟨⟨⟨fun x hx => (h x hx).hash, fun x hx => (h x hx).head⟩, fun x hx => by have := (h x hx).dep; omega⟩, fun x hx y hy => ?_⟩, l⟩
  obtain ⟨b, e⟩ := (h x hx).lt (h y hy)
  rw [e]; rfl
/-! ### data -/
theorem let_ok {c : Str} (h : isLet c) : PyData.strOk c = true ∧ c.cps.size = 1 := by
  simp only [isLet, LETS, List.mem_cons, List.not_mem_nil, or_false] at h
  rcases h with rfl | rfl | rfl | rfl | rfl | rfl | rfl | rfl <;> decide +kernel
theorem Wf.dat {n : Nat} {d : D} (h : Wf n d) : datD d = true ∧ dpD d ≤ 2 * n + 1 ∧ wtD d + 1 ≤ 6 * size n d := by
  induction n generalizing d with
  | zero =>
    obtain ⟨c, hc, rfl⟩ := h
    obtain ⟨h1, h2⟩ := let_ok hc
    refine ⟨by simp [leafD, datD, datDs, h1], by simp [leafD, dpD, dpDs], by simp [leafD, wtD, wtDs, h2, size]⟩
  | succ n ih =>
    have sums : ∀ (xs : List D), (∀ x ∈ xs, wtD x + 1 ≤ 6 * size n x) → wtDs xs ≤ 6 * (xs.map (size n)).sum := by
      intro xs
      induction xs with
      | nil => intro _; exact Nat.zero_le _
      | cons x xs ih2 =>
        intro h
        have h1 := h x List.mem_cons_self
        have h2 := ih2 fun y hy => h y (List.mem_cons_of_mem _ hy)
        simp only [wtDs, List.map_cons, List.sum_cons]; omega
    have w1 : wtD (.str "on") = 2 := rfl
    have w2 : wtD (.str "back") = 4 := rfl
    have w3 : wtD (.str "row") = 3 := rfl
    have w4 : wtD (.str "mix") = 3 := rfl
    have o1 : PyData.strOk "on" = true := by decide +kernel
    have o2 : PyData.strOk "back" = true := by decide +kernel
    have o3 : PyData.strOk "row" = true := by decide +kernel
    have o4 : PyData.strOk "mix" = true := by decide +kernel
    rcases h with ⟨c, hc, rfl⟩ | ⟨e, h, rfl⟩ | ⟨e, h, rfl⟩ | ⟨xs, h, l, l2, rfl⟩ | ⟨xs, h, l, l2, u, rfl⟩
    · obtain ⟨h1, h2⟩ := let_ok hc
      have h3 := @size_pos (n + 1) (leafD c)
      refine ⟨by simp [leafD, datD, datDs, h1], by simp [leafD, dpD, dpDs], ?_⟩
      have h4 : wtD (leafD c) = 2 := by simp [leafD, wtD, wtDs, h2]
      omega
    · obtain ⟨a, b, c⟩ := ih h
      refine ⟨by simp only [onD, datD, datDs, a, o1, Bool.and_self], by simp only [onD, dpD, dpDs]; omega, by simp only [size, inner, vw_on, List.map_cons, List.map_nil, List.sum_cons, List.sum_nil]; simp only [onD, wtD, wtDs] at *; omega⟩
    · obtain ⟨a, b, c⟩ := ih h
      refine ⟨by simp only [backD, datD, datDs, a, o2, Bool.and_self], by simp only [backD, dpD, dpDs]; omega, by simp only [size, inner, vw_back, List.map_cons, List.map_nil, List.sum_cons, List.sum_nil]; simp only [backD, wtD, wtDs] at *; omega⟩
    · have q := fun x hx => ih (h x hx).1
      have a := dat_all fun x hx => (q x hx).1
      have b := dp_all fun x hx => (q x hx).2.1
      have c := sums xs fun x hx => (q x hx).2.2
      refine ⟨by simp only [rowD, datD, datDs, a, o3, Bool.and_self], by simp only [rowD, dpD, dpDs]; omega, by simp only [size, inner, vw_row]; simp only [rowD, wtD, wtDs] at *; omega⟩
    · have q := fun x hx => ih (h x hx)
      have a := dat_all fun x hx => (q x hx).1
      have b := dp_all fun x hx => (q x hx).2.1
      have c := sums xs fun x hx => (q x hx).2.2
      refine ⟨by simp only [mixD, datD, datDs, a, o4, Bool.and_self], by simp only [mixD, dpD, dpDs]; omega, by simp only [size, inner, vw_mix]; simp only [mixD, wtD, wtDs] at *; omega⟩
theorem size_up {n : Nat} {d : D} (h : Wf n d) : size (n + 1) d = size n d := by
  induction n generalizing d with
  | zero => simp [size, in_zero h]
  | succ n ih =>
    have e : (inner d).map (size (n + 1)) = (inner d).map (size n) := List.map_congr_left fun x hx => ih (in_sub' h x hx)
    show 1 + ((inner d).map (size (n + 1))).sum = _
    rw [e]; rfl
theorem len_sum {n : Nat} : ∀ (xs : List D), xs.length ≤ (xs.map (size n)).sum
  | [] => by simp
  | x :: xs => by
    have h1 := len_sum (n := n) xs
    have h2 := @size_pos n x
    simp only [List.length_cons, List.map_cons, List.sum_cons]
    omega
theorem size_le {n : Nat} {xs : List D} {m : Nat} (h : ∀ x ∈ xs, size n x ≤ m) : (xs.map (size n)).sum ≤ xs.length * m := by
  induction xs with
  | nil => simp
  | cons x xs ih =>
    have h1 := h x List.mem_cons_self
    have h2 := ih fun y hy => h y (List.mem_cons_of_mem _ hy)
    have e0 : (xs.length + 1) * m = xs.length * m + m := by rw [Nat.add_mul]; simp
    simp only [List.map_cons, List.sum_cons, List.length_cons, e0]
    omega
theorem sum_le {g : D → Nat} : ∀ {l : List D} {x : D}, x ∈ l → g x ≤ (l.map g).sum
  | y :: l, x, h => by
    simp only [List.map_cons, List.sum_cons]
    rcases List.mem_cons.mp h with rfl | h
    · omega
    · have := sum_le (g := g) h; omega
theorem ins_sum {g : D → Nat} (x : D) : ∀ (ys : List D), ((insD x ys).map g).sum ≤ g x + (ys.map g).sum
  | [] => by simp [insD]
  | y :: ys => by
    simp only [insD]
    split
    · simp
    · split
      · simp
      · have := ins_sum (g := g) x ys
        simp only [List.map_cons, List.sum_cons]; omega
theorem sort_sum {g : D → Nat} : ∀ (xs : List D), ((sortD xs).map g).sum ≤ (xs.map g).sum
  | [] => by simp [sortD]
  | x :: xs => by
    have h1 := ins_sum (g := g) x (sortD xs)
    have h2 := sort_sum (g := g) xs
    simp only [sortD, List.map_cons, List.sum_cons]; omega
/-! ### rows put in place -/
def flatR (d : D) : List D := match vw d with
  | .row ys => ys
  | _ => [d]
theorem flat_wf {n : Nat} {d : D} (h : Wf n d) : ∀ x ∈ flatR d, Wf n x ∧ isRow x = false := by
  intro x hx
  refine h.cases' (p := fun d => x ∈ flatR d → Wf n d → Wf n x ∧ isRow x = false) (fun c _ hx hw => ?_) (fun m e hm he hx hw => ?_) (fun m e hm he hx hw => ?_) (fun m xs hm hx l l2 hxx hw => ?_) (fun m xs hm hx l l2 _ hxx hw => ?_) hx h
  · simp [flatR] at hx; subst hx; exact ⟨hw, rfl⟩
  · simp [flatR] at hx; subst hx; exact ⟨hw, isRow_on _⟩
  · simp [flatR] at hx; subst hx; exact ⟨hw, isRow_back _⟩
  · simp [flatR] at hxx; exact ⟨(hx x hxx).1.le (by omega), (hx x hxx).2⟩
  · simp [flatR] at hxx; subst hxx; exact ⟨hw, isRow_mix _⟩
theorem flat_ne {n : Nat} {d : D} (h : Wf n d) : 1 ≤ (flatR d).length := h.cases' (p := fun d => 1 ≤ (flatR d).length) (fun c _ => by simp [flatR]) (fun _ _ _ _ => by simp [flatR]) (fun _ _ _ _ => by simp [flatR]) (fun _ _ _ _ _ _ => by simp [flatR]; omega) (fun _ _ _ _ _ _ _ => by simp [flatR])
theorem flat_size {n : Nat} {d : D} (h : Wf n d) : ((flatR d).map (size n)).sum ≤ size n d := by
  cases n with
  | zero => obtain ⟨c, hc, rfl⟩ := h; simp [flatR, size]
  | succ n =>
    rcases h with ⟨c, hc, rfl⟩ | ⟨e, h, rfl⟩ | ⟨e, h, rfl⟩ | ⟨xs, h, l, l2, rfl⟩ | ⟨xs, h, l, l2, u, rfl⟩
    · simp [flatR]
    · simp [flatR]
    · simp [flatR]
    · have e1 : xs.map (size (n + 1)) = xs.map (size n) := List.map_congr_left fun x hx => size_up (h x hx).1
      have e2 : size (n + 1) (rowD xs) = 1 + (xs.map (size n)).sum := by simp only [size, inner, vw_row]
      have e3 : flatR (rowD xs) = xs := by simp [flatR]
      rw [e3, e2, e1]
      omega
    · simp [flatR]
theorem row_eq {n : Nat} {d : D} (h : Wf n d) : (isRow d = true ∧ d = rowD (flatR d)) ∨ (isRow d = false ∧ flatR d = [d]) := h.cases' (p := fun d => (isRow d = true ∧ d = rowD (flatR d)) ∨ (isRow d = false ∧ flatR d = [d])) (fun c _ => .inr ⟨rfl, rfl⟩) (fun _ _ _ _ => .inr ⟨isRow_on _, by simp [flatR]⟩) (fun _ _ _ _ => .inr ⟨isRow_back _, by simp [flatR]⟩) (fun _ _ _ _ _ _ => .inl ⟨isRow_row _, by simp [flatR]⟩) (fun _ _ _ _ _ _ _ => .inr ⟨isRow_mix _, by simp [flatR]⟩)
theorem flat_sum {n : Nat} : ∀ {xs : List D}, (∀ x ∈ xs, Wf n x) → ((xs.flatMap flatR).map (size n)).sum ≤ (xs.map (size n)).sum
  | [], _ => by simp
  | x :: xs, h => by
    have h1 := flat_size (h x List.mem_cons_self)
    have h2 := flat_sum fun y hy => h y (List.mem_cons_of_mem _ hy)
    simp only [List.flatMap_cons, List.map_append, List.sum_append, List.map_cons, List.sum_cons]
    omega
theorem flat_two {n : Nat} : ∀ {xs : List D}, (∀ x ∈ xs, Wf n x) → xs.length ≤ (xs.flatMap flatR).length
  | [], _ => by simp
  | x :: xs, h => by
    have h1 := flat_ne (h x List.mem_cons_self)
    have h2 := flat_two fun y hy => h y (List.mem_cons_of_mem _ hy)
    simp only [List.flatMap_cons, List.length_append, List.length_cons]
    omega
theorem wf_row {n : Nat} {xs : List D} (h : ∀ x ∈ xs, Wf n x) (l : 2 ≤ (xs.flatMap flatR).length) (l2 : (xs.flatMap flatR).length ≤ 1000) : Wf (n + 1) (rowD (xs.flatMap flatR)) := by
  refine .inr (.inr (.inr (.inl ⟨_, fun x hx => ?_, l, l2, rfl⟩)))
  obtain ⟨y, hy, hx⟩ := List.mem_flatMap.mp hx
  exact flat_wf (h y hy) x hx
theorem wf_mix {n : Nat} {xs : List D} (h : ∀ x ∈ xs, Wf n x) (l : xs.length ≤ 32) (z : xs ≠ []) : Wf (n + 1) (mixD (sortD xs)) := by
  refine .inr (.inr (.inr (.inr ⟨sortD xs, fun x hx => h x ((sort_mem xs x).mp hx), ?_, Nat.le_trans (sort_len xs) l, sort_up xs (comp_of h), rfl⟩)))
  cases xs with
  | nil => exact absurd rfl z
  | cons x xs =>
    intro e
    have := (sort_mem (x :: xs) x).mpr (by simp)
    rw [e] at this
    cases this
end MT
namespace MT
open PySem MI
/-! ### what is made, whatever the lengths -/
def letB : D → Bool
  | .tup [.str c] => decide (isLet c)
  | _ => false
def rowW : D → Bool
  | .tup (.str w :: _) => decide (w = "row")
  | _ => false
def ltB (a b : D) : Bool := ltD a b == some true
def risB (xs : List D) : Bool := (xs.zip xs.tail).all fun p => ltB p.1 p.2
def madeB : Nat → D → Bool
  | 0, d => letB d
  | n + 1, d => letB d || match d with
    | .tup [.str w, e] => if w = "on" ∨ w = "back" then madeB n e else match e with
      | .tup xs => if w = "row" then xs.all (madeB n) && (decide (1 < xs.length) && xs.all fun x => !rowW x) else if w = "mix" then xs.all (madeB n) && (decide (0 < xs.length) && risB xs) else false
      | _ => false
    | _ => false
/-- a term, whatever its lengths -/
def Md : Nat → D → Prop
  | 0, d => ∃ c, isLet c ∧ d = leafD c
  | n + 1, d => (∃ c, isLet c ∧ d = leafD c) ∨ (∃ e, Md n e ∧ d = onD e) ∨ (∃ e, Md n e ∧ d = backD e)
    ∨ (∃ xs, (∀ x ∈ xs, Md n x) ∧ 1 < xs.length ∧ (xs.all fun x => !rowW x) = true ∧ d = rowD xs)
    ∨ ∃ xs, (∀ x ∈ xs, Md n x) ∧ 0 < xs.length ∧ risB xs = true ∧ d = mixD xs
theorem letB_leaf {c : Str} (h : isLet c) : letB (leafD c) = true := by simp [letB, leafD, h]
theorem letB_ok {d : D} (h : letB d = true) : ∃ c, isLet c ∧ d = leafD c := by
  unfold letB at h
  split at h
  · rename_i c
    exact ⟨c, of_decide_eq_true h, rfl⟩
  · cases h
theorem Md.made {n : Nat} {d : D} (h : Md n d) : madeB n d = true := by
  induction n generalizing d with
  | zero => obtain ⟨c, hc, rfl⟩ := h; exact letB_leaf hc
  | succ n ih =>
    rcases h with ⟨c, hc, rfl⟩ | ⟨e, h, rfl⟩ | ⟨e, h, rfl⟩ | ⟨xs, h, l, l2, rfl⟩ | ⟨xs, h, l, u, rfl⟩
    · simp [madeB, letB_leaf hc]
    · simp [madeB, onD, ih h]
    · simp [madeB, backD, ih h]
    · have : xs.all (madeB n) = true := List.all_eq_true.mpr fun x hx => ih (h x hx)
      simp only [madeB, rowD, ne_row_on, ne_row_back, or_self, if_false, if_true, this, l, l2, decide_true, Bool.and_self, Bool.or_true]
    · have : xs.all (madeB n) = true := List.all_eq_true.mpr fun x hx => ih (h x hx)
      simp only [madeB, mixD, ne_mix_on, ne_mix_back, ne_mix_row, or_self, if_false, if_true, this, l, u, decide_true, Bool.and_self, Bool.or_true]
theorem made_md {n : Nat} {d : D} (h : madeB n d = true) : Md n d := by
  induction n generalizing d with
  | zero => exact letB_ok h
  | succ n ih =>
    simp only [madeB, Bool.or_eq_true] at h
    rcases h with h | h
    · exact .inl (letB_ok h)
    split at h
    · rename_i w e
      split at h
      · rename_i hw
        rcases hw with rfl | rfl
        · exact .inr (.inl ⟨e, ih h, rfl⟩)
        · exact .inr (.inr (.inl ⟨e, ih h, rfl⟩))
      · split at h
        · rename_i xs
          split at h
          · rename_i hw
            subst hw
            simp only [Bool.and_eq_true, decide_eq_true_eq, List.all_eq_true] at h
            exact .inr (.inr (.inr (.inl ⟨xs, fun x hx => ih (h.1 x hx), h.2.1, List.all_eq_true.mpr h.2.2, rfl⟩)))
          · split at h
            · rename_i hw
              subst hw
              simp only [Bool.and_eq_true, decide_eq_true_eq, List.all_eq_true] at h
              exact .inr (.inr (.inr (.inr ⟨xs, fun x hx => ih (h.1 x hx), h.2.1, h.2.2, rfl⟩)))
            · cases h
        · cases h
    · cases h
theorem ris_of {xs : List D} (u : Up xs) : risB xs = true := by
  unfold risB
  rw [List.all_eq_true]
  intro p hp
  induction xs with
  | nil => simp at hp
  | cons x xs ih =>
    cases xs with
    | nil => simp at hp
    | cons y ys =>
      simp only [List.tail_cons, List.zip_cons_cons, List.mem_cons] at hp
      have u' := List.pairwise_cons.mp u
      rcases hp with rfl | hp
      · simp [ltB, u'.1 y List.mem_cons_self]
      · exact ih u'.2 hp
theorem rowW_eq {n : Nat} {d : D} (h : Wf n d) : rowW d = isRow d := h.cases' (p := fun d => rowW d = isRow d) (fun c hc => by simp [rowW, leafD, (lets_ne hc).2.2.1, isRow, vw]) (fun _ _ _ _ => by rw [isRow_on]; simp only [rowW, onD]; decide) (fun _ _ _ _ => by rw [isRow_back]; simp only [rowW, backD]; decide) (fun _ _ _ _ _ _ => by rw [isRow_row]; simp [rowW, rowD]) (fun _ _ _ _ _ _ _ => by rw [isRow_mix]; simp only [rowW, mixD]; decide)
theorem Wf.md {n : Nat} {d : D} (h : Wf n d) : Md n d := by
  induction n generalizing d with
  | zero => exact h
  | succ n ih =>
    rcases h with h | ⟨e, h, rfl⟩ | ⟨e, h, rfl⟩ | ⟨xs, h, l, l2, rfl⟩ | ⟨xs, h, l, l2, u, rfl⟩
    · exact .inl h
    · exact .inr (.inl ⟨e, ih h, rfl⟩)
    · exact .inr (.inr (.inl ⟨e, ih h, rfl⟩))
    · exact .inr (.inr (.inr (.inl ⟨xs, fun x hx => ih (h x hx).1, l, List.all_eq_true.mpr fun x hx => by rw [rowW_eq (h x hx).1, (h x hx).2]; rfl, rfl⟩)))
    · exact .inr (.inr (.inr (.inr ⟨xs, fun x hx => ih (h x hx), List.length_pos_iff.mpr l, ris_of u, rfl⟩)))
theorem Md.hash {n : Nat} {d : D} (h : Md n d) : hashD d = true := by
  induction n generalizing d with
  | zero => obtain ⟨c, _, rfl⟩ := h; rfl
  | succ n ih =>
    rcases h with ⟨c, _, rfl⟩ | ⟨e, h, rfl⟩ | ⟨e, h, rfl⟩ | ⟨xs, h, l, l2, rfl⟩ | ⟨xs, h, l, u, rfl⟩
    · rfl
    · simp [onD, hashD, hashDs, ih h]
    · simp [backD, hashD, hashDs, ih h]
    · simp [rowD, hashD, hashDs, hash_all fun x hx => ih (h x hx)]
    · simp [mixD, hashD, hashDs, hash_all fun x hx => ih (h x hx)]
theorem Md.lt {n : Nat} {d e : D} (h : Md n d) (h' : Md n e) : ∃ b, ltD d e = some b := by
  induction n generalizing d e with
  | zero =>
    obtain ⟨c, _, rfl⟩ := h
    obtain ⟨c', _, rfl⟩ := h'
    exact lt_heads fun _ => ⟨_, rfl⟩
  | succ n ih =>
    rcases h with ⟨c, hc, rfl⟩ | ⟨d, h, rfl⟩ | ⟨d, h, rfl⟩ | ⟨xs, h, l, l2, rfl⟩ | ⟨xs, h, l, u, rfl⟩ <;> rcases h' with ⟨c', hc', rfl⟩ | ⟨e, h', rfl⟩ | ⟨e, h', rfl⟩ | ⟨ys, h', m, m2, rfl⟩ | ⟨ys, h', m, v, rfl⟩
    all_goals first
      | exact lt_heads fun _ => ⟨_, rfl⟩
      | exact lt_heads fun _ => lt_one _ _ (ih h h')
      | exact lt_heads fun _ => lt_one _ _ (lt_tup fun a ha b hb => ih (h a ha) (h' b hb))
      | exact lt_heads fun q => absurd q (by decide)
theorem Md.head {n : Nat} {d : D} (h : Md n d) : ∃ w ys, d = .tup (.str w :: ys) := by
  cases n with
  | zero => obtain ⟨c, _, rfl⟩ := h; exact ⟨_, _, rfl⟩
  | succ n =>
    rcases h with ⟨c, hc, rfl⟩ | ⟨d, h, rfl⟩ | ⟨d, h, rfl⟩ | ⟨xs, h, l, l2, rfl⟩ | ⟨xs, h, l, u, rfl⟩ <;> exact ⟨_, _, rfl⟩
/-- data has no depth beyond its own -/
theorem dep_le {d : D} : depD d ≤ dpD d := by
  refine @D.rec (motive_1 := fun d => depD d ≤ dpD d) (motive_2 := fun ds => depDs ds ≤ dpDs ds) (motive_3 := fun _ => True) (motive_4 := fun _ => True) ?_ ?_ ?_ ?_ ?_ ?_ ?_ ?_ ?_ ?_ ?_ ?_ ?_ ?_ ?_ ?_ d
  · exact Nat.le_refl _
  · intro b; exact Nat.le_refl _
  · intro b; exact Nat.le_refl _
  · intro b; exact Nat.le_refl _
  · intro xs ih; simp only [depD, dpD]; omega
  · intro xs ih; simp only [depD, dpD]; omega
  · intro xs ih; exact Nat.le_refl _
  · intro xs ih; exact Nat.le_refl _
  · intro b; exact Nat.le_refl _
  · intro b; exact Nat.le_refl _
  · intro c d ih; exact Nat.le_refl _
  · exact Nat.le_refl _
  · intro x xs h1 h2; simp only [depDs, dpDs]; omega
  · trivial
  · intros; trivial
  · intros; trivial
end MT
end
/-! MU -/
section
set_option linter.all false
set_option maxRecDepth 100000
/-! Functions that many laws share, over a table of where they stand. -/
namespace MU
open PySem MI
structure Ix where
  is_integer : Nat := 999
  is_natural : Nat := 999
  is_between : Nat := 999
  is_tuple : Nat := 999
  is_word : Nat := 999
  are_rising : Nat := 999
  anew : Nat := 999
  is_letter : Nat := 999
  is_made : Nat := 999
  is_made_takes : List Nat := []
  is_leaf : Nat := 999
  is_wide : Nat := 999
  need_wide : Nat := 999
  c_InvalidTerm : Nat := 999
  is_digits : Nat := 999
  is_item : Nat := 999
  under : Nat := 999
  is_in : Nat := 999
  leaf_at : Nat := 999
  is_moment : Nat := 999
  need_moment : Nat := 999
  c_InvalidMoment : Nat := 999
  letter_at : Nat := 999
  law_well : Nat := 999
  law_draw : Nat := 999
  law_row : Nat := 999
  law_mix : Nat := 999
  law_inner : Nat := 999
  law_size : Nat := 999
  law_any : Nat := 999
  law_term : Nat := 999
  law_moment : Nat := 999
  goes_ahead : Nat := 999
  is_ahead : Nat := 999
  law_below : Nat := 999
  law_parted : Nat := 999
  law_number : Nat := 999
  law_is_ahead : Nat := 999
def B_is_integer (T : Ix) : Ss :=
  .cons (.ret (.and (.cons (.isi (.var 0) .int) (.cons (.not (.isi (.var 0) .bool)) (.nil))))) (.nil)
abbrev F_is_integer (T : Ix) : Fn := ⟨1, 1, false, B_is_integer T⟩
def B_is_natural (T : Ix) : Ss :=
  .cons (.ret (.and (.cons (.call T.is_integer (.cons (.var 0) (.nil))) (.cons (.cmp .GtE (.var 0) (.cst (.int 0))) (.nil))))) (.nil)
abbrev F_is_natural (T : Ix) : Fn := ⟨1, 1, false, B_is_natural T⟩
def B_is_between (T : Ix) : Ss :=
  .cons (.ret (.and (.cons (.call T.is_integer (.cons (.var 0) (.nil))) (.cons (.chain .LtE .LtE (.var 1) (.var 0) (.var 2)) (.nil))))) (.nil)
abbrev F_is_between (T : Ix) : Fn := ⟨3, 3, false, B_is_between T⟩
def B_is_tuple (T : Ix) : Ss :=
  .cons (.ret (.and (.cons (.isi (.var 0) .tuple) (.cons (.cmp .GtE (.bi .len (.cons (.var 0) (.nil))) (.var 1)) (.cons (.or (.cons (.cmp .Is (.var 2) (.cst (.non))) (.cons (.cmp .LtE (.bi .len (.cons (.var 0) (.nil))) (.var 2)) (.nil)))) (.nil)))))) (.nil)
abbrev F_is_tuple (T : Ix) : Fn := ⟨3, 3, false, B_is_tuple T⟩
def B_is_word (T : Ix) : Ss :=
  .cons (.ret (.and (.cons (.isi (.var 0) .str) (.cons (.cmp .In (.var 0) (.var 1)) (.nil))))) (.nil)
abbrev F_is_word (T : Ix) : Fn := ⟨2, 2, false, B_is_word T⟩
def B_are_rising (T : Ix) : Ss :=
  .cons (.ret (.bi .all (.cons (.lc (.cmp .Lt (.var 1) (.var 2)) (.two 1 2) (.zip (.var 0) (.sl (.var 0) (.some (.cst (.int 1))) (.none))) (.none) [1, 2]) (.nil)))) (.nil)
abbrev F_are_rising (T : Ix) : Fn := ⟨1, 3, false, B_are_rising T⟩
def B_anew (T : Ix) : Ss :=
  .cons (.iff (.isi (.var 0) .list) (.cons (.ret (.lc (.call T.anew (.cons (.var 1) (.nil))) (.one 1) (.val (.var 0)) (.none) [1])) (.nil)) (.nil)) (.cons (.iff (.isi (.var 0) .tuple) (.cons (.ret (.bi .tuple (.cons (.lc (.call T.anew (.cons (.var 1) (.nil))) (.one 1) (.val (.var 0)) (.none) [1]) (.nil)))) (.nil)) (.nil)) (.cons (.ret (.var 0)) (.nil)))
abbrev F_anew (T : Ix) : Fn := ⟨1, 2, false, B_anew T⟩
def B_is_letter (T : Ix) : Ss :=
  .cons (.ret (.and (.cons (.call T.is_tuple (.cons (.var 0) (.cons (.cst (.int 1)) (.cons (.cst (.int 1)) (.nil))))) (.cons (.call T.is_word (.cons (.ix (.var 0) (.cst (.int 0))) (.cons (.cst (.tup [.str "a", .str "b", .str "c", .str "d", .str "e", .str "f", .str "g", .str "h"])) (.nil)))) (.nil))))) (.nil)
abbrev F_is_letter (T : Ix) : Fn := ⟨1, 1, false, B_is_letter T⟩
def B_is_made (T : Ix) : Ss :=
  .cons (.iff (.callv 1 T.is_made_takes (.cons (.var 0) (.nil))) (.cons (.ret (.cst (.bl true))) (.nil)) (.nil)) (.cons (.iff (.or (.cons (.not (.call T.is_tuple (.cons (.var 0) (.cons (.cst (.int 2)) (.cons (.cst (.int 2)) (.nil)))))) (.cons (.not (.call T.is_word (.cons (.ix (.var 0) (.cst (.int 0))) (.cons (.cst (.tup [.str "row", .str "on", .str "back", .str "mix"])) (.nil))))) (.nil)))) (.cons (.ret (.cst (.bl false))) (.nil)) (.nil)) (.cons (.sett [2, 3] (.var 0)) (.cons (.iff (.cmp .In (.var 2) (.tup (.cons (.cst (.str "on")) (.cons (.cst (.str "back")) (.nil))))) (.cons (.ret (.call T.is_made (.cons (.var 3) (.cons (.var 1) (.nil))))) (.nil)) (.nil)) (.cons (.iff (.or (.cons (.not (.isi (.var 3) .tuple)) (.cons (.not (.bi .all (.cons (.lc (.call T.is_made (.cons (.var 4) (.cons (.var 1) (.nil)))) (.one 4) (.val (.var 3)) (.none) [4]) (.nil)))) (.nil)))) (.cons (.ret (.cst (.bl false))) (.nil)) (.nil)) (.cons (.iff (.cmp .Eq (.var 2) (.cst (.str "row"))) (.cons (.ret (.and (.cons (.cmp .Gt (.bi .len (.cons (.var 3) (.nil))) (.cst (.int 1))) (.cons (.bi .all (.cons (.lc (.cmp .NotEq (.ix (.var 4) (.cst (.int 0))) (.cst (.str "row"))) (.one 4) (.val (.var 3)) (.none) [4]) (.nil))) (.nil))))) (.nil)) (.nil)) (.cons (.ret (.and (.cons (.cmp .Gt (.bi .len (.cons (.var 3) (.nil))) (.cst (.int 0))) (.cons (.call T.are_rising (.cons (.var 3) (.nil))) (.nil))))) (.nil)))))))
abbrev F_is_made (T : Ix) : Fn := ⟨2, 5, false, B_is_made T⟩
def B_is_leaf (T : Ix) : Ss :=
  .cons (.ret (.cmp .NotIn (.ix (.var 0) (.cst (.int 0))) (.cst (.tup [.str "row", .str "on", .str "back", .str "mix"])))) (.nil)
abbrev F_is_leaf (T : Ix) : Fn := ⟨1, 1, false, B_is_leaf T⟩
def B_is_wide (T : Ix) : Ss :=
  .cons (.ret (.call T.is_made (.cons (.var 0) (.cons (.fnv T.is_letter) (.nil))))) (.nil)
abbrev F_is_wide (T : Ix) : Fn := ⟨1, 1, false, B_is_wide T⟩
def B_need_wide (T : Ix) : Ss :=
  .cons (.iff (.not (.call T.is_wide (.cons (.var 0) (.nil)))) (.cons (.raise T.c_InvalidTerm (.call T.anew (.cons (.var 0) (.nil)))) (.nil)) (.nil)) (.nil)
abbrev F_need_wide (T : Ix) : Fn := ⟨1, 1, false, B_need_wide T⟩
def B_is_digits (T : Ix) : Ss :=
  .cons (.iff (.or (.cons (.not (.call T.is_tuple (.cons (.var 0) (.cons (.cst (.int 1)) (.cons (.cst (.non)) (.nil)))))) (.cons (.not (.bi .all (.cons (.lc (.call T.is_between (.cons (.var 2) (.cons (.cst (.int 0)) (.cons (.var 1) (.nil))))) (.one 2) (.val (.var 0)) (.none) [2]) (.nil)))) (.nil)))) (.cons (.ret (.cst (.bl false))) (.nil)) (.nil)) (.cons (.ret (.cmp .NotEq (.ix (.var 0) (.neg (.cst (.int 1)))) (.cst (.int 0)))) (.nil))
abbrev F_is_digits (T : Ix) : Fn := ⟨2, 3, false, B_is_digits T⟩
def B_is_item (T : Ix) : Ss :=
  .cons (.iff (.cmp .Eq (.ix (.var 0) (.cst (.int 0))) (.cst (.str "mix"))) (.cons (.ret (.call T.is_digits (.cons (.var 1) (.cons (.bi .len (.cons (.ix (.var 0) (.cst (.int 1))) (.nil))) (.nil))))) (.nil)) (.nil)) (.cons (.ret (.ite (.cmp .Eq (.ix (.var 0) (.cst (.int 0))) (.cst (.str "row"))) (.call T.is_between (.cons (.var 1) (.cons (.cst (.int 0)) (.cons (.bin .Sub (.bi .len (.cons (.ix (.var 0) (.cst (.int 1))) (.nil))) (.cst (.int 1))) (.nil))))) (.call T.is_natural (.cons (.var 1) (.nil))))) (.nil))
abbrev F_is_item (T : Ix) : Fn := ⟨2, 2, false, B_is_item T⟩
def B_under (T : Ix) : Ss :=
  .cons (.iff (.cmp .In (.ix (.var 0) (.cst (.int 0))) (.tup (.cons (.cst (.str "on")) (.cons (.cst (.str "back")) (.nil))))) (.cons (.ret (.ix (.var 0) (.cst (.int 1)))) (.nil)) (.nil)) (.cons (.ret (.ix (.ix (.var 0) (.cst (.int 1))) (.ite (.cmp .Eq (.ix (.var 0) (.cst (.int 0))) (.cst (.str "row"))) (.var 1) (.bin .Sub (.ix (.var 1) (.neg (.cst (.int 1)))) (.cst (.int 1)))))) (.nil))
abbrev F_under (T : Ix) : Fn := ⟨2, 2, false, B_under T⟩
def B_is_in (T : Ix) : Ss :=
  .cons (.iff (.not (.isi (.var 1) .tuple)) (.cons (.ret (.cst (.bl false))) (.nil)) (.nil)) (.cons (.for (.one 2) (.val (.var 1)) (.cons (.iff (.or (.cons (.call T.is_leaf (.cons (.var 0) (.nil))) (.cons (.not (.call T.is_item (.cons (.var 0) (.cons (.var 2) (.nil))))) (.nil)))) (.cons (.ret (.cst (.bl false))) (.nil)) (.nil)) (.cons (.set 0 (.call T.under (.cons (.var 0) (.cons (.var 2) (.nil))))) (.nil)))) (.cons (.ret (.call T.is_leaf (.cons (.var 0) (.nil)))) (.nil)))
abbrev F_is_in (T : Ix) : Fn := ⟨2, 3, false, B_is_in T⟩
def B_leaf_at (T : Ix) : Ss :=
  .cons (.for (.one 2) (.val (.var 1)) (.cons (.set 0 (.call T.under (.cons (.var 0) (.cons (.var 2) (.nil))))) (.nil))) (.cons (.ret (.var 0)) (.nil))
abbrev F_leaf_at (T : Ix) : Fn := ⟨2, 3, false, B_leaf_at T⟩
def B_is_moment (T : Ix) : Ss :=
  .cons (.ex (.call T.need_wide (.cons (.var 0) (.nil)))) (.cons (.ret (.call T.is_in (.cons (.var 0) (.cons (.var 1) (.nil))))) (.nil))
abbrev F_is_moment (T : Ix) : Fn := ⟨2, 2, false, B_is_moment T⟩
def B_need_moment (T : Ix) : Ss :=
  .cons (.ex (.call T.need_wide (.cons (.var 0) (.nil)))) (.cons (.iff (.not (.call T.is_in (.cons (.var 0) (.cons (.var 1) (.nil))))) (.cons (.raise T.c_InvalidMoment (.call T.anew (.cons (.var 1) (.nil)))) (.nil)) (.nil)) (.nil))
abbrev F_need_moment (T : Ix) : Fn := ⟨2, 2, false, B_need_moment T⟩
def B_letter_at (T : Ix) : Ss :=
  .cons (.ex (.call T.need_moment (.cons (.var 0) (.cons (.var 1) (.nil))))) (.cons (.ret (.ix (.call T.leaf_at (.cons (.var 0) (.cons (.var 1) (.nil)))) (.cst (.int 0)))) (.nil))
abbrev F_letter_at (T : Ix) : Fn := ⟨2, 2, false, B_letter_at T⟩
def B_law_well (T : Ix) : Ss :=
  .cons (.set 2 (.ite (.cmp .Lt (.var 1) (.bi .len (.cons (.var 0) (.nil)))) (.bi .int (.cons (.ix (.var 0) (.var 1)) (.nil))) (.bin .Add (.bin .Mult (.cst (.int 89)) (.var 1)) (.cst (.int 43))))) (.cons (.set 3 (.bin .Add (.cst (.int 41)) (.bi .len (.cons (.var 0) (.nil))))) (.cons (.for (.one 4) (.val (.sl (.var 0) (.none) (.some (.cst (.int 63))))) (.cons (.set 3 (.bin .Mod (.bi .int (.cons (.bin .Add (.bin .Mult (.var 3) (.cst (.int 6007))) (.bin .Mod (.bi .int (.cons (.var 4) (.nil))) (.bin .Add (.bin .Pow (.cst (.int 10)) (.cst (.int 19))) (.cst (.int 51))))) (.nil))) (.bin .Add (.bin .Pow (.cst (.int 10)) (.cst (.int 25))) (.cst (.int 13))))) (.nil))) (.cons (.set 5 (.bin .Mod (.bi .int (.cons (.bin .Add (.bin .Add (.bin .Add (.bin .Mult (.bi .abs (.cons (.var 2) (.nil))) (.cst (.int 7411))) (.bin .Mult (.var 3) (.cst (.int 43)))) (.bin .Mult (.cst (.int 5)) (.bi .int (.cons (.cmp .Lt (.var 2) (.cst (.int 0))) (.nil))))) (.bin .Mult (.cst (.int 67)) (.var 1))) (.nil))) (.bin .Add (.bin .Pow (.cst (.int 10)) (.cst (.int 28))) (.cst (.int 331))))) (.cons (.retc (.cons (.bi .max2 (.cons (.cst (.int 0)) (.cons (.bin .Sub (.bi .abs (.cons (.var 2) (.nil))) (.bin .Pow (.cst (.int 10)) (.cst (.int 18)))) (.nil)))) (.cons (.var 5) (.cons (.cst (.int 0)) (.nil))))) (.nil)))))
abbrev F_law_well (T : Ix) : Fn := ⟨2, 6, true, B_law_well T⟩
def B_law_draw (T : Ix) : Ss :=
  .cons (.iff (.cmp .Gt (.ix (.var 0) (.cst (.int 0))) (.cst (.int 0))) (.cons (.set 2 (.bin .Mod (.bi .int (.cons (.ix (.var 0) (.cst (.int 0))) (.nil))) (.var 1))) (.cons (.seti (.var 0) (.cst (.int 0)) (.bin .FloorDiv (.ix (.var 0) (.cst (.int 0))) (.var 1))) (.cons (.ret (.var 2)) (.nil)))) (.nil)) (.cons (.seti (.var 0) (.cst (.int 2)) (.bin .Add (.ix (.var 0) (.cst (.int 2))) (.cst (.int 1)))) (.cons (.set 3 (.ix (.var 0) (.cst (.int 2)))) (.cons (.set 4 (.bin .Mod (.bi .int (.cons (.bin .Add (.bin .Add (.bin .Mult (.bin .Mult (.bin .Add (.ix (.var 0) (.cst (.int 1))) (.cst (.int 41))) (.bin .Add (.var 3) (.cst (.int 9)))) (.cst (.int 998244353))) (.bin .Mult (.bin .Mult (.bin .Mult (.var 3) (.var 3)) (.var 3)) (.cst (.int 424242427)))) (.cst (.int 93))) (.nil))) (.bin .Add (.bin .Pow (.cst (.int 10)) (.cst (.int 29))) (.cst (.int 319))))) (.cons (.set 4 (.bin .Mod (.bi .int (.cons (.bin .Add (.bin .Add (.bin .Mult (.var 4) (.var 4)) (.bin .Mult (.ix (.var 0) (.cst (.int 1))) (.cst (.int 5)))) (.var 3)) (.nil))) (.bin .Add (.bin .Pow (.cst (.int 10)) (.cst (.int 31))) (.cst (.int 33))))) (.cons (.set 4 (.bin .Mod (.bi .int (.cons (.bin .Add (.bin .Mult (.bin .Mult (.var 4) (.var 4)) (.cst (.int 3))) (.bin .Mult (.var 4) (.cst (.int 17)))) (.nil))) (.bin .Add (.bin .Pow (.cst (.int 10)) (.cst (.int 33))) (.cst (.int 603))))) (.cons (.ret (.bin .Mod (.bi .int (.cons (.bin .FloorDiv (.var 4) (.cst (.int 50021))) (.nil))) (.var 1))) (.nil)))))))
abbrev F_law_draw (T : Ix) : Fn := ⟨2, 5, false, B_law_draw T⟩
def B_law_row (T : Ix) : Ss :=
  .cons (.set 1 (.tup (.nil))) (.cons (.for (.one 2) (.val (.var 0)) (.cons (.set 1 (.bin .Add (.var 1) (.ite (.cmp .Eq (.ix (.var 2) (.cst (.int 0))) (.cst (.str "row"))) (.ix (.var 2) (.cst (.int 1))) (.tup (.cons (.var 2) (.nil)))))) (.nil))) (.cons (.ret (.ite (.cmp .Eq (.bi .len (.cons (.var 1) (.nil))) (.cst (.int 1))) (.ix (.var 1) (.cst (.int 0))) (.tup (.cons (.cst (.str "row")) (.cons (.var 1) (.nil)))))) (.nil)))
abbrev F_law_row (T : Ix) : Fn := ⟨1, 3, false, B_law_row T⟩
def B_law_mix (T : Ix) : Ss :=
  .cons (.ret (.tup (.cons (.cst (.str "mix")) (.cons (.bi .tuple (.cons (.sset (.var 0)) (.nil))) (.nil))))) (.nil)
abbrev F_law_mix (T : Ix) : Fn := ⟨1, 1, false, B_law_mix T⟩
def B_law_inner (T : Ix) : Ss :=
  .cons (.iff (.cmp .In (.ix (.var 0) (.cst (.int 0))) (.tup (.cons (.cst (.str "on")) (.cons (.cst (.str "back")) (.nil))))) (.cons (.ret (.tup (.cons (.ix (.var 0) (.cst (.int 1))) (.nil)))) (.nil)) (.nil)) (.cons (.ret (.ite (.cmp .In (.ix (.var 0) (.cst (.int 0))) (.tup (.cons (.cst (.str "row")) (.cons (.cst (.str "mix")) (.nil))))) (.ix (.var 0) (.cst (.int 1))) (.tup (.nil)))) (.nil))
abbrev F_law_inner (T : Ix) : Fn := ⟨1, 1, false, B_law_inner T⟩
def B_law_size (T : Ix) : Ss :=
  .cons (.ret (.bin .Add (.cst (.int 1)) (.bi .sum (.cons (.lc (.call T.law_size (.cons (.var 1) (.nil))) (.one 1) (.val (.call T.law_inner (.cons (.var 0) (.nil)))) (.none) [1]) (.nil))))) (.nil)
abbrev F_law_size (T : Ix) : Fn := ⟨1, 2, false, B_law_size T⟩
def B_law_any (T : Ix) : Ss :=
  .cons (.set 3 (.call T.law_draw (.cons (.var 0) (.cons (.cst (.int 9)) (.nil))))) (.cons (.iff (.or (.cons (.cmp .Eq (.var 2) (.cst (.int 0))) (.cons (.cmp .Lt (.var 3) (.cst (.int 2))) (.nil)))) (.cons (.ret (.tup (.cons (.ix (.var 1) (.call T.law_draw (.cons (.var 0) (.cons (.bi .len (.cons (.var 1) (.nil))) (.nil))))) (.nil)))) (.nil)) (.nil)) (.cons (.iff (.cmp .Eq (.var 3) (.cst (.int 2))) (.cons (.ret (.tup (.cons (.cst (.str "on")) (.cons (.call T.law_any (.cons (.var 0) (.cons (.var 1) (.cons (.bin .Sub (.var 2) (.cst (.int 1))) (.nil))))) (.nil))))) (.nil)) (.nil)) (.cons (.iff (.cmp .Eq (.var 3) (.cst (.int 3))) (.cons (.ret (.tup (.cons (.cst (.str "back")) (.cons (.call T.law_any (.cons (.var 0) (.cons (.var 1) (.cons (.bin .Sub (.var 2) (.cst (.int 1))) (.nil))))) (.nil))))) (.nil)) (.nil)) (.cons (.set 4 (.lc (.call T.law_any (.cons (.var 0) (.cons (.var 1) (.cons (.bin .Sub (.var 2) (.cst (.int 1))) (.nil))))) (.one 5) (.rng1 (.bin .Add (.cst (.int 2)) (.call T.law_draw (.cons (.var 0) (.cons (.cst (.int 2)) (.nil)))))) (.none) [5])) (.cons (.ret (.ite (.cmp .Lt (.var 3) (.cst (.int 6))) (.call T.law_mix (.cons (.sl (.var 4) (.some (.cst (.int 1))) (.none)) (.nil))) (.call T.law_row (.cons (.var 4) (.nil))))) (.nil))))))
abbrev F_law_any (T : Ix) : Fn := ⟨3, 6, false, B_law_any T⟩
def B_law_term (T : Ix) : Ss :=
  .cons (.for (.one 3) (.rng1 (.cst (.int 4))) (.cons (.set 4 (.call T.law_any (.cons (.var 0) (.cons (.var 1) (.cons (.cst (.int 3)) (.nil)))))) (.cons (.iff (.cmp .LtE (.call T.law_size (.cons (.var 4) (.nil))) (.var 2)) (.cons (.ret (.var 4)) (.nil)) (.nil)) (.nil)))) (.cons (.ret (.tup (.cons (.ix (.var 1) (.call T.law_draw (.cons (.var 0) (.cons (.bi .len (.cons (.var 1) (.nil))) (.nil))))) (.nil)))) (.nil))
abbrev F_law_term (T : Ix) : Fn := ⟨3, 5, false, B_law_term T⟩
def B_law_moment (T : Ix) : Ss :=
  .cons (.set 3 (.call T.law_inner (.cons (.var 1) (.nil)))) (.cons (.iff (.cmp .Eq (.var 3) (.tup (.nil))) (.cons (.ret (.tup (.nil))) (.nil)) (.nil)) (.cons (.iff (.cmp .Eq (.ix (.var 1) (.cst (.int 0))) (.cst (.str "row"))) (.cons (.set 4 (.call T.law_draw (.cons (.var 0) (.cons (.bi .len (.cons (.var 3) (.nil))) (.nil))))) (.cons (.ret (.bin .Add (.tup (.cons (.var 4) (.nil))) (.call T.law_moment (.cons (.var 0) (.cons (.ix (.var 3) (.var 4)) (.cons (.var 2) (.nil))))))) (.nil))) (.nil)) (.cons (.iff (.cmp .NotEq (.ix (.var 1) (.cst (.int 0))) (.cst (.str "mix"))) (.cons (.ret (.bin .Add (.tup (.cons (.call T.law_draw (.cons (.var 0) (.cons (.var 2) (.nil)))) (.nil))) (.call T.law_moment (.cons (.var 0) (.cons (.ix (.var 3) (.cst (.int 0))) (.cons (.var 2) (.nil))))))) (.nil)) (.nil)) (.cons (.set 5 (.bin .Add (.bi .tuple (.cons (.lc (.call T.law_draw (.cons (.var 0) (.cons (.bin .Add (.bi .len (.cons (.var 3) (.nil))) (.cst (.int 1))) (.nil)))) (.one 6) (.rng1 (.call T.law_draw (.cons (.var 0) (.cons (.cst (.int 3)) (.nil))))) (.none) [6]) (.nil))) (.tup (.cons (.bin .Add (.cst (.int 1)) (.call T.law_draw (.cons (.var 0) (.cons (.bi .len (.cons (.var 3) (.nil))) (.nil))))) (.nil))))) (.cons (.ret (.bin .Add (.tup (.cons (.var 5) (.nil))) (.call T.law_moment (.cons (.var 0) (.cons (.ix (.var 3) (.bin .Sub (.ix (.var 5) (.neg (.cst (.int 1)))) (.cst (.int 1)))) (.cons (.var 2) (.nil))))))) (.nil))))))
abbrev F_law_moment (T : Ix) : Fn := ⟨3, 7, false, B_law_moment T⟩
def B_goes_ahead (T : Ix) : Ss :=
  .cons (.for (.two 3 4) (.zip (.var 1) (.var 2)) (.cons (.iff (.cmp .NotEq (.var 3) (.var 4)) (.cons (.ret (.ite (.cmp .Eq (.ix (.var 0) (.cst (.int 0))) (.cst (.str "back"))) (.cmp .Gt (.var 3) (.var 4)) (.cmp .Lt (.var 3) (.var 4)))) (.nil)) (.nil)) (.cons (.set 0 (.call T.under (.cons (.var 0) (.cons (.var 3) (.nil))))) (.nil)))) (.cons (.ret (.cst (.bl false))) (.nil))
abbrev F_goes_ahead (T : Ix) : Fn := ⟨3, 5, false, B_goes_ahead T⟩
def B_is_ahead (T : Ix) : Ss :=
  .cons (.ex (.call T.need_moment (.cons (.var 0) (.cons (.var 1) (.nil))))) (.cons (.ex (.call T.need_moment (.cons (.var 0) (.cons (.var 2) (.nil))))) (.cons (.ret (.call T.goes_ahead (.cons (.var 0) (.cons (.var 1) (.cons (.var 2) (.nil)))))) (.nil)))
abbrev F_is_ahead (T : Ix) : Fn := ⟨3, 3, false, B_is_ahead T⟩
def B_law_below (T : Ix) : Ss :=
  .cons (.set 2 (.call T.law_inner (.cons (.var 0) (.nil)))) (.cons (.iff (.cmp .Eq (.ix (.var 0) (.cst (.int 0))) (.cst (.str "mix"))) (.cons (.ret (.ix (.var 2) (.bin .Sub (.ix (.var 1) (.neg (.cst (.int 1)))) (.cst (.int 1))))) (.nil)) (.nil)) (.cons (.ret (.ite (.cmp .Eq (.ix (.var 0) (.cst (.int 0))) (.cst (.str "row"))) (.ix (.var 2) (.var 1)) (.ix (.var 2) (.cst (.int 0))))) (.nil)))
abbrev F_law_below (T : Ix) : Fn := ⟨2, 3, false, B_law_below T⟩
def B_law_parted (T : Ix) : Ss :=
  .cons (.set 3 (.cst (.int 0))) (.cons (.wh 1000000 (.and (.cons (.cmp .Lt (.var 3) (.bi .len (.cons (.var 1) (.nil)))) (.cons (.cmp .Eq (.ix (.var 1) (.var 3)) (.ix (.var 2) (.var 3))) (.nil)))) (.cons (.par [0, 3] (.cons (.call T.law_below (.cons (.var 0) (.cons (.ix (.var 1) (.var 3)) (.nil)))) (.cons (.bin .Add (.var 3) (.cst (.int 1))) (.nil)))) (.nil))) (.cons (.ret (.tup (.cons (.var 3) (.cons (.var 0) (.nil))))) (.nil)))
abbrev F_law_parted (T : Ix) : Fn := ⟨3, 4, false, B_law_parted T⟩
def B_law_number (T : Ix) : Ss :=
  .cons (.set 3 (.cst (.int 0))) (.cons (.for (.one 4) (.rng1 (.var 2)) (.cons (.set 3 (.bin .Add (.bin .Mult (.var 3) (.var 1)) (.ite (.cmp .Lt (.var 4) (.bi .len (.cons (.var 0) (.nil)))) (.ix (.var 0) (.var 4)) (.cst (.int 0))))) (.nil))) (.cons (.ret (.var 3)) (.nil)))
abbrev F_law_number (T : Ix) : Fn := ⟨3, 5, false, B_law_number T⟩
def B_law_is_ahead (T : Ix) : Ss :=
  .cons (.sett [3, 4] (.call T.law_parted (.cons (.var 0) (.cons (.var 1) (.cons (.var 2) (.nil)))))) (.cons (.iff (.cmp .Eq (.var 3) (.bi .len (.cons (.var 1) (.nil)))) (.cons (.ret (.cst (.bl false))) (.nil)) (.nil)) (.cons (.par [5, 6] (.cons (.ix (.var 1) (.var 3)) (.cons (.ix (.var 2) (.var 3)) (.nil)))) (.cons (.iff (.cmp .Eq (.ix (.var 4) (.cst (.int 0))) (.cst (.str "back"))) (.cons (.ret (.cmp .Gt (.var 5) (.var 6))) (.nil)) (.nil)) (.cons (.iff (.cmp .NotEq (.ix (.var 4) (.cst (.int 0))) (.cst (.str "mix"))) (.cons (.ret (.cmp .Lt (.var 5) (.var 6))) (.nil)) (.nil)) (.cons (.par [7, 8] (.cons (.bi .max2 (.cons (.bi .len (.cons (.var 5) (.nil))) (.cons (.bi .len (.cons (.var 6) (.nil))) (.nil)))) (.cons (.bin .Add (.bi .len (.cons (.ix (.var 4) (.cst (.int 1))) (.nil))) (.cst (.int 1))) (.nil)))) (.cons (.ret (.cmp .Lt (.call T.law_number (.cons (.var 5) (.cons (.var 8) (.cons (.var 7) (.nil))))) (.call T.law_number (.cons (.var 6) (.cons (.var 8) (.cons (.var 7) (.nil))))))) (.nil)))))))
abbrev F_law_is_ahead (T : Ix) : Fn := ⟨3, 9, false, B_law_is_ahead T⟩
end MU
end
/-! UA -/
section
set_option linter.all false
set_option maxRecDepth 100000
set_option maxHeartbeats 4000000
/-! What the checks say, over any table. -/
namespace MU
open PySem MI MT
variable {fns : Nat → Option Fn} {T : Ix} {k K n : Nat} {η : List C}
theorem call_go {f : Nat} {fi : Fn} {xs : List D} {d : D} (hf : fns f = some fi) (hk : fi.keep = false) (hn : xs.length = fi.np) (h : evSs (callF fns k) fi.body (startE fi.ns xs) η = .ok (.rt d) η) : callF fns (k + 1) f xs η = .ok d η := by
  simp [callF, hf, runF, hn, h, hk, MI.settle]
theorem call_go0 {f : Nat} {fi : Fn} {xs : List D} {v : Ev} (hf : fns f = some fi) (hk : fi.keep = false) (hn : xs.length = fi.np) (h : evSs (callF fns k) fi.body (startE fi.ns xs) η = .ok (.nx v) η) : callF fns (k + 1) f xs η = .ok .non η := by
  simp [callF, hf, runF, hn, h, hk, MI.settle]
theorem call_exc {f c : Nat} {fi : Fn} {xs : List D} {d : D} (hf : fns f = some fi) (hn : xs.length = fi.np) (h : evSs (callF fns k) fi.body (startE fi.ns xs) η = .exc c d η) (hd : below η.length d = true) (hη : η.all (belowC η.length) = true) : callF fns (k + 1) f xs η = .exc c d η := by
  simp only [callF, hf, runF, hn, if_true, h, List.take_length, hd, hη, Bool.and_self]
theorem call_len {f : Nat} {fi : Fn} {xs : List D} {h' : List C} {d : D} (hf : fns f = some fi) (hk : fi.keep = false) (hn : xs.length = fi.np) (h : evSs (callF fns k) fi.body (startE fi.ns xs) η = .ok (.rt d) h') (hl : h'.length = η.length) : callF fns (k + 1) f xs η = .ok d h' := by
  simp [callF, hf, runF, hn, h, hk, MI.settle, hl]
theorem call_keep {f : Nat} {fi : Fn} {xs : List D} {h' : List C} {d : D} (hf : fns f = some fi) (hk : fi.keep = true) (hn : xs.length = fi.np) (h : evSs (callF fns k) fi.body (startE fi.ns xs) η = .ok (.rt d) h') : callF fns (k + 1) f xs η = .ok d h' := by
  simp [callF, hf, runF, hn, h, hk]
theorem call_to {f : Nat} {fi : Fn} {xs : List D} {h' : List C} {r d : D} (hf : fns f = some fi) (hk : fi.keep = false) (hn : xs.length = fi.np) (h : evSs (callF fns k) fi.body (startE fi.ns xs) η = .ok (.rt r) h') (hs : MI.settle η.length r h' = .ok d η) : callF fns (k + 1) f xs η = .ok d η := by
  simp [callF, hf, runF, hn, h, hk, hs]
/-! ### words in tuples -/
abbrev MKS : List Str := ["row", "on", "back", "mix"]
abbrev OBS : List Str := ["on", "back"]
abbrev RMS : List Str := ["row", "mix"]
abbrev MK : D := .tup [.str "row", .str "on", .str "back", .str "mix"]
abbrev OB : D := .tup [.str "on", .str "back"]
abbrev RM : D := .tup [.str "row", .str "mix"]
abbrev LT : D := .tup [.str "a", .str "b", .str "c", .str "d", .str "e", .str "f", .str "g", .str "h"]
theorem in_strs {w : Str} {ws : List Str} : inD η (.str w) (.tup (ws.map .str)) = some (decide (w ∈ ws)) := by
  have h1 : (ws.map D.str).all flatB = true := by simp [List.all_eq_true, flatB]
  have h2 : ((ws.map D.str).any fun y => eqF y (.str w)) = decide (w ∈ ws) := by
    induction ws with
    | nil => simp
    | cons v vs ih =>
      have ih := ih (by simp [List.all_eq_true, flatB])
      have e : eqF (.str v) (.str w) = (v == w) := rfl
      simp only [List.map_cons, List.any_cons, e, ih, List.mem_cons, Bool.decide_or]
      congr 1
      by_cases q : v = w
      · subst q; simp
      · have : ¬ w = v := fun z => q z.symm
        simp [q, this]
  have h0 : flatB (.str w) = true := rfl
  simp only [inD, view, inSeq, h1, h0, Bool.and_self, if_true, h2]
theorem in_MK {w : Str} : inD η (.str w) MK = some (decide (w ∈ MKS)) := in_strs (ws := MKS)
theorem in_OB {w : Str} : inD η (.str w) OB = some (decide (w ∈ OBS)) := in_strs (ws := OBS)
theorem in_RM {w : Str} : inD η (.str w) RM = some (decide (w ∈ RMS)) := in_strs (ws := RMS)
theorem in_LT {w : Str} : inD η (.str w) LT = some (decide (w ∈ LETS)) := in_strs (ws := LETS)
@[simp] theorem in_OB_row : inD η (.str "row") OB = some false := in_go (by decide +kernel)
@[simp] theorem in_OB_on : inD η (.str "on") OB = some true := in_go (by decide +kernel)
@[simp] theorem in_OB_back : inD η (.str "back") OB = some true := in_go (by decide +kernel)
@[simp] theorem in_OB_mix : inD η (.str "mix") OB = some false := in_go (by decide +kernel)
@[simp] theorem in_RM_row : inD η (.str "row") RM = some true := in_go (by decide +kernel)
@[simp] theorem in_RM_on : inD η (.str "on") RM = some false := in_go (by decide +kernel)
@[simp] theorem in_RM_back : inD η (.str "back") RM = some false := in_go (by decide +kernel)
@[simp] theorem in_RM_mix : inD η (.str "mix") RM = some true := in_go (by decide +kernel)
@[simp] theorem in_MK_row : inD η (.str "row") MK = some true := in_go (by decide +kernel)
@[simp] theorem in_MK_on : inD η (.str "on") MK = some true := in_go (by decide +kernel)
@[simp] theorem in_MK_back : inD η (.str "back") MK = some true := in_go (by decide +kernel)
@[simp] theorem in_MK_mix : inD η (.str "mix") MK = some true := in_go (by decide +kernel)
theorem in_OB_let {c : Str} (h : isLet c) : inD η (.str c) OB = some false := by
  obtain ⟨h1, h2, h3, h4⟩ := lets_ne h
  rw [in_OB]; simp [OBS, h1, h2]
theorem in_RM_let {c : Str} (h : isLet c) : inD η (.str c) RM = some false := by
  obtain ⟨h1, h2, h3, h4⟩ := lets_ne h
  rw [in_RM]; simp [RMS, h3, h4]
theorem in_MK_let {c : Str} (h : isLet c) : inD η (.str c) MK = some false := by
  obtain ⟨h1, h2, h3, h4⟩ := lets_ne h
  rw [in_MK]; simp [MKS, h1, h2, h3, h4]
@[simp] theorem eq_str {x y : Str} : eqD η (.str x) (.str y) = some (decide (x = y)) := rfl
@[simp] theorem s_row_on : (("row" : Str) = "on") = False := by simp only [eq_iff_iff, iff_false]; decide
@[simp] theorem s_row_back : (("row" : Str) = "back") = False := by simp only [eq_iff_iff, iff_false]; decide
@[simp] theorem s_row_mix : (("row" : Str) = "mix") = False := by simp only [eq_iff_iff, iff_false]; decide
@[simp] theorem s_on_row : (("on" : Str) = "row") = False := by simp only [eq_iff_iff, iff_false]; decide
@[simp] theorem s_on_back : (("on" : Str) = "back") = False := by simp only [eq_iff_iff, iff_false]; decide
@[simp] theorem s_on_mix : (("on" : Str) = "mix") = False := by simp only [eq_iff_iff, iff_false]; decide
@[simp] theorem s_back_row : (("back" : Str) = "row") = False := by simp only [eq_iff_iff, iff_false]; decide
@[simp] theorem s_back_on : (("back" : Str) = "on") = False := by simp only [eq_iff_iff, iff_false]; decide
@[simp] theorem s_back_mix : (("back" : Str) = "mix") = False := by simp only [eq_iff_iff, iff_false]; decide
@[simp] theorem s_mix_row : (("mix" : Str) = "row") = False := by simp only [eq_iff_iff, iff_false]; decide
@[simp] theorem s_mix_on : (("mix" : Str) = "on") = False := by simp only [eq_iff_iff, iff_false]; decide
@[simp] theorem s_mix_back : (("mix" : Str) = "back") = False := by simp only [eq_iff_iff, iff_false]; decide
@[simp] theorem ty_int {i : Int} {t : Ty} : isTy η (.int i) t = some (match t with | .int => true | _ => false) := by cases t <;> rfl
@[simp] theorem ty_bl {i : Bool} {t : Ty} : isTy η (.bl i) t = some (match t with | .int => true | .bool => true | _ => false) := by cases t <;> rfl
@[simp] theorem ty_non {t : Ty} : isTy η .non t = some false := by cases t <;> rfl
@[simp] theorem ty_lst {xs : List D} {t : Ty} : isTy η (.lst xs) t = some (match t with | .list => true | _ => false) := by cases t <;> rfl
/-! ### the checks -/
structure HC (fns : Nat → Option Fn) (T : Ix) : Prop where
  tuple : fns T.is_tuple = some (F_is_tuple T)
  word : fns T.is_word = some (F_is_word T)
  rising : fns T.are_rising = some (F_are_rising T)
  anew : fns T.anew = some (F_anew T)
  letter : fns T.is_letter = some (F_is_letter T)
  made : fns T.is_made = some (F_is_made T)
  leaf : fns T.is_leaf = some (F_is_leaf T)
  wide : fns T.is_wide = some (F_is_wide T)
  need : fns T.need_wide = some (F_need_wide T)
  takes : T.is_letter ∈ T.is_made_takes
def tupB (d : D) (lo hi : Int) : Bool := match d with
  | .tup xs => decide (lo ≤ (xs.length : Int)) && decide ((xs.length : Int) ≤ hi)
  | _ => false
def tupB0 (d : D) (lo : Int) : Bool := match d with
  | .tup xs => decide (lo ≤ (xs.length : Int))
  | _ => false
def wordB (d : D) (ws : List Str) : Bool := match d with
  | .str w => decide (w ∈ ws)
  | _ => false
theorem u_tuple (H : fns T.is_tuple = some (F_is_tuple T)) {d : D} (hd : datD d = true) (lo hi : Int) : callF fns (k + 1) T.is_tuple [d, .int lo, .int hi] η = .ok (.bl (tupB d lo hi)) η := by
  refine call_go H rfl rfl ?_
  cases d with
  | tup xs =>
    simp only [tupB]
    by_cases h1 : lo ≤ (xs.length : Int)
    · by_cases h2 : (xs.length : Int) ≤ hi <;> simp [B_is_tuple, evSs, evS, evEs, ev_call, ev_callv, ev_bi, ev_and, ev_or, ev_not, ev_var, ev_cst, ev_cmp, ev_ix, ev_isi, ev_tup, ev_lst, ev_ite, ev_fnv, ev_bin, ev_neg, ev_sl, ev_rev, ev_sset, evAnd, evOr, evO, startE, setE, bind_def, pure_def, op_some, thenF, testD, look, ixD, view, mkTup, lim, cmpD, biD, bi1, lenD, isNon, h1, h2]
    · simp [B_is_tuple, evSs, evS, evEs, ev_call, ev_callv, ev_bi, ev_and, ev_or, ev_not, ev_var, ev_cst, ev_cmp, ev_ix, ev_isi, ev_tup, ev_lst, ev_ite, ev_fnv, ev_bin, ev_neg, ev_sl, ev_rev, ev_sset, evAnd, evOr, evO, startE, setE, bind_def, pure_def, op_some, thenF, testD, look, ixD, view, mkTup, lim, cmpD, biD, bi1, lenD, isNon, h1]
  | _ => first | simp [datD] at hd; done | simp [B_is_tuple, evSs, evS, evEs, ev_call, ev_callv, ev_bi, ev_and, ev_or, ev_not, ev_var, ev_cst, ev_cmp, ev_ix, ev_isi, ev_tup, ev_lst, ev_ite, ev_fnv, ev_bin, ev_neg, ev_sl, ev_rev, ev_sset, evAnd, evOr, evO, startE, setE, bind_def, pure_def, op_some, thenF, testD, look, ixD, view, mkTup, lim, cmpD, tupB]
theorem u_tuple0 (H : fns T.is_tuple = some (F_is_tuple T)) {d : D} (hd : datD d = true) (lo : Int) : callF fns (k + 1) T.is_tuple [d, .int lo, .non] η = .ok (.bl (tupB0 d lo)) η := by
  refine call_go H rfl rfl ?_
  cases d with
  | tup xs =>
    simp only [tupB0]
    by_cases h1 : lo ≤ (xs.length : Int)
    · simp [B_is_tuple, evSs, evS, evEs, ev_call, ev_callv, ev_bi, ev_and, ev_or, ev_not, ev_var, ev_cst, ev_cmp, ev_ix, ev_isi, ev_tup, ev_lst, ev_ite, ev_fnv, ev_bin, ev_neg, ev_sl, ev_rev, ev_sset, evAnd, evOr, evO, startE, setE, bind_def, pure_def, op_some, thenF, testD, look, ixD, view, mkTup, lim, cmpD, biD, bi1, lenD, isNon, h1]
    · simp [B_is_tuple, evSs, evS, evEs, ev_call, ev_callv, ev_bi, ev_and, ev_or, ev_not, ev_var, ev_cst, ev_cmp, ev_ix, ev_isi, ev_tup, ev_lst, ev_ite, ev_fnv, ev_bin, ev_neg, ev_sl, ev_rev, ev_sset, evAnd, evOr, evO, startE, setE, bind_def, pure_def, op_some, thenF, testD, look, ixD, view, mkTup, lim, cmpD, biD, bi1, lenD, isNon, h1]
  | _ => first | simp [datD] at hd; done | simp [B_is_tuple, evSs, evS, evEs, ev_call, ev_callv, ev_bi, ev_and, ev_or, ev_not, ev_var, ev_cst, ev_cmp, ev_ix, ev_isi, ev_tup, ev_lst, ev_ite, ev_fnv, ev_bin, ev_neg, ev_sl, ev_rev, ev_sset, evAnd, evOr, evO, startE, setE, bind_def, pure_def, op_some, thenF, testD, look, ixD, view, mkTup, lim, cmpD, tupB0]
theorem u_word (H : fns T.is_word = some (F_is_word T)) {d : D} (hd : datD d = true) (ws : List Str) : callF fns (k + 1) T.is_word [d, .tup (ws.map .str)] η = .ok (.bl (wordB d ws)) η := by
  refine call_go H rfl rfl ?_
  cases d with
  | str w =>
    have h := @in_strs η w ws
    simp only [wordB]
    simp [B_is_word, evSs, evS, evEs, ev_call, ev_callv, ev_bi, ev_and, ev_or, ev_not, ev_var, ev_cst, ev_cmp, ev_ix, ev_isi, ev_tup, ev_lst, ev_ite, ev_fnv, ev_bin, ev_neg, ev_sl, ev_rev, ev_sset, evAnd, evOr, evO, startE, setE, bind_def, pure_def, op_some, thenF, testD, look, ixD, view, mkTup, lim, cmpD, h]
  | _ => first | simp [datD] at hd; done | simp [B_is_word, evSs, evS, evEs, ev_call, ev_callv, ev_bi, ev_and, ev_or, ev_not, ev_var, ev_cst, ev_cmp, ev_ix, ev_isi, ev_tup, ev_lst, ev_ite, ev_fnv, ev_bin, ev_neg, ev_sl, ev_rev, ev_sset, evAnd, evOr, evO, startE, setE, bind_def, pure_def, op_some, thenF, testD, look, ixD, view, mkTup, lim, cmpD, wordB]
theorem dat_1 {a : D} {xs : List D} (h : datD (.tup (a :: xs)) = true) : datD a = true := by
  simp only [datD, datDs, Bool.and_eq_true] at h; exact h.1
theorem dat_2 {a b : D} {xs : List D} (h : datD (.tup (a :: b :: xs)) = true) : datD b = true := by
  simp only [datD, datDs, Bool.and_eq_true] at h; exact h.2.1
theorem u_letter (H : HC fns T) {d : D} (hd : datD d = true) : callF fns (k + 2) T.is_letter [d] η = .ok (.bl (letB d)) η := by
  refine call_go H.letter rfl rfl ?_
  have e := u_tuple (k := k) (η := η) H.tuple hd 1 1
  by_cases h : ∃ x, d = .tup [x]
  · obtain ⟨x, rfl⟩ := h
    have e2 := u_word (k := k) (η := η) H.word (dat_1 hd) LETS
    have e3 : callF fns (k + 1) T.is_word [x, LT] η = .ok (.bl (wordB x LETS)) η := e2
    have e4 : letB (.tup [x]) = wordB x LETS := by cases x <;> rfl
    have e5 : tupB (.tup [x]) 1 1 = true := rfl
    rw [e4]
    simp [B_is_letter, evSs, evS, evEs, ev_call, ev_callv, ev_bi, ev_and, ev_or, ev_not, ev_var, ev_cst, ev_cmp, ev_ix, ev_isi, ev_tup, ev_lst, ev_ite, ev_fnv, ev_bin, ev_neg, ev_sl, ev_rev, ev_sset, evAnd, evOr, evO, startE, setE, bind_def, pure_def, op_some, thenF, testD, look, ixD, view, mkTup, lim, cmpD, e, e3, e5]
  · have e5 : tupB d 1 1 = false := by
      cases d with
      | tup xs =>
        match xs with
        | [] => rfl
        | [x] => exact absurd ⟨x, rfl⟩ h
        | x :: y :: l => simp [tupB]; omega
      | _ => rfl
    have e4 : letB d = false := by
      unfold letB
      split
      · exact absurd ⟨_, rfl⟩ h
      · rfl
    rw [e4]
    simp [B_is_letter, evSs, evS, evEs, ev_call, ev_callv, ev_bi, ev_and, ev_or, ev_not, ev_var, ev_cst, ev_cmp, ev_ix, ev_isi, ev_tup, ev_lst, ev_ite, ev_fnv, ev_bin, ev_neg, ev_sl, ev_rev, ev_sset, evAnd, evOr, evO, startE, setE, bind_def, pure_def, op_some, thenF, testD, look, ixD, view, mkTup, lim, cmpD, e, e5]
theorem u_leaf (H : HC fns T) {w : Str} {xs : List D} {b : Bool} (h : inD η (.str w) MK = some b) : callF fns (k + 1) T.is_leaf [.tup (.str w :: xs)] η = .ok (.bl !b) η := by
  refine call_go H.leaf rfl rfl ?_
  simp [B_is_leaf, evSs, evS, evEs, ev_call, ev_callv, ev_bi, ev_and, ev_or, ev_not, ev_var, ev_cst, ev_cmp, ev_ix, ev_isi, ev_tup, ev_lst, ev_ite, ev_fnv, ev_bin, ev_neg, ev_sl, ev_rev, ev_sset, evAnd, evOr, evO, startE, setE, bind_def, pure_def, op_some, thenF, testD, look, ixD, view, mkTup, lim, cmpD, h]
theorem u_rising (H : HC fns T) {xs : List D} (h : ∀ x ∈ xs, ∀ y ∈ xs, lessD x y = some (ltB x y)) (l : xs.length ≤ lim) : callF fns (k + 1) T.are_rising [.tup xs] η = .ok (.bl (risB xs)) η := by
  refine call_go H.rising rfl rfl ?_
  have e2 := lc_go2 (call := callF fns k) (x := .cmp .Lt (.var 1) (.var 2)) (i := 1) (j := 2) (it := .zip (.var 0) (.sl (.var 0) (.some (.cst (.int 1))) .none)) (vs := [1, 2]) (v := [some (.tup xs), none, none]) (η := η) (ps := xs.zip xs.tail) (fun p => .bl (ltB p.1 p.2))
    (by simp [evI, evSs, evS, evEs, ev_call, ev_callv, ev_bi, ev_and, ev_or, ev_not, ev_var, ev_cst, ev_cmp, ev_ix, ev_isi, ev_tup, ev_lst, ev_ite, ev_fnv, ev_bin, ev_neg, ev_sl, ev_rev, ev_sset, evAnd, evOr, evO, startE, setE, bind_def, pure_def, op_some, thenF, testD, look, ixD, view, mkTup, lim, cmpD, slD, intOf, cut1', zip2D, zip_eq])
    (by
      intro p hp
      have h1 := h p.1 (List.of_mem_zip hp).1 p.2 (List.mem_of_mem_tail (List.of_mem_zip hp).2)
      simp [evSs, evS, evEs, ev_call, ev_callv, ev_bi, ev_and, ev_or, ev_not, ev_var, ev_cst, ev_cmp, ev_ix, ev_isi, ev_tup, ev_lst, ev_ite, ev_fnv, ev_bin, ev_neg, ev_sl, ev_rev, ev_sset, evAnd, evOr, evO, startE, setE, bind_def, pure_def, op_some, thenF, testD, look, ixD, view, mkTup, lim, cmpD, wipeE, h1])
    (by simp only [List.length_zip]; omega)
  have a2 := @all_bl η (D × D) (fun p => ltB p.1 p.2) (xs.zip xs.tail)
  simp [B_are_rising, evSs, evS, evEs, ev_call, ev_callv, ev_bi, ev_and, ev_or, ev_not, ev_var, ev_cst, ev_cmp, ev_ix, ev_isi, ev_tup, ev_lst, ev_ite, ev_fnv, ev_bin, ev_neg, ev_sl, ev_rev, ev_sset, evAnd, evOr, evO, startE, setE, bind_def, pure_def, op_some, thenF, testD, look, ixD, view, mkTup, lim, cmpD, e2, biD, bi1, a2, risB]
theorem md_less {m : Nat} {x y : D} (hx : Md m x) (hy : Md m y) (h : dpD x ≤ 60) : lessD x y = some (ltB x y) := by
  obtain ⟨b, e⟩ := hx.lt hy
  have h1 := @dep_le x
  have h2 : depD x ≤ 60 := by omega
  simp only [lessD, hx.hash, hy.hash, h2, decide_true, Bool.and_self, if_true, e, ltB]
  cases b <;> rfl
theorem dp_mem {xs : List D} {x : D} (h : x ∈ xs) : dpD x ≤ dpDs xs := by
  induction xs with
  | nil => cases h
  | cons y ys ih =>
    simp only [dpDs]
    rcases List.mem_cons.mp h with rfl | h
    · omega
    · have := ih h; omega
theorem wt_mem {xs : List D} {x : D} (h : x ∈ xs) : wtD x ≤ wtDs xs := by
  induction xs with
  | nil => cases h
  | cons y ys ih =>
    simp only [wtDs]
    rcases List.mem_cons.mp h with rfl | h
    · omega
    · have := ih h; omega
theorem wt_len : ∀ (xs : List D), xs.length ≤ wtDs xs
  | [] => Nat.le_refl _
  | x :: xs => by have := wt_len xs; simp only [wtDs, List.length_cons]; omega
theorem dat_mem {xs : List D} {x : D} (hd : datDs xs = true) (h : x ∈ xs) : datD x = true := by
  induction xs with
  | nil => cases h
  | cons y ys ih =>
    simp only [datDs, Bool.and_eq_true] at hd
    rcases List.mem_cons.mp h with rfl | h
    · exact hd.1
    · exact ih hd.2 h
end MU
end
/-! UB -/
section
set_option linter.all false
set_option maxRecDepth 100000
set_option maxHeartbeats 4000000
/-! What is made; data built anew. -/
namespace MU
open PySem MI MT
variable {fns : Nat → Option Fn} {T : Ix} {k K n : Nat} {η : List C}
theorem two_cases (d : D) : (∃ a e, d = .tup [a, e]) ∨ ((∀ a e, d ≠ .tup [a, e]) ∧ tupB d 2 2 = false) := by
  cases d with
  | tup xs =>
    match xs with
    | [] => exact .inr ⟨by simp, rfl⟩
    | [x] => exact .inr ⟨by simp, rfl⟩
    | [x, y] => exact .inl ⟨x, y, rfl⟩
    | x :: y :: z :: l => exact .inr ⟨by simp, by simp [tupB]; omega⟩
  | _ => exact .inr ⟨by simp, rfl⟩
theorem made_not2 {d : D} (h : ∀ a e, d ≠ .tup [a, e]) : madeB (n + 1) d = letB d := by
  unfold madeB
  split
  · exact absurd rfl (h _ _)
  · simp
theorem made_nw {a e : D} (h : wordB a MKS = false) : madeB (n + 1) (.tup [a, e]) = letB (.tup [a, e]) := by
  cases a with
  | str w =>
    have h : ¬ w ∈ MKS := by simpa [wordB] using h
    simp only [MKS, List.mem_cons, List.not_mem_nil, or_false, not_or] at h
    obtain ⟨h1, h2, h3, h4⟩ := h
    simp only [madeB, h2, h3, or_self, if_false, h1, h4]
    split <;> simp
  | _ => simp [madeB]
theorem let_two (a e : D) : letB (.tup [a, e]) = false := by cases a <;> rfl
theorem gt_dec (a b : Nat) : decide ((b : Int) < (a : Int)) = decide (b < a) := by
  by_cases h : b < a
  · have : (b : Int) < a := by omega
    simp [h]
  · have : ¬ (b : Int) < a := by omega
    simp [h]
theorem u_made (H : HC fns T) : ∀ (n : Nat) {K : Nat} (d : D), datD d = true → dpD d ≤ n → n ≤ 60 → wtD d ≤ lim → n + 3 ≤ K → callF fns K T.is_made [d, .fn T.is_letter] η = .ok (.bl (madeB n d)) η
  | 0, K, d, hd, hp, _, _, hK => by
    obtain ⟨k, rfl⟩ : ∃ k, K = k + 3 := ⟨K - 3, by omega⟩
    refine call_go H.made rfl rfl ?_
    have e1 := u_letter (k := k) (η := η) H hd
    have e2 := u_tuple (k := k + 1) (η := η) H.tuple hd 2 2
    have l : letB d = false := by
      cases d with
      | tup xs => simp [dpD] at hp
      | _ => rfl
    have l2 : tupB d 2 2 = false := by
      cases d with
      | tup xs => simp [dpD] at hp
      | _ => rfl
    rw [l] at e1
    rw [l2] at e2
    simp [B_is_made, evSs, evS, evEs, ev_call, ev_callv, ev_bi, ev_and, ev_or, ev_not, ev_var, ev_cst, ev_cmp, ev_ix, ev_isi, ev_tup, ev_lst, ev_ite, ev_fnv, ev_bin, ev_neg, ev_sl, ev_rev, ev_sset, evAnd, evOr, evO, startE, setE, bind_def, pure_def, op_some, thenF, testD, look, ixD, view, mkTup, lim, cmpD, H.takes, e1, e2, madeB, l]
  | n + 1, K, d, hd, hp, hn, hw, hK => by
    obtain ⟨k, rfl⟩ : ∃ k, K = n + 3 + k + 1 := ⟨K - (n + 4), by omega⟩
    refine call_go H.made rfl rfl ?_
    have e1 := u_letter (k := n + 1 + k) (η := η) H hd
    rw [show n + 1 + k + 2 = n + 3 + k from by omega] at e1
    cases l : letB d with
    | true =>
      rw [l] at e1
      have m : madeB (n + 1) d = true := by simp [madeB, l]
      simp [B_is_made, evSs, evS, evEs, ev_call, ev_callv, ev_bi, ev_and, ev_or, ev_not, ev_var, ev_cst, ev_cmp, ev_ix, ev_isi, ev_tup, ev_lst, ev_ite, ev_fnv, ev_bin, ev_neg, ev_sl, ev_rev, ev_sset, evAnd, evOr, evO, startE, setE, bind_def, pure_def, op_some, thenF, testD, look, ixD, view, mkTup, lim, cmpD, H.takes, e1, m]
    | false =>
    rw [l] at e1
    have e2 := u_tuple (k := n + 2 + k) (η := η) H.tuple hd 2 2
    rw [show n + 2 + k + 1 = n + 3 + k from by omega] at e2
    rcases (two_cases d).symm with ⟨h2, h3⟩ | ⟨a, e, rfl⟩
    · rw [h3] at e2
      simp [B_is_made, evSs, evS, evEs, ev_call, ev_callv, ev_bi, ev_and, ev_or, ev_not, ev_var, ev_cst, ev_cmp, ev_ix, ev_isi, ev_tup, ev_lst, ev_ite, ev_fnv, ev_bin, ev_neg, ev_sl, ev_rev, ev_sset, evAnd, evOr, evO, startE, setE, bind_def, pure_def, op_some, thenF, testD, look, ixD, view, mkTup, lim, cmpD, H.takes, e1, e2, made_not2 h2, l]
    have l3 : tupB (.tup [a, e]) 2 2 = true := rfl
    rw [l3] at e2
    have e3 := u_word (k := n + 2 + k) (η := η) H.word (dat_1 hd) MKS
    rw [show n + 2 + k + 1 = n + 3 + k from by omega] at e3
    have e3 : callF fns (n + 3 + k) T.is_word [a, MK] η = .ok (.bl (wordB a MKS)) η := e3
    cases q : wordB a MKS with
    | false =>
      rw [q] at e3
      simp [B_is_made, evSs, evS, evEs, ev_call, ev_callv, ev_bi, ev_and, ev_or, ev_not, ev_var, ev_cst, ev_cmp, ev_ix, ev_isi, ev_tup, ev_lst, ev_ite, ev_fnv, ev_bin, ev_neg, ev_sl, ev_rev, ev_sset, evAnd, evOr, evO, startE, setE, bind_def, pure_def, op_some, thenF, testD, look, ixD, view, mkTup, lim, cmpD, H.takes, e1, e2, e3, made_nw q, let_two]
    | true =>
    rw [q] at e3
    have he := dat_2 hd
    have hpe : dpD e ≤ n := by simp only [dpD, dpDs] at hp; omega
    have hwe : wtD e ≤ lim := by simp only [wtD, wtDs] at hw; omega
    have ih := @u_made H n (n + 3 + k) e he hpe (by omega) hwe (by omega)
    have up : ∀ v' : Ev, unpE [some (.tup [a, e]), some (.fn T.is_letter), none, none, none] [2, 3] η (.tup [a, e]) = some [some (.tup [a, e]), some (.fn T.is_letter), some a, some e, none] := fun _ => rfl
    have up := up []
    cases a with
    | str w =>
      have q' : w = "row" ∨ w = "on" ∨ w = "back" ∨ w = "mix" := by simpa [wordB, MKS] using q
      by_cases ob : w = "on" ∨ w = "back"
      · have m : madeB (n + 1) (.tup [.str w, e]) = madeB n e := by simp only [madeB, let_two, ob, if_true, Bool.false_or]
        have io : inD η (.str w) OB = some true := by rcases ob with rfl | rfl <;> simp
        rw [m]
        simp [B_is_made, evSs, evS, evEs, ev_call, ev_callv, ev_bi, ev_and, ev_or, ev_not, ev_var, ev_cst, ev_cmp, ev_ix, ev_isi, ev_tup, ev_lst, ev_ite, ev_fnv, ev_bin, ev_neg, ev_sl, ev_rev, ev_sset, evAnd, evOr, evO, startE, setE, bind_def, pure_def, op_some, thenF, testD, look, ixD, view, mkTup, lim, cmpD, H.takes, e1, e2, e3, up, io, ih]
      · have io : inD η (.str w) OB = some false := by
          have : w = "row" ∨ w = "mix" := by
            rcases q' with h | h | h | h
            · exact .inl h
            · exact absurd (.inl h) ob
            · exact absurd (.inr h) ob
            · exact .inr h
          rcases this with rfl | rfl <;> simp
        rcases (Classical.em (∃ xs, e = .tup xs)).symm with te | te
        · have m : madeB (n + 1) (.tup [.str w, e]) = false := by
            simp only [madeB, let_two, ob, if_false, Bool.false_or]
            split
            · exact absurd ⟨_, rfl⟩ te
            · rfl
          have ie : isTy η e .tuple = some false := by
            cases e with
            | tup xs => exact absurd ⟨_, rfl⟩ te
            | _ => first | simp [datD] at he; done | rfl
          rw [m]
          simp [B_is_made, evSs, evS, evEs, ev_call, ev_callv, ev_bi, ev_and, ev_or, ev_not, ev_var, ev_cst, ev_cmp, ev_ix, ev_isi, ev_tup, ev_lst, ev_ite, ev_fnv, ev_bin, ev_neg, ev_sl, ev_rev, ev_sset, evAnd, evOr, evO, startE, setE, bind_def, pure_def, op_some, thenF, testD, look, ixD, view, mkTup, lim, cmpD, H.takes, e1, e2, e3, up, io, ie]
        · obtain ⟨xs, rfl⟩ := te
          have hdx : datDs xs = true := by simpa [datD] using he
          have hpx : ∀ x ∈ xs, dpD x ≤ n ∧ dpD x + 1 ≤ n := fun x hx => by
            have := dp_mem hx
            simp only [dpD] at hpe; omega
          have hwx : ∀ x ∈ xs, wtD x ≤ lim := fun x hx => by
            have := wt_mem hx
            simp only [wtD] at hwe; omega
          have hlx : xs.length ≤ lim := by
            have := wt_len xs
            simp only [wtD] at hwe; omega
          have e4 := lc_go (call := callF fns (n + 3 + k)) (x := .call T.is_made (.cons (.var 4) (.cons (.var 1) (.nil)))) (i := 4) (it := .val (.var 3)) (vs := [4]) (v := [some (.tup [.str w, .tup xs]), some (.fn T.is_letter), some (.str w), some (.tup xs), none]) (η := η) (xs := xs) (fun x => .bl (madeB n x))
            (by simp [evI, evSs, evS, evEs, ev_call, ev_callv, ev_bi, ev_and, ev_or, ev_not, ev_var, ev_cst, ev_cmp, ev_ix, ev_isi, ev_tup, ev_lst, ev_ite, ev_fnv, ev_bin, ev_neg, ev_sl, ev_rev, ev_sset, evAnd, evOr, evO, startE, setE, bind_def, pure_def, op_some, thenF, testD, look, ixD, view, mkTup, lim, cmpD, iterD])
            (by
              intro x hx
              have ihx := @u_made H n (n + 3 + k) x (dat_mem hdx hx) (hpx x hx).1 (by omega) (hwx x hx) (by omega)
              simp [evSs, evS, evEs, ev_call, ev_callv, ev_bi, ev_and, ev_or, ev_not, ev_var, ev_cst, ev_cmp, ev_ix, ev_isi, ev_tup, ev_lst, ev_ite, ev_fnv, ev_bin, ev_neg, ev_sl, ev_rev, ev_sset, evAnd, evOr, evO, startE, setE, bind_def, pure_def, op_some, thenF, testD, look, ixD, view, mkTup, lim, cmpD, wipeE, ihx])
            hlx
          have a4 := @all_bl η D (madeB n) xs
          cases ha : xs.all (madeB n) with
          | false =>
            rw [ha] at a4
            have m : madeB (n + 1) (.tup [.str w, .tup xs]) = false := by
              simp only [madeB, let_two, ob, if_false, Bool.false_or, ha, Bool.false_and, ite_self]
            rw [m]
            simp [B_is_made, evSs, evS, evEs, ev_call, ev_callv, ev_bi, ev_and, ev_or, ev_not, ev_var, ev_cst, ev_cmp, ev_ix, ev_isi, ev_tup, ev_lst, ev_ite, ev_fnv, ev_bin, ev_neg, ev_sl, ev_rev, ev_sset, evAnd, evOr, evO, startE, setE, bind_def, pure_def, op_some, thenF, testD, look, ixD, view, mkTup, lim, cmpD, H.takes, e1, e2, e3, up, io, e4, biD, bi1, a4]
          | true =>
          rw [ha] at a4
          have hm : ∀ x ∈ xs, Md n x := fun x hx => made_md (List.all_eq_true.mp ha x hx)
          by_cases hr : w = "row"
          · subst hr
            have m : madeB (n + 1) (.tup [.str "row", .tup xs]) = (decide (1 < xs.length) && xs.all fun x => !rowW x) := by
              simp only [madeB, let_two, ob, if_false, Bool.false_or, ha, Bool.true_and, if_true]
            rw [m]
            have e5 := lc_go (call := callF fns (n + 3 + k)) (x := .cmp .NotEq (.ix (.var 4) (.cst (.int 0))) (.cst (.str "row"))) (i := 4) (it := .val (.var 3)) (vs := [4]) (v := [some (.tup [.str "row", .tup xs]), some (.fn T.is_letter), some (.str "row"), some (.tup xs), none]) (η := η) (xs := xs) (fun x => .bl (!rowW x))
              (by simp [evI, evSs, evS, evEs, ev_call, ev_callv, ev_bi, ev_and, ev_or, ev_not, ev_var, ev_cst, ev_cmp, ev_ix, ev_isi, ev_tup, ev_lst, ev_ite, ev_fnv, ev_bin, ev_neg, ev_sl, ev_rev, ev_sset, evAnd, evOr, evO, startE, setE, bind_def, pure_def, op_some, thenF, testD, look, ixD, view, mkTup, lim, cmpD, iterD])
              (by
                intro x hx
                obtain ⟨v, ys, rfl⟩ := (hm x hx).head
                simp [evSs, evS, evEs, ev_call, ev_callv, ev_bi, ev_and, ev_or, ev_not, ev_var, ev_cst, ev_cmp, ev_ix, ev_isi, ev_tup, ev_lst, ev_ite, ev_fnv, ev_bin, ev_neg, ev_sl, ev_rev, ev_sset, evAnd, evOr, evO, startE, setE, bind_def, pure_def, op_some, thenF, testD, look, ixD, view, mkTup, lim, cmpD, wipeE, rowW])
              hlx
            have a5 := @all_bl η D (fun x => !rowW x) xs
            have g : decide ((1 : Int) < (xs.length : Int)) = decide (1 < xs.length) := gt_dec xs.length 1
            cases hb : decide (1 < xs.length) with
            | false =>
              rw [hb] at g
              have g' : ¬ (1 : Int) < (xs.length : Int) := by simpa using g
              simp [B_is_made, evSs, evS, evEs, ev_call, ev_callv, ev_bi, ev_and, ev_or, ev_not, ev_var, ev_cst, ev_cmp, ev_ix, ev_isi, ev_tup, ev_lst, ev_ite, ev_fnv, ev_bin, ev_neg, ev_sl, ev_rev, ev_sset, evAnd, evOr, evO, startE, setE, bind_def, pure_def, op_some, thenF, testD, look, ixD, view, mkTup, lim, cmpD, H.takes, e1, e2, e3, up, e4, biD, bi1, a4, lenD, g']
            | true =>
              rw [hb] at g
              have g' : (1 : Int) < (xs.length : Int) := by simpa using g
              simp [B_is_made, evSs, evS, evEs, ev_call, ev_callv, ev_bi, ev_and, ev_or, ev_not, ev_var, ev_cst, ev_cmp, ev_ix, ev_isi, ev_tup, ev_lst, ev_ite, ev_fnv, ev_bin, ev_neg, ev_sl, ev_rev, ev_sset, evAnd, evOr, evO, startE, setE, bind_def, pure_def, op_some, thenF, testD, look, ixD, view, mkTup, lim, cmpD, H.takes, e1, e2, e3, up, e4, biD, bi1, a4, lenD, g', e5, a5]
          · have hx : w = "mix" := by
              rcases q' with h | h | h | h
              · exact absurd h hr
              · exact absurd (.inl h) ob
              · exact absurd (.inr h) ob
              · exact h
            subst hx
            have m : madeB (n + 1) (.tup [.str "mix", .tup xs]) = (decide (0 < xs.length) && risB xs) := by
              simp only [madeB, let_two, ob, if_false, Bool.false_or, ha, Bool.true_and, hr, if_true]
            rw [m]
            have e5 := u_rising (k := n + 2 + k) (η := η) H (xs := xs) (fun x hx y hy => md_less (hm x hx) (hm y hy) (by have := hpx x hx; omega)) hlx
            rw [show n + 2 + k + 1 = n + 3 + k from by omega] at e5
            have g : decide ((0 : Int) < (xs.length : Int)) = decide (0 < xs.length) := gt_dec xs.length 0
            cases hb : decide (0 < xs.length) with
            | false =>
              rw [hb] at g
              have g' : ¬ (0 : Int) < (xs.length : Int) := by simpa using g
              have hb' : xs = [] := by simpa using hb
              subst hb'
              have a0 : allD η (.lst []) = some (.bl true) := rfl
              simp [a0, B_is_made, evSs, evS, evEs, ev_call, ev_callv, ev_bi, ev_and, ev_or, ev_not, ev_var, ev_cst, ev_cmp, ev_ix, ev_isi, ev_tup, ev_lst, ev_ite, ev_fnv, ev_bin, ev_neg, ev_sl, ev_rev, ev_sset, evAnd, evOr, evO, startE, setE, bind_def, pure_def, op_some, thenF, testD, look, ixD, view, mkTup, lim, cmpD, H.takes, e1, e2, e3, up, e4, biD, bi1, a4, lenD]
            | true =>
              rw [hb] at g
              have g' : xs ≠ [] := by
                intro z; subst z; cases hb
              have g3 : xs.length ≠ 0 := by simpa using g'
              have g4 : 0 < xs.length := by omega
              simp [g3, g4, B_is_made, evSs, evS, evEs, ev_call, ev_callv, ev_bi, ev_and, ev_or, ev_not, ev_var, ev_cst, ev_cmp, ev_ix, ev_isi, ev_tup, ev_lst, ev_ite, ev_fnv, ev_bin, ev_neg, ev_sl, ev_rev, ev_sset, evAnd, evOr, evO, startE, setE, bind_def, pure_def, op_some, thenF, testD, look, ixD, view, mkTup, lim, cmpD, H.takes, e1, e2, e3, up, e4, biD, bi1, a4, lenD, g', e5]
    | _ => simp [wordB] at q
theorem u_anew (H : fns T.anew = some (F_anew T)) : ∀ (n : Nat) {K : Nat} (d : D), datD d = true → dpD d ≤ n → wtD d ≤ lim → n + 1 ≤ K → callF fns K T.anew [d] η = .ok d η
  | n, K, .non, hd, hp, hw, hK => by
    obtain ⟨k, rfl⟩ : ∃ k, K = k + 1 := ⟨K - 1, by omega⟩
    refine call_go H rfl rfl ?_
    simp [B_anew, evSs, evS, evEs, ev_call, ev_callv, ev_bi, ev_and, ev_or, ev_not, ev_var, ev_cst, ev_cmp, ev_ix, ev_isi, ev_tup, ev_lst, ev_ite, ev_fnv, ev_bin, ev_neg, ev_sl, ev_rev, ev_sset, evAnd, evOr, evO, startE, setE, bind_def, pure_def, op_some, thenF, testD, look, ixD, view, mkTup, lim, cmpD]
  | n, K, .bl b, hd, hp, hw, hK => by
    obtain ⟨k, rfl⟩ : ∃ k, K = k + 1 := ⟨K - 1, by omega⟩
    refine call_go H rfl rfl ?_
    simp [B_anew, evSs, evS, evEs, ev_call, ev_callv, ev_bi, ev_and, ev_or, ev_not, ev_var, ev_cst, ev_cmp, ev_ix, ev_isi, ev_tup, ev_lst, ev_ite, ev_fnv, ev_bin, ev_neg, ev_sl, ev_rev, ev_sset, evAnd, evOr, evO, startE, setE, bind_def, pure_def, op_some, thenF, testD, look, ixD, view, mkTup, lim, cmpD]
  | n, K, .int b, hd, hp, hw, hK => by
    obtain ⟨k, rfl⟩ : ∃ k, K = k + 1 := ⟨K - 1, by omega⟩
    refine call_go H rfl rfl ?_
    simp [B_anew, evSs, evS, evEs, ev_call, ev_callv, ev_bi, ev_and, ev_or, ev_not, ev_var, ev_cst, ev_cmp, ev_ix, ev_isi, ev_tup, ev_lst, ev_ite, ev_fnv, ev_bin, ev_neg, ev_sl, ev_rev, ev_sset, evAnd, evOr, evO, startE, setE, bind_def, pure_def, op_some, thenF, testD, look, ixD, view, mkTup, lim, cmpD]
  | n, K, .str b, hd, hp, hw, hK => by
    obtain ⟨k, rfl⟩ : ∃ k, K = k + 1 := ⟨K - 1, by omega⟩
    refine call_go H rfl rfl ?_
    simp [B_anew, evSs, evS, evEs, ev_call, ev_callv, ev_bi, ev_and, ev_or, ev_not, ev_var, ev_cst, ev_cmp, ev_ix, ev_isi, ev_tup, ev_lst, ev_ite, ev_fnv, ev_bin, ev_neg, ev_sl, ev_rev, ev_sset, evAnd, evOr, evO, startE, setE, bind_def, pure_def, op_some, thenF, testD, look, ixD, view, mkTup, lim, cmpD]
  | 0, K, .tup xs, hd, hp, hw, hK => by simp [dpD] at hp
  | 0, K, .lst xs, hd, hp, hw, hK => by simp [dpD] at hp
  | n + 1, K, .tup xs, hd, hp, hw, hK => by
    obtain ⟨k, rfl⟩ : ∃ k, K = k + 1 := ⟨K - 1, by omega⟩
    refine call_go H rfl rfl ?_
    have hdx : datDs xs = true := by simpa [datD] using hd
    have hlx : xs.length ≤ lim := by
      have := wt_len xs
      simp only [wtD] at hw; omega
    have e4 := lc_go (call := callF fns k) (x := .call T.anew (.cons (.var 1) (.nil))) (i := 1) (it := .val (.var 0)) (vs := [1]) (v := [some (.tup xs), none]) (η := η) (xs := xs) (fun x => x)
      (by simp [evI, evSs, evS, evEs, ev_call, ev_callv, ev_bi, ev_and, ev_or, ev_not, ev_var, ev_cst, ev_cmp, ev_ix, ev_isi, ev_tup, ev_lst, ev_ite, ev_fnv, ev_bin, ev_neg, ev_sl, ev_rev, ev_sset, evAnd, evOr, evO, startE, setE, bind_def, pure_def, op_some, thenF, testD, look, ixD, view, mkTup, lim, cmpD, iterD])
      (by
        intro x hx
        have h1 := dp_mem hx
        have h2 := wt_mem hx
        simp only [dpD, wtD] at hp hw
        have ihx := @u_anew H n k x (dat_mem hdx hx) (by omega) (by omega) (by omega)
        simp [evSs, evS, evEs, ev_call, ev_callv, ev_bi, ev_and, ev_or, ev_not, ev_var, ev_cst, ev_cmp, ev_ix, ev_isi, ev_tup, ev_lst, ev_ite, ev_fnv, ev_bin, ev_neg, ev_sl, ev_rev, ev_sset, evAnd, evOr, evO, startE, setE, bind_def, pure_def, op_some, thenF, testD, look, ixD, view, mkTup, lim, cmpD, wipeE, ihx])
      hlx
    simp only [List.map_id'] at e4
    simp [B_anew, evSs, evS, evEs, ev_call, ev_callv, ev_bi, ev_and, ev_or, ev_not, ev_var, ev_cst, ev_cmp, ev_ix, ev_isi, ev_tup, ev_lst, ev_ite, ev_fnv, ev_bin, ev_neg, ev_sl, ev_rev, ev_sset, evAnd, evOr, evO, startE, setE, bind_def, pure_def, op_some, thenF, testD, look, ixD, view, mkTup, lim, cmpD, e4, biD, bi1, tupD]
  | n + 1, K, .lst xs, hd, hp, hw, hK => by
    obtain ⟨k, rfl⟩ : ∃ k, K = k + 1 := ⟨K - 1, by omega⟩
    refine call_go H rfl rfl ?_
    have hdx : datDs xs = true := by simpa [datD] using hd
    have hlx : xs.length ≤ lim := by
      have := wt_len xs
      simp only [wtD] at hw; omega
    have e4 := lc_go (call := callF fns k) (x := .call T.anew (.cons (.var 1) (.nil))) (i := 1) (it := .val (.var 0)) (vs := [1]) (v := [some (.lst xs), none]) (η := η) (xs := xs) (fun x => x)
      (by simp [evI, evSs, evS, evEs, ev_call, ev_callv, ev_bi, ev_and, ev_or, ev_not, ev_var, ev_cst, ev_cmp, ev_ix, ev_isi, ev_tup, ev_lst, ev_ite, ev_fnv, ev_bin, ev_neg, ev_sl, ev_rev, ev_sset, evAnd, evOr, evO, startE, setE, bind_def, pure_def, op_some, thenF, testD, look, ixD, view, mkTup, lim, cmpD, iterD])
      (by
        intro x hx
        have h1 := dp_mem hx
        have h2 := wt_mem hx
        simp only [dpD, wtD] at hp hw
        have ihx := @u_anew H n k x (dat_mem hdx hx) (by omega) (by omega) (by omega)
        simp [evSs, evS, evEs, ev_call, ev_callv, ev_bi, ev_and, ev_or, ev_not, ev_var, ev_cst, ev_cmp, ev_ix, ev_isi, ev_tup, ev_lst, ev_ite, ev_fnv, ev_bin, ev_neg, ev_sl, ev_rev, ev_sset, evAnd, evOr, evO, startE, setE, bind_def, pure_def, op_some, thenF, testD, look, ixD, view, mkTup, lim, cmpD, wipeE, ihx])
      hlx
    simp only [List.map_id'] at e4
    simp [B_anew, evSs, evS, evEs, ev_call, ev_callv, ev_bi, ev_and, ev_or, ev_not, ev_var, ev_cst, ev_cmp, ev_ix, ev_isi, ev_tup, ev_lst, ev_ite, ev_fnv, ev_bin, ev_neg, ev_sl, ev_rev, ev_sset, evAnd, evOr, evO, startE, setE, bind_def, pure_def, op_some, thenF, testD, look, ixD, view, mkTup, lim, cmpD, e4]
  | _, K, .scr _, h, _, _, _ => by simp [datD] at h
  | _, K, .dct _, h, _, _, _ => by simp [datD] at h
  | _, K, .cel _, h, _, _, _ => by simp [datD] at h
  | _, K, .fn _, h, _, _, _ => by simp [datD] at h
  | _, K, .err _ _, h, _, _, _ => by simp [datD] at h
/-- data names no cells -/
theorem dat_below (m : Nat) : ∀ (d : D), datD d = true → below m d = true := by
  intro d
  refine @D.rec (motive_1 := fun d => datD d = true → below m d = true) (motive_2 := fun ds => datDs ds = true → belows m ds = true) (motive_3 := fun _ => True) (motive_4 := fun _ => True) ?_ ?_ ?_ ?_ ?_ ?_ ?_ ?_ ?_ ?_ ?_ ?_ ?_ ?_ ?_ ?_ d
  · intro _; rfl
  · intro _ _; rfl
  · intro _ _; rfl
  · intro _ _; rfl
  · intro xs ih h; simp only [below]; exact ih (by simpa [datD] using h)
  · intro xs ih h; simp only [below]; exact ih (by simpa [datD] using h)
  · intro xs ih h; simp [datD] at h
  · intro xs ih h; simp [datD] at h
  · intro b h; simp [datD] at h
  · intro b h; simp [datD] at h
  · intro c d ih h; simp [datD] at h
  · intro _; rfl
  · intro x xs h1 h2 h
    simp only [datDs, Bool.and_eq_true] at h
    simp only [belows, h1 h.1, h2 h.2, Bool.and_self]
  · trivial
  · intros; trivial
  · intros; trivial
theorem u_wide (H : HC fns T) {d : D} (hd : datD d = true) (hp : dpD d ≤ n) (hn : n ≤ 60) (hw : wtD d ≤ lim) (hK : n + 4 ≤ K) : callF fns K T.is_wide [d] η = .ok (.bl (madeB n d)) η := by
  obtain ⟨k, rfl⟩ : ∃ k, K = k + 1 := ⟨K - 1, by omega⟩
  refine call_go H.wide rfl rfl ?_
  have e := u_made (K := k) (η := η) H n d hd hp hn hw (by omega)
  simp [B_is_wide, evSs, evS, evEs, ev_call, ev_callv, ev_bi, ev_and, ev_or, ev_not, ev_var, ev_cst, ev_cmp, ev_ix, ev_isi, ev_tup, ev_lst, ev_ite, ev_fnv, ev_bin, ev_neg, ev_sl, ev_rev, ev_sset, evAnd, evOr, evO, startE, setE, bind_def, pure_def, op_some, thenF, testD, look, ixD, view, mkTup, lim, cmpD, e]
theorem u_need (H : HC fns T) {d : D} (hd : datD d = true) (hp : dpD d ≤ n) (hn : n ≤ 60) (hw : wtD d ≤ lim) (hK : n + 5 ≤ K) (hm : madeB n d = true) : callF fns K T.need_wide [d] η = .ok .non η := by
  obtain ⟨k, rfl⟩ : ∃ k, K = k + 1 := ⟨K - 1, by omega⟩
  refine call_go0 H.need rfl rfl (v := [some d]) ?_
  have e := u_wide (K := k) (η := η) H hd hp hn hw (by omega)
  rw [hm] at e
  simp [B_need_wide, evSs, evS, evEs, ev_call, ev_callv, ev_bi, ev_and, ev_or, ev_not, ev_var, ev_cst, ev_cmp, ev_ix, ev_isi, ev_tup, ev_lst, ev_ite, ev_fnv, ev_bin, ev_neg, ev_sl, ev_rev, ev_sset, evAnd, evOr, evO, startE, setE, bind_def, pure_def, op_some, thenF, testD, look, ixD, view, mkTup, lim, cmpD, e]
theorem u_need_no (H : HC fns T) {d : D} (hη : η.all (belowC η.length) = true) (hd : datD d = true) (hp : dpD d ≤ n) (hn : n ≤ 60) (hw : wtD d ≤ lim) (hK : n + 5 ≤ K) (hm : madeB n d = false) : callF fns K T.need_wide [d] η = .exc T.c_InvalidTerm d η := by
  obtain ⟨k, rfl⟩ : ∃ k, K = k + 1 := ⟨K - 1, by omega⟩
  refine call_exc H.need rfl ?_ (dat_below _ d hd) hη
  have e := u_wide (K := k) (η := η) H hd hp hn hw (by omega)
  have e2 := u_anew (K := k) (η := η) H.anew n d hd hp hw (by omega)
  rw [hm] at e
  simp [B_need_wide, evSs, evS, evEs, ev_call, ev_callv, ev_bi, ev_and, ev_or, ev_not, ev_var, ev_cst, ev_cmp, ev_ix, ev_isi, ev_tup, ev_lst, ev_ite, ev_fnv, ev_bin, ev_neg, ev_sl, ev_rev, ev_sset, evAnd, evOr, evO, startE, setE, bind_def, pure_def, op_some, thenF, testD, look, ixD, view, mkTup, lim, cmpD, e, e2, raiseM]
end MU
end
/-! UC -/
section
set_option linter.all false
set_option maxRecDepth 100000
set_option maxHeartbeats 4000000
/-! Wells and draws. -/
namespace MU
open PySem MI MT
variable {fns : Nat → Option Fn} {T : Ix}
structure HD (fns : Nat → Option Fn) (T : Ix) : Prop where
  draw : fns T.law_draw = some (F_law_draw T)
  well : fns T.law_well = some (F_law_well T)
theorem r_draw_a (H : HD fns T) {k w : Nat} {η : List C} {a b s m : Int} (h : η[w]? = some (wellC a b s)) (ha : 0 < a) (hm : 0 < m ∧ m < 2 ^ 200) : callF fns (k + 1) T.law_draw [.cel w, .int m] η = .ok (.int (a % m)) (η.set w (wellC (a / m) b s)) := by
  simp only [wellC] at h ⊢
  refine call_len H.draw rfl rfl ?_ (by simp)
  have e := set0 η w (.int (a / m)) _ _ _ h
  have hlg : m.natAbs.log2 < 9000 := by have := lg (Int.le_of_lt hm.1) hm.2; omega
  simp [B_law_draw, evSs, evS, evEs, ev_call, ev_callv, ev_bi, ev_and, ev_or, ev_not, ev_var, ev_cst, ev_cmp, ev_ix, ev_isi, ev_tup, ev_lst, ev_ite, ev_fnv, ev_bin, ev_neg, ev_sl, ev_rev, ev_sset, evAnd, evOr, evO, startE, setE, bind_def, pure_def, op_some, thenF, testD, look, ixD, view, mkTup, lim, cmpD, evS, evE, h, ha, hm.1, hlg, biD, bi1, toInt, binD, binI, e]
theorem r_draw_b (H : HD fns T) {k w : Nat} {η : List C} {a b s m : Int} (h : η[w]? = some (wellC a b s)) (ha : a ≤ 0) (hb : 0 ≤ b ∧ b < 2 ^ 100) (hs : 0 ≤ s ∧ s < 2 ^ 60) (hm : 0 < m ∧ m < 2 ^ 200) : ∃ r, 0 ≤ r ∧ r < m ∧ callF fns (k + 1) T.law_draw [.cel w, .int m] η = .ok (.int r) (η.set w (wellC a b (s + 1))) := by
  simp only [wellC] at h ⊢
  have e := set2 η w (.int (s + 1)) _ _ _ h
  have g := lk h (.lst [.int a, .int b, .int (s + 1)])
  have n0 : ¬ (0 < a) := by omega
  have m1 : binI .Mult (b + 41) (s + 1 + 9) = some (.int ((b + 41) * (s + 1 + 9))) := mul_go (.inl (sm_r (by omega)))
  have m2 : binI .Mult ((b + 41) * (s + 1 + 9)) 998244353 = some (.int ((b + 41) * (s + 1 + 9) * 998244353)) := mul_go (.inl (sm_r (by decide)))
  have m3 : binI .Mult (s + 1) (s + 1) = some (.int ((s + 1) * (s + 1))) := mul_go (.inl (sm_r (by omega)))
  have m4 : binI .Mult ((s + 1) * (s + 1)) (s + 1) = some (.int ((s + 1) * (s + 1) * (s + 1))) := mul_go (.inl (sm_r (by omega)))
  have m5 : binI .Mult ((s + 1) * (s + 1) * (s + 1)) 424242427 = some (.int ((s + 1) * (s + 1) * (s + 1) * 424242427)) := mul_go (.inl (sm_r (by decide)))
  have m6 : binI .Mult b 5 = some (.int (b * 5)) := mul_go (.inl (sm_r (by decide)))
  have md : ∀ (x : Int) (y : Int), 0 < y → binI .Mod x y = some (.int (x % y)) := fun x y hy => by simp [binI, hy]
  have pw : ∀ j : Nat, j ≤ 1000 → binI .Pow 10 (j : Int) = some (.int (10 ^ j)) := fun j hj => by
    have h1 : (0 : Int) ≤ (j : Int) ∧ (j : Int) ≤ 1000 ∧ (10 : Int).natAbs < 2 ^ 64 := ⟨by omega, by omega, by decide⟩
    simp only [binI]
    rw [if_pos (by simpa using h1)]
    simp
  obtain ⟨y1, e1, l1⟩ : ∃ y : Int, y = ((b + 41) * (s + 1 + 9) * 998244353 + (s + 1) * (s + 1) * (s + 1) * 424242427 + 93) % (10 ^ 29 + 319) ∧ 0 ≤ y ∧ y < 2 ^ 200 := ⟨_, rfl, Int.emod_nonneg _ (by decide), Int.lt_trans (Int.emod_lt_of_pos _ (by decide)) (by decide)⟩
  have m7 : binI .Mult y1 y1 = some (.int (y1 * y1)) := mul_go (.inr (mul_ok l1.1 l1.2 l1.1 l1.2))
  obtain ⟨y2, e2, l2⟩ : ∃ y : Int, y = (y1 * y1 + b * 5 + (s + 1)) % (10 ^ 31 + 33) ∧ 0 ≤ y ∧ y < 2 ^ 200 := ⟨_, rfl, Int.emod_nonneg _ (by decide), Int.lt_trans (Int.emod_lt_of_pos _ (by decide)) (by decide)⟩
  have m8 : binI .Mult y2 y2 = some (.int (y2 * y2)) := mul_go (.inr (mul_ok l2.1 l2.2 l2.1 l2.2))
  have m9 : binI .Mult (y2 * y2) 3 = some (.int (y2 * y2 * 3)) := mul_go (.inl (sm_r (by decide)))
  have m10 : binI .Mult y2 17 = some (.int (y2 * 17)) := mul_go (.inl (sm_r (by decide)))
  have p1 : binI .Pow 10 29 = some (.int (10 ^ 29)) := pw 29 (by decide)
  have p2 : binI .Pow 10 31 = some (.int (10 ^ 31)) := pw 31 (by decide)
  have p3 : binI .Pow 10 33 = some (.int (10 ^ 33)) := pw 33 (by decide)
  have ad : ∀ x y : Int, binI .Add x y = some (.int (x + y)) := fun x y => rfl
  have fd : ∀ x : Int, binI .FloorDiv x 50021 = some (.int (x / 50021)) := fun x => rfl
  refine ⟨((y2 * y2 * 3 + y2 * 17) % (10 ^ 33 + 603)) / 50021 % m, Int.emod_nonneg _ (by omega), Int.emod_lt_of_pos _ hm.1, ?_⟩
  have d1 := md ((b + 41) * (s + 1 + 9) * 998244353 + (s + 1) * (s + 1) * (s + 1) * 424242427 + 93) (10 ^ 29 + 319) (by decide)
  rw [← e1] at d1
  have d2 := md (y1 * y1 + b * 5 + (s + 1)) (10 ^ 31 + 33) (by decide)
  rw [← e2] at d2
  have d3 := md (y2 * y2 * 3 + y2 * 17) (10 ^ 33 + 603) (by decide)
  have d4 := md (((y2 * y2 * 3 + y2 * 17) % (10 ^ 33 + 603)) / 50021) m hm.1
  refine call_len H.draw rfl rfl ?_ (by simp)
  have E1 : ∀ v : Ev, v.getD 0 none = some (.cel w) → v.getD 1 none = some (.int m) → True := fun _ _ _ => trivial
  show evSs (callF fns k) (B_law_draw T) (startE 5 [.cel w, .int m]) η = _
  unfold B_law_draw
  refine ss_cons (v' := startE 5 [.cel w, .int m]) (η' := η) ?_ ?_
  · simp [evS, evSs, evS, evEs, ev_call, ev_callv, ev_bi, ev_and, ev_or, ev_not, ev_var, ev_cst, ev_cmp, ev_ix, ev_isi, ev_tup, ev_lst, ev_ite, ev_fnv, ev_bin, ev_neg, ev_sl, ev_rev, ev_sset, evAnd, evOr, evO, startE, setE, bind_def, pure_def, op_some, thenF, testD, look, ixD, view, mkTup, lim, cmpD, h, n0]
  refine ss_cons (v' := startE 5 [.cel w, .int m]) (η' := η.set w (.lst [.int a, .int b, .int (s + 1)])) ?_ ?_
  · have l2 : L2.atI [D.int a, .int b, .int s] 2 = some (.int s) := rfl
    simp [evS, evSs, evS, evEs, ev_call, ev_callv, ev_bi, ev_and, ev_or, ev_not, ev_var, ev_cst, ev_cmp, ev_ix, ev_isi, ev_tup, ev_lst, ev_ite, ev_fnv, ev_bin, ev_neg, ev_sl, ev_rev, ev_sset, evAnd, evOr, evO, startE, setE, bind_def, pure_def, op_some, thenF, testD, look, ixD, view, mkTup, lim, cmpD, h, l2, binD, ad, e]
  generalize η.set w (.lst [.int a, .int b, .int (s + 1)]) = η' at g ⊢
  have k2 : L2.atI [D.int a, .int b, .int (s + 1)] 2 = some (.int (s + 1)) := rfl
  have k1 : L2.atI [D.int a, .int b, .int (s + 1)] 1 = some (.int b) := rfl
  refine ss_cons (v' := [some (.cel w), some (.int m), none, some (.int (s + 1)), none]) (η' := η') ?_ ?_
  · simp [evS, evSs, evS, evEs, ev_call, ev_callv, ev_bi, ev_and, ev_or, ev_not, ev_var, ev_cst, ev_cmp, ev_ix, ev_isi, ev_tup, ev_lst, ev_ite, ev_fnv, ev_bin, ev_neg, ev_sl, ev_rev, ev_sset, evAnd, evOr, evO, startE, setE, bind_def, pure_def, op_some, thenF, testD, look, ixD, view, mkTup, lim, cmpD, g, k2]
  generalize s + 1 = t at *
  refine ss_cons (v' := [some (.cel w), some (.int m), none, some (.int t), some (.int y1)]) (η' := η') ?_ ?_
  · clear d2 d3 d4 p2 p3 m6 m7 m8 m9 m10 e2 l1 l2
    generalize (10 : Int) ^ 29 = c at *
    simp [evS, evSs, evS, evEs, ev_call, ev_callv, ev_bi, ev_and, ev_or, ev_not, ev_var, ev_cst, ev_cmp, ev_ix, ev_isi, ev_tup, ev_lst, ev_ite, ev_fnv, ev_bin, ev_neg, ev_sl, ev_rev, ev_sset, evAnd, evOr, evO, startE, setE, bind_def, pure_def, op_some, thenF, testD, look, ixD, view, mkTup, lim, cmpD, evE, g, k1, binD, biD, bi1, toInt, ad, m1, m2, m3, m4, m5, p1, d1]
  clear p1 d1 m1 m2 m3 m4 m5 e1
  refine ss_cons (v' := [some (.cel w), some (.int m), none, some (.int t), some (.int y2)]) (η' := η') ?_ ?_
  · clear d3 d4 p3 m8 m9 m10
    generalize (10 : Int) ^ 31 = c at *
    simp [evS, evSs, evS, evEs, ev_call, ev_callv, ev_bi, ev_and, ev_or, ev_not, ev_var, ev_cst, ev_cmp, ev_ix, ev_isi, ev_tup, ev_lst, ev_ite, ev_fnv, ev_bin, ev_neg, ev_sl, ev_rev, ev_sset, evAnd, evOr, evO, startE, setE, bind_def, pure_def, op_some, thenF, testD, look, ixD, view, mkTup, lim, cmpD, evE, g, k1, binD, biD, bi1, toInt, ad, m6, m7, p2, d2]
  clear p2 d2 m6 m7 e2
  generalize hy : (y2 * y2 * 3 + y2 * 17) % (10 ^ 33 + 603) = y3 at *
  refine ss_cons (v' := [some (.cel w), some (.int m), none, some (.int t), some (.int y3)]) (η' := η') ?_ ?_
  · clear d4
    generalize (10 : Int) ^ 33 = c at *
    simp [evS, evSs, evS, evEs, ev_call, ev_callv, ev_bi, ev_and, ev_or, ev_not, ev_var, ev_cst, ev_cmp, ev_ix, ev_isi, ev_tup, ev_lst, ev_ite, ev_fnv, ev_bin, ev_neg, ev_sl, ev_rev, ev_sset, evAnd, evOr, evO, startE, setE, bind_def, pure_def, op_some, thenF, testD, look, ixD, view, mkTup, lim, cmpD, evE, g, k1, binD, biD, bi1, toInt, ad, m8, m9, m10, p3, d3]
  · simp [evS, evSs, evS, evEs, ev_call, ev_callv, ev_bi, ev_and, ev_or, ev_not, ev_var, ev_cst, ev_cmp, ev_ix, ev_isi, ev_tup, ev_lst, ev_ite, ev_fnv, ev_bin, ev_neg, ev_sl, ev_rev, ev_sset, evAnd, evOr, evO, startE, setE, bind_def, pure_def, op_some, thenF, testD, look, ixD, view, mkTup, lim, cmpD, evE, binD, biD, bi1, toInt, fd, d4]
def wTurn : Ss := .cons (.set 3 (.bin .Mod (.bi .int (.cons (.bin .Add (.bin .Mult (.var 3) (.cst (.int 6007))) (.bin .Mod (.bi .int (.cons (.var 4) (.nil))) (.bin .Add (.bin .Pow (.cst (.int 10)) (.cst (.int 19))) (.cst (.int 51))))) (.nil))) (.bin .Add (.bin .Pow (.cst (.int 10)) (.cst (.int 25))) (.cst (.int 13))))) (.nil)
theorem well_turn {call : Nat → List D → M D} {η : List C} {s i c : D} {wh x : Int} : ∃ wh', evSs call wTurn [some s, some i, some c, some (.int wh), some (.int x), none] η = .ok (.nx [some s, some i, some c, some (.int wh'), some (.int x), none]) η := by
  have p1 : binI .Pow 10 19 = some (.int (10 ^ 19)) := b_pow 19 (by decide)
  have p2 : binI .Pow 10 25 = some (.int (10 ^ 25)) := b_pow 25 (by decide)
  have m1 := b_mulr wh (y := 6007) (by decide)
  have d1 := b_mod x (y := 10 ^ 19 + 51) (by decide)
  have d2 := fun z => b_mod z (y := 10 ^ 25 + 13) (by decide)
  refine ⟨(wh * 6007 + x % (10 ^ 19 + 51)) % (10 ^ 25 + 13), ?_⟩
  unfold wTurn
  generalize (10 : Int) ^ 19 = c1 at *
  generalize (10 : Int) ^ 25 = c2 at *
  simp [evSs, evS, evSs, evS, evEs, ev_call, ev_callv, ev_bi, ev_and, ev_or, ev_not, ev_var, ev_cst, ev_cmp, ev_ix, ev_isi, ev_tup, ev_lst, ev_ite, ev_fnv, ev_bin, ev_neg, ev_sl, ev_rev, ev_sset, evAnd, evOr, evO, startE, setE, bind_def, pure_def, op_some, thenF, testD, look, ixD, view, mkTup, lim, cmpD, evE, binD, biD, bi1, toInt, b_add, m1, d1, d2, p1, p2]
theorem well_loop {call : Nat → List D → M D} {η : List C} {s i c : D} : ∀ (xs : List Int) (wh : Int) (o : Option D), ∃ wh' o', forM' (fun d v => do
      let v' ← tgE (.one 4) v d
      evSs call wTurn v') (xs.map D.int) [some s, some i, some c, some (.int wh), o, none] η = .ok (.nx [some s, some i, some c, some (.int wh'), o', none]) η
  | [], wh, o => ⟨wh, o, by simp [forM', pure_def]⟩
  | x :: xs, wh, o => by
    obtain ⟨wh1, e1⟩ := @well_turn call η s i c wh x
    obtain ⟨wh', o', e2⟩ := @well_loop call η s i c xs wh1 (some (.int x))
    refine ⟨wh', o', ?_⟩
    simp only [List.map_cons, forM', bind_def, tgE, pure_def, setE, List.set_cons_succ, List.set_cons_zero, e1, loopF]
    exact e2
theorem r_well (H : HD fns T) {k : Nat} {η : List C} {zs : List Int} {i : Nat} : ∃ a b, 0 ≤ a ∧ (0 ≤ b ∧ b < 2 ^ 100) ∧ callF fns (k + 1) T.law_well [.scr (zs.map .int), .int i] η = .ok (.cel η.length) (η ++ [wellC a b 0]) := by
  obtain ⟨c, hc⟩ : ∃ c : Int, evE (callF fns k) (.ite (.cmp .Lt (.var 1) (.bi .len (.cons (.var 0) (.nil)))) (.bi .int (.cons (.ix (.var 0) (.var 1)) (.nil))) (.bin .Add (.bin .Mult (.cst (.int 89)) (.var 1)) (.cst (.int 43)))) (startE 6 [.scr (zs.map .int), .int i]) η = .ok (.int c) η := by
    by_cases hi : i < zs.length
    · have h1 : L2.atI (zs.map D.int) (i : Int) = some (.int (zs[i])) := by
        simp [L2.atI, L2.ixN, hi]
      refine ⟨zs[i], ?_⟩
      simp [evSs, evS, evEs, ev_call, ev_callv, ev_bi, ev_and, ev_or, ev_not, ev_var, ev_cst, ev_cmp, ev_ix, ev_isi, ev_tup, ev_lst, ev_ite, ev_fnv, ev_bin, ev_neg, ev_sl, ev_rev, ev_sset, evAnd, evOr, evO, startE, setE, bind_def, pure_def, op_some, thenF, testD, look, ixD, view, mkTup, lim, cmpD, biD, bi1, lenD, hi, h1, toInt, less_int]
    · refine ⟨89 * i + 43, ?_⟩
      have m1 := b_mull (x := 89) (i : Int) (by decide)
      simp [evSs, evS, evEs, ev_call, ev_callv, ev_bi, ev_and, ev_or, ev_not, ev_var, ev_cst, ev_cmp, ev_ix, ev_isi, ev_tup, ev_lst, ev_ite, ev_fnv, ev_bin, ev_neg, ev_sl, ev_rev, ev_sset, evAnd, evOr, evO, startE, setE, bind_def, pure_def, op_some, thenF, testD, look, ixD, view, mkTup, lim, cmpD, biD, bi1, lenD, hi, binD, m1, b_add, less_int]
  obtain ⟨wh, o, hl⟩ := @well_loop (callF fns k) η (.scr (zs.map .int)) (.int i) (.int c) ((cutD (zs.map D.int) none (some 63)).map fun d => match d with | .int x => x | _ => 0) (41 + zs.length) none
  have hcut : ((cutD (zs.map D.int) none (some 63)).map fun d => match d with | .int x => x | _ => 0).map D.int = cutD (zs.map D.int) none (some 63) := by
    have : ∀ d ∈ cutD (zs.map D.int) none (some 63), ∃ x, d = .int x := by
      intro d hd
      have hd := List.mem_of_mem_drop (List.mem_of_mem_take hd)
      simp only [List.mem_map] at hd
      obtain ⟨x, _, rfl⟩ := hd
      exact ⟨x, rfl⟩
    rw [List.map_map]
    conv => rhs; rw [← List.map_id (cutD (zs.map D.int) none (some 63))]
    refine List.map_congr_left fun d hd => ?_
    obtain ⟨x, rfl⟩ := this d hd
    rfl
  rw [hcut] at hl
  have p1 : binI .Pow 10 28 = some (.int (10 ^ 28)) := b_pow 28 (by decide)
  have p2 : binI .Pow 10 18 = some (.int (10 ^ 18)) := b_pow 18 (by decide)
  obtain ⟨ac, hac, hac0⟩ : ∃ ac : Int, absD (.int c) = some (.int ac) ∧ 0 ≤ ac := ⟨if c < 0 then -c else c, rfl, by split <;> omega⟩
  have m1 := b_mulr ac (y := 7411) (by decide)
  have m2 := b_mulr wh (y := 43) (by decide)
  obtain ⟨z, hz⟩ : ∃ z : Int, (if c < 0 then (1 : Int) else 0) = z := ⟨_, rfl⟩
  have m3 := b_mull (x := 5) z (by decide)
  have m4 := b_mull (x := 67) (i : Int) (by decide)
  have d1 := b_mod (ac * 7411 + wh * 43 + 5 * z + 67 * i) (y := 10 ^ 28 + 331) (by decide)
  obtain ⟨b, hb, hb0⟩ : ∃ b : Int, b = (ac * 7411 + wh * 43 + 5 * z + 67 * i) % (10 ^ 28 + 331) ∧ 0 ≤ b ∧ b < 2 ^ 100 := ⟨_, rfl, Int.emod_nonneg _ (by decide), Int.lt_trans (Int.emod_lt_of_pos _ (by decide)) (by decide)⟩
  rw [← hb] at d1
  clear hb
  generalize (10 : Int) ^ 28 = c1 at *
  generalize (10 : Int) ^ 18 = c2 at *
  obtain ⟨a, hx, ha0⟩ : ∃ a : Int, max2D (.int 0) (.int (ac - c2)) = some (.int a) ∧ 0 ≤ a := ⟨if ac - c2 > 0 then ac - c2 else 0, rfl, by split <;> omega⟩
  refine ⟨a, b, ha0, hb0, ?_⟩
  refine call_keep H.well rfl rfl ?_
  show evSs (callF fns k) (B_law_well T) (startE 6 [.scr (zs.map .int), .int i]) η = _
  unfold B_law_well
  refine ss_cons (v' := [some (.scr (zs.map .int)), some (.int i), some (.int c), none, none, none]) (η' := η) ?_ ?_
  · simp only [evS, bind_def, hc]
    rfl
  clear hc
  refine ss_cons (v' := [some (.scr (zs.map .int)), some (.int i), some (.int c), some (.int (41 + zs.length)), none, none]) (η' := η) ?_ ?_
  · simp [evS, evSs, evS, evEs, ev_call, ev_callv, ev_bi, ev_and, ev_or, ev_not, ev_var, ev_cst, ev_cmp, ev_ix, ev_isi, ev_tup, ev_lst, ev_ite, ev_fnv, ev_bin, ev_neg, ev_sl, ev_rev, ev_sset, evAnd, evOr, evO, startE, setE, bind_def, pure_def, op_some, thenF, testD, look, ixD, view, mkTup, lim, cmpD, biD, bi1, lenD, binD, b_add]
  refine ss_cons (v' := [some (.scr (zs.map .int)), some (.int i), some (.int c), some (.int wh), o, none]) (η' := η) ?_ ?_
  · simp only [evS, evI, bind_def, evSs, evS, evEs, ev_call, ev_callv, ev_bi, ev_and, ev_or, ev_not, ev_var, ev_cst, ev_cmp, ev_ix, ev_isi, ev_tup, ev_lst, ev_ite, ev_fnv, ev_bin, ev_neg, ev_sl, ev_rev, ev_sset, evAnd, evOr, evO, startE, setE, bind_def, pure_def, op_some, thenF, testD, look, ixD, view, mkTup, lim, cmpD, List.getD_cons_zero, evE, slD, intOf, iterD]
    exact hl
  clear hl hcut
  refine ss_cons (v' := [some (.scr (zs.map .int)), some (.int i), some (.int c), some (.int wh), o, some (.int b)]) (η' := η) ?_ ?_
  · simp [evS, evSs, evS, evEs, ev_call, ev_callv, ev_bi, ev_and, ev_or, ev_not, ev_var, ev_cst, ev_cmp, ev_ix, ev_isi, ev_tup, ev_lst, ev_ite, ev_fnv, ev_bin, ev_neg, ev_sl, ev_rev, ev_sset, evAnd, evOr, evO, startE, setE, bind_def, pure_def, op_some, thenF, testD, look, ixD, view, mkTup, lim, cmpD, biD, bi1, binD, b_add, less_int, hac, hz, m1, m2, m3, m4, p1, d1, toInt]
  · simp [evSs, evS, evSs, evS, evEs, ev_call, ev_callv, ev_bi, ev_and, ev_or, ev_not, ev_var, ev_cst, ev_cmp, ev_ix, ev_isi, ev_tup, ev_lst, ev_ite, ev_fnv, ev_bin, ev_neg, ev_sl, ev_rev, ev_sset, evAnd, evOr, evO, startE, setE, bind_def, pure_def, op_some, thenF, testD, look, ixD, view, mkTup, lim, cmpD, biD, bi1, bi2, binD, b_sub, hac, p2, hx, newL, newC, wellC]
/-- the wells -/
structure St (η : List C) (w N : Nat) : Prop where
  wells : ∀ c ∈ η, ∃ a b s, c = wellC a b s
  at_ : ∃ a b s, η[w]? = some (wellC a b s) ∧ 0 ≤ a ∧ (0 ≤ b ∧ b < 2 ^ 100) ∧ 0 ≤ s ∧ s ≤ N
theorem wells_set {η : List C} {w : Nat} {a b s : Int} (h : ∀ c ∈ η, ∃ a b s, c = wellC a b s) : ∀ c ∈ η.set w (wellC a b s), ∃ a b s, c = wellC a b s := by
  intro c hc
  rcases List.mem_or_eq_of_mem_set hc with hc | rfl
  · exact h c hc
  · exact ⟨_, _, _, rfl⟩
theorem r_draw (H : HD fns T) {k w N : Nat} {η : List C} {m : Int} (h : St η w N) (hN : N < 2 ^ 59) (hm : 0 < m ∧ m < 2 ^ 200) : ∃ r η', 0 ≤ r ∧ r < m ∧ callF fns (k + 1) T.law_draw [.cel w, .int m] η = .ok (.int r) η' ∧ St η' w (N + 1) ∧ η'.length = η.length := by
  obtain ⟨hw, a, b, s, h1, h2, h3, h4, h5⟩ := h
  by_cases ha : 0 < a
  · refine ⟨a % m, _, Int.emod_nonneg _ (by omega), Int.emod_lt_of_pos _ hm.1, r_draw_a H h1 ha hm, ⟨wells_set hw, a / m, b, s, lk h1 _, Int.ediv_nonneg h2 (by omega), h3, h4, by omega⟩, by simp⟩
  · obtain ⟨r, r0, r1, e⟩ := r_draw_b (k := k) H h1 (by omega) h3 ⟨h4, by omega⟩ hm
    exact ⟨r, _, r0, r1, e, ⟨wells_set hw, a, b, s + 1, lk h1 _, h2, h3, by omega, by omega⟩, by simp⟩
theorem St.le {η : List C} {w N N' : Nat} (h : St η w N) (l : N ≤ N') : St η w N' := by
  obtain ⟨hw, a, b, s, h1, h2, h3, h4, h5⟩ := h
  exact ⟨hw, a, b, s, h1, h2, h3, h4, by omega⟩
/-! ### a list of draws -/
theorem lc_draw {call : Nat → List D → M D} {x : E} {i : Nat} {it : Wk} {vs : List Nat} {v : Ev} {η η1 : List C} {xs : List D} {P : D → Prop} {w N L c : Nat} (hi : evI call it v η = .ok xs η1)
    (step : ∀ N' η', St η' w N' → η'.length = L → N' + c ≤ N + xs.length * c → ∀ d ∈ xs, ∃ y η'', evE call x (setE (wipeE v vs) i d) η' = .ok y η'' ∧ P y ∧ St η'' w (N' + c) ∧ η''.length = L)
    (hs : St η1 w N) (hL : η1.length = L) (hl : xs.length ≤ lim) : ∃ ys η2, evE call (.lc x (.one i) it .none vs) v η = .ok (.lst ys) η2 ∧ ys.length = xs.length ∧ (∀ y ∈ ys, P y) ∧ St η2 w (N + xs.length * c) ∧ η2.length = L := by
  have key : ∀ (l acc : List D) (N' : Nat) (η' : List C), (∀ d ∈ l, d ∈ xs) → acc.length + l.length ≤ lim → St η' w N' → η'.length = L → N' + l.length * c ≤ N + xs.length * c → ∃ ys η2, foldM' (fun acc d => do
      let v' ← tgE (.one i) (wipeE v vs) d
      let b ← evC call .none v'
      if b then do
        let y ← evE call x v'
        pushM acc y
      else pure acc) l acc η' = .ok (acc ++ ys) η2 ∧ ys.length = l.length ∧ (∀ y ∈ ys, P y) ∧ St η2 w (N' + l.length * c) ∧ η2.length = L := by
    intro l
    induction l with
    | nil => intro acc N' η' _ _ s hl _; exact ⟨[], η', by simp [foldM', pure_def], rfl, by simp, by simpa using s, hl⟩
    | cons d l ih =>
      intro acc N' η' hm ha s hl hb
      have e0 : (l.length + 1) * c = l.length * c + c := by rw [Nat.add_mul]; simp
      simp only [List.length_cons, e0] at ha hb ⊢
      obtain ⟨y, η'', e1, p, s1, l1⟩ := step N' η' s hl (by omega) d (hm d (by simp))
      obtain ⟨ys, η2, e2, q1, q2, q3, q4⟩ := ih (acc ++ [y]) (N' + c) η'' (fun z hz => hm z (by simp [hz])) (by simp; omega) s1 l1 (by omega)
      refine ⟨y :: ys, η2, ?_, by simp [q1], ?_, by rw [show N' + (l.length * c + c) = N' + c + l.length * c from by omega]; exact q3, q4⟩
      · simp only [foldM', bind_def, tgE, pure_def, evC, if_true, e1]
        have : acc.length < lim := by omega
        simp only [pushM, if_pos this, pure_def]
        rw [show acc ++ y :: ys = acc ++ [y] ++ ys from by simp]
        exact e2
      · intro z hz
        rcases List.mem_cons.mp hz with rfl | hz
        · exact p
        · exact q2 z hz
  obtain ⟨ys, η2, e, q⟩ := key xs [] N η1 (fun _ h => h) (by simpa using hl) hs hL (by omega)
  refine ⟨ys, η2, ?_, q⟩
  simp only [evE, bind_def, hi, quiet]
  rw [e]
  simp [pure_def]
end MU
end
/-! WA -/
section
set_option linter.all false
set_option maxRecDepth 100000
set_option maxHeartbeats 4000000
/-! Walks by what is to hold behind them. -/
namespace MU
open PySem MI MT
/-- ends with Q, or with an error and X -/
def W0 {α : Type} (r : R α) (Q : α → List C → Prop) (X : Nat → D → List C → Prop) : Prop := match r with
  | .no => False
  | .ok a h => Q a h
  | .exc c d h => X c d h
structure W {α : Type} (r : R α) (Q : α → List C → Prop) (X : Nat → D → List C → Prop) : Prop where
  run : W0 r Q X
abbrev NoX : Nat → D → List C → Prop := fun _ _ _ => False
inductive O {α : Type} (o : Option α) (P : α → Prop) : Prop where
  | mk (a : α) (e : o = some a) (p : P a) : O o P
/-- what stands at a name -/
inductive Gt (o : Option D) (P : D → Prop) : Prop where
  | mk (a : D) (e : o = some a) (p : P a) : Gt o P
theorem gt_go {o : Option D} {P : D → Prop} {a : D} (e : o = some a) (p : P a) : Gt o P := .mk a e p
structure Lk (a b : Nat) (P : Prop) : Prop where
  e_ : a = b
  p_ : P
structure Br (r : Bool) (A B : Prop) : Prop where
  yes : r = true → A
  nay : r = false → B
theorem w_ok {α : Type} {r : R α} {Q : α → List C → Prop} {X : Nat → D → List C → Prop} {a : α} {h : List C} (e : r = .ok a h) (q : Q a h) : W r Q X := by subst e; exact ⟨q⟩
theorem w_exc {α : Type} {r : R α} {Q : α → List C → Prop} {X : Nat → D → List C → Prop} {c : Nat} {d : D} {h : List C} (e : r = .exc c d h) (q : X c d h) : W r Q X := by subst e; exact ⟨q⟩
theorem of_w {α : Type} {r : R α} {a : α} {h : List C} (w : W r (fun b g => b = a ∧ g = h) NoX) : r = .ok a h := by
  obtain ⟨w⟩ := w
  cases r with
  | no => exact w.elim
  | ok b g => obtain ⟨rfl, rfl⟩ := w; rfl
  | exc c d g => exact w.elim
theorem of_wx {α : Type} {r : R α} {c : Nat} {d : D} {h : List C} (w : W r (fun _ _ => False) (fun c' d' g => c' = c ∧ d' = d ∧ g = h)) : r = .exc c d h := by
  obtain ⟨w⟩ := w
  cases r with
  | no => exact w.elim
  | ok b g => exact w.elim
  | exc c d g => obtain ⟨rfl, rfl, rfl⟩ := w; rfl
theorem of_we {α : Type} {r : R α} {Q : α → List C → Prop} (w : W r Q NoX) : ∃ a h, r = .ok a h ∧ Q a h := by
  obtain ⟨w⟩ := w
  cases r with
  | no => exact w.elim
  | ok b g => exact ⟨b, g, rfl, w⟩
  | exc c d g => exact w.elim
theorem w_mono {α : Type} {r : R α} {Q Q' : α → List C → Prop} {X X' : Nat → D → List C → Prop} (w : W r Q X) (h : ∀ a g, Q a g → Q' a g) (hx : ∀ c d g, X c d g → X' c d g) : W r Q' X' := by
  obtain ⟨w⟩ := w
  cases r with
  | no => exact w.elim
  | ok b g => exact ⟨h _ _ w⟩
  | exc c d g => exact ⟨hx _ _ _ w⟩
/-- what was walked before goes on -/
theorem w_then {α : Type} {r : R α} {Q Q' : α → List C → Prop} {X : Nat → D → List C → Prop} (w : W r Q NoX) (h : ∀ a g, Q a g → Q' a g) : W r Q' X := w_mono w h fun _ _ _ f => f.elim
theorem w_bind {α β : Type} {m : M α} {f : α → M β} {η : List C} {Q : β → List C → Prop} {X : Nat → D → List C → Prop} (w : W (m η) (fun a h => W (f a h) Q X) X) : W ((m >>= f) η) Q X := by
  obtain ⟨w⟩ := w
  rw [bind_def]
  cases e : m η with
  | no => rw [e] at w; exact w.elim
  | ok a h => rw [e] at w; exact w
  | exc c d h => rw [e] at w; exact ⟨w⟩
theorem w_pure {α : Type} {a : α} {η : List C} {Q : α → List C → Prop} {X : Nat → D → List C → Prop} (q : Q a η) : W ((pure a : M α) η) Q X := ⟨q⟩
theorem w_op {α : Type} {o : Option α} {η : List C} {Q : α → List C → Prop} {X : Nat → D → List C → Prop} (q : O o fun a => Q a η) : W (op o η) Q X := by
  obtain ⟨a, e, q⟩ := q
  subst e; exact ⟨q⟩
theorem w_look {α : Type} {f : List C → Option α} {η : List C} {Q : α → List C → Prop} {X : Nat → D → List C → Prop} (q : O (f η) fun a => Q a η) : W (look f η) Q X := by
  obtain ⟨a, e, q⟩ := q
  unfold look
  rw [e]; exact ⟨q⟩
theorem w_test {x : D} {η : List C} {Q : Bool → List C → Prop} {X : Nat → D → List C → Prop} (q : O (blOf x) fun b => Q b η) : W (testD x η) Q X := by
  obtain ⟨b, e, q⟩ := q
  cases x <;> first | (cases e; done) | (cases e; exact ⟨q⟩)
theorem w_ite {α : Type} {r : Bool} {m n : M α} {η : List C} {Q : α → List C → Prop} {X : Nat → D → List C → Prop} (q : Br r (W (m η) Q X) (W (n η) Q X)) : W ((if r then m else n) η) Q X := by
  cases r with
  | true => exact q.1 rfl
  | false => exact q.2 rfl
theorem o_some {α : Type} {o : Option α} {P : α → Prop} {a : α} (e : o = some a) (p : P a) : O o P := .mk a e p
theorem o_map {α β : Type} {o : Option α} {f : α → β} {P : β → Prop} (p : O o fun a => P (f a)) : O (o.map f) P := by
  obtain ⟨a, e, q⟩ := p
  subst e; exact .mk _ rfl q
theorem o_mono {α : Type} {o : Option α} {P P' : α → Prop} (p : O o P) (h : ∀ a, P a → P' a) : O o P' := by
  obtain ⟨a, e, q⟩ := p
  exact .mk a e (h a q)
theorem br_t {r : Bool} {A B : Prop} (h : r = true) (a : A) : Br r A B := ⟨fun _ => a, fun g => by rw [h] at g; cases g⟩
theorem br_f {r : Bool} {A B : Prop} (h : r = false) (b : B) : Br r A B := ⟨fun g => absurd (h.symm.trans g) (by decide), fun _ => b⟩
theorem br_i {r : Bool} {A B : Prop} (a : r = true → A) (b : r = false → B) : Br r A B := ⟨a, b⟩
theorem br_d {p : Prop} [Decidable p] {A B : Prop} (a : p → A) (b : ¬ p → B) : Br (decide p) A B := ⟨fun h => a (of_decide_eq_true h), fun h => b (of_decide_eq_false h)⟩
theorem br_nd {p : Prop} [Decidable p] {A B : Prop} (a : ¬ p → A) (b : p → B) : Br (!decide p) A B := ⟨fun h => a (by simpa using h), fun h => b (by simpa using h)⟩
theorem br_dt {p : Prop} [Decidable p] {A B : Prop} (h : p) (a : A) : Br (decide p) A B := br_t (decide_eq_true h) a
theorem br_df {p : Prop} [Decidable p] {A B : Prop} (h : ¬ p) (b : B) : Br (decide p) A B := br_f (decide_eq_false h) b
section
variable {call : Nat → List D → M D} {v : Ev} {η : List C} {X : Nat → D → List C → Prop}
section
variable {Q : D → List C → Prop}
theorem wvar {i : Nat} (q : Gt (v.getD i none) fun x => Q x η) : W (evE call (.var i) v η) Q X := by
  obtain ⟨x, h, q⟩ := q
  rw [ev_var, h]; exact w_pure q
theorem wcst {x : D} (q : Q x η) : W (evE call (.cst x) v η) Q X := by rw [ev_cst]; exact w_pure q
theorem wfnv {f : Nat} (q : Q (.fn f) η) : W (evE call (.fnv f) v η) Q X := by rw [ev_fnv]; exact w_pure q
theorem wbin {o : Operator} {a b : E} (q : W (evE call a v η) (fun x η1 => W (evE call b v η1) (fun y η2 => O (binD η2 o x y) fun z => Q z η2) X) X) : W (evE call (.bin o a b) v η) Q X := by
  rw [ev_bin]; exact w_bind (w_mono q (fun _ _ h => w_bind (w_mono h (fun _ _ g => w_look g) fun _ _ _ g => g)) fun _ _ _ g => g)
theorem wneg {a : E} (q : W (evE call a v η) (fun x η1 => O (intOf x) fun i => Q (.int (-i)) η1) X) : W (evE call (.neg a) v η) Q X := by
  rw [ev_neg]; exact w_bind (w_mono q (fun _ _ h => w_op (o_map h)) fun _ _ _ g => g)
theorem wnot {a : E} (q : W (evE call a v η) (fun x η1 => O (blOf x) fun b => Q (.bl !b) η1) X) : W (evE call (.not a) v η) Q X := by
  rw [ev_not]; exact w_bind (w_mono q (fun _ _ h => w_bind (w_test (o_mono h fun _ h => w_pure h))) fun _ _ _ g => g)
theorem wcmp {o : CmpOp} {a b : E} (q : W (evE call a v η) (fun x η1 => W (evE call b v η1) (fun y η2 => O (cmpD η2 o x y) fun r => Q (.bl r) η2) X) X) : W (evE call (.cmp o a b) v η) Q X := by
  rw [ev_cmp]; exact w_bind (w_mono q (fun _ _ h => w_bind (w_mono h (fun _ _ g => w_bind (w_look (o_mono g fun _ h => w_pure h))) fun _ _ _ g => g)) fun _ _ _ g => g)
theorem wchain {o o' : CmpOp} {a b c : E} (q : W (evE call a v η) (fun x η1 => W (evE call b v η1) (fun y η2 => O (cmpD η2 o x y) fun r => Br r (W (evE call c v η2) (fun z η3 => O (cmpD η3 o' y z) fun r' => Q (.bl r') η3) X) (Q (.bl false) η2)) X) X) : W (evE call (.chain o o' a b c) v η) Q X := by
  simp only [evE]
  refine w_bind (w_mono q (fun x η1 h => w_bind (w_mono h (fun y η2 g => w_bind (w_look (o_mono g fun r g => ?_))) fun _ _ _ g => g)) fun _ _ _ g => g)
  refine w_ite (br_i (fun hr => ?_) fun hr => ?_)
  · exact w_bind (w_mono (g.1 hr) (fun _ _ k => w_bind (w_look (o_mono k fun _ k => w_pure k))) fun _ _ _ g => g)
  · exact w_pure (g.2 hr)
theorem wand1 {e : E} (q : W (evE call e v η) Q X) : W (evE call (.and (.cons e .nil)) v η) Q X := by
  rw [ev_and]; simpa only [evAnd] using q
theorem wand {e e2 : E} {es : Es} (q : W (evE call e v η) (fun x η1 => O (blOf x) fun b => Br b (W (evE call (.and (.cons e2 es)) v η1) Q X) (Q (.bl false) η1)) X) : W (evE call (.and (.cons e (.cons e2 es))) v η) Q X := by
  rw [ev_and]; simp only [evAnd]
  refine w_bind (w_mono q (fun x η1 h => w_bind (w_test (o_mono h fun r h => ?_))) fun _ _ _ g => g)
  refine w_ite (br_i (fun hr => ?_) fun hr => ?_)
  · have := h.1 hr; rw [ev_and] at this; exact this
  · exact w_pure (h.2 hr)
theorem wor1 {e : E} (q : W (evE call e v η) Q X) : W (evE call (.or (.cons e .nil)) v η) Q X := by
  rw [ev_or]; simpa only [evOr] using q
theorem wor {e e2 : E} {es : Es} (q : W (evE call e v η) (fun x η1 => O (blOf x) fun b => Br b (Q (.bl true) η1) (W (evE call (.or (.cons e2 es)) v η1) Q X)) X) : W (evE call (.or (.cons e (.cons e2 es))) v η) Q X := by
  rw [ev_or]; simp only [evOr]
  refine w_bind (w_mono q (fun x η1 h => w_bind (w_test (o_mono h fun r h => ?_))) fun _ _ _ g => g)
  refine w_ite (br_i (fun hr => ?_) fun hr => ?_)
  · exact w_pure (h.1 hr)
  · have := h.2 hr; rw [ev_or] at this; exact this
theorem wite {c a b : E} (q : W (evE call c v η) (fun x η1 => O (blOf x) fun r => Br r (W (evE call a v η1) Q X) (W (evE call b v η1) Q X)) X) : W (evE call (.ite c a b) v η) Q X := by
  rw [ev_ite]
  exact w_bind (w_mono q (fun x η1 h => w_bind (w_test (o_mono h fun r h => w_ite h))) fun _ _ _ g => g)
theorem wtup {es : Es} (q : W (evEs call es v η) (fun xs η1 => O (mkTup xs) fun d => Q d η1) X) : W (evE call (.tup es) v η) Q X := by
  rw [ev_tup]; exact w_bind (w_mono q (fun _ _ h => w_op h) fun _ _ _ g => g)
theorem wlst {es : Es} (q : W (evEs call es v η) (fun xs η1 => O (mkLst xs) fun d => Q d η1) X) : W (evE call (.lst es) v η) Q X := by
  rw [ev_lst]; exact w_bind (w_mono q (fun _ _ h => w_op h) fun _ _ _ g => g)
theorem wix {a b : E} (q : W (evE call a v η) (fun x η1 => W (evE call b v η1) (fun y η2 => O (ixD η2 x y) fun z => Q z η2) X) X) : W (evE call (.ix a b) v η) Q X := by
  rw [ev_ix]; exact w_bind (w_mono q (fun _ _ h => w_bind (w_mono h (fun _ _ g => w_look g) fun _ _ _ g => g)) fun _ _ _ g => g)
theorem wsl {a : E} {lo hi : Eo} (q : W (evE call a v η) (fun x η1 => W (evO call lo v η1) (fun l η2 => W (evO call hi v η2) (fun u η3 => O (slD η3 x l u) fun z => Q z η3) X) X) X) : W (evE call (.sl a lo hi) v η) Q X := by
  rw [ev_sl]; exact w_bind (w_mono q (fun _ _ h => w_bind (w_mono h (fun _ _ g => w_bind (w_mono g (fun _ _ k => w_look k) fun _ _ _ g => g)) fun _ _ _ g => g)) fun _ _ _ g => g)
theorem wrev {a : E} (q : W (evE call a v η) (fun x η1 => O (revD η1 x) fun z => Q z η1) X) : W (evE call (.rev a) v η) Q X := by
  rw [ev_rev]; exact w_bind (w_mono q (fun _ _ h => w_look h) fun _ _ _ g => g)
theorem wcall {f : Nat} {es : Es} (q : W (evEs call es v η) (fun xs η1 => W (call f xs η1) Q X) X) : W (evE call (.call f es) v η) Q X := by
  rw [ev_call]; exact w_bind q
theorem wcallv {i f : Nat} {fs : List Nat} {es : Es} (h : v.getD i none = some (.fn f)) (hf : f ∈ fs) (q : W (evEs call es v η) (fun xs η1 => W (call f xs η1) Q X) X) : W (evE call (.callv i fs es) v η) Q X := by
  rw [ev_callv, h]; simp only [hf, if_true]; exact w_bind q
theorem wcallk {f : Nat} {es : Es} {n : Nat} {p : List Nat} (q : W (evEs call es v η) (fun xs η1 => Lk xs.length n (W (call f (p.map fun i => xs.getD i .non) η1) Q X)) X) : W (evE call (.callk f es n p) v η) Q X := by
  rw [ev_callk]
  refine w_bind (w_mono q (fun xs η1 h => ?_) fun _ _ _ g => g)
  simp only [h.1, decide_true, guardM_true, pure_bind']
  exact h.2
theorem wbi {b : Bi} {es : Es} (q : W (evEs call es v η) (fun xs η1 => O (biD η1 b xs) fun z => Q z η1) X) : W (evE call (.bi b es) v η) Q X := by
  rw [ev_bi]; exact w_bind (w_mono q (fun _ _ h => w_look h) fun _ _ _ g => g)
theorem wisi {e : E} {t : Ty} (q : W (evE call e v η) (fun x η1 => O (isTy η1 x t) fun r => Q (.bl r) η1) X) : W (evE call (.isi e t) v η) Q X := by
  rw [ev_isi]; exact w_bind (w_mono q (fun _ _ h => w_bind (w_look (o_mono h fun _ h => w_pure h))) fun _ _ _ g => g)
theorem wsset {e : E} (q : W (evE call e v η) (fun x η1 => O ((seqOf η1 x).bind ssetD) fun r => Q r η1) X) : W (evE call (.sset e) v η) Q X := by
  rw [ev_sset]; exact w_bind (w_mono q (fun _ _ h => w_look h) fun _ _ _ g => g)
theorem wval {a : E} {cs : List Nat} (q : W (evE call a v η) (fun x η1 => O (valD cs x) fun r => Q r η1) X) : W (evE call (.val a cs) v η) Q X := by
  simp only [evE]; exact w_bind (w_mono q (fun _ _ h => w_op h) fun _ _ _ g => g)
theorem wisc {a : E} {c : Nat} {cs : List Nat} (q : W (evE call a v η) (fun x η1 => O (iscD c cs x) fun r => Q r η1) X) : W (evE call (.isc a c cs) v η) Q X := by
  simp only [evE]; exact w_bind (w_mono q (fun _ _ h => w_op h) fun _ _ _ g => g)
theorem wdgt {kds : List (L2.Key × L2.Key)} {a b : E} (q : W (evE call a v η) (fun x η1 => W (evE call b v η1) (fun y η2 => O (dictD kds x y) fun z => Q z η2) X) X) : W (evE call (.dgt kds a b) v η) Q X := by
  simp only [evE]; exact w_bind (w_mono q (fun _ _ h => w_bind (w_mono h (fun _ _ g => w_op g) fun _ _ _ g => g)) fun _ _ _ g => g)
theorem wmaxd {a b : E} (q : W (evE call a v η) (fun x η1 => W (evE call b v η1) (fun y η2 => O (maxdD η2 x y) fun z => Q z η2) X) X) : W (evE call (.maxd a b) v η) Q X := by
  simp only [evE]; exact w_bind (w_mono q (fun _ _ h => w_bind (w_mono h (fun _ _ g => w_look g) fun _ _ _ g => g)) fun _ _ _ g => g)
theorem wlrg {n : Nat} {es : Es} (q : W (evEs call es v η) (fun xs η1 => O (rngN n xs) fun ys => Q (.lst ys) η1) X) : W (evE call (.lrg n es) v η) Q X := by
  simp only [evE]; exact w_bind (w_mono q (fun _ _ h => w_op (o_map h)) fun _ _ _ g => g)
theorem wapp {a e : E} (q : W (evE call a v η) (fun x η1 => O (ownL η1 x) fun _ => W (evE call e v η1) (fun y η2 => W (appC x y η2) Q X) X) X) : W (evE call (.app a e) v η) Q X := by
  simp only [evE]
  refine w_bind (w_mono q (fun x η1 h => w_bind ?_) fun _ _ _ g => g)
  unfold chkL
  exact w_look (o_map (o_mono h fun _ h => w_bind h))
theorem wext {a e : E} (q : W (evE call a v η) (fun x η1 => O (ownL η1 x) fun _ => W (evE call e v η1) (fun y η2 => W (extC x y η2) Q X) X) X) : W (evE call (.ext a e) v η) Q X := by
  simp only [evE]
  refine w_bind (w_mono q (fun x η1 h => w_bind ?_) fun _ _ _ g => g)
  unfold chkL
  exact w_look (o_map (o_mono h fun _ h => w_bind h))
theorem wpop {a : E} (q : W (evE call a v η) (fun x η1 => O (ownL η1 x) fun _ => W (popC x η1) Q X) X) : W (evE call (.pop a) v η) Q X := by
  simp only [evE]
  refine w_bind (w_mono q (fun x η1 h => w_bind ?_) fun _ _ _ g => g)
  unfold chkL
  exact w_look (o_map h)
theorem wnls {es : Es} (q : W (evEs call es v η) (fun xs η1 => W (newL xs η1) Q X) X) : W (evE call (.nls es) v η) Q X := by
  simp only [evE]; exact w_bind q
theorem wndc (q : Q (.cel η.length) (η ++ [.dct []])) : W (evE call .ndc v η) Q X := by
  simp only [evE]; exact ⟨q⟩
end
/-! lists of expressions, bounds, walks -/
theorem wes0 {Q : List D → List C → Prop} (q : Q [] η) : W (evEs call .nil v η) Q X := by simp only [evEs]; exact w_pure q
theorem wes1 {Q : List D → List C → Prop} {e : E} {es : Es} (q : W (evE call e v η) (fun x η1 => W (evEs call es v η1) (fun xs η2 => Q (x :: xs) η2) X) X) : W (evEs call (.cons e es) v η) Q X := by
  simp only [evEs]; exact w_bind (w_mono q (fun _ _ h => w_bind (w_mono h (fun _ _ g => w_pure g) fun _ _ _ g => g)) fun _ _ _ g => g)
theorem weo0 {Q : Option Int → List C → Prop} (q : Q none η) : W (evO call .none v η) Q X := by simp only [evO]; exact w_pure q
theorem weo1 {Q : Option Int → List C → Prop} {e : E} (q : W (evE call e v η) (fun x η1 => O (intOf x) fun i => Q (some i) η1) X) : W (evO call (.some e) v η) Q X := by
  simp only [evO]; exact w_bind (w_mono q (fun _ _ h => w_bind (w_op (o_mono h fun _ h => w_pure h))) fun _ _ _ g => g)
theorem wec0 {Q : Bool → List C → Prop} (q : Q true η) : W (evC call .none v η) Q X := by simp only [evC]; exact w_pure q
theorem wec1 {Q : Bool → List C → Prop} {e : E} (q : W (evE call e v η) (fun x η1 => O (blOf x) fun b => Q b η1) X) : W (evC call (.some e) v η) Q X := by
  simp only [evC]; exact w_bind (w_mono q (fun _ _ h => w_test h) fun _ _ _ g => g)
section
variable {Q : List D → List C → Prop}
theorem wival {e : E} (q : W (evE call e v η) (fun x η1 => O (iterD η1 x) fun xs => Q xs η1) X) : W (evI call (.val e) v η) Q X := by
  simp only [evI]; exact w_bind (w_mono q (fun _ _ h => w_look h) fun _ _ _ g => g)
theorem wirg1 {a : E} (q : W (evE call a v η) (fun x η1 => O (rng1D [x]) fun xs => Q xs η1) X) : W (evI call (.rng1 a) v η) Q X := by
  simp only [evI]; exact w_bind (w_mono q (fun _ _ h => w_op h) fun _ _ _ g => g)
theorem wirg2 {a b : E} (q : W (evE call a v η) (fun x η1 => W (evE call b v η1) (fun y η2 => O (rng2D [x, y]) fun xs => Q xs η2) X) X) : W (evI call (.rng2 a b) v η) Q X := by
  simp only [evI]; exact w_bind (w_mono q (fun _ _ h => w_bind (w_mono h (fun _ _ g => w_op g) fun _ _ _ g => g)) fun _ _ _ g => g)
theorem wirg3 {a b c : E} (q : W (evE call a v η) (fun x η1 => W (evE call b v η1) (fun y η2 => W (evE call c v η2) (fun z η3 => O (rng3D [x, y, z]) fun xs => Q xs η3) X) X) X) : W (evI call (.rng3 a b c) v η) Q X := by
  simp only [evI]; exact w_bind (w_mono q (fun _ _ h => w_bind (w_mono h (fun _ _ g => w_bind (w_mono g (fun _ _ k => w_op k) fun _ _ _ g => g)) fun _ _ _ g => g)) fun _ _ _ g => g)
theorem wizip {a b : E} (q : W (evE call a v η) (fun x η1 => W (evE call b v η1) (fun y η2 => O (zip2D η2 x y) fun xs => Q xs η2) X) X) : W (evI call (.zip a b) v η) Q X := by
  simp only [evI]; exact w_bind (w_mono q (fun _ _ h => w_bind (w_mono h (fun _ _ g => w_look g) fun _ _ _ g => g)) fun _ _ _ g => g)
end
/-! comprehensions -/
/-- the turn of a comprehension -/
def lcF (call : Nat → List D → M D) (x : E) (tg : Tg) (c : Eo) (vs : List Nat) (v : Ev) (acc : List D) (d : D) : M (List D) := do
  let v' ← tgE tg (wipeE v vs) d
  let b ← evC call c v'
  if b then do
    let y ← evE call x v'
    pushM acc y
  else pure acc
theorem w_quiet {α : Type} {m : M α} {Q : α → List C → Prop} (q : W (m η) Q NoX) : W (quiet m η) Q X := by
  obtain ⟨q⟩ := q
  unfold quiet
  cases e : m η with
  | no => rw [e] at q; exact q.elim
  | ok a h => rw [e] at q; exact ⟨q⟩
  | exc c d h => rw [e] at q; exact q.elim
theorem wlc {x : E} {tg : Tg} {it : Wk} {c : Eo} {vs : List Nat} {Q : D → List C → Prop} (q : W (evI call it v η) (fun xs η1 => W (foldM' (lcF call x tg c vs v) xs [] η1) (fun r η2 => Q (.lst r) η2) NoX) X) : W (evE call (.lc x tg it c vs) v η) Q X := by
  simp only [evE]
  exact w_bind (w_mono q (fun xs η1 h => w_bind (w_mono (w_quiet h) (fun _ _ h => w_pure h) fun _ _ _ g => g)) fun _ _ _ g => g)
/-- by what holds of the list made and of the rest -/
theorem w_fold {α β : Type} {f : β → α → M β} {Q : β → List C → Prop} (I : List α → β → List C → Prop) : ∀ {l : List α} {b : β} {η : List C}, I l b η → (∀ a l b η, I (a :: l) b η → W (f b a η) (fun b' η' => I l b' η') X) → (∀ b η, I [] b η → Q b η) → W (foldM' f l b η) Q X
  | [], b, η, h, st, fin => by simp only [foldM']; exact w_pure (fin b η h)
  | a :: l, b, η, h, st, fin => by
    simp only [foldM']
    exact w_bind (w_mono (st a l b η h) (fun b' η' h' => w_fold I h' st fin) fun _ _ _ g => g)
theorem wlcF {x : E} {tg : Tg} {c : Eo} {vs : List Nat} {acc : List D} {d : D} {Q : List D → List C → Prop} (q : W (tgE tg (wipeE v vs) d η) (fun v' η0 => W (evC call c v' η0) (fun b η1 => Br b (W (evE call x v' η1) (fun y η2 => acc.length < lim ∧ Q (acc ++ [y]) η2) X) (Q acc η1)) X) X) : W (lcF call x tg c vs v acc d η) Q X := by
  unfold lcF
  refine w_bind (w_mono q (fun v' η0 h => w_bind (w_mono h (fun b η1 g => w_ite ⟨fun hb => ?_, fun hb => w_pure (g.2 hb)⟩) fun _ _ _ g => g)) fun _ _ _ g => g)
  exact w_bind (w_mono (g.1 hb) (fun y η2 k => by unfold pushM; rw [if_pos k.1]; exact w_pure k.2) fun _ _ _ g => g)
theorem wtg1 {i : Nat} {d : D} {Q : Ev → List C → Prop} (q : Q (setE v i d) η) : W (tgE (.one i) v d η) Q X := by simp only [tgE]; exact w_pure q
theorem wtg2 {i j : Nat} {x y : D} {Q : Ev → List C → Prop} (q : Q (setE (setE v i x) j y) η) : W (tgE (.two i j) v (.tup [x, y]) η) Q X := by simp only [tgE]; exact w_pure q
/-- each item makes one, nothing else is touched -/
theorem w_map {x : E} {i : Nat} {vs : List Nat} {Q : List D → List C → Prop} (f : D → D) {xs : List D} (hl : xs.length ≤ lim) (hx : ∀ d ∈ xs, W (evE call x (setE (wipeE v vs) i d) η) (fun y g => y = f d ∧ g = η) NoX) (q : Q (xs.map f) η) : W (foldM' (lcF call x (.one i) .none vs v) xs [] η) Q X := by
  refine w_fold (fun l acc g => g = η ∧ acc ++ l.map f = xs.map f ∧ (∀ d ∈ l, d ∈ xs) ∧ acc.length + l.length = xs.length) ⟨rfl, rfl, fun _ h => h, by simp⟩ ?_ ?_
  · rintro a l acc g ⟨rfl, e, m, n⟩
    refine wlcF (wtg1 (wec0 (br_t rfl ?_)))
    refine w_then (hx a (m a List.mem_cons_self)) ?_
    rintro y g ⟨rfl, rfl⟩
    simp only [List.length_cons] at n
    refine ⟨by omega, rfl, by simpa using e, fun d hd => m d (List.mem_cons_of_mem _ hd), by simp; omega⟩
  · rintro acc g ⟨rfl, e, -, -⟩
    simp only [List.map_nil, List.append_nil] at e
    rw [e]; exact q
theorem w_mapL {α : Type} {x : E} {i : Nat} {vs : List Nat} {Q : List D → List C → Prop} {g : α → D} (f : α → D) {l : List α} (hl : l.length ≤ lim) (hx : ∀ a ∈ l, W (evE call x (setE (wipeE v vs) i (g a)) η) (fun y h => y = f a ∧ h = η) NoX) (q : Q (l.map f) η) : W (foldM' (lcF call x (.one i) .none vs v) (l.map g) [] η) Q X := by
  refine w_fold (fun m acc h => h = η ∧ ∃ l', m = l'.map g ∧ acc ++ l'.map f = l.map f ∧ (∀ d ∈ l', d ∈ l) ∧ acc.length + l'.length = l.length) ⟨rfl, l, rfl, rfl, fun _ h => h, by simp⟩ ?_ ?_
  · rintro a m acc h ⟨rfl, l', e0, e, mm, n⟩
    cases l' with
    | nil => cases e0
    | cons b l' =>
      cases e0
      refine wlcF (wtg1 (wec0 (br_t rfl ?_)))
      refine w_then (hx b (mm b List.mem_cons_self)) ?_
      rintro y h ⟨rfl, rfl⟩
      simp only [List.length_cons] at n
      refine ⟨by omega, rfl, l', rfl, by simpa using e, fun d hd => mm d (List.mem_cons_of_mem _ hd), by simp; omega⟩
  · rintro acc h ⟨rfl, l', e0, e, -, -⟩
    cases l' with
    | cons b l' => cases e0
    | nil =>
      simp only [List.map_nil, List.append_nil] at e
      rw [e]; exact q
theorem w_map2L {α : Type} {x : E} {i j : Nat} {vs : List Nat} {Q : List D → List C → Prop} {g1 g2 : α → D} (f : α → D) {l : List α} (hl : l.length ≤ lim) (hx : ∀ a ∈ l, W (evE call x (setE (setE (wipeE v vs) i (g1 a)) j (g2 a)) η) (fun y h => y = f a ∧ h = η) NoX) (q : Q (l.map f) η) : W (foldM' (lcF call x (.two i j) .none vs v) (l.map fun a => .tup [g1 a, g2 a]) [] η) Q X := by
  refine w_fold (fun m acc h => h = η ∧ ∃ l', m = l'.map (fun a => .tup [g1 a, g2 a]) ∧ acc ++ l'.map f = l.map f ∧ (∀ d ∈ l', d ∈ l) ∧ acc.length + l'.length = l.length) ⟨rfl, l, rfl, rfl, fun _ h => h, by simp⟩ ?_ ?_
  · rintro a m acc h ⟨rfl, l', e0, e, mm, n⟩
    cases l' with
    | nil => cases e0
    | cons b l' =>
      cases e0
      refine wlcF (wtg2 (wec0 (br_t rfl ?_)))
      refine w_then (hx b (mm b List.mem_cons_self)) ?_
      rintro y h ⟨rfl, rfl⟩
      simp only [List.length_cons] at n
      refine ⟨by omega, rfl, l', rfl, by simpa using e, fun d hd => mm d (List.mem_cons_of_mem _ hd), by simp; omega⟩
  · rintro acc h ⟨rfl, l', e0, e, -, -⟩
    cases l' with
    | cons b l' => cases e0
    | nil =>
      simp only [List.map_nil, List.append_nil] at e
      rw [e]; exact q
theorem w_map2 {x : E} {i j : Nat} {vs : List Nat} {Q : List D → List C → Prop} (f : D → D) {xs : List D} (hl : xs.length ≤ lim) (hx : ∀ d ∈ xs, ∃ y z, d = .tup [y, z] ∧ W (evE call x (setE (setE (wipeE v vs) i y) j z) η) (fun y g => y = f d ∧ g = η) NoX) (q : Q (xs.map f) η) : W (foldM' (lcF call x (.two i j) .none vs v) xs [] η) Q X := by
  refine w_fold (fun l acc g => g = η ∧ acc ++ l.map f = xs.map f ∧ (∀ d ∈ l, d ∈ xs) ∧ acc.length + l.length = xs.length) ⟨rfl, rfl, fun _ h => h, by simp⟩ ?_ ?_
  · rintro a l acc g ⟨rfl, e, m, n⟩
    obtain ⟨y, z, ea, w⟩ := hx a (m a List.mem_cons_self)
    subst ea
    refine wlcF (wtg2 (wec0 (br_t rfl ?_)))
    refine w_then w ?_
    rintro y g ⟨rfl, rfl⟩
    simp only [List.length_cons] at n
    refine ⟨by omega, rfl, by simpa using e, fun d hd => m d (List.mem_cons_of_mem _ hd), by simp; omega⟩
  · rintro acc g ⟨rfl, e, -, -⟩
    simp only [List.map_nil, List.append_nil] at e
    rw [e]; exact q
/-- items that are let in by a test -/
theorem w_filt {x c : E} {i : Nat} {vs : List Nat} {Q : List D → List C → Prop} (f : D → D) (p : D → Bool) {xs : List D} (hl : xs.length ≤ lim) (hc : ∀ d ∈ xs, W (evE call c (setE (wipeE v vs) i d) η) (fun y g => y = .bl (p d) ∧ g = η) NoX) (hx : ∀ d ∈ xs, p d = true → W (evE call x (setE (wipeE v vs) i d) η) (fun y g => y = f d ∧ g = η) NoX) (q : Q ((xs.filter p).map f) η) : W (foldM' (lcF call x (.one i) (.some c) vs v) xs [] η) Q X := by
  refine w_fold (fun l acc g => g = η ∧ acc ++ (l.filter p).map f = (xs.filter p).map f ∧ (∀ d ∈ l, d ∈ xs) ∧ acc.length + l.length ≤ xs.length) ⟨rfl, rfl, fun _ h => h, by simp⟩ ?_ ?_
  · rintro a l acc g ⟨rfl, e, m, n⟩
    refine wlcF (wtg1 (wec1 (w_then (hc a (m a List.mem_cons_self)) ?_)))
    rintro y g ⟨rfl, rfl⟩
    simp only [List.length_cons] at n
    refine o_some rfl (br_i (fun hp => ?_) fun hp => ?_)
    · refine w_then (hx a (m a List.mem_cons_self) hp) ?_
      rintro y g ⟨rfl, rfl⟩
      refine ⟨by omega, rfl, by simpa [List.filter_cons, hp] using e, fun d hd => m d (List.mem_cons_of_mem _ hd), by simp; omega⟩
    · exact ⟨rfl, by simpa [List.filter_cons, hp] using e, fun d hd => m d (List.mem_cons_of_mem _ hd), by omega⟩
  · rintro acc g ⟨rfl, e, -, -⟩
    simp only [List.filter_nil, List.map_nil, List.append_nil] at e
    rw [e]; exact q
end
end MU
end
/-! WB -/
section
set_option linter.all false
set_option maxRecDepth 100000
set_option maxHeartbeats 4000000
/-! Walks by what is to hold behind them: statements, calls. -/
namespace MU
open PySem MI MT
section
variable {call : Nat → List D → M D} {v : Ev} {η : List C} {X : Nat → D → List C → Prop} {Q : Fl → List C → Prop} {ss : Ss}
/-- what goes on behind a statement -/
inductive Kt (call : Nat → List D → M D) (ss : Ss) (Q : Fl → List C → Prop) (X : Nat → D → List C → Prop) : Fl → List C → Prop where
  | nx {h : List C} {v' : Ev} (q : W (evSs call ss v' h) Q X) : Kt call ss Q X (.nx v') h
  | rt {h : List C} {d : D} (q : Q (.rt d) h) : Kt call ss Q X (.rt d) h
  | bk {h : List C} {v' : Ev} (q : Q (.bk v') h) : Kt call ss Q X (.bk v') h
  | ct {h : List C} {v' : Ev} (q : Q (.ct v') h) : Kt call ss Q X (.ct v') h
theorem k_nx {h : List C} {v' : Ev} (q : W (evSs call ss v' h) Q X) : Kt call ss Q X (.nx v') h := .nx q
theorem k_rt {h : List C} {d : D} (q : Q (.rt d) h) : Kt call ss Q X (.rt d) h := .rt q
theorem k_bk {h : List C} {v' : Ev} (q : Q (.bk v') h) : Kt call ss Q X (.bk v') h := .bk q
theorem k_ct {h : List C} {v' : Ev} (q : Q (.ct v') h) : Kt call ss Q X (.ct v') h := .ct q
theorem wnil (q : Q (.nx v) η) : W (evSs call .nil v η) Q X := by simp only [evSs]; exact w_pure q
theorem wseq {s : S} (q : W (evS call s v η) (Kt call ss Q X) X) : W (evSs call (.cons s ss) v η) Q X := by
  simp only [evSs]
  refine w_bind (w_mono q (fun r h k => ?_) fun _ _ _ g => g)
  cases k with
  | nx q => exact q
  | rt q => exact w_pure q
  | bk q => exact w_pure q
  | ct q => exact w_pure q
theorem wset {i : Nat} {e : E} (q : W (evE call e v η) (fun x η1 => W (evSs call ss (setE v i x) η1) Q X) X) : W (evSs call (.cons (.set i e) ss) v η) Q X := by
  refine wseq ?_
  simp only [evS]
  exact w_bind (w_mono q (fun _ _ h => w_pure (.nx h)) fun _ _ _ g => g)
theorem wsetc {i : Nat} {es : Es} (q : W (evEs call es v η) (fun xs η1 => xs.length ≤ lim ∧ W (evSs call ss (setE v i (.cel η1.length)) (η1 ++ [.lst xs])) Q X) X) : W (evSs call (.cons (.setc i es) ss) v η) Q X := by
  refine wseq ?_
  simp only [evS]
  refine w_bind (w_mono q (fun xs η1 h => w_bind ?_) fun _ _ _ g => g)
  unfold newL
  rw [if_pos h.1]
  exact ⟨w_pure (Kt.nx h.2)⟩
theorem wsetd {i : Nat} (q : W (evSs call ss (setE v i (.cel η.length)) (η ++ [.dct []])) Q X) : W (evSs call (.cons (.setd i) ss) v η) Q X := by
  refine wseq ?_
  simp only [evS]
  exact w_bind ⟨w_pure (Kt.nx q)⟩
theorem wsett {is : List Nat} {e : E} (q : W (evE call e v η) (fun x η1 => O (unpE v is η1 x) fun v' => W (evSs call ss v' η1) Q X) X) : W (evSs call (.cons (.sett is e) ss) v η) Q X := by
  refine wseq ?_
  simp only [evS]
  exact w_bind (w_mono q (fun _ _ h => w_bind (w_look (o_mono h fun _ h => w_pure (.nx h)))) fun _ _ _ g => g)
theorem wpar {is : List Nat} {es : Es} (q : W (evEs call es v η) (fun xs η1 => O (setsE v is xs) fun v' => W (evSs call ss v' η1) Q X) X) : W (evSs call (.cons (.par is es) ss) v η) Q X := by
  refine wseq ?_
  simp only [evS]
  exact w_bind (w_mono q (fun _ _ h => w_bind (w_op (o_mono h fun _ h => w_pure (.nx h)))) fun _ _ _ g => g)
theorem waug {i : Nat} {o : Operator} {e : E} (q : Gt (v.getD i none) fun x => W (evE call e v η) (fun y η1 => O (augD o x y) fun z => W (evSs call ss (setE v i z) η1) Q X) X) : W (evSs call (.cons (.aug i o e) ss) v η) Q X := by
  refine wseq ?_
  obtain ⟨x, hx, q⟩ := q
  simp only [evS, hx, op_some, pure_bind']
  exact w_bind (w_mono q (fun _ _ h => w_bind (w_op (o_mono h fun _ h => w_pure (.nx h)))) fun _ _ _ g => g)
theorem wseti {a b e : E} (q : W (evE call e v η) (fun x η1 => W (evE call a v η1) (fun o η2 => W (evE call b v η2) (fun i η3 => W (setC o i x η3) (fun _ η4 => W (evSs call ss v η4) Q X) X) X) X) X) : W (evSs call (.cons (.seti a b e) ss) v η) Q X := by
  refine wseq ?_
  simp only [evS]
  exact w_bind (w_mono q (fun _ _ h => w_bind (w_mono h (fun _ _ h => w_bind (w_mono h (fun _ _ h => w_bind (w_mono h (fun _ _ h => w_pure (.nx h)) fun _ _ _ g => g)) fun _ _ _ g => g)) fun _ _ _ g => g)) fun _ _ _ g => g)
theorem wex {e : E} (q : W (evE call e v η) (fun x η1 => W (evSs call ss v η1) Q X) X) : W (evSs call (.cons (.ex e) ss) v η) Q X := by
  refine wseq ?_
  simp only [evS]
  exact w_bind (w_mono q (fun _ _ h => w_pure (.nx h)) fun _ _ _ g => g)
theorem wret {e : E} (q : W (evE call e v η) (fun x η1 => Q (.rt x) η1) X) : W (evSs call (.cons (.ret e) ss) v η) Q X := by
  refine wseq ?_
  simp only [evS]
  exact w_bind (w_mono q (fun _ _ h => w_pure (.rt h)) fun _ _ _ g => g)
theorem wretn (q : Q (.rt .non) η) : W (evSs call (.cons .retn ss) v η) Q X := by
  refine wseq ?_
  simp only [evS]
  exact w_pure (.rt q)
theorem wretc {es : Es} (q : W (evEs call es v η) (fun xs η1 => xs.length ≤ lim ∧ Q (.rt (.cel η1.length)) (η1 ++ [.lst xs])) X) : W (evSs call (.cons (.retc es) ss) v η) Q X := by
  refine wseq ?_
  simp only [evS]
  refine w_bind (w_mono q (fun xs η1 h => w_bind ?_) fun _ _ _ g => g)
  unfold newL
  rw [if_pos h.1]
  exact ⟨w_pure (Kt.rt h.2)⟩
theorem wiff {c : E} {a b : Ss} (q : W (evE call c v η) (fun x η1 => O (blOf x) fun r => Br r (W (evSs call a v η1) (Kt call ss Q X) X) (W (evSs call b v η1) (Kt call ss Q X) X)) X) : W (evSs call (.cons (.iff c a b) ss) v η) Q X := by
  refine wseq ?_
  simp only [evS]
  exact w_bind (w_mono q (fun x η1 h => w_bind (w_test (o_mono h fun r h => w_ite h))) fun _ _ _ g => g)
/-- the turn of a for -/
def forF (call : Nat → List D → M D) (tg : Tg) (b : Ss) (d : D) (v : Ev) : M Fl := do
  let v' ← tgE tg v d
  evSs call b v'
theorem wfor {tg : Tg} {it : Wk} {b : Ss} (q : W (evI call it v η) (fun xs η1 => W (forM' (forF call tg b) xs v η1) (Kt call ss Q X) X) X) : W (evSs call (.cons (.for tg it b) ss) v η) Q X := by
  refine wseq ?_
  simp only [evS]
  exact w_bind (w_mono q (fun _ _ h => h) fun _ _ _ g => g)
theorem wforF {tg : Tg} {b : Ss} {d : D} (q : W (tgE tg v d η) (fun v' η' => W (evSs call b v' η') Q X) X) : W (forF call tg b d v η) Q X := by
  unfold forF
  exact w_bind q
/-- what a turn leaves: the loop goes on, ends, or all ends -/
inductive Lt (I : Ev → List C → Prop) (Q : Fl → List C → Prop) : Fl → List C → Prop where
  | nx {h : List C} {v' : Ev} (q : I v' h) : Lt I Q (.nx v') h
  | ct {h : List C} {v' : Ev} (q : I v' h) : Lt I Q (.ct v') h
  | bk {h : List C} {v' : Ev} (q : Q (.nx v') h) : Lt I Q (.bk v') h
  | rt {h : List C} {d : D} (q : Q (.rt d) h) : Lt I Q (.rt d) h
theorem l_nx {I : Ev → List C → Prop} {h : List C} {v' : Ev} (q : I v' h) : Lt I Q (.nx v') h := .nx q
theorem l_ct {I : Ev → List C → Prop} {h : List C} {v' : Ev} (q : I v' h) : Lt I Q (.ct v') h := .ct q
theorem l_bk {I : Ev → List C → Prop} {h : List C} {v' : Ev} (q : Q (.nx v') h) : Lt I Q (.bk v') h := .bk q
theorem l_rt {I : Ev → List C → Prop} {h : List C} {d : D} (q : Q (.rt d) h) : Lt I Q (.rt d) h := .rt q
theorem w_for {α : Type} {F : α → Ev → M Fl} (I : List α → Ev → List C → Prop) : ∀ {l : List α} {v : Ev} {η : List C}, I l v η → (∀ a l v η, I (a :: l) v η → W (F a v η) (Lt (I l) Q) X) → (∀ v η, I [] v η → Q (.nx v) η) → W (forM' F l v η) Q X
  | [], v, η, h, st, fin => by simp only [forM']; exact w_pure (fin v η h)
  | a :: l, v, η, h, st, fin => by
    simp only [forM']
    refine w_bind (w_mono (st a l v η h) (fun r η' h' => ?_) fun _ _ _ g => g)
    cases h' with
    | nx h' => exact w_for I h' st fin
    | ct h' => exact w_for I h' st fin
    | bk h' => exact w_pure h'
    | rt h' => exact w_pure h'
theorem wwh {n : Nat} {c : E} {b : Ss} (q : W (whM' (fun v => do
      let x ← evE call c v
      testD x) (fun v => evSs call b v) n v η) (Kt call ss Q X) X) : W (evSs call (.cons (.wh n c b) ss) v η) Q X := by
  refine wseq ?_
  simp only [evS]
  exact q
/-- a while: what holds at its head; a number falls -/
theorem w_wh {c : Ev → M Bool} {F : Ev → M Fl} (I : Nat → Ev → List C → Prop) : ∀ {n m : Nat} {v : Ev} {η : List C}, I m v η → m < n → (∀ m v η, I m v η → W (c v η) (fun b η1 => Br b (0 < m ∧ W (F v η1) (Lt (I (m - 1)) Q) X) (Q (.nx v) η1)) X) → W (whM' c F n v η) Q X
  | 0, m, v, η, h, l, st => absurd l (Nat.not_lt_zero _)
  | n + 1, m, v, η, h, l, st => by
    simp only [whM']
    refine w_bind (w_mono (st m v η h) (fun b η1 g => w_ite ⟨fun hb => ?_, fun hb => w_pure (g.2 hb)⟩) fun _ _ _ g => g)
    obtain ⟨hm, g⟩ := g.1 hb
    refine w_bind (w_mono g (fun r η' h' => ?_) fun _ _ _ g => g)
    cases h' with
    | nx h' => exact w_wh I h' (by omega) st
    | ct h' => exact w_wh I h' (by omega) st
    | bk h' => exact w_pure h'
    | rt h' => exact w_pure h'
theorem w_whc {e : E} {Q : Bool → List C → Prop} (q : W (evE call e v η) (fun x η1 => O (blOf x) fun b => Q b η1) X) : W ((do
      let x ← evE call e v
      testD x : M Bool) η) Q X := w_bind (w_mono q (fun _ _ h => w_test h) fun _ _ _ g => g)
theorem wpas (q : W (evSs call ss v η) Q X) : W (evSs call (.cons .pas ss) v η) Q X := by
  refine wseq ?_
  simp only [evS]
  exact w_pure (.nx q)
theorem wbrk (q : Q (.bk v) η) : W (evSs call (.cons .brk ss) v η) Q X := by
  refine wseq ?_
  simp only [evS]
  exact w_pure (.bk q)
theorem wcnt (q : Q (.ct v) η) : W (evSs call (.cons .cnt ss) v η) Q X := by
  refine wseq ?_
  simp only [evS]
  exact w_pure (.ct q)
theorem wraise {c : Nat} {e : E} (q : W (evE call e v η) (fun x η1 => X c x η1) X) : W (evSs call (.cons (.raise c e) ss) v η) Q X := by
  refine wseq ?_
  simp only [evS]
  exact w_bind (w_mono q (fun _ _ h => ⟨h⟩) fun _ _ _ g => g)
theorem wtry {b : Tb} {i j : Nat} {cs : List Nat} (q : W (evTb call b v η) (fun _ η1 => W (evSs call ss v η1) Q X) (fun c d η1 => cs.contains c = true ∧ W (evSs call ss ((setE (setE v i (.err c d)) j (.err c d)).set i none) η1) Q X)) : W (evSs call (.cons (.tryv b i j cs) ss) v η) Q X := by
  refine wseq ?_
  simp only [evS]
  obtain ⟨q⟩ := q
  cases e : evTb call b v η with
  | no => rw [e] at q; exact q.elim
  | ok a h => rw [e] at q; exact ⟨.nx q⟩
  | exc c d h =>
    rw [e] at q
    obtain ⟨q1, q⟩ := q
    simp only [catchF, q1, if_true]
    exact ⟨.nx q⟩
section
variable {Q : D → List C → Prop}
theorem wtbc {f : Nat} {es : Es} (q : W (evEs call es v η) (fun xs η1 => W (call f xs η1) Q X) NoX) : W (evTb call (.call f es) v η) Q X := by
  simp only [evTb]
  exact w_bind (w_quiet q)
theorem wtbk {f : Nat} {es : Es} {n : Nat} {p : List Nat} (q : W (evEs call es v η) (fun xs η1 => Lk xs.length n (W (call f (p.map fun i => xs.getD i .non) η1) Q X)) NoX) : W (evTb call (.callk f es n p) v η) Q X := by
  simp only [evTb]
  refine w_bind (w_mono (w_quiet q) (fun xs η1 h => ?_) fun _ _ _ g => g)
  simp only [h.1, decide_true, guardM_true, pure_bind']
  exact h.2
theorem wtbi {c : E} {a b : Tb} (q : W (evE call c v η) (fun x η1 => O (blOf x) fun r => Br r (W (evTb call a v η1) Q X) (W (evTb call b v η1) Q X)) NoX) : W (evTb call (.ite c a b) v η) Q X := by
  simp only [evTb]
  exact w_bind (w_mono (w_quiet q) (fun x η1 h => w_bind (w_test (o_mono h fun r h => w_ite h))) fun _ _ _ g => g)
end
end
/-! ### calls -/
section
variable {fns : Nat → Option Fn} {k : Nat} {η : List C} {X : Nat → D → List C → Prop} {Q : D → List C → Prop}
/-- what a def's end leaves: its list of cells, the answer -/
inductive Fi (n : Nat) (Q : D → List C → Prop) : Fl → List C → Prop where
  | nx {v : Ev} {h : List C} (q : W (MI.settle n .non h) Q NoX) : Fi n Q (.nx v) h
  | rt {d : D} {h : List C} (q : W (MI.settle n d h) Q NoX) : Fi n Q (.rt d) h
inductive Fk (Q : D → List C → Prop) : Fl → List C → Prop where
  | nx {v : Ev} {h : List C} (q : Q .non h) : Fk Q (.nx v) h
  | rt {d : D} {h : List C} (q : Q d h) : Fk Q (.rt d) h
structure Fx (n : Nat) (X : Nat → D → List C → Prop) (c : Nat) (d : D) (h : List C) : Prop where
  d_ : below n d = true
  h_ : (h.take n).all (belowC n) = true
  x_ : X c d (h.take n)
theorem f_rt {n : Nat} {d : D} {h : List C} (l : h.length = n) (q : Q d h) : Fi n Q (.rt d) h := by
  refine .rt ?_
  simp only [MI.settle, l, if_true]; exact ⟨q⟩
theorem f_nx {n : Nat} {v : Ev} {h : List C} (l : h.length = n) (q : Q .non h) : Fi n Q (.nx v) h := by
  refine .nx ?_
  simp only [MI.settle, l, if_true]; exact ⟨q⟩
theorem f_rs {n : Nat} {d d' : D} {h h' : List C} (l : MI.settle n d h = .ok d' h') (q : Q d' h') : Fi n Q (.rt d) h := by
  refine .rt ?_
  rw [l]; exact ⟨q⟩
theorem f_x {n c : Nat} {d : D} {h : List C} (hd : below n d = true) (l : h.length = n) (hh : h.all (belowC n) = true) (q : X c d h) : Fx n X c d h := by
  subst l
  refine ⟨hd, ?_, ?_⟩ <;> rw [List.take_length]
  · exact hh
  · exact q
theorem wcallF {f : Nat} {fi : Fn} {xs : List D} (hf : fns f = some fi) (hk : fi.keep = false) (hn : xs.length = fi.np) (q : W (evSs (callF fns k) fi.body (startE fi.ns xs) η) (Fi η.length Q) (Fx η.length X)) : W (callF fns (k + 1) f xs η) Q X := by
  obtain ⟨q⟩ := q
  simp only [callF, hf, runF, hn, if_true, hk]
  cases e : evSs (callF fns k) fi.body (startE fi.ns xs) η with
  | no => rw [e] at q; exact q.elim
  | exc c d h =>
    rw [e] at q
    obtain ⟨q1, q2, q3⟩ := q
    simp only [q1, q2, Bool.and_self, if_true]
    exact ⟨q3⟩
  | ok r h =>
    rw [e] at q
    cases (show Fi η.length Q r h from q) with
    | nx q => exact w_mono q (fun _ _ h => h) fun _ _ _ f => f.elim
    | rt q => exact w_mono q (fun _ _ h => h) fun _ _ _ f => f.elim
theorem wcallK {f : Nat} {fi : Fn} {xs : List D} (hf : fns f = some fi) (hk : fi.keep = true) (hn : xs.length = fi.np) (q : W (evSs (callF fns k) fi.body (startE fi.ns xs) η) (Fk Q) (Fx η.length X)) : W (callF fns (k + 1) f xs η) Q X := by
  obtain ⟨q⟩ := q
  simp only [callF, hf, runF, hn, if_true, hk]
  cases e : evSs (callF fns k) fi.body (startE fi.ns xs) η with
  | no => rw [e] at q; exact q.elim
  | exc c d h =>
    rw [e] at q
    obtain ⟨q1, q2, q3⟩ := q
    simp only [q1, q2, Bool.and_self, if_true]
    exact ⟨q3⟩
  | ok r h =>
    rw [e] at q
    cases (show Fk Q r h from q) with
    | nx q => exact ⟨q⟩
    | rt q => exact ⟨q⟩
end
section
variable {fns : Nat → Option Fn} {k : Nat} {η : List C} {X : Nat → D → List C → Prop} {Q : D → List C → Prop}
theorem wcallD {f np ns : Nat} {body : Ss} {xs : List D} (hf : fns f = some ⟨np, ns, false, body⟩) (hn : xs.length = np) (q : W (evSs (callF fns k) body (startE ns xs) η) (Fi η.length Q) (Fx η.length X)) : W (callF fns (k + 1) f xs η) Q X := wcallF hf rfl hn q
end
/-! values -/
section
variable {η : List C}
theorem newl_go {xs : List D} {Q : D → List C → Prop} {X : Nat → D → List C → Prop} (l : xs.length ≤ lim) (q : Q (.cel η.length) (η ++ [.lst xs])) : W (newL xs η) Q X := w_ok (by unfold newL; rw [if_pos l]; rfl) q
theorem o_bl {b : Bool} {P : Bool → Prop} (p : P b) : O (blOf (.bl b)) P := .mk _ rfl p
theorem o_int {i : Int} {P : Int → Prop} (p : P i) : O (intOf (.int i)) P := .mk _ rfl p
theorem o_tup {xs : List D} {P : D → Prop} (l : xs.length ≤ lim) (p : P (.tup xs)) : O (MI.mkTup xs) P := by unfold MI.mkTup; rw [if_pos l]; exact .mk _ rfl p
theorem o_lst {xs : List D} {P : D → Prop} (l : xs.length ≤ lim) (p : P (.lst xs)) : O (MI.mkLst xs) P := by unfold MI.mkLst; rw [if_pos l]; exact .mk _ rfl p
theorem o_add {i j : Int} {P : D → Prop} (p : P (.int (i + j))) : O (binD η .Add (.int i) (.int j)) P := .mk _ rfl p
theorem o_sub {i j : Int} {P : D → Prop} (p : P (.int (i - j))) : O (binD η .Sub (.int i) (.int j)) P := .mk _ rfl p
theorem o_mull {i j : Int} {P : D → Prop} (h : -(2 ^ 64) < i ∧ i < 2 ^ 64) (p : P (.int (i * j))) : O (binD η .Mult (.int i) (.int j)) P := o_some (b_mull j h) p
theorem o_mulr {i j : Int} {P : D → Prop} (h : -(2 ^ 64) < j ∧ j < 2 ^ 64) (p : P (.int (i * j))) : O (binD η .Mult (.int i) (.int j)) P := o_some (b_mulr i h) p
theorem o_fd {i j : Int} {P : D → Prop} (h : 0 < j ∧ j.natAbs.log2 < 9000) (p : P (.int (i / j))) : O (binD η .FloorDiv (.int i) (.int j)) P := o_some (by show binI .FloorDiv i j = _; simp [binI, h.1, h.2]) p
theorem o_mod {i j : Int} {P : D → Prop} (h : 0 < j) (p : P (.int (i % j))) : O (binD η .Mod (.int i) (.int j)) P := o_some (by show binI .Mod i j = _; simp [binI, h]) p
theorem o_addt {xs ys : List D} {P : D → Prop} (l : xs.length + ys.length ≤ lim) (p : P (.tup (xs ++ ys))) : O (binD η .Add (.tup xs) (.tup ys)) P := o_some (by show binT .Add xs ys = _; simp [binT, MI.mkTup, l]) p
theorem o_addl {xs ys : List D} {P : D → Prop} (l : xs.length + ys.length ≤ lim) (p : P (.lst (xs ++ ys))) : O (binD η .Add (.lst xs) (.lst ys)) P := o_some (by show binL .Add (some xs) (some ys) = _; simp [binL, MI.mkLst, l]) p
theorem o_lt {i j : Int} {P : Bool → Prop} (p : P (decide (i < j))) : O (cmpD η .Lt (.int i) (.int j)) P := o_some (by simp only [cmpD, less_int]) p
theorem o_le {i j : Int} {P : Bool → Prop} (p : P (decide (i ≤ j))) : O (cmpD η .LtE (.int i) (.int j)) P := .mk _ rfl p
theorem o_gt {i j : Int} {P : Bool → Prop} (p : P (decide (j < i))) : O (cmpD η .Gt (.int i) (.int j)) P := .mk _ rfl p
theorem o_ge {i j : Int} {P : Bool → Prop} (p : P (decide (j ≤ i))) : O (cmpD η .GtE (.int i) (.int j)) P := .mk _ rfl p
theorem o_eqi {i j : Int} {P : Bool → Prop} (p : P (decide (i = j))) : O (cmpD η .Eq (.int i) (.int j)) P := o_some (by
  show some (PyData.eqv (.int i) (.int j)) = _
  congr 1) p
theorem o_nei {i j : Int} {P : Bool → Prop} (p : P (!decide (i = j))) : O (cmpD η .NotEq (.int i) (.int j)) P := o_some (by
  show some (!PyData.eqv (.int i) (.int j)) = _
  congr 1) p
theorem o_tl {x : D} {xs : List D} {P : D → Prop} (p : P (.tup xs)) : O (slD η (.tup (x :: xs)) (some 1) none) P := o_some (by
  show some (D.tup (cutD (x :: xs) (some 1) none)) = _
  congr 2
  have e1 : HT.sIx (x :: xs).length 0 (some 1) = 1 := by
    have := HT.sIx_nat (x :: xs).length 0 1
    rw [show (some (1 : Int)) = some ((1 : Nat) : Int) from rfl, this]
    simp
  simp only [cutD, e1, HT.sIx_none]
  simp) p
theorem o_iterl {xs : List D} {P : List D → Prop} (p : P xs) : O (iterD η (.lst xs)) P := .mk _ rfl p
theorem o_itert {xs : List D} {P : List D → Prop} (p : P xs) : O (iterD η (.tup xs)) P := .mk _ rfl p
theorem o_revl {xs : List D} {P : D → Prop} (p : P (.lst xs.reverse)) : O (revD η (.lst xs)) P := .mk _ rfl p
theorem o_revt {xs : List D} {P : D → Prop} (p : P (.tup xs.reverse)) : O (revD η (.tup xs)) P := .mk _ rfl p
theorem eq_bls {p q : Bool} : eqD η (.bl p) (.bl q) = some (p == q) := by cases p <;> cases q <;> rfl
theorem o_eqb {p q : Bool} {P : Bool → Prop} (h : P (p == q)) : O (cmpD η .Eq (.bl p) (.bl q)) P := o_some (show cmpD η .Eq (.bl p) (.bl q) = _ from eq_bls (η := η)) h
theorem o_neb {p q : Bool} {P : Bool → Prop} (h : P (!(p == q))) : O (cmpD η .NotEq (.bl p) (.bl q)) P := o_some (by show (eqD η (.bl p) (.bl q)).map _ = _; rw [eq_bls (η := η)]; rfl) h
theorem o_mulst {x : Str} {m : Nat} {P : D → Prop} (h : m ≤ 100000 ∧ x.length * m ≤ lim) (p : P (.str (repS x m))) : O (binD η .Mult (.str x) (.int (m : Int))) P := o_some (by
  show binSI .Mult x m = _
  simp only [binSI]
  rw [if_pos (by simp; omega)]
  rfl) p
theorem o_pickst {x : Str} {r : Nat} {P : D → Prop} (h : r < x.cps.toList.length) (p : ∀ c ∈ x.cps.toList, P (.str ⟨#[c]⟩)) : O (ixD η (.str x) (.int r)) P := by
  refine o_some (a := .str ⟨#[x.cps.toList[r]]⟩) ?_ (p _ (List.getElem_mem h))
  show (L2.atI x.cps.toList (r : Int)).map _ = _
  simp only [L2.atI, L2.ixN]
  simp at h
  simp [h]
theorem o_eqs {x y : Str} {P : Bool → Prop} (p : P (decide (x = y))) : O (cmpD η .Eq (.str x) (.str y)) P := .mk _ rfl p
theorem o_nes {x y : Str} {P : Bool → Prop} (p : P (!decide (x = y))) : O (cmpD η .NotEq (.str x) (.str y)) P := .mk _ rfl p
theorem o_eq {x y : D} {b : Bool} {P : Bool → Prop} (h : eqD η x y = some b) (p : P b) : O (cmpD η .Eq x y) P := o_some h p
theorem o_ne {x y : D} {b : Bool} {P : Bool → Prop} (h : eqD η x y = some b) (p : P (!b)) : O (cmpD η .NotEq x y) P := o_some (by simp only [cmpD, h, Option.map_some]) p
theorem o_isn {x : D} {P : Bool → Prop} (p : P (isNon x)) : O (cmpD η .Is x .non) P := .mk _ rfl p
theorem o_isnn {x : D} {P : Bool → Prop} (p : P (!isNon x)) : O (cmpD η .IsNot x .non) P := .mk _ rfl p
theorem o_ins {w : Str} {ws : List Str} {P : Bool → Prop} (p : P (decide (w ∈ ws))) : O (cmpD η .In (.str w) (.tup (ws.map .str))) P := o_some (show cmpD η .In (.str w) (.tup (ws.map .str)) = _ from in_strs (η := η)) p
theorem o_nins {w : Str} {ws : List Str} {P : Bool → Prop} (p : P (!decide (w ∈ ws))) : O (cmpD η .NotIn (.str w) (.tup (ws.map .str))) P := o_some (by show (inD η (.str w) (.tup (ws.map .str))).map _ = _; rw [in_strs (η := η)]; rfl) p
theorem o_LT {w : Str} {P : Bool → Prop} (p : P (decide (w ∈ LETS))) : O (cmpD η .In (.str w) LT) P := o_some (show inD η (.str w) LT = _ from in_LT) p
theorem o_nLT {w : Str} {P : Bool → Prop} (p : P (!decide (w ∈ LETS))) : O (cmpD η .NotIn (.str w) LT) P := o_some (by show (inD η (.str w) LT).map _ = _; rw [in_LT (η := η)]; rfl) p
theorem o_lens {x : Str} {P : D → Prop} (p : P (.int x.length)) : O (biD η .len [.str x]) P := .mk _ rfl p
theorem o_lent {xs : List D} {P : D → Prop} (p : P (.int xs.length)) : O (biD η .len [.tup xs]) P := .mk _ rfl p
theorem o_lenl {xs : List D} {P : D → Prop} (p : P (.int xs.length)) : O (biD η .len [.lst xs]) P := .mk _ rfl p
theorem o_lenr {xs : List D} {P : D → Prop} (p : P (.int xs.length)) : O (biD η .len [.scr xs]) P := .mk _ rfl p
theorem o_tot {xs : List D} {P : D → Prop} (p : P (.tup xs)) : O (biD η .tuple [.lst xs]) P := .mk _ rfl p
theorem o_tott {xs : List D} {P : D → Prop} (p : P (.tup xs)) : O (biD η .tuple [.tup xs]) P := .mk _ rfl p
theorem o_lit {xs : List D} {P : D → Prop} (p : P (.lst xs)) : O (biD η .list [.tup xs]) P := .mk _ rfl p
theorem o_lil {xs : List D} {P : D → Prop} (p : P (.lst xs)) : O (biD η .list [.lst xs]) P := .mk _ rfl p
theorem o_bool {xs : List Bool} : ∀ {ys : List D}, ys = xs.map .bl → allSome blOf ys = some xs := by
  rintro _ rfl
  induction xs with
  | nil => rfl
  | cons x xs ih => simp only [List.map_cons, allSome, blOf, ih]
theorem o_all {α : Type} {f : α → Bool} {xs : List α} {P : D → Prop} (p : P (.bl (xs.all f))) : O (biD η .all [.lst (xs.map fun x => .bl (f x))]) P := o_some (by
  show (allSome blOf (xs.map fun x => .bl (f x))).map _ = _
  rw [o_bool (xs := xs.map f) (by rw [List.map_map]; rfl)]
  simp [Function.comp_def]) p
theorem o_any {α : Type} {f : α → Bool} {xs : List α} {P : D → Prop} (p : P (.bl (xs.any f))) : O (biD η .any [.lst (xs.map fun x => .bl (f x))]) P := o_some (by
  show (allSome blOf (xs.map fun x => .bl (f x))).map _ = _
  rw [o_bool (xs := xs.map f) (by rw [List.map_map]; rfl)]
  simp [Function.comp_def]) p
theorem o_ints {xs : List Int} : ∀ {ys : List D}, ys = xs.map .int → allSome intOf ys = some xs := by
  rintro _ rfl
  induction xs with
  | nil => rfl
  | cons x xs ih => simp only [List.map_cons, allSome, intOf, ih]
theorem o_sum {α : Type} {f : α → Int} {xs : List α} {P : D → Prop} (p : P (.int (xs.map f).sum)) : O (biD η .sum [.lst (xs.map fun x => .int (f x))]) P := o_some (by
  show (allSome intOf (xs.map fun x => .int (f x))).map _ = _
  rw [o_ints (xs := xs.map f) (by rw [List.map_map]; rfl)]
  rfl) p
theorem o_ix0 {x : D} {xs : List D} {P : D → Prop} (p : P x) : O (ixD η (.tup (x :: xs)) (.int 0)) P := o_some (by show L2.atI (x :: xs) 0 = _; rw [at_0]) p
theorem o_ix1 {x y : D} {xs : List D} {P : D → Prop} (p : P y) : O (ixD η (.tup (x :: y :: xs)) (.int 1)) P := o_some (by show L2.atI (x :: y :: xs) 1 = _; rw [at_1]) p
theorem o_maxd {α : Type} {f : α → Int} {xs : List α} {z : D} {P : D → Prop} (p : P (match maxI (xs.map f) with
  | none => z
  | some m => .int m)) : O (maxdD η (.lst (xs.map fun x => .int (f x))) z) P := by
  have e : allSome intOf (xs.map fun x => D.int (f x)) = some (xs.map f) := o_ints (by rw [List.map_map]; rfl)
  refine o_some ?_ p
  show (allSome intOf (xs.map fun x => D.int (f x))).map _ = _
  rw [e]; rfl
theorem atI_nat {xs : List D} {i : Nat} {y : D} (h : xs[i]? = some y) : L2.atI xs i = some y := by
  have l : i < xs.length := (List.getElem?_eq_some_iff.mp h).1
  simp [L2.atI, L2.ixN, l]
  exact (List.getElem?_eq_some_iff.mp h).2
theorem o_ixt {xs : List D} {i : Nat} {y : D} {P : D → Prop} (h : xs[i]? = some y) (p : P y) : O (ixD η (.tup xs) (.int i)) P := o_some (by show L2.atI xs i = _; exact atI_nat h) p
theorem o_ixl {xs : List D} {i : Nat} {y : D} {P : D → Prop} (h : xs[i]? = some y) (p : P y) : O (ixD η (.lst xs) (.int i)) P := o_some (by show L2.atI xs i = _; exact atI_nat h) p
theorem o_ixtz {xs : List D} {i : Nat} {z : Int} {y : D} {P : D → Prop} (h : xs[i]? = some y) (e : z = i) (p : P y) : O (ixD η (.tup xs) (.int z)) P := by
  subst e; exact o_ixt h p
theorem o_ixlz {xs : List D} {i : Nat} {z : Int} {y : D} {P : D → Prop} (h : xs[i]? = some y) (e : z = i) (p : P y) : O (ixD η (.lst xs) (.int z)) P := by
  subst e; exact o_ixl h p
theorem o_repr {d r : D} {P : D → Prop} (h : reprD η d = some r) (p : P r) : O (biD η .repr [d]) P := o_some (show biD η .repr [d] = _ from h) p
theorem o_pick {xs : List D} {r : Nat} {P : D → Prop} (h : r < xs.length) (p : ∀ y ∈ xs, P y) : O (ixD η (.lst xs) (.int r)) P :=
  o_ixl (List.getElem?_eq_getElem h) (p _ (List.getElem_mem h))
theorem o_pickz {xs : List D} {z : Int} (r : Nat) {P : D → Prop} (e : z = r) (h : r < xs.length) (p : ∀ y ∈ xs, P y) : O (ixD η (.lst xs) (.int z)) P := by
  subst e; exact o_pick h p
theorem o_pickt {xs : List D} {r : Nat} {P : D → Prop} (h : r < xs.length) (p : ∀ y ∈ xs, P y) : O (ixD η (.tup xs) (.int r)) P :=
  o_ixt (List.getElem?_eq_getElem h) (p _ (List.getElem_mem h))
theorem o_picks {l : List Nat} {r : Nat} {P : D → Prop} (h : r < l.length) (p : ∀ c ∈ l, P (.str ⟨#[c]⟩)) : O (ixD η (.str ⟨l.toArray⟩) (.int r)) P := by
  refine o_some (a := .str ⟨#[l[r]]⟩) ?_ (p _ (List.getElem_mem h))
  show (L2.atI l.toArray.toList (r : Int)).map _ = _
  simp [L2.atI, L2.ixN, h]
theorem o_rng1 {n : Nat} {P : List D → Prop} (h : n ≤ 100000) (p : P ((List.range n).map fun (i : Nat) => .int (i : Int))) : O (rng1D [.int (n : Int)]) P := o_some (by
  simp only [rng1D]
  rw [if_pos (by simp; omega)]
  simp) p
theorem o_lrg2 {x y : Int} (a b : Nat) {P : List D → Prop} (e1 : x = a) (e2 : y = b) (h : a ≤ 100000 ∧ b ≤ 100000) (p : P (((List.range (b - a)).map fun j => a + j).map fun (i : Nat) => .int (i : Int))) : O (rngN 2 [.int x, .int y]) P := by
  subst e1; subst e2
  refine o_some ?_ p
  simp only [rngN, rng2D]
  rw [if_pos (by simp; omega), show ((b : Int) - a).toNat = b - a from by omega, List.map_map]
  congr 1
theorem o_lrg3 {x y z : Int} (a : Nat) {P : List D → Prop} (e1 : x = (a : Int) - 1) (e2 : y = -1) (e3 : z = -1) (h : a ≤ 100000) (p : P (((List.range a).map fun j => a - 1 - j).map fun (i : Nat) => .int (i : Int))) : O (rngN 3 [.int x, .int y, .int z]) P := by
  subst e1; subst e2; subst e3
  refine o_some ?_ p
  simp only [rngN, rng3D]
  rw [if_pos (by simp; omega), show ((a : Int) - 1 - -1).toNat = a from by omega, List.map_map]
  congr 1
  refine List.map_congr_left fun j hj => ?_
  have : j < a := by simpa using hj
  simp only [Function.comp_def]
  congr 1
  omega
theorem o_rng1c {z : Int} {n : Nat} {P : List D → Prop} (e : z = n) (h : n ≤ 100000) (p : P ((List.range n).map fun (i : Nat) => .int (i : Int))) : O (rng1D [.int z]) P := by
  subst e; exact o_rng1 h p
end
section
variable {η : List C} {X : Nat → D → List C → Prop} {v : Ev} {Q : Fl → List C → Prop}
/-- one statement, and what holds behind it -/
theorem wmid {α : Type} {call : Nat → List D → M D} {s : S} {ss : Ss} (P : α → Ev) (A : α → List C → Prop) (h : W (evSs call (.cons s .nil) v η) (fun r g => ∃ a, r = .nx (P a) ∧ A a g) X) (q : ∀ a g, A a g → W (evSs call ss (P a) g) Q X) : W (evSs call (.cons s ss) v η) Q X := by
  simp only [evSs] at h ⊢
  rw [bind_def] at h ⊢
  cases e : evS call s v η with
  | no => rw [e] at h; exact h.run.elim
  | exc c d g => rw [e] at h; exact ⟨h.run⟩
  | ok r g =>
    rw [e] at h
    cases r with
    | nx v' =>
      obtain ⟨a, e1, ha⟩ := (show ∃ a, Fl.nx v' = .nx (P a) ∧ A a g from h.run)
      cases e1
      exact q a g ha
    | bk v' => obtain ⟨a, e1, ha⟩ := (show ∃ a, Fl.bk v' = .nx (P a) ∧ A a g from h.run); cases e1
    | ct v' => obtain ⟨a, e1, ha⟩ := (show ∃ a, Fl.ct v' = .nx (P a) ∧ A a g from h.run); cases e1
    | rt d => obtain ⟨a, e1, ha⟩ := (show ∃ a, Fl.rt d = .nx (P a) ∧ A a g from h.run); cases e1
/-- a for by numbers -/
theorem w_forN {F : D → Ev → M Fl} {g : Nat → D} {n : Nat} (I : Nat → Ev → List C → Prop) (h0 : I 0 v η) (st : ∀ i v η, i < n → I i v η → W (F (g i) v η) (Lt (I (i + 1)) Q) X) (fin : ∀ v η, I n v η → Q (.nx v) η) : W (forM' F ((List.range n).map g) v η) Q X := by
  refine w_for (fun r v h => ∃ i, i ≤ n ∧ r = ((List.range n).drop i).map g ∧ I i v h) ⟨0, Nat.zero_le _, by simp, h0⟩ ?_ ?_
  · rintro a r v h ⟨i, hi, e, hI⟩
    by_cases hn : i < n
    · rw [List.drop_eq_getElem_cons (by simpa using hn)] at e
      simp only [List.map_cons, List.getElem_range, List.cons.injEq] at e
      obtain ⟨rfl, rfl⟩ := e
      refine w_mono (st i v h hn hI) ?_ fun _ _ _ x => x
      intro fl g q
      cases q with
      | nx q => exact .nx ⟨i + 1, hn, rfl, q⟩
      | ct q => exact .ct ⟨i + 1, hn, rfl, q⟩
      | bk q => exact .bk q
      | rt q => exact .rt q
    · rw [List.drop_eq_nil_of_le (by simp; omega)] at e
      cases e
  · rintro v h ⟨i, hi, e, hI⟩
    have : i = n := by
      have := congrArg List.length e
      simp at this
      omega
    subst this
    exact fin v h hI
end
end MU
end
/-! MR -/
section
set_option linter.all false
set_option maxRecDepth 100000
set_option maxHeartbeats 4000000
/-! Texts that repr makes are texts. -/
namespace MU
open PySem MI PyProof.Rows
def Low (x : Str) : Prop := ∀ c ∈ x.cps.toList, c < 0x110000
theorem low_iff {x : Str} : PyData.strOk x = true ↔ Low x := by
  obtain ⟨⟨l⟩⟩ := x
  simp [PyData.strOk, Low, List.all_eq_true]
theorem char_low (c : Char) : c.toNat < 0x110000 := by
  have h := c.valid
  have e : c.toNat = c.val.toNat := rfl
  have h : c.val.toNat < 0xd800 ∨ (0xdfff < c.val.toNat ∧ c.val.toNat < 0x110000) := h
  omega
theorem low_ofString (s : String) : Low (Str.ofString s) := by
  intro c hc
  rw [signs_ofString] at hc
  obtain ⟨d, _, rfl⟩ := List.mem_map.mp hc
  exact char_low d
theorem rc_low {q c : Nat} (hc : c < 0x110000) : ∀ e ∈ Builtin.Str.reprChar q c, e < 0x110000 := by
  intro e he
  have hx : ∀ w : Nat, e ∈ List.replicate w 48 ++ (Nat.toDigits 16 c).map Char.toNat → e < 0x110000 := by
    intro w h
    rcases List.mem_append.mp h with h | h
    · have := (List.mem_replicate.mp h).2; omega
    · obtain ⟨d, _, rfl⟩ := List.mem_map.mp h
      exact char_low d
  unfold Builtin.Str.reprChar at he
  dsimp only at he
  repeat' split at he
  all_goals first
    | (simp only [List.mem_cons, List.not_mem_nil, or_false] at he; omega)
    | (rcases List.mem_append.mp he with h | h
       · simp only [List.mem_cons, List.not_mem_nil, or_false] at h; omega
       · exact hx _ h)
theorem fold_low (q : Nat) : ∀ (l : List Nat) (acc : Array Nat), (∀ c ∈ l, c < 0x110000) → (∀ e ∈ acc.toList, e < 0x110000) → ∀ e ∈ (l.foldl (fun out c => out ++ (Builtin.Str.reprChar q c).toArray) acc).toList, e < 0x110000
  | [], acc, _, h => h
  | c :: r, acc, h, g => fold_low q r _ (fun d hd => h d (List.mem_cons_of_mem _ hd)) fun e he => by
    simp only [Array.toList_append, List.mem_append] at he
    rcases he with he | he
    · exact g e he
    · exact rc_low (h c List.mem_cons_self) e (by simpa using he)
theorem text_low {x : Str} (h : Low x) : Low (reprText x) := by
  intro c hc
  unfold reprText at hc
  have hq : reprQuote x < 0x110000 := by unfold reprQuote; split <;> decide
  simp only [Array.toList_push, List.mem_append, List.mem_singleton] at hc
  rcases hc with hc | hc
  · rw [← Array.foldl_toList] at hc
    exact fold_low _ _ _ h (by simp; exact hq) c hc
  · rw [hc]; exact hq
theorem app_low {a b : Str} (h : Low a) (g : Low b) : Low (a ++ b) := fun c hc => by
  rcases mem_cps_append.mp hc with q | q
  · exact h c q
  · exact g c q
theorem join_low {sep : Str} {ts : List Str} (h : Low sep) (g : ∀ t ∈ ts, Low t) : Low (Str.join sep ts) := fun c hc => by
  rcases (mem_join sep c ts).mp hc with ⟨t, ht, q⟩ | ⟨_, q⟩
  · exact g t ht c q
  · exact h c q
theorem py_of_low : ∀ (p : PyData), p.canLay0 = true → Low p.shown := by
  intro p
  refine @PyData.rec (motive_1 := fun p => p.canLay0 = true → Low p.shown) (motive_2 := fun ps => PyData.canLayAll0 ps = true → ∀ t ∈ PyData.shownAll ps, Low t) (motive_3 := fun _ => True) (motive_4 := fun _ => True) ?_ ?_ ?_ ?_ ?_ ?_ ?_ ?_ ?_ ?_ ?_ ?_ p
  · intro _; rw [PyData.shown_none]; exact low_ofString _
  · intro b _; rw [PyData.shown_bool]; cases b <;> exact low_ofString _
  · intro i _; rw [PyData.shown_int]; exact low_ofString _
  · intro x h
    rw [PyData.shown_str]
    simp only [PyData.canLay0] at h
    exact text_low (low_iff.mp h)
  · intro xs ih h
    simp only [PyData.canLay0] at h
    rw [PyData.shown_list]
    exact app_low (app_low (low_ofString _) (join_low (low_ofString _) (ih h))) (low_ofString _)
  · intro xs ih h
    simp only [PyData.canLay0] at h
    rw [PyData.shown_tuple]
    exact app_low (app_low (low_ofString _) (join_low (low_ofString _) (ih h))) (low_ofString _)
  · intro xs ih h
    simp [PyData.canLay0] at h
  · intro _ t ht; rw [PyData.shownAll_nil] at ht; cases ht
  · intro x xs h1 h2 h t ht
    simp only [PyData.canLayAll0, Bool.and_eq_true] at h
    rw [PyData.shownAll_cons, List.mem_cons] at ht
    rcases ht with rfl | ht
    · exact h1 h.1
    · exact h2 h.2 t ht
  · trivial
  · intros; trivial
  · intros; trivial
theorem repr_low {η : List C} {d : D} {s : Str} (h : datD (view η d) = true) (e : reprD η d = some (.str s)) : PyData.strOk s = true := by
  obtain ⟨p, q⟩ := py_dat _ h
  simp only [reprD, q.py, Option.bind_some] at e
  split at e
  · cases e
    exact low_iff.mpr (py_of_low p q.lay)
  · cases e
end MU
end
/-! WC -/
section
set_option linter.all false
set_option maxRecDepth 100000
set_option maxHeartbeats 4000000
/-! Texts, wells, cells that a call leaves. -/
namespace MU
open PySem MI MT
/-! ### texts -/
def sq (l : List Nat) : Str := ⟨l.toArray⟩
def sg (c : Nat) : D := .str ⟨#[c]⟩
theorem sq_app (a b : List Nat) : sq a ++ sq b = sq (a ++ b) := by
  show (⟨a.toArray ++ b.toArray⟩ : Str) = ⟨(a ++ b).toArray⟩
  simp
theorem sq_len (l : List Nat) : (sq l).length = l.length := by
  show l.toArray.size = l.length
  simp
theorem sq_inj {a b : List Nat} (h : sq a = sq b) : a = b := by
  have : (sq a).cps.toList = (sq b).cps.toList := by rw [h]
  simpa [sq] using this
theorem sq_of (x : Str) : x = sq x.cps.toList := by cases x; simp [sq]
theorem cut_sq (l : List Nat) (k : Nat) : L2.cutS (sq l) none (some (k : Int)) = sq (l.take k) := by
  unfold L2.cutS
  rw [HT.sIx_none, HT.sIx_nat, sq_len]
  show (⟨((l.toArray.toList.drop 0).take (min k l.length - 0)).toArray⟩ : Str) = ⟨(l.take k).toArray⟩
  congr 2
  simp only [List.drop_zero, Nat.sub_zero]
  rw [List.take_eq_take_iff]
  omega
theorem foldl_app {α : Type} (l : List (Array α)) (a : Array α) : l.foldl (· ++ ·) a = a ++ l.foldl (· ++ ·) #[] := by
  induction l generalizing a with
  | nil => simp
  | cons x l ih => rw [List.foldl_cons, ih, List.foldl_cons, ih (#[] ++ x)]; simp
theorem rep_sq (w : List Nat) (m : Nat) : repS (sq w) m = sq (List.replicate m w).flatten := by
  unfold repS sq
  congr 1
  induction m with
  | zero => rfl
  | succ m ih =>
    rw [List.replicate_succ, List.foldl_cons, foldl_app, ih, List.replicate_succ, List.flatten_cons]
    simp
theorem rev_sq (l : List Nat) : revS (sq l) = sq l.reverse := by
  unfold revS sq
  simp
theorem signs_sq (l : List Nat) : signs (sq l) = l.map sg := by
  unfold signs sq sg
  simp
theorem join_sq : ∀ ls : List (List Nat), PySem.Txt.join ⟨#[]⟩ (ls.map sq) = sq ls.flatten := by
  intro ls
  rw [show PySem.Txt.join ⟨#[]⟩ (ls.map sq) = Str.join ⟨#[]⟩ (ls.map sq) from PySem.StrLaws.glued_eq_join _ _]
  induction ls with
  | nil => rfl
  | cons a ls ih =>
    cases ls with
    | nil => simp [Str.join]
    | cons b ls =>
      show sq a ++ ⟨#[]⟩ ++ Str.join ⟨#[]⟩ ((b :: ls).map sq) = _
      rw [ih, List.flatten_cons]
      have : sq a ++ (⟨#[]⟩ : Str) = sq a := by
        have := sq_app a []
        simpa [sq] using this
      rw [this, sq_app]
      simp
theorem dat_sq {l : List Nat} (h : ∀ x ∈ l, x < 200) : datD (.str (sq l)) = true := by
  have : PyData.strOk (sq l) = true := low_iff.mpr fun x hx => by
    have := h x (by simpa [sq] using hx)
    omega
  simpa [datD] using this
theorem wt_sq (l : List Nat) : wtD (.str (sq l)) = l.length := by simp [wtD, sq]
section
variable {η : List C}
theorem o_iters {l : List Nat} {P : List D → Prop} (p : P (l.map sg)) : O (iterD η (.str (sq l))) P := o_some (by show some (signs (sq l)) = _; rw [signs_sq]) p
theorem o_revs {l : List Nat} {P : D → Prop} (p : P (.str (sq l.reverse))) : O (revD η (.str (sq l))) P := o_some (by show some (D.str (revS (sq l))) = _; rw [rev_sq]) p
theorem o_slk {l : List Nat} {k : Nat} {P : D → Prop} (p : P (.str (sq (l.take k)))) : O (slD η (.str (sq l)) none (some (k : Int))) P := o_some (by show some (D.str (L2.cutS (sq l) _ _)) = _; rw [cut_sq]) p
theorem o_slkz {l : List Nat} {z : Int} (k : Nat) {P : D → Prop} (e : z = k) (p : P (.str (sq (l.take k)))) : O (slD η (.str (sq l)) none (some z)) P := by subst e; exact o_slk p
theorem o_lenq {l : List Nat} {P : D → Prop} (p : P (.int (l.length : Nat))) : O (biD η .len [.str (sq l)]) P := o_some (by show some (D.int ((sq l).length : Nat)) = _; rw [sq_len]) p
theorem o_join {ls : List (List Nat)} {P : D → Prop} (h : ls.flatten.length ≤ lim) (p : P (.str (sq ls.flatten))) : O (biD η .join [.lst (ls.map fun l => .str (sq l))]) P := by
  have a : allSome MI.strOf (ls.map fun l => D.str (sq l)) = some (ls.map sq) := by
    clear h p
    induction ls with
    | nil => rfl
    | cons x xs ih => simp only [List.map_cons, allSome, MI.strOf, ih]
  have b : ((ls.map sq).map (·.length)).sum = ls.flatten.length := by
    clear a h p
    induction ls with
    | nil => rfl
    | cons x xs ih => simp only [List.map_cons, List.sum_cons, ih, sq_len, List.flatten_cons, List.length_append]
  refine o_some ?_ p
  show joinD η (.lst (ls.map fun l => .str (sq l))) = _
  simp only [joinD, view, a, Option.bind_some]
  rw [if_pos (decide_eq_true (by rw [b]; exact h)), join_sq]
end
/-! ### wells -/
/-- so many draws are left -/
def Bd (η : List C) (w b : Nat) : Prop := ∃ N, St η w N ∧ N + b ≤ 2 ^ 58
theorem Bd.le {η : List C} {w b b' : Nat} (h : Bd η w b) (l : b' ≤ b) : Bd η w b' := let ⟨N, s, e⟩ := h; ⟨N, s, by omega⟩
theorem Bd.below {η : List C} {w b : Nat} (h : Bd η w b) (n : Nat) : η.all (belowC n) = true := by
  obtain ⟨N, s, _⟩ := h
  simp only [List.all_eq_true]
  intro c hc
  obtain ⟨a, b, z, rfl⟩ := s.wells c hc
  simp [wellC, belowC, belows, MI.below]
section
variable {fns : Nat → Option Fn} {T : Ix} {X : Nat → D → List C → Prop} {Q : D → List C → Prop}
theorem w_draw (H : HD fns T) {k w b : Nat} {η : List C} {m : Int} (bd : Bd η w b) (hb : 0 < b) (hm : 0 < m ∧ m < 2 ^ 200) (q : ∀ r η', 0 ≤ r → r < m → Bd η' w (b - 1) → η'.length = η.length → Q (.int r) η') : W (callF fns (k + 1) T.law_draw [.cel w, .int m] η) Q X := by
  obtain ⟨N, s, l⟩ := bd
  obtain ⟨r, η', r0, r1, e, s', l'⟩ := r_draw H (k := k) s (by omega) hm
  exact w_ok e (q r η' r0 r1 ⟨N + 1, s', by omega⟩ l')
/-- a number below so many, as a natural one -/
theorem w_drawn (H : HD fns T) {k w b : Nat} {η : List C} {m : Nat} (bd : Bd η w b) (hb : 0 < b) (hm : 0 < m ∧ m < 1000000) (q : ∀ (r : Nat) η', r < m → Bd η' w (b - 1) → η'.length = η.length → Q (.int r) η') : W (callF fns (k + 1) T.law_draw [.cel w, .int m] η) Q X := by
  refine w_draw H bd hb ⟨by omega, Int.lt_trans (b := 1000000) (by omega) (by decide)⟩ fun r η' r0 r1 b' l' => ?_
  have : r = ((r.toNat : Nat) : Int) := by omega
  rw [this]
  exact q r.toNat η' (by omega) b' l'
theorem w_well (H : HD fns T) {k : Nat} {η : List C} {zs : List Int} {i : Nat} (hw : ∀ c ∈ η, ∃ a b s, c = wellC a b s) (q : ∀ η', Bd η' η.length (2 ^ 58) → η'.length = η.length + 1 → (∀ c ∈ η', ∃ a b s, c = wellC a b s) → Q (.cel η.length) η') : W (callF fns (k + 1) T.law_well [.scr (zs.map .int), .int i] η) Q X := by
  obtain ⟨a, b, a0, b0, e⟩ := r_well H (k := k) (η := η) (zs := zs) (i := i)
  refine w_ok e (q _ ⟨0, ⟨?_, a, b, 0, by simp, a0, b0, Int.le_refl _, Int.le_refl _⟩, by decide⟩ (by simp) ?_) <;>
  · intro c hc
    rcases List.mem_append.mp hc with hc | hc
    · exact hw c hc
    · exact ⟨a, b, 0, by simpa using hc⟩
end
/-! ### a list that was made and is given back -/
section
variable {Q : D → List C → Prop} {η h : List C} {n : Nat}
theorem below_bls (bs : List Bool) : belows n (bs.map .bl) = true := by
  induction bs with
  | nil => rfl
  | cons b bs ih => simp [belows, MI.below, ih]
theorem f_cel {xs : List D} (hn : n = η.length) (hb : belows n xs = true) (hη : η.all (belowC n) = true) (q : Q (.lst xs) η) : Fi n Q (.rt (.cel n)) (η ++ [.lst xs]) := by
  subst hn
  refine f_rs (d' := .lst xs) (h' := η) ?_ q
  simp only [MI.settle]
  rw [if_neg (by simp)]
  simp [view, MI.below, hb, hη]
theorem f_cut {d : D} {e : List C} (hn : n = η.length) (hd : MI.below n d = true) (hη : η.all (belowC n) = true) (q : Q d η) : Fi n Q (.rt d) (η ++ e) := by
  subst hn
  refine f_rs (d' := d) (h' := η) ?_ q
  simp only [MI.settle]
  by_cases he : (η ++ e).length = η.length
  · rw [if_pos he]
    have : e = [] := by
      rw [List.length_append] at he
      exact List.eq_nil_of_length_eq_zero (by omega)
    rw [this, List.append_nil]
  · rw [if_neg he]
    cases d with
    | cel k =>
      simp only [MI.below, decide_eq_true_eq] at hd
      simp [hd, hη, MI.below]
    | _ => simp [hd, hη]
theorem cel_app {xs : List D} {y : D} {Q : D → List C → Prop} {X : Nat → D → List C → Prop} (l : xs.length < lim) (q : Q .non (η ++ [.lst (xs ++ [y])])) : W (appC (.cel η.length) y (η ++ [.lst xs])) Q X := by
  refine w_ok ?_ q
  simp only [appC]
  rw [show (η ++ [C.lst xs])[η.length]? = some (.lst xs) from by simp]
  simp only [if_pos l]
  congr 1
  simp
theorem cel_own {xs : List D} {P : List D → Prop} (p : P xs) : O (ownL (η ++ [.lst xs]) (.cel η.length)) P := o_some (by simp [ownL, view]) p
theorem cel_rev {xs : List D} {P : D → Prop} (p : P (.lst xs.reverse)) : O (revD (η ++ [.lst xs]) (.cel η.length)) P := o_some (by simp [revD, view]) p
end
end MU
end
/-! MW -/
section
set_option linter.all false
set_option maxRecDepth 100000
/-! Functions that more laws share, over a table of where they stand. -/
namespace MU
open PySem MI
structure Iw extends Ix where
  is_formed : Nat := 999
  inner_sayings : Nat := 999
  words_of : Nat := 999
  levels_of : Nat := 999
  swapped : Nat := 999
  is_saying : Nat := 999
  need_saying : Nat := 999
  c_InvalidSaying : Nat := 999
  turned : Nat := 999
  met_behind : Nat := 999
  truths : Nat := 999
  need_word : Nat := 999
  c_InvalidWord : Nat := 999
  truth : Nat := 999
def B_is_formed (T : Iw) : Ss :=
  .cons (.iff (.or (.cons (.not (.call T.is_tuple (.cons (.var 0) (.cons (.cst (.int 1)) (.cons (.cst (.int 3)) (.nil)))))) (.cons (.not (.call T.is_word (.cons (.ix (.var 0) (.cst (.int 0))) (.cons (.bin .Add (.tup (.cons (.cst (.str "yes")) (.cons (.cst (.str "is")) (.cons (.cst (.str "not")) (.nil))))) (.cst (.tup [.str "and", .str "or", .str "until", .str "since"]))) (.nil))))) (.nil)))) (.cons (.ret (.cst (.bl false))) (.nil)) (.nil)) (.cons (.iff (.cmp .Eq (.ix (.var 0) (.cst (.int 0))) (.cst (.str "yes"))) (.cons (.ret (.cmp .Eq (.bi .len (.cons (.var 0) (.nil))) (.cst (.int 1)))) (.nil)) (.nil)) (.cons (.iff (.cmp .Eq (.ix (.var 0) (.cst (.int 0))) (.cst (.str "is"))) (.cons (.ret (.and (.cons (.cmp .Eq (.bi .len (.cons (.var 0) (.nil))) (.cst (.int 2))) (.cons (.call T.is_word (.cons (.ix (.var 0) (.cst (.int 1))) (.cons (.cst (.tup [.str "a", .str "b", .str "c", .str "d", .str "e", .str "f", .str "g", .str "h"])) (.nil)))) (.nil))))) (.nil)) (.nil)) (.cons (.iff (.cmp .NotEq (.bi .len (.cons (.var 0) (.nil))) (.ite (.cmp .Eq (.ix (.var 0) (.cst (.int 0))) (.cst (.str "not"))) (.cst (.int 2)) (.cst (.int 3)))) (.cons (.ret (.cst (.bl false))) (.nil)) (.nil)) (.cons (.ret (.bi .all (.cons (.lc (.call T.is_formed (.cons (.var 1) (.nil))) (.one 1) (.val (.sl (.var 0) (.some (.cst (.int 1))) (.none))) (.none) [1]) (.nil)))) (.nil)))))
abbrev F_is_formed (T : Iw) : Fn := ⟨1, 2, false, B_is_formed T⟩
def B_inner_sayings (T : Iw) : Ss :=
  .cons (.ret (.ite (.cmp .In (.ix (.var 0) (.cst (.int 0))) (.tup (.cons (.cst (.str "yes")) (.cons (.cst (.str "is")) (.nil))))) (.tup (.nil)) (.sl (.var 0) (.some (.cst (.int 1))) (.none)))) (.nil)
abbrev F_inner_sayings (T : Iw) : Fn := ⟨1, 1, false, B_inner_sayings T⟩
def B_words_of (T : Iw) : Ss :=
  .cons (.ret (.bin .Add (.cst (.int 1)) (.bi .sum (.cons (.lc (.call T.words_of (.cons (.var 1) (.nil))) (.one 1) (.val (.call T.inner_sayings (.cons (.var 0) (.nil)))) (.none) [1]) (.nil))))) (.nil)
abbrev F_words_of (T : Iw) : Fn := ⟨1, 2, false, B_words_of T⟩
def B_levels_of (T : Iw) : Ss :=
  .cons (.ret (.bin .Add (.cst (.int 1)) (.maxd (.lc (.call T.levels_of (.cons (.var 1) (.nil))) (.one 1) (.val (.call T.inner_sayings (.cons (.var 0) (.nil)))) (.none) [1]) (.cst (.int 0))))) (.nil)
abbrev F_levels_of (T : Iw) : Fn := ⟨1, 2, false, B_levels_of T⟩
def B_swapped (T : Iw) : Ss :=
  .cons (.set 1 (.dgt [(.inr "until", .inr "since"), (.inr "since", .inr "until")] (.ix (.var 0) (.cst (.int 0))) (.ix (.var 0) (.cst (.int 0))))) (.cons (.iff (.cmp .In (.ix (.var 0) (.cst (.int 0))) (.tup (.cons (.cst (.str "yes")) (.cons (.cst (.str "is")) (.nil))))) (.cons (.ret (.var 0)) (.nil)) (.nil)) (.cons (.ret (.bin .Add (.tup (.cons (.var 1) (.nil))) (.bi .tuple (.cons (.lc (.call T.swapped (.cons (.var 2) (.nil))) (.one 2) (.val (.call T.inner_sayings (.cons (.var 0) (.nil)))) (.none) [2]) (.nil))))) (.nil)))
abbrev F_swapped (T : Iw) : Fn := ⟨1, 3, false, B_swapped T⟩
def B_is_saying (T : Iw) : Ss :=
  .cons (.ret (.and (.cons (.call T.is_formed (.cons (.var 0) (.nil))) (.cons (.cmp .LtE (.call T.words_of (.cons (.var 0) (.nil))) (.cst (.int 40))) (.cons (.cmp .LtE (.call T.levels_of (.cons (.var 0) (.nil))) (.cst (.int 12))) (.nil)))))) (.nil)
abbrev F_is_saying (T : Iw) : Fn := ⟨1, 1, false, B_is_saying T⟩
def B_need_saying (T : Iw) : Ss :=
  .cons (.iff (.not (.call T.is_saying (.cons (.var 0) (.nil)))) (.cons (.raise T.c_InvalidSaying (.call T.anew (.cons (.var 0) (.nil)))) (.nil)) (.nil)) (.nil)
abbrev F_need_saying (T : Iw) : Fn := ⟨1, 1, false, B_need_saying T⟩
def B_turned (T : Iw) : Ss :=
  .cons (.ex (.call T.need_saying (.cons (.var 0) (.nil)))) (.cons (.ret (.call T.swapped (.cons (.var 0) (.nil)))) (.nil))
abbrev F_turned (T : Iw) : Fn := ⟨1, 1, false, B_turned T⟩
def B_met_behind (T : Iw) : Ss :=
  .cons (.par [2, 3] (.cons (.nls (.nil)) (.cons (.cst (.bl false)) (.nil)))) (.cons (.for (.two 4 5) (.zip (.rev (.var 0)) (.rev (.var 1))) (.cons (.ex (.app (.var 2) (.var 3))) (.cons (.set 3 (.or (.cons (.var 5) (.cons (.and (.cons (.var 4) (.cons (.var 3) (.nil)))) (.nil))))) (.nil)))) (.cons (.ret (.rev (.var 2))) (.nil)))
abbrev F_met_behind (T : Iw) : Fn := ⟨2, 6, false, B_met_behind T⟩
def B_truths (T : Iw) : Ss :=
  .cons (.iff (.cmp .Eq (.ix (.var 1) (.cst (.int 0))) (.cst (.str "yes"))) (.cons (.ret (.lc (.cst (.bl true)) (.one 2) (.val (.var 0)) (.none) [2])) (.nil)) (.nil)) (.cons (.iff (.cmp .Eq (.ix (.var 1) (.cst (.int 0))) (.cst (.str "is"))) (.cons (.ret (.lc (.cmp .Eq (.var 2) (.ix (.var 1) (.cst (.int 1)))) (.one 2) (.val (.var 0)) (.none) [2])) (.nil)) (.nil)) (.cons (.iff (.cmp .Eq (.ix (.var 1) (.cst (.int 0))) (.cst (.str "not"))) (.cons (.ret (.lc (.not (.var 3)) (.one 3) (.val (.call T.truths (.cons (.var 0) (.cons (.ix (.var 1) (.cst (.int 1))) (.nil))))) (.none) [3])) (.nil)) (.nil)) (.cons (.par [4, 5] (.cons (.call T.truths (.cons (.var 0) (.cons (.ix (.var 1) (.cst (.int 1))) (.nil)))) (.cons (.call T.truths (.cons (.var 0) (.cons (.ix (.var 1) (.cst (.int 2))) (.nil)))) (.nil)))) (.cons (.iff (.cmp .Eq (.ix (.var 1) (.cst (.int 0))) (.cst (.str "until"))) (.cons (.ret (.call T.met_behind (.cons (.var 4) (.cons (.var 5) (.nil))))) (.nil)) (.nil)) (.cons (.iff (.cmp .Eq (.ix (.var 1) (.cst (.int 0))) (.cst (.str "since"))) (.cons (.ret (.rev (.call T.met_behind (.cons (.rev (.var 4)) (.cons (.rev (.var 5)) (.nil)))))) (.nil)) (.nil)) (.cons (.iff (.cmp .Eq (.ix (.var 1) (.cst (.int 0))) (.cst (.str "and"))) (.cons (.ret (.lc (.and (.cons (.var 6) (.cons (.var 7) (.nil)))) (.two 6 7) (.zip (.var 4) (.var 5)) (.none) [6, 7])) (.nil)) (.nil)) (.cons (.ret (.lc (.or (.cons (.var 6) (.cons (.var 7) (.nil)))) (.two 6 7) (.zip (.var 4) (.var 5)) (.none) [6, 7])) (.nil))))))))
abbrev F_truths (T : Iw) : Fn := ⟨2, 8, false, B_truths T⟩
def B_need_word (T : Iw) : Ss :=
  .cons (.iff (.or (.cons (.not (.isi (.var 0) .str)) (.cons (.not (.chain .LtE .LtE (.cst (.int 1)) (.bi .len (.cons (.var 0) (.nil))) (.cst (.int 300)))) (.cons (.bi .any (.cons (.lc (.cmp .NotIn (.var 1) (.cst (.tup [.str "a", .str "b", .str "c", .str "d", .str "e", .str "f", .str "g", .str "h"]))) (.one 1) (.val (.var 0)) (.none) [1]) (.nil))) (.nil))))) (.cons (.raise T.c_InvalidWord (.call T.anew (.cons (.var 0) (.nil)))) (.nil)) (.nil)) (.nil)
abbrev F_need_word (T : Iw) : Fn := ⟨1, 2, false, B_need_word T⟩
def B_truth (T : Iw) : Ss :=
  .cons (.ex (.call T.need_word (.cons (.var 0) (.nil)))) (.cons (.ex (.call T.need_saying (.cons (.var 1) (.nil)))) (.cons (.ret (.bi .tuple (.cons (.call T.truths (.cons (.var 0) (.cons (.var 1) (.nil)))) (.nil)))) (.nil)))
abbrev F_truth (T : Iw) : Fn := ⟨2, 2, false, B_truth T⟩
end MU
end
/-! WD -/
section
set_option linter.all false
set_option maxRecDepth 100000
set_option maxHeartbeats 4000000
/-! Sayings. -/
namespace MU
open PySem MI MT

local macro_rules
  | `(tactic| array_mem_dec) => `(tactic| first
    | with_reducible refine wvar ?_
    | refine gt_go rfl ?_
    | with_reducible refine wcst ?_
    | with_reducible refine wset ?_
    | with_reducible refine wes1 ?_
    | with_reducible refine wes0 ?_
    | with_reducible refine wcall ?_
    | with_reducible refine wbin ?_
    | with_reducible refine wcmp ?_
    | with_reducible refine wix ?_
    | with_reducible refine wiff ?_
    | with_reducible refine o_bl ?_
    | with_reducible refine wret ?_
    | with_reducible refine wnot ?_
    | with_reducible refine wneg ?_
    | with_reducible refine wite ?_
    | with_reducible refine wand ?_
    | with_reducible refine wand1 ?_
    | with_reducible refine wor ?_
    | with_reducible refine wor1 ?_
    | with_reducible refine wtup ?_
    | with_reducible refine wlst ?_
    | with_reducible refine wbi ?_
    | with_reducible refine wisi ?_
    | with_reducible refine wsl ?_
    | with_reducible refine weo1 ?_
    | with_reducible refine weo0 ?_
    | with_reducible refine wrev ?_
    | with_reducible refine wcallk ?_
    | with_reducible refine wnil ?_
    | with_reducible refine k_nx ?_
    | with_reducible refine k_rt ?_
    | with_reducible refine k_bk ?_
    | with_reducible refine k_ct ?_
    | with_reducible refine l_nx ?_
    | with_reducible refine l_ct ?_
    | with_reducible refine l_bk ?_
    | with_reducible refine l_rt ?_
    | with_reducible refine o_add ?_
    | with_reducible refine o_sub ?_
    | with_reducible refine o_lt ?_
    | with_reducible refine o_le ?_
    | with_reducible refine o_gt ?_
    | with_reducible refine o_ge ?_
    | with_reducible refine o_eqs ?_
    | with_reducible refine o_eqb ?_
    | with_reducible refine o_neb ?_
    | refine Lk.mk rfl ?_
    | with_reducible refine o_eqi ?_
    | with_reducible refine o_nei ?_
    | with_reducible refine o_tl ?_
    | with_reducible refine o_iterl ?_
    | with_reducible refine o_itert ?_
    | with_reducible refine o_revl ?_
    | with_reducible refine o_revt ?_
    | with_reducible refine o_nes ?_
    | with_reducible refine o_isn ?_
    | with_reducible refine o_isnn ?_
    | with_reducible refine o_int ?_
    | with_reducible refine o_ix0 ?_
    | with_reducible refine o_ix1 ?_
    | with_reducible refine o_LT ?_
    | with_reducible refine o_nLT ?_
    | with_reducible refine o_lens ?_
    | with_reducible refine o_lent ?_
    | with_reducible refine o_lenl ?_
    | with_reducible refine o_lenr ?_
    | with_reducible refine o_tot ?_
    | with_reducible refine o_tott ?_
    | with_reducible refine o_lit ?_
    | with_reducible refine o_lil ?_
    | with_reducible refine o_all ?_
    | with_reducible refine o_any ?_
    | with_reducible refine o_sum ?_
    | with_reducible refine o_maxd ?_
    | with_reducible refine wval ?_
    | with_reducible refine wisc ?_
    | with_reducible refine wdgt ?_
    | with_reducible refine wmaxd ?_
    | with_reducible refine wlrg ?_
    | with_reducible refine wapp ?_
    | with_reducible refine wext ?_
    | with_reducible refine wpop ?_
    | with_reducible refine wfnv ?_
    | with_reducible refine wchain ?_
    | with_reducible refine wsset ?_
    | with_reducible refine wnls ?_
    | with_reducible refine wndc ?_
    | ((with_reducible refine newl_go ?_ ?_); · (simp only [List.length_cons, List.length_nil, lim]; omega))
    | with_reducible refine wec0 ?_
    | with_reducible refine wec1 ?_
    | with_reducible refine wival ?_
    | with_reducible refine wirg1 ?_
    | with_reducible refine wirg2 ?_
    | with_reducible refine wirg3 ?_
    | with_reducible refine wizip ?_
    | with_reducible refine wlc ?_
    | with_reducible refine wsetc ?_
    | with_reducible refine wsetd ?_
    | with_reducible refine wsett ?_
    | with_reducible refine wpar ?_
    | with_reducible refine waug ?_
    | with_reducible refine wseti ?_
    | with_reducible refine wex ?_
    | with_reducible refine wretn ?_
    | with_reducible refine wretc ?_
    | with_reducible refine wfor ?_
    | with_reducible refine wforF ?_
    | with_reducible refine wtg1 ?_
    | with_reducible refine wtg2 ?_
    | with_reducible refine wpas ?_
    | with_reducible refine wbrk ?_
    | with_reducible refine wcnt ?_
    | with_reducible refine wraise ?_
    | with_reducible refine wtry ?_
    | with_reducible refine wtbc ?_
    | with_reducible refine wtbk ?_
    | with_reducible refine wtbi ?_
    | ((with_reducible refine br_t ?_ ?_); · first | exact rfl | assumption | decide)
    | ((with_reducible refine br_f ?_ ?_); · first | exact rfl | assumption | decide)
    | ((with_reducible refine br_dt ?_ ?_); · assumption)
    | ((with_reducible refine br_df ?_ ?_); · assumption)
    | ((with_reducible refine o_tup ?_ ?_); · (simp only [List.length_cons, List.length_nil, lim]; omega))
    | ((with_reducible refine o_lst ?_ ?_); · (simp only [List.length_cons, List.length_nil, lim]; omega))
    | refine o_some rfl ?_)
variable {fns : Nat → Option Fn} {T : Iw} {k K n : Nat} {η : List C}
inductive Tw where
  | and | or | unt | snc
def twS : Tw → Str
  | .and => "and"
  | .or => "or"
  | .unt => "until"
  | .snc => "since"
inductive Sy where
  | yes | is (c : Str) | not (a : Sy) | two (w : Tw) (a b : Sy)
namespace Sy
def d : Sy → D
  | .yes => .tup [.str "yes"]
  | .is c => .tup [.str "is", .str c]
  | .not a => .tup [.str "not", a.d]
  | .two w a b => .tup [.str (twS w), a.d, b.d]
def wds : Sy → Nat
  | .yes => 1
  | .is c => 1
  | .not a => 1 + a.wds
  | .two w a b => 1 + (a.wds + b.wds)
def lvs : Sy → Nat
  | .yes => 1
  | .is c => 1
  | .not a => 1 + a.lvs
  | .two w a b => 1 + max a.lvs b.lvs
def ok : Sy → Prop
  | .yes => True
  | .is c => isLet c
  | .not a => a.ok
  | .two w a b => a.ok ∧ b.ok
def sw : Sy → Sy
  | .yes => .yes
  | .is c => .is c
  | .not a => .not a.sw
  | .two w a b => .two (match w with | .unt => .snc | .snc => .unt | w => w) a.sw b.sw
def inn : Sy → List Sy
  | .yes => []
  | .is c => []
  | .not a => [a]
  | .two w a b => [a, b]
theorem lvs_pos (s : Sy) : 0 < s.lvs := by cases s <;> simp [lvs] <;> omega
end Sy
structure HW (fns : Nat → Option Fn) (T : Iw) : Prop where
  tuple : fns T.is_tuple = some (F_is_tuple T.toIx)
  word : fns T.is_word = some (F_is_word T.toIx)
  anew : fns T.anew = some (F_anew T.toIx)
  formed : fns T.is_formed = some (F_is_formed T)
  inner : fns T.inner_sayings = some (F_inner_sayings T)
  words : fns T.words_of = some (F_words_of T)
  levels : fns T.levels_of = some (F_levels_of T)
  swap : fns T.swapped = some (F_swapped T)
  saying : fns T.is_saying = some (F_is_saying T)
  need : fns T.need_saying = some (F_need_saying T)
theorem y_inner (H : HW fns T) (s : Sy) : callF fns (k + 1) T.inner_sayings [s.d] η = .ok (.tup (s.inn.map Sy.d)) η := by
  refine of_w (wcallF H.inner rfl rfl ?_)
  show W (evSs _ (B_inner_sayings T) _ _) _ _
  unfold B_inner_sayings
  cases s with
  | yes => simp only [Sy.d]; (repeat array_mem_dec); exact f_rt rfl ⟨rfl, rfl⟩
  | is c => simp only [Sy.d]; (repeat array_mem_dec); exact f_rt rfl ⟨rfl, rfl⟩
  | not a => simp only [Sy.d]; (repeat array_mem_dec); exact f_rt rfl ⟨rfl, rfl⟩
  | two w a b => cases w <;> simp only [Sy.d, twS] <;> (repeat array_mem_dec) <;> exact f_rt rfl ⟨rfl, rfl⟩
theorem Sy.inn_lvs {s t : Sy} (h : t ∈ s.inn) : t.lvs + 1 ≤ s.lvs := by
  cases s with
  | yes => cases h
  | is c => cases h
  | not a => simp [inn] at h; subst h; simp [lvs]; omega
  | two w a b => simp [inn] at h; rcases h with rfl | rfl <;> simp [lvs] <;> omega
theorem Sy.inn_len (s : Sy) : s.inn.length ≤ lim := by cases s <;> simp [inn, lim]
theorem y_words (H : HW fns T) : ∀ {n : Nat} {s : Sy} {K : Nat}, s.lvs ≤ n → n + 1 ≤ K → callF fns K T.words_of [s.d] η = .ok (.int s.wds) η
  | 0, s, K, h, _ => absurd s.lvs_pos (by omega)
  | n + 1, s, K, h, hK => by
    obtain ⟨K, rfl⟩ : ∃ k, K = k + 1 + 1 := ⟨K - 2, by omega⟩
    refine of_w (wcallF H.words rfl rfl ?_)
    show W (evSs _ (B_words_of T) _ _) _ _
    unfold B_words_of
    (repeat (first | with_reducible refine w_ok (y_inner H s) ?_ | array_mem_dec))
    refine w_mapL (fun a => .int (a.wds : Nat)) s.inn_len (fun a ha => ?_) ?_
    · have := Sy.inn_lvs ha
      (repeat (first | with_reducible refine w_ok (y_words H (n := n) (by omega) (by omega)) ?_ | array_mem_dec))
      exact ⟨rfl, rfl⟩
    · (repeat array_mem_dec)
      refine f_rt rfl ⟨?_, rfl⟩
      congr 1
      cases s <;> simp [Sy.inn, Sy.wds]
theorem y_levels (H : HW fns T) : ∀ {n : Nat} {s : Sy} {K : Nat}, s.lvs ≤ n → n + 1 ≤ K → callF fns K T.levels_of [s.d] η = .ok (.int s.lvs) η
  | 0, s, K, h, _ => absurd s.lvs_pos (by omega)
  | n + 1, s, K, h, hK => by
    obtain ⟨K, rfl⟩ : ∃ k, K = k + 1 + 1 := ⟨K - 2, by omega⟩
    refine of_w (wcallF H.levels rfl rfl ?_)
    show W (evSs _ (B_levels_of T) _ _) _ _
    unfold B_levels_of
    (repeat (first | with_reducible refine w_ok (y_inner H s) ?_ | array_mem_dec))
    refine w_mapL (fun a => .int (a.lvs : Nat)) s.inn_len (fun a ha => ?_) ?_
    · have := Sy.inn_lvs ha
      (repeat (first | with_reducible refine w_ok (y_levels H (n := n) (by omega) (by omega)) ?_ | array_mem_dec))
      exact ⟨rfl, rfl⟩
    · (repeat array_mem_dec)
      cases s with
      | yes => (repeat array_mem_dec); exact f_rt rfl ⟨rfl, rfl⟩
      | is c => (repeat array_mem_dec); exact f_rt rfl ⟨rfl, rfl⟩
      | not a =>
        simp only [Sy.inn, List.map_cons, List.map_nil, maxI, List.foldl_nil]
        (repeat array_mem_dec); refine f_rt rfl ⟨?_, rfl⟩
        simp [Sy.lvs]
      | two w a b =>
        simp only [Sy.inn, List.map_cons, List.map_nil, maxI, List.foldl_cons, List.foldl_nil]
        (repeat array_mem_dec); refine f_rt rfl ⟨?_, rfl⟩
        simp only [Sy.lvs]
        congr 1
        by_cases h : (b.lvs : Int) > a.lvs
        · rw [if_pos h]; omega
        · rw [if_neg h]; omega
theorem y_swap (H : HW fns T) : ∀ {n : Nat} {s : Sy} {K : Nat}, s.lvs ≤ n → n + 1 ≤ K → callF fns K T.swapped [s.d] η = .ok s.sw.d η
  | 0, s, K, h, _ => absurd s.lvs_pos (by omega)
  | n + 1, s, K, h, hK => by
    obtain ⟨K, rfl⟩ : ∃ k, K = k + 1 + 1 := ⟨K - 2, by omega⟩
    refine of_w (wcallF H.swap rfl rfl ?_)
    show W (evSs _ (B_swapped T) _ _) _ _
    unfold B_swapped
    have step : ∀ {t : Sy}, t ∈ s.inn → callF fns (K + 1) T.swapped [t.d] η = .ok t.sw.d η := fun ha => by
      have := Sy.inn_lvs ha
      exact y_swap H (n := n) (by omega) (by omega)
    have yi := y_inner (k := K) (η := η) H s
    cases s with
    | yes => simp only [Sy.d] at yi ⊢; (repeat array_mem_dec); exact f_rt rfl ⟨rfl, rfl⟩
    | is c => simp only [Sy.d] at yi ⊢; (repeat array_mem_dec); exact f_rt rfl ⟨rfl, rfl⟩
    | not a =>
      simp only [Sy.d] at yi ⊢
      (repeat (first | with_reducible refine w_ok yi ?_ | array_mem_dec))
      refine w_mapL (fun a => a.sw.d) (Sy.inn_len _) (fun a ha => ?_) ?_
      · (repeat (first | with_reducible refine w_ok (step ha) ?_ | array_mem_dec))
        exact ⟨rfl, rfl⟩
      · (repeat array_mem_dec)
        exact f_rt rfl ⟨rfl, rfl⟩
    | two w a b =>
      cases w <;> simp only [Sy.d, twS] at yi ⊢ <;> (repeat (first | with_reducible refine w_ok yi ?_ | array_mem_dec)) <;>
      (refine w_mapL (fun a => a.sw.d) (Sy.inn_len _) (fun a ha => ?_) ?_
       · (repeat (first | with_reducible refine w_ok (step ha) ?_ | array_mem_dec))
         exact ⟨rfl, rfl⟩
       · (repeat array_mem_dec)
         exact f_rt rfl ⟨rfl, rfl⟩)
/-! ### is_formed -/
abbrev WDS : List Str := ["yes", "is", "not", "and", "or", "until", "since"]
def frmN : Nat → D → Bool
  | n + 1, .tup (.str w :: xs) => if w = "yes" then xs.isEmpty else if w = "is" then (match xs with
    | [c] => wordB c LETS
    | _ => false) else if w = "not" then (match xs with
    | [a] => frmN n a
    | _ => false) else if w ∈ WDS then (match xs with
    | [a, b] => frmN n a && frmN n b
    | _ => false) else false
  | _, _ => false
@[simp] theorem frm_yes {n : Nat} {xs : List D} : frmN (n + 1) (.tup (.str "yes" :: xs)) = xs.isEmpty := by
  simp only [frmN]; rw [if_pos True.intro]
@[simp] theorem frm_is {n : Nat} {xs : List D} : frmN (n + 1) (.tup (.str "is" :: xs)) = (match xs with
    | [c] => wordB c LETS
    | _ => false) := by
  simp only [frmN]; rw [if_neg (by decide), if_pos True.intro]
@[simp] theorem frm_not {n : Nat} {xs : List D} : frmN (n + 1) (.tup (.str "not" :: xs)) = (match xs with
    | [a] => frmN n a
    | _ => false) := by
  simp only [frmN]; rw [if_neg (by decide), if_neg (by decide), if_pos True.intro]
theorem frm_tw {n : Nat} {w : Tw} {xs : List D} : frmN (n + 1) (.tup (.str (twS w) :: xs)) = (match xs with
    | [a, b] => frmN n a && frmN n b
    | _ => false) := by
  simp only [frmN]
  cases w <;> rw [if_neg (by decide), if_neg (by decide), if_neg (by decide), if_pos (by decide)]
@[simp] theorem frm_and {n : Nat} {xs : List D} : frmN (n + 1) (.tup (.str "and" :: xs)) = (match xs with
    | [a, b] => frmN n a && frmN n b
    | _ => false) := frm_tw (w := .and)
@[simp] theorem frm_or {n : Nat} {xs : List D} : frmN (n + 1) (.tup (.str "or" :: xs)) = (match xs with
    | [a, b] => frmN n a && frmN n b
    | _ => false) := frm_tw (w := .or)
@[simp] theorem frm_until {n : Nat} {xs : List D} : frmN (n + 1) (.tup (.str "until" :: xs)) = (match xs with
    | [a, b] => frmN n a && frmN n b
    | _ => false) := frm_tw (w := .unt)
@[simp] theorem frm_since {n : Nat} {xs : List D} : frmN (n + 1) (.tup (.str "since" :: xs)) = (match xs with
    | [a, b] => frmN n a && frmN n b
    | _ => false) := frm_tw (w := .snc)
theorem y_formed (H : HW fns T) : ∀ {n : Nat} {d : D} {K : Nat}, datD d = true → dpD d < n → n + 1 ≤ K → callF fns K T.is_formed [d] η = .ok (.bl (frmN n d)) η
  | 0, d, K, _, h, _ => by omega
  | n + 1, d, K, hd, h, hK => by
    obtain ⟨K, rfl⟩ : ∃ k, K = k + 1 + 1 := ⟨K - 2, by omega⟩
    refine of_w (wcallF H.formed rfl rfl ?_)
    show W (evSs _ (B_is_formed T) _ _) _ _
    unfold B_is_formed
    have ht := u_tuple (k := K) (η := η) H.tuple hd 1 3
    (repeat (first | with_reducible refine w_ok ht ?_ | array_mem_dec))
    cases d with
    | tup xs =>
      cases xs with
      | nil => (repeat array_mem_dec); exact f_rt rfl ⟨rfl, rfl⟩
      | cons x xs =>
        simp only [datD, datDs, Bool.and_eq_true] at hd
        have hw := u_word (k := K) (η := η) H.word hd.1 WDS
        simp only [dpD, dpDs] at h
        by_cases hl : xs.length ≤ 2
        · have htt : tupB (D.tup (x :: xs)) 1 3 = true := by
            simp only [tupB, List.length_cons, Bool.and_eq_true, decide_eq_true_eq]; omega
          rw [htt]
          by_cases hm : wordB x WDS = true
          · rw [hm] at hw
            (repeat array_mem_dec); refine w_ok hw ?_; (repeat array_mem_dec)
            cases x with
            | str w =>
              have hm : w ∈ WDS := by simpa [wordB] using hm
              have step : ∀ a ∈ xs, callF fns (K + 1) T.is_formed [a] η = .ok (.bl (frmN n a)) η := fun a ha => y_formed H (n := n) (dat_mem hd.2 ha) (by have := dp_mem ha; omega) (by omega)
              have hwl : ∀ a ∈ xs, callF fns (K + 1) T.is_word [a, .tup (LETS.map .str)] η = .ok (.bl (wordB a LETS)) η := fun a ha => u_word (k := K) (η := η) H.word (dat_mem hd.2 ha) LETS
              simp only [WDS, List.mem_cons, List.not_mem_nil, or_false] at hm
              match xs with
              | [] =>
                rcases hm with rfl | rfl | rfl | rfl | rfl | rfl | rfl <;> (repeat array_mem_dec) <;> exact f_rt rfl ⟨by simp, rfl⟩
              | [a] =>
                have s1 := step a (by simp)
                have s2 := hwl a (by simp)
                rcases hm with rfl | rfl | rfl | rfl | rfl | rfl | rfl <;> (repeat array_mem_dec) <;> first
                  | exact f_rt rfl ⟨by simp, rfl⟩
                  | (refine w_ok s2 ?_; (repeat array_mem_dec); exact f_rt rfl ⟨by simp, rfl⟩)
                  | (refine w_map (fun d => .bl (frmN n d)) (by simp [lim]) (fun d hd => ?_) ?_
                     · simp only [List.mem_singleton] at hd; subst hd
                       (repeat (first | with_reducible refine w_ok s1 ?_ | array_mem_dec)); exact ⟨rfl, rfl⟩
                     · (repeat array_mem_dec); exact f_rt rfl ⟨by simp, rfl⟩)
              | [a, b] =>
                have s1 := step a (by simp)
                have s2 := step b (by simp)
                rcases hm with rfl | rfl | rfl | rfl | rfl | rfl | rfl <;> (repeat array_mem_dec) <;> first
                  | exact f_rt rfl ⟨by simp, rfl⟩
                  | (refine w_map (fun d => .bl (frmN n d)) (by simp [lim]) (fun d hd => ?_) ?_
                     · simp only [List.mem_cons, List.not_mem_nil, or_false] at hd
                       rcases hd with rfl | rfl
                       · (repeat (first | with_reducible refine w_ok s1 ?_ | array_mem_dec)); exact ⟨rfl, rfl⟩
                       · (repeat (first | with_reducible refine w_ok s2 ?_ | array_mem_dec)); exact ⟨rfl, rfl⟩
                     · (repeat array_mem_dec); exact f_rt rfl ⟨by simp, rfl⟩)
              | _ :: _ :: _ :: _ => simp at hl
            | _ => simp [wordB] at hm
          · simp only [Bool.not_eq_true] at hm
            rw [hm] at hw
            (repeat array_mem_dec); refine w_ok hw ?_; (repeat array_mem_dec)
            refine f_rt rfl ⟨?_, rfl⟩
            cases x with
            | str w =>
              simp [wordB] at hm
              simp [frmN, hm]
            | _ => simp [frmN]
        · have htt : tupB (D.tup (x :: xs)) 1 3 = false := by
            simp only [tupB, List.length_cons, Bool.and_eq_false_iff, decide_eq_false_iff_not]; omega
          rw [htt]
          (repeat array_mem_dec)
          refine f_rt rfl ⟨?_, rfl⟩
          cases x with
          | str w =>
            match xs, hl with
            | _ :: _ :: _ :: _, _ => simp [frmN]
            | [], hl => simp at hl
            | [a], hl => simp at hl
            | [a, b], hl => simp at hl
          | _ => simp [frmN]
    | _ => (repeat array_mem_dec); exact f_rt rfl ⟨rfl, rfl⟩
/-- the good ones -/
theorem frm_ok : ∀ {n : Nat} {s : Sy}, s.ok → s.lvs ≤ n → frmN n s.d = true
  | 0, s, _, h => absurd s.lvs_pos (by omega)
  | n + 1, .yes, _, _ => by simp [Sy.d]
  | n + 1, .is c, h, _ => by
    have : c ∈ LETS := h
    simp [Sy.d, wordB, this]
  | n + 1, .not a, h, l => by
    simp only [Sy.lvs] at l
    simp [Sy.d, frm_ok (n := n) (s := a) h (by omega)]
  | n + 1, .two w a b, h, l => by
    simp only [Sy.lvs] at l
    simp only [Sy.d, frm_tw]
    rw [frm_ok (n := n) (s := a) h.1 (by omega), frm_ok (n := n) (s := b) h.2 (by omega)]; rfl
theorem frm_sy : ∀ {n : Nat} {d : D}, frmN n d = true → ∃ s : Sy, d = s.d ∧ s.ok ∧ s.lvs ≤ n := by
  intro n
  induction n with
  | zero => intro d h; simp [frmN] at h
  | succ n ih =>
    intro d h
    match d with
    | .tup (.str w :: xs) =>
      by_cases hm : w ∈ WDS
      · simp only [WDS, List.mem_cons, List.not_mem_nil, or_false] at hm
        have two : ∀ (t : Tw), frmN (n + 1) (.tup (.str (twS t) :: xs)) = true → ∃ s : Sy, D.tup (.str (twS t) :: xs) = s.d ∧ s.ok ∧ s.lvs ≤ n + 1 := fun t h => by
          rw [frm_tw] at h
          match xs with
          | [a, b] =>
            simp only [Bool.and_eq_true] at h
            obtain ⟨sa, rfl, oa, la⟩ := ih h.1
            obtain ⟨sb, rfl, ob, lb⟩ := ih h.2
            exact ⟨.two t sa sb, rfl, ⟨oa, ob⟩, by simp only [Sy.lvs]; omega⟩
          | [] => simp at h
          | [_] => simp at h
          | _ :: _ :: _ :: _ => simp at h
        rcases hm with rfl | rfl | rfl | rfl | rfl | rfl | rfl
        · simp at h; subst h; exact ⟨.yes, rfl, trivial, by simp [Sy.lvs]⟩
        · rw [frm_is] at h
          match xs with
          | [.str c] => exact ⟨.is c, rfl, by simpa [wordB, Sy.ok, isLet] using h, by simp [Sy.lvs]⟩
          | [.tup _] | [.lst _] | [.non] | [.int _] | [.bl _] | [.scr _] | [.dct _] | [.cel _] | [.fn _] | [.err _ _] => simp [wordB] at h
          | [] => simp at h
          | _ :: _ :: _ => simp at h
        · rw [frm_not] at h
          match xs with
          | [a] =>
            obtain ⟨sa, rfl, oa, la⟩ := ih h
            exact ⟨.not sa, rfl, oa, by simp only [Sy.lvs]; omega⟩
          | [] => simp at h
          | _ :: _ :: _ => simp at h
        · exact two .and h
        · exact two .or h
        · exact two .unt h
        · exact two .snc h
      · simp only [WDS, List.mem_cons, List.not_mem_nil, or_false, not_or] at hm
        simp only [frmN] at h
        rw [if_neg hm.1, if_neg hm.2.1, if_neg hm.2.2.1, if_neg (by simp [WDS, hm])] at h
        cases h
    | .tup [] | .tup (.tup _ :: _) | .tup (.lst _ :: _) | .tup (.non :: _) | .tup (.int _ :: _) | .tup (.bl _ :: _) | .tup (.scr _ :: _) | .tup (.dct _ :: _) | .tup (.cel _ :: _) | .tup (.fn _ :: _) | .tup (.err _ _ :: _) => simp [frmN] at h
    | .non | .int _ | .bl _ | .str _ | .lst _ | .scr _ | .dct _ | .cel _ | .fn _ | .err _ _ => simp [frmN] at h
theorem strOk_of {x : Str} (h : ∀ c ∈ x.cps.toList, c < 200) : PyData.strOk x = true := low_iff.mpr fun c hc => by
  have := h c (by simpa using hc); omega
theorem Sy.dat : ∀ {s : Sy}, s.ok → datD s.d = true ∧ dpD s.d ≤ s.lvs ∧ wtD s.d ≤ 8 * s.wds
  | .yes, _ => ⟨by decide +kernel, by decide +kernel, by decide +kernel⟩
  | .is c, h => by
    simp only [ok, isLet, LETS, List.mem_cons, List.not_mem_nil, or_false] at h
    rcases h with rfl | rfl | rfl | rfl | rfl | rfl | rfl | rfl <;> exact ⟨by decide +kernel, by decide +kernel, by decide +kernel⟩
  | .not a, h => by
    obtain ⟨h1, h2, h3⟩ := Sy.dat (s := a) h
    have e1 : PyData.strOk "not" = true := by decide +kernel
    have e2 : (Str.ofString "not").cps.size = 3 := by decide
    refine ⟨by simp [d, datD, datDs, h1, e1], by simp only [d, dpD, dpDs, lvs]; omega, by simp only [d, wtD, wtDs, wds, e2]; omega⟩
  | .two w a b, h => by
    obtain ⟨h1, h2, h3⟩ := Sy.dat (s := a) h.1
    obtain ⟨g1, g2, g3⟩ := Sy.dat (s := b) h.2
    have e1 : PyData.strOk (twS w) = true := by cases w <;> decide +kernel
    have e2 : (twS w).cps.size ≤ 5 := by cases w <;> decide
    refine ⟨by simp [d, datD, datDs, h1, g1, e1], by simp only [d, dpD, dpDs, lvs]; omega, by simp only [d, wtD, wtDs, wds]; omega⟩
/-! ### is_saying and on -/
theorem y_saying (H : HW fns T) {s : Sy} {K : Nat} (ok : s.ok) (hl : s.lvs ≤ 12) (hw : s.wds ≤ 40) (hK : 15 ≤ K) : callF fns K T.is_saying [s.d] η = .ok (.bl true) η := by
  obtain ⟨K, rfl⟩ : ∃ k, K = k + 1 := ⟨K - 1, by omega⟩
  have f := y_formed (η := η) (n := 13) (K := K) H (Sy.dat ok).1 (by have := (Sy.dat ok).2.1; omega) (by omega)
  rw [frm_ok ok (by omega)] at f
  have w := y_words (η := η) (n := 12) (K := K) H hl (by omega)
  have l := y_levels (η := η) (n := 12) (K := K) H hl (by omega)
  refine of_w (wcallF H.saying rfl rfl ?_)
  show W (evSs _ (B_is_saying T) _ _) _ _
  unfold B_is_saying
  (repeat (first | with_reducible refine w_ok f ?_ | with_reducible refine w_ok w ?_ | with_reducible refine w_ok l ?_ | array_mem_dec))
  refine br_dt (by omega) ?_
  (repeat (first | with_reducible refine w_ok f ?_ | with_reducible refine w_ok w ?_ | with_reducible refine w_ok l ?_ | array_mem_dec))
  refine f_rt rfl ⟨?_, rfl⟩
  congr 1; simp; omega
theorem y_unformed (H : HW fns T) {d : D} {K n : Nat} (hd : datD d = true) (hn : dpD d < n) (hf : frmN n d = false) (hK : n + 2 ≤ K) : callF fns K T.is_saying [d] η = .ok (.bl false) η := by
  obtain ⟨K, rfl⟩ : ∃ k, K = k + 1 := ⟨K - 1, by omega⟩
  have f := y_formed (η := η) (n := n) (K := K) H hd hn (by omega)
  rw [hf] at f
  refine of_w (wcallF H.saying rfl rfl ?_)
  show W (evSs _ (B_is_saying T) _ _) _ _
  unfold B_is_saying
  (repeat (first | with_reducible refine w_ok f ?_ | array_mem_dec))
  exact f_rt rfl ⟨rfl, rfl⟩
theorem y_need (H : HW fns T) {s : Sy} {K : Nat} (ok : s.ok) (hl : s.lvs ≤ 12) (hw : s.wds ≤ 40) (hK : 16 ≤ K) : callF fns K T.need_saying [s.d] η = .ok .non η := by
  obtain ⟨K, rfl⟩ : ∃ k, K = k + 1 := ⟨K - 1, by omega⟩
  have f := y_saying (η := η) (K := K) H ok hl hw (by omega)
  refine of_w (wcallF H.need rfl rfl ?_)
  show W (evSs _ (B_need_saying T) _ _) _ _
  unfold B_need_saying
  (repeat (first | with_reducible refine w_ok f ?_ | array_mem_dec))
  exact f_nx rfl ⟨rfl, rfl⟩
theorem y_refuse (H : HW fns T) {d : D} {K n : Nat} (hs : callF fns K T.is_saying [d] η = .ok (.bl false) η) (hd : datD d = true) (hn : dpD d ≤ n) (hw : wtD d ≤ lim) (hb : below η.length d = true) (hη : η.all (belowC η.length) = true) (hK : n + 1 ≤ K) : callF fns (K + 1) T.need_saying [d] η = .exc T.c_InvalidSaying d η := by
  have a := u_anew (η := η) (K := K) H.anew n d hd hn hw hK
  refine of_wx (wcallF H.need rfl rfl ?_)
  show W (evSs _ (B_need_saying T) _ _) _ _
  unfold B_need_saying
  (repeat (first | with_reducible refine w_ok hs ?_ | with_reducible refine w_ok a ?_ | array_mem_dec))
  exact f_x hb rfl hη ⟨rfl, rfl, rfl⟩
end MU
end
/-! VK -/
section
set_option linter.all false
set_option maxRecDepth 100000
set_option maxHeartbeats 4000000
/-! Sayings of finite words, in plain lists. -/
namespace MT
open PySem MI
/-- comes what is wanted, what is kept until then? -/
def comes : List Bool → List Bool → Bool
  | k :: ks, w :: ws => w || (k && comes ks ws)
  | _, _ => false
/-- until, at each place -/
def metB : List Bool → List Bool → List Bool
  | _ :: ks, _ :: ws => comes ks ws :: metB ks ws
  | _, _ => []
theorem metB_len : ∀ (ks ws : List Bool), ks.length = ws.length → (metB ks ws).length = ws.length
  | [], [], _ => rfl
  | [], _ :: _, h => by cases h
  | _ :: _, [], h => by cases h
  | _ :: ks, _ :: ws, h => by
    simp only [metB, List.length_cons]
    rw [metB_len ks ws (by simpa using h)]
theorem metB_at : ∀ (ks ws : List Bool) (i : Nat), ks.length = ws.length → i < ws.length → (metB ks ws)[i]? = some (comes (ks.drop (i + 1)) (ws.drop (i + 1)))
  | [], [], _, _, h => by simp at h
  | [], _ :: _, _, h, _ => by cases h
  | _ :: _, [], _, h, _ => by cases h
  | _ :: ks, _ :: ws, 0, _, _ => by simp [metB]
  | _ :: ks, _ :: ws, i + 1, h, l => by
    simp only [metB, List.getElem?_cons_succ, List.drop_succ_cons]
    exact metB_at ks ws i (by simpa using h) (by simpa using l)
/-- from the end: what is found, and what comes -/
def back2 : List (Bool × Bool) → List Bool → Bool → List Bool × Bool
  | [], acc, c => (acc, c)
  | (k, w) :: r, acc, c => back2 r (acc ++ [c]) (w || (k && c))
theorem back2_app : ∀ (p q : List (Bool × Bool)) (acc : List Bool) (c : Bool), back2 (p ++ q) acc c = back2 q (back2 p acc c).1 (back2 p acc c).2
  | [], _, _, _ => rfl
  | (k, w) :: p, q, acc, c => by simp only [List.cons_append, back2, back2_app p q]
theorem back2_rev : ∀ (ks ws : List Bool), ks.length = ws.length → back2 ((ks.zip ws).reverse) [] false = ((metB ks ws).reverse, comes ks ws)
  | [], [], _ => rfl
  | [], _ :: _, h => by cases h
  | _ :: _, [], h => by cases h
  | k :: ks, w :: ws, h => by
    rw [List.zip_cons_cons, List.reverse_cons, back2_app, back2_rev ks ws (by simpa using h)]
    simp [back2, metB, comes]
/-- since: the other way round -/
def sncB (ks ws : List Bool) : List Bool := (metB ks.reverse ws.reverse).reverse
theorem snc_len (ks ws : List Bool) (h : ks.length = ws.length) : (sncB ks ws).length = ws.length := by
  simp only [sncB, List.length_reverse]
  rw [metB_len _ _ (by simpa using h), List.length_reverse]
theorem drop_rev {α : Type} (l : List α) (i : Nat) (h : i ≤ l.length) : l.reverse.drop (l.length - i) = (l.take i).reverse := by
  rw [List.drop_reverse]
  congr 2
  omega
theorem snc_at (ks ws : List Bool) (i : Nat) (h : ks.length = ws.length) (l : i < ws.length) : (sncB ks ws)[i]? = some (comes (ks.take i).reverse (ws.take i).reverse) := by
  have hl := metB_len ks.reverse ws.reverse (by simpa using h)
  rw [List.length_reverse] at hl
  unfold sncB
  rw [List.getElem?_reverse (by rw [hl]; exact l), hl]
  rw [metB_at _ _ _ (by simpa using h) (by rw [List.length_reverse]; omega)]
  rw [show ws.length - 1 - i + 1 = ws.length - i from by omega, drop_rev ws i (by omega)]
  rw [← h, drop_rev ks i (by omega)]
theorem snc_rev (ks ws : List Bool) : sncB ks.reverse ws.reverse = (metB ks ws).reverse := by
  simp [sncB]
theorem met_rev (ks ws : List Bool) : metB ks.reverse ws.reverse = (sncB ks ws).reverse := by
  simp [sncB]
end MT
end
/-! WE -/
section
set_option linter.all false
set_option maxRecDepth 100000
set_option maxHeartbeats 4000000
/-! The truth of sayings in words. -/
namespace MU
open PySem MI MT

local macro_rules
  | `(tactic| array_mem_dec) => `(tactic| first
    | with_reducible refine wvar ?_
    | refine gt_go rfl ?_
    | with_reducible refine wcst ?_
    | with_reducible refine wset ?_
    | with_reducible refine wes1 ?_
    | with_reducible refine wes0 ?_
    | with_reducible refine wcall ?_
    | with_reducible refine wbin ?_
    | with_reducible refine wcmp ?_
    | with_reducible refine wix ?_
    | with_reducible refine wiff ?_
    | with_reducible refine o_bl ?_
    | with_reducible refine wret ?_
    | with_reducible refine wnot ?_
    | with_reducible refine wneg ?_
    | with_reducible refine wite ?_
    | with_reducible refine wand ?_
    | with_reducible refine wand1 ?_
    | with_reducible refine wor ?_
    | with_reducible refine wor1 ?_
    | with_reducible refine wtup ?_
    | with_reducible refine wlst ?_
    | with_reducible refine wbi ?_
    | with_reducible refine wisi ?_
    | with_reducible refine wsl ?_
    | with_reducible refine weo1 ?_
    | with_reducible refine weo0 ?_
    | with_reducible refine wrev ?_
    | with_reducible refine wcallk ?_
    | with_reducible refine wnil ?_
    | with_reducible refine k_nx ?_
    | with_reducible refine k_rt ?_
    | with_reducible refine k_bk ?_
    | with_reducible refine k_ct ?_
    | with_reducible refine l_nx ?_
    | with_reducible refine l_ct ?_
    | with_reducible refine l_bk ?_
    | with_reducible refine l_rt ?_
    | with_reducible refine o_add ?_
    | with_reducible refine o_sub ?_
    | with_reducible refine o_lt ?_
    | with_reducible refine o_le ?_
    | with_reducible refine o_gt ?_
    | with_reducible refine o_ge ?_
    | with_reducible refine o_eqs ?_
    | with_reducible refine o_eqb ?_
    | with_reducible refine o_neb ?_
    | refine Lk.mk rfl ?_
    | with_reducible refine o_eqi ?_
    | with_reducible refine o_nei ?_
    | with_reducible refine o_tl ?_
    | with_reducible refine o_iterl ?_
    | with_reducible refine o_itert ?_
    | with_reducible refine o_revl ?_
    | with_reducible refine o_revt ?_
    | with_reducible refine o_nes ?_
    | with_reducible refine o_isn ?_
    | with_reducible refine o_isnn ?_
    | with_reducible refine o_int ?_
    | with_reducible refine o_ix0 ?_
    | with_reducible refine o_ix1 ?_
    | with_reducible refine o_LT ?_
    | with_reducible refine o_nLT ?_
    | with_reducible refine o_lens ?_
    | with_reducible refine o_lent ?_
    | with_reducible refine o_lenl ?_
    | with_reducible refine o_lenr ?_
    | with_reducible refine o_tot ?_
    | with_reducible refine o_tott ?_
    | with_reducible refine o_lit ?_
    | with_reducible refine o_lil ?_
    | with_reducible refine o_all ?_
    | with_reducible refine o_any ?_
    | with_reducible refine o_sum ?_
    | with_reducible refine o_maxd ?_
    | with_reducible refine wval ?_
    | with_reducible refine wisc ?_
    | with_reducible refine wdgt ?_
    | with_reducible refine wmaxd ?_
    | with_reducible refine wlrg ?_
    | with_reducible refine wapp ?_
    | with_reducible refine wext ?_
    | with_reducible refine wpop ?_
    | with_reducible refine wfnv ?_
    | with_reducible refine wchain ?_
    | with_reducible refine wsset ?_
    | with_reducible refine wnls ?_
    | with_reducible refine wndc ?_
    | ((with_reducible refine newl_go ?_ ?_); · (simp only [List.length_cons, List.length_nil, lim]; omega))
    | with_reducible refine wec0 ?_
    | with_reducible refine wec1 ?_
    | with_reducible refine wival ?_
    | with_reducible refine wirg1 ?_
    | with_reducible refine wirg2 ?_
    | with_reducible refine wirg3 ?_
    | with_reducible refine wizip ?_
    | with_reducible refine wlc ?_
    | with_reducible refine wsetc ?_
    | with_reducible refine wsetd ?_
    | with_reducible refine wsett ?_
    | with_reducible refine wpar ?_
    | with_reducible refine waug ?_
    | with_reducible refine wseti ?_
    | with_reducible refine wex ?_
    | with_reducible refine wretn ?_
    | with_reducible refine wretc ?_
    | with_reducible refine wfor ?_
    | with_reducible refine wforF ?_
    | with_reducible refine wtg1 ?_
    | with_reducible refine wtg2 ?_
    | with_reducible refine wpas ?_
    | with_reducible refine wbrk ?_
    | with_reducible refine wcnt ?_
    | with_reducible refine wraise ?_
    | with_reducible refine wtry ?_
    | with_reducible refine wtbc ?_
    | with_reducible refine wtbk ?_
    | with_reducible refine wtbi ?_
    | ((with_reducible refine br_t ?_ ?_); · first | exact rfl | assumption | decide)
    | ((with_reducible refine br_f ?_ ?_); · first | exact rfl | assumption | decide)
    | ((with_reducible refine br_dt ?_ ?_); · assumption)
    | ((with_reducible refine br_df ?_ ?_); · assumption)
    | ((with_reducible refine o_tup ?_ ?_); · (simp only [List.length_cons, List.length_nil, lim]; omega))
    | ((with_reducible refine o_lst ?_ ?_); · (simp only [List.length_cons, List.length_nil, lim]; omega))
    | refine o_some rfl ?_)
variable {fns : Nat → Option Fn} {T : Iw} {k K n : Nat} {η : List C}
abbrev bls (l : List Bool) : List D := l.map .bl
/-- the truth of a saying, at each letter -/
def tr (l : List Nat) : Sy → List Bool
  | .yes => l.map fun _ => true
  | .is c => l.map fun x => decide ((⟨#[x]⟩ : Str) = c)
  | .not a => (tr l a).map (!·)
  | .two w a b => match w with
    | .and => (tr l a).zipWith (· && ·) (tr l b)
    | .or => (tr l a).zipWith (· || ·) (tr l b)
    | .unt => metB (tr l a) (tr l b)
    | .snc => sncB (tr l a) (tr l b)
theorem tr_len (l : List Nat) : ∀ s, (tr l s).length = l.length
  | .yes => by simp [tr]
  | .is c => by simp [tr]
  | .not a => by simp [tr, tr_len l a]
  | .two w a b => by
    have h1 := tr_len l a
    have h2 := tr_len l b
    cases w with
    | and => simp [tr, h1, h2]
    | or => simp [tr, h1, h2]
    | unt => simp only [tr]; rw [metB_len _ _ (by omega), h2]
    | snc => simp only [tr]; rw [snc_len _ _ (by omega), h2]
/-- the word and the saying turned round -/
theorem tr_rev (l : List Nat) : ∀ s, tr l.reverse s.sw = (tr l s).reverse
  | .yes => by simp [tr, Sy.sw]
  | .is c => by simp [tr, Sy.sw]
  | .not a => by simp [tr, Sy.sw, tr_rev l a]
  | .two w a b => by
    have h1 := tr_len l a
    have h2 := tr_len l b
    cases w with
    | and => simp only [tr, Sy.sw, tr_rev l a, tr_rev l b]; rw [List.reverse_zipWith (by omega)]
    | or => simp only [tr, Sy.sw, tr_rev l a, tr_rev l b]; rw [List.reverse_zipWith (by omega)]
    | unt => simp only [tr, Sy.sw, tr_rev l a, tr_rev l b]; rw [snc_rev]
    | snc => simp only [tr, Sy.sw, tr_rev l a, tr_rev l b]; rw [met_rev]
theorem zipD_map {α β : Type} (f : α → D) (g : β → D) : ∀ (l : List α) (m : List β), zipD (l.map f) (m.map g) = (l.zip m).map fun p => .tup [f p.1, g p.2]
  | [], _ => by simp [zipD]
  | _ :: _, [] => by simp [zipD]
  | a :: l, b :: m => by simp [zipD, zipD_map f g l m]
structure HY (fns : Nat → Option Fn) (T : Iw) : Prop extends HW fns T where
  met : fns T.met_behind = some (F_met_behind T)
  truths : fns T.truths = some (F_truths T)
  word_ : fns T.need_word = some (F_need_word T)
  truth : fns T.truth = some (F_truth T)
  turned : fns T.turned = some (F_turned T)
theorem y_met (H : HY fns T) {ks ws : List Bool} (h : ks.length = ws.length) (l : ws.length ≤ 1000) (hη : η.all (belowC η.length) = true) : callF fns (k + 1) T.met_behind [.lst (bls ks), .lst (bls ws)] η = .ok (.lst (bls (metB ks ws))) η := by
  refine of_w (wcallF H.met rfl rfl ?_)
  show W (evSs _ (B_met_behind T) _ _) _ _
  unfold B_met_behind
  (repeat array_mem_dec)
  rw [show zipD (bls ks).reverse (bls ws).reverse = ((ks.zip ws).reverse.map fun p => D.tup [.bl p.1, .bl p.2]) from by
    rw [← List.map_reverse, ← List.map_reverse, zipD_map, show ks.reverse.zip ws.reverse = (ks.zip ws).reverse from (List.reverse_zipWith (f := Prod.mk) h).symm]]
  refine w_for (fun r v g => ∃ r' acc c o4 o5, r = (r' : List (Bool × Bool)).map (fun p => D.tup [.bl p.1, .bl p.2]) ∧ v = [some (.lst (bls ks)), some (.lst (bls ws)), some (.cel η.length), some (.bl c), o4, o5] ∧ g = η ++ [.lst (bls acc)] ∧ back2 r' acc c = ((metB ks ws).reverse, comes ks ws) ∧ acc.length + r'.length ≤ 1000) ⟨_, [], false, none, none, rfl, rfl, rfl, back2_rev ks ws h, ?_⟩ ?_ ?_
  · simp; omega
  · rintro a r v g ⟨r', acc, c, o4, o5, e, rfl, rfl, e2, hl⟩
    cases r' with
    | nil => cases e
    | cons p r' =>
      cases e
      simp only [List.length_cons] at hl
      obtain ⟨p1, p2⟩ := p
      cases p1 <;> cases p2 <;> (repeat (first | with_reducible refine cel_own ?_ | with_reducible refine cel_app (by simp [lim]; omega) ?_ | array_mem_dec)) <;> exact ⟨r', acc ++ [c], _, _, _, rfl, rfl, by simp, by simpa [back2] using e2, by simp; omega⟩
  · rintro v g ⟨r', acc, c, o4, o5, e, rfl, rfl, e2, hl⟩
    cases r' with
    | cons p r' => cases e
    | nil =>
      simp only [back2, Prod.mk.injEq] at e2
      obtain ⟨rfl, -⟩ := e2
      (repeat (first | with_reducible refine cel_rev ?_ | array_mem_dec))
      refine f_cut rfl (by rw [← List.map_reverse]; simp only [MI.below]; exact below_bls _) hη ⟨?_, rfl⟩
      simp
theorem y_truths (H : HY fns T) (hη : η.all (belowC η.length) = true) {l : List Nat} (hl : l.length ≤ 1000) : ∀ {n : Nat} {s : Sy} {K : Nat}, s.lvs ≤ n → n + 1 ≤ K → callF fns K T.truths [.str (sq l), s.d] η = .ok (.lst (bls (tr l s))) η
  | 0, s, K, h, _ => absurd s.lvs_pos (by omega)
  | n + 1, s, K, h, hK => by
    obtain ⟨K, rfl⟩ : ∃ k, K = k + 1 + 1 := ⟨K - 2, by omega⟩
    refine of_w (wcallF H.truths rfl rfl ?_)
    show W (evSs _ (B_truths T) _ _) _ _
    unfold B_truths
    cases s with
    | yes =>
      simp only [Sy.d]
      (repeat (first | with_reducible refine o_iters ?_ | array_mem_dec))
      refine w_mapL (fun _ => .bl true) (by simp only [lim]; omega) (fun a ha => ?_) ?_
      · (repeat array_mem_dec); exact ⟨rfl, rfl⟩
      · (repeat array_mem_dec); exact f_rt rfl ⟨by simp [tr], rfl⟩
    | is c =>
      simp only [Sy.d]
      (repeat (first | with_reducible refine o_iters ?_ | array_mem_dec))
      refine w_mapL (fun x => .bl (decide ((⟨#[x]⟩ : Str) = c))) (by simp only [lim]; omega) (fun a ha => ?_) ?_
      · simp only [sg]; (repeat array_mem_dec); exact ⟨rfl, rfl⟩
      · (repeat array_mem_dec); exact f_rt rfl ⟨by simp [tr], rfl⟩
    | not a =>
      simp only [Sy.lvs] at h
      have ya := y_truths H hη hl (n := n) (s := a) (K := K + 1) (by omega) (by omega)
      simp only [Sy.d]
      (repeat (first | with_reducible refine w_ok ya ?_ | array_mem_dec))
      refine w_mapL (fun x => .bl (!x)) (by rw [tr_len]; simp only [lim]; omega) (fun a ha => ?_) ?_
      · (repeat array_mem_dec); exact ⟨rfl, rfl⟩
      · (repeat array_mem_dec); exact f_rt rfl ⟨by simp [tr], rfl⟩
    | two w a b =>
      simp only [Sy.lvs] at h
      have ya := y_truths H hη hl (n := n) (s := a) (K := K + 1) (by omega) (by omega)
      have yb := y_truths H hη hl (n := n) (s := b) (K := K + 1) (by omega) (by omega)
      have la := tr_len l a
      have lb := tr_len l b
      have z := zipD_map D.bl D.bl (tr l a) (tr l b)
      have zl : ((tr l a).zip (tr l b)).length ≤ lim := by rw [List.length_zip]; simp only [lim]; omega
      cases w with
      | and =>
        simp only [Sy.d, twS]
        (repeat (first | with_reducible refine w_ok ya ?_ | with_reducible refine w_ok yb ?_ | array_mem_dec))
        rw [z]
        refine w_map2L (fun p => .bl (p.1 && p.2)) zl (fun p hp => ?_) ?_
        · obtain ⟨p1, p2⟩ := p
          cases p1 <;> (repeat array_mem_dec) <;> exact ⟨rfl, rfl⟩
        · (repeat array_mem_dec); exact f_rt rfl ⟨by simp [tr, List.zip, List.map_zipWith], rfl⟩
      | or =>
        simp only [Sy.d, twS]
        (repeat (first | with_reducible refine w_ok ya ?_ | with_reducible refine w_ok yb ?_ | array_mem_dec))
        rw [z]
        refine w_map2L (fun p => .bl (p.1 || p.2)) zl (fun p hp => ?_) ?_
        · obtain ⟨p1, p2⟩ := p
          cases p1 <;> (repeat array_mem_dec) <;> exact ⟨rfl, rfl⟩
        · (repeat array_mem_dec); exact f_rt rfl ⟨by simp [tr, List.zip, List.map_zipWith], rfl⟩
      | unt =>
        have m := y_met (k := K) (η := η) H (ks := tr l a) (ws := tr l b) (by omega) (by omega) hη
        simp only [Sy.d, twS]
        (repeat (first | with_reducible refine w_ok ya ?_ | with_reducible refine w_ok yb ?_ | with_reducible refine w_ok m ?_ | array_mem_dec))
        exact f_rt rfl ⟨rfl, rfl⟩
      | snc =>
        have m := y_met (k := K) (η := η) H (ks := (tr l a).reverse) (ws := (tr l b).reverse) (by simp; omega) (by simp; omega) hη
        simp only [bls, List.map_reverse] at m
        simp only [Sy.d, twS]
        (repeat (first | with_reducible refine w_ok ya ?_ | with_reducible refine w_ok yb ?_ | with_reducible refine w_ok m ?_ | array_mem_dec))
        exact f_rt rfl ⟨by simp [tr, sncB], rfl⟩
/-! ### words -/
def Wd (l : List Nat) : Prop := (∀ x ∈ l, (⟨#[x]⟩ : Str) ∈ LETS) ∧ 1 ≤ l.length ∧ l.length ≤ 300
theorem y_word (H : HY fns T) {l : List Nat} (h : Wd l) : callF fns (k + 1) T.need_word [.str (sq l)] η = .ok .non η := by
  obtain ⟨h, l1, l2⟩ := h
  refine of_w (wcallF H.word_ rfl rfl ?_)
  show W (evSs _ (B_need_word T) _ _) _ _
  unfold B_need_word
  (repeat (first | with_reducible refine o_lenq ?_ | array_mem_dec))
  refine br_dt (by omega) ?_
  (repeat (first | with_reducible refine o_lenq ?_ | array_mem_dec))
  refine br_f (by simp; omega) ?_
  (repeat (first | with_reducible refine o_iters ?_ | array_mem_dec))
  refine w_mapL (fun x => .bl (!decide ((⟨#[x]⟩ : Str) ∈ LETS))) (by simp only [lim]; omega) (fun a ha => ?_) ?_
  · simp only [sg]; (repeat array_mem_dec); exact ⟨rfl, rfl⟩
  · (repeat array_mem_dec)
    refine br_f ?_ ?_
    · simp only [List.any_eq_false]
      intro x hx
      simp [h x hx]
    · (repeat array_mem_dec); exact f_nx rfl ⟨rfl, rfl⟩
/-- what is no word -/
inductive NoWd : D → Prop where
  | non : NoWd .non
  | lst (xs : List D) (h : datD (.lst xs) = true) : NoWd (.lst xs)
  | none : NoWd (.str (sq []))
  | long (l : List Nat) (h : 300 < l.length) (h2 : l.length ≤ 1000) (h3 : ∀ x ∈ l, x < 200) : NoWd (.str (sq l))
  | odd (l : List Nat) (h : ∃ x ∈ l, (⟨#[x]⟩ : Str) ∉ LETS) (h1 : 1 ≤ l.length) (h2 : l.length ≤ 300) (h3 : ∀ x ∈ l, x < 200) : NoWd (.str (sq l))
theorem y_noword (H : HY fns T) {d : D} {n : Nat} (h : NoWd d) (hd : dpD d ≤ n) (hw : wtD d ≤ lim) (hb : MI.below η.length d = true) (hη : η.all (belowC η.length) = true) (hK : n + 1 ≤ K) : callF fns (K + 1) T.need_word [d] η = .exc T.c_InvalidWord d η := by
  have dd : datD d = true := by
    cases h with
    | non => rfl
    | lst xs h => exact h
    | none => exact dat_sq (by simp)
    | long l h h2 h3 => exact dat_sq h3
    | odd l h h1 h2 h3 => exact dat_sq h3
  have a := u_anew (η := η) (K := K) H.anew n d dd hd hw hK
  refine of_wx (wcallF H.word_ rfl rfl ?_)
  show W (evSs _ (B_need_word T) _ _) _ _
  unfold B_need_word
  cases h with
  | non => (repeat (first | with_reducible refine w_ok a ?_ | array_mem_dec)); exact f_x hb rfl hη ⟨rfl, rfl, rfl⟩
  | lst xs h => (repeat (first | with_reducible refine w_ok a ?_ | array_mem_dec)); exact f_x hb rfl hη ⟨rfl, rfl, rfl⟩
  | none => (repeat (first | with_reducible refine w_ok a ?_ | with_reducible refine o_lenq ?_ | array_mem_dec)); exact f_x hb rfl hη ⟨rfl, rfl, rfl⟩
  | long l h h2 h3 =>
    (repeat (first | with_reducible refine w_ok a ?_ | with_reducible refine o_lenq ?_ | array_mem_dec))
    refine br_dt (by omega) ?_
    (repeat (first | with_reducible refine w_ok a ?_ | with_reducible refine o_lenq ?_ | array_mem_dec))
    refine br_t (by simp; omega) ?_
    (repeat (first | with_reducible refine w_ok a ?_ | with_reducible refine o_lenq ?_ | array_mem_dec))
    exact f_x hb rfl hη ⟨rfl, rfl, rfl⟩
  | odd l h h1 h2 h3 =>
    (repeat (first | with_reducible refine w_ok a ?_ | with_reducible refine o_lenq ?_ | array_mem_dec))
    refine br_dt (by omega) ?_
    (repeat (first | with_reducible refine w_ok a ?_ | with_reducible refine o_lenq ?_ | array_mem_dec))
    refine br_f (by simp; omega) ?_
    (repeat (first | with_reducible refine o_iters ?_ | array_mem_dec))
    refine w_mapL (fun x => .bl (!decide ((⟨#[x]⟩ : Str) ∈ LETS))) (by simp only [lim]; omega) (fun a ha => ?_) ?_
    · simp only [sg]; (repeat array_mem_dec); exact ⟨rfl, rfl⟩
    · (repeat array_mem_dec)
      refine br_t ?_ ?_
      · simp only [List.any_eq_true]
        obtain ⟨x, hx, q⟩ := h
        exact ⟨x, hx, by simp [q]⟩
      · (repeat (first | with_reducible refine w_ok a ?_ | array_mem_dec))
        exact f_x hb rfl hη ⟨rfl, rfl, rfl⟩
theorem y_truth (H : HY fns T) {l : List Nat} {s : Sy} {K : Nat} (h : Wd l) (ok : s.ok) (hl : s.lvs ≤ 12) (hw : s.wds ≤ 40) (hη : η.all (belowC η.length) = true) (hK : 18 ≤ K) : callF fns K T.truth [.str (sq l), s.d] η = .ok (.tup (bls (tr l s))) η := by
  obtain ⟨K, rfl⟩ : ∃ k, K = k + 1 + 1 := ⟨K - 2, by omega⟩
  have w := y_word (k := K) (η := η) H h
  have n := y_need (η := η) (K := K + 1) H.toHW ok hl hw (by omega)
  have t := y_truths H hη (l := l) (by have := h.2.2; omega) (n := 12) (s := s) (K := K + 1) hl (by omega)
  refine of_w (wcallF H.truth rfl rfl ?_)
  show W (evSs _ (B_truth T) _ _) _ _
  unfold B_truth
  (repeat (first | with_reducible refine w_ok w ?_ | with_reducible refine w_ok n ?_ | with_reducible refine w_ok t ?_ | array_mem_dec))
  exact f_rt rfl ⟨rfl, rfl⟩
theorem y_truth_w (H : HY fns T) {d e : D} {n K : Nat} (h : NoWd d) (hd : dpD d ≤ n) (hw : wtD d ≤ lim) (hb : MI.below η.length d = true) (hη : η.all (belowC η.length) = true) (hK : n + 1 ≤ K) : callF fns (K + 2) T.truth [d, e] η = .exc T.c_InvalidWord d η := by
  have w := y_noword H h hd hw hb hη hK
  refine of_wx (wcallF H.truth rfl rfl ?_)
  show W (evSs _ (B_truth T) _ _) _ _
  unfold B_truth
  (repeat (first | with_reducible refine w_exc w ?_ | array_mem_dec))
  exact f_x hb rfl hη ⟨rfl, rfl, rfl⟩
theorem y_truth_s (H : HY fns T) {l : List Nat} {d : D} {n K : Nat} (h : Wd l) (hs : callF fns (K + 1) T.need_saying [d] η = .exc T.c_InvalidSaying d η) (hb : MI.below η.length d = true) (hη : η.all (belowC η.length) = true) : callF fns (K + 2) T.truth [.str (sq l), d] η = .exc T.c_InvalidSaying d η := by
  have w := y_word (k := K) (η := η) H h
  refine of_wx (wcallF H.truth rfl rfl ?_)
  show W (evSs _ (B_truth T) _ _) _ _
  unfold B_truth
  (repeat (first | with_reducible refine w_ok w ?_ | with_reducible refine w_exc hs ?_ | array_mem_dec))
  exact f_x hb rfl hη ⟨rfl, rfl, rfl⟩
theorem Sy.sw_ok : ∀ {s : Sy}, s.ok → s.sw.ok ∧ s.sw.lvs = s.lvs ∧ s.sw.wds = s.wds
  | .yes, _ => ⟨trivial, rfl, rfl⟩
  | .is c, h => ⟨h, rfl, rfl⟩
  | .not a, h => by
    obtain ⟨h1, h2, h3⟩ := Sy.sw_ok (s := a) h
    exact ⟨h1, by simp [sw, lvs, h2], by simp [sw, wds, h3]⟩
  | .two w a b, h => by
    obtain ⟨h1, h2, h3⟩ := Sy.sw_ok (s := a) h.1
    obtain ⟨g1, g2, g3⟩ := Sy.sw_ok (s := b) h.2
    exact ⟨⟨h1, g1⟩, by simp [sw, lvs, h2, g2], by simp [sw, wds, h3, g3]⟩
theorem y_turned (H : HY fns T) {s : Sy} {K : Nat} (ok : s.ok) (hl : s.lvs ≤ 12) (hw : s.wds ≤ 40) (hK : 18 ≤ K) : callF fns K T.turned [s.d] η = .ok s.sw.d η := by
  obtain ⟨K, rfl⟩ : ∃ k, K = k + 1 := ⟨K - 1, by omega⟩
  have n := y_need (η := η) (K := K) H.toHW ok hl hw (by omega)
  have t := y_swap (η := η) (n := 12) (K := K) H.toHW hl (by omega)
  refine of_w (wcallF H.turned rfl rfl ?_)
  show W (evSs _ (B_turned T) _ _) _ _
  unfold B_turned
  (repeat (first | with_reducible refine w_ok n ?_ | with_reducible refine w_ok t ?_ | array_mem_dec))
  exact f_rt rfl ⟨rfl, rfl⟩
end MU
end
/-! UH0 -/
section
set_option linter.all false
set_option maxRecDepth 100000
set_option maxHeartbeats 4000000
/-! Bounds of data. -/
namespace MU
open PySem MI MT
/-- data of some depth and weight -/
def Dt (a b : Nat) (d : D) : Prop := datD d = true ∧ dpD d ≤ a ∧ wtD d ≤ b
def Dts (a b : Nat) (ds : List D) : Prop := datDs ds = true ∧ dpDs ds ≤ a ∧ wtDs ds ≤ b
theorem Dt.le {a b a' b' : Nat} {d : D} (h : Dt a b d) (l : a ≤ a') (m : b ≤ b') : Dt a' b' d := ⟨h.1, Nat.le_trans h.2.1 l, Nat.le_trans h.2.2 m⟩
theorem Dts.le {a b a' b' : Nat} {d : List D} (h : Dts a b d) (l : a ≤ a') (m : b ≤ b') : Dts a' b' d := ⟨h.1, Nat.le_trans h.2.1 l, Nat.le_trans h.2.2 m⟩
theorem dts_nil {a b : Nat} : Dts a b [] := ⟨rfl, Nat.zero_le _, Nat.zero_le _⟩
theorem Dts.cons {a b b' : Nat} {x : D} {xs : List D} (h : Dt a b x) (g : Dts a b' xs) : Dts a (b + 1 + b') (x :: xs) := by
  obtain ⟨h1, h2, h3⟩ := h
  obtain ⟨g1, g2, g3⟩ := g
  refine ⟨by simp only [datDs, h1, g1, Bool.and_self], by simp only [dpDs]; omega, by simp only [wtDs]; omega⟩
theorem Dts.inv {a b : Nat} {x : D} {xs : List D} (h : Dts a b (x :: xs)) : Dt a b x ∧ Dts a b xs := by
  obtain ⟨h1, h2, h3⟩ := h
  simp only [datDs, Bool.and_eq_true] at h1
  simp only [dpDs] at h2
  simp only [wtDs] at h3
  exact ⟨⟨h1.1, by omega, by omega⟩, ⟨h1.2, by omega, by omega⟩⟩
theorem wts_app : ∀ (xs ys : List D), wtDs (xs ++ ys) = wtDs xs + wtDs ys
  | [], ys => by simp [wtDs]
  | x :: xs, ys => by
    have := wts_app xs ys
    simp only [List.cons_append, wtDs]; omega
theorem dps_app : ∀ (xs ys : List D), dpDs (xs ++ ys) = max (dpDs xs) (dpDs ys)
  | [], ys => by simp [dpDs]
  | x :: xs, ys => by
    have := dps_app xs ys
    simp only [List.cons_append, dpDs]; omega
theorem dat_app : ∀ (xs ys : List D), datDs (xs ++ ys) = (datDs xs && datDs ys)
  | [], ys => by simp [datDs]
  | x :: xs, ys => by
    have := dat_app xs ys
    simp only [List.cons_append, datDs, this, Bool.and_assoc]
theorem Dts.app {a b b' : Nat} {xs ys : List D} (h : Dts a b xs) (g : Dts a b' ys) : Dts a (b + b') (xs ++ ys) := by
  obtain ⟨h1, h2, h3⟩ := h
  obtain ⟨g1, g2, g3⟩ := g
  exact ⟨by rw [dat_app, h1, g1]; rfl, by rw [dps_app]; omega, by rw [wts_app]; omega⟩
theorem Dts.split {a b : Nat} {xs ys : List D} (h : Dts a b (xs ++ ys)) : Dts a b xs ∧ Dts a b ys := by
  obtain ⟨h1, h2, h3⟩ := h
  rw [dat_app, Bool.and_eq_true] at h1
  rw [dps_app] at h2
  rw [wts_app] at h3
  exact ⟨⟨h1.1, by omega, by omega⟩, ⟨h1.2, by omega, by omega⟩⟩
theorem Dts.drop {a b : Nat} {xs : List D} (h : Dts a b xs) (n : Nat) : Dts a b (xs.drop n) := by
  rw [← List.take_append_drop n xs] at h
  exact h.split.2
theorem Dts.take {a b : Nat} {xs : List D} (h : Dts a b xs) (n : Nat) : Dts a b (xs.take n) := by
  rw [← List.take_append_drop n xs] at h
  exact h.split.1
theorem Dts.cut {a b : Nat} {xs : List D} (h : Dts a b xs) (lo hi : Option Int) : Dts a b (cutD xs lo hi) := (h.drop _).take _
theorem Dts.rev {a b : Nat} : ∀ {xs : List D}, Dts a b xs → Dts a b xs.reverse
  | [], h => h
  | x :: xs, h => by
    obtain ⟨h1, h2, h3⟩ := h
    simp only [datDs, Bool.and_eq_true] at h1
    simp only [dpDs] at h2
    simp only [wtDs] at h3
    have q := Dts.rev (a := a) (b := wtDs xs) (xs := xs) ⟨h1.2, by omega, Nat.le_refl _⟩
    have r : Dts a (wtD x + 1) [x] := ⟨by simp only [datDs, h1.1, Bool.and_self], by simp only [dpDs]; omega, by simp only [wtDs]; omega⟩
    have := q.app r
    rw [List.reverse_cons]
    exact this.le (Nat.le_refl _) (by omega)
theorem Dts.rep {a b : Nat} {xs : List D} (h : Dts a b xs) : ∀ n : Nat, Dts a (n * b) (List.replicate n xs).flatten
  | 0 => by simpa using dts_nil
  | n + 1 => by
    have := h.app (h.rep n)
    rw [List.replicate_succ, List.flatten_cons]
    exact this.le (Nat.le_refl _) (by rw [Nat.add_mul]; omega)
theorem Dts.tup {a b : Nat} {xs : List D} (h : Dts a b xs) : Dt (a + 1) b (.tup xs) := ⟨by simpa [datD] using h.1, by simp only [dpD]; have := h.2.1; omega, by simpa [wtD] using h.2.2⟩
theorem Dts.lst {a b : Nat} {xs : List D} (h : Dts a b xs) : Dt (a + 1) b (.lst xs) := ⟨by simpa [datD] using h.1, by simp only [dpD]; have := h.2.1; omega, by simpa [wtD] using h.2.2⟩
theorem Dt.items {a b : Nat} {xs : List D} (h : Dt (a + 1) b (.tup xs)) : Dts a b xs := ⟨by simpa [datD] using h.1, by have := h.2.1; simp only [dpD] at this; omega, by simpa [wtD] using h.2.2⟩
theorem Dts.mem {a b : Nat} {xs : List D} (h : Dts a b xs) {x : D} (m : x ∈ xs) : Dt a b x := ⟨dat_mem h.1 m, Nat.le_trans (dp_mem m) h.2.1, Nat.le_trans (wt_mem m) h.2.2⟩
theorem Dts.all {a b : Nat} : ∀ {xs : List D}, (∀ x ∈ xs, Dt a b x) → Dts a ((b + 1) * xs.length) xs
  | [], _ => dts_nil
  | x :: xs, h => by
    have := (h x List.mem_cons_self).1
    exact (Dts.cons (h x List.mem_cons_self) (Dts.all fun y hy => h y (List.mem_cons_of_mem _ hy))).le (Nat.le_refl _) (by simp only [List.length_cons, Nat.mul_add, Nat.mul_one]; omega)
theorem dt_non {a b : Nat} : Dt a b .non := ⟨rfl, Nat.zero_le _, Nat.zero_le _⟩
theorem dt_bl {a b : Nat} {x : Bool} : Dt a b (.bl x) := ⟨rfl, Nat.zero_le _, Nat.zero_le _⟩
theorem dt_int {a : Nat} {i : Int} (h : i.natAbs < 10 ^ 90) : Dt a 300 (.int i) := by
  refine ⟨by simpa [datD] using h, Nat.zero_le _, ?_⟩
  simp only [wtD]
  split
  · omega
  · rename_i z
    have z : i.natAbs ≠ 0 := by
      intro e
      have : i = 0 := by omega
      simp [this] at z
    have : i.natAbs < 2 ^ 299 := Nat.lt_of_lt_of_le h (by decide)
    have := (Nat.log2_lt z).mpr this
    omega
theorem wf_dt {n : Nat} {t : D} (h : Wf n t) : Dt (2 * n + 1) (6 * size n t) t := ⟨h.dat.1, h.dat.2.1, by have := h.dat.2.2; omega⟩
theorem repr_dt {η : List C} {a b : Nat} {d : D} (h : Dt a b d) (ha : a ≤ 60) (hb : b ≤ 65536) : ∃ s : Str, reprD η d = some (.str s) ∧ s.length ≤ lim := by
  have e := view_dat (η := η) h.1
  obtain ⟨s, hs⟩ := repr_dat (η := η) (d := d) (by rw [e]; exact h.1) (by rw [e]; have := h.2.1; omega) (by rw [e]; have := h.2.2; omega)
  refine ⟨s, hs, ?_⟩
  unfold reprD at hs
  cases q : py (view η d) with
  | none => rw [q] at hs; cases hs
  | some p =>
    rw [q] at hs
    simp only [Option.bind_some] at hs
    split at hs
    · rename_i c
      simp only [Bool.and_eq_true, decide_eq_true_eq] at c
      cases hs
      exact c.2
    · cases hs
theorem eq_self {η : List C} {a b : Nat} {d : D} (h : Dt a b d) (ha : a ≤ 60) : eqD η d d = some true := by
  have e := view_dat (η := η) h.1
  rw [eq_dat (by rw [e]; exact h.1) (by rw [e]; exact h.1) (by rw [e]; have := h.2.1; omega) (by rw [e]; have := h.2.1; omega), e, eqvD_refl _ h.1]
/-! ### branches -/
theorem if_rt {call : Nat → List D → M D} {c : E} {a b ss : Ss} {v : Ev} {η η1 η2 : List C} {d : D} (hc : evE call c v η = .ok (.bl true) η1) (ha : evSs call a v η1 = .ok (.rt d) η2) : evSs call (.cons (.iff c a b) ss) v η = .ok (.rt d) η2 := by
  simp only [evSs, evS, bind_def, hc, testD, pure_def, if_true, ha, thenF]
theorem if_no {call : Nat → List D → M D} {c : E} {a : Ss} {v : Ev} {η η1 : List C} (hc : evE call c v η = .ok (.bl false) η1) : evS call (.iff c a .nil) v η = .ok (.nx v) η1 := by
  simp only [evSs, evS, bind_def, hc, testD, pure_def, Bool.false_eq_true, if_false]
theorem dts_one {a b : Nat} {x : D} (h : Dt a b x) : Dts a (b + 1) [x] := Dts.cons (b' := 0) h dts_nil
end MU
end
/-! P12a -/
section
set_option linter.all false
set_option maxRecDepth 100000
set_option maxHeartbeats 4000000
/-! Truth in finite histories: what is drawn, the law's own truth. -/
namespace K12
open PySem MI MT MU

local macro_rules
  | `(tactic| array_mem_dec) => `(tactic| first
    | with_reducible refine wvar ?_
    | refine gt_go rfl ?_
    | with_reducible refine wcst ?_
    | with_reducible refine wset ?_
    | with_reducible refine wes1 ?_
    | with_reducible refine wes0 ?_
    | with_reducible refine wcall ?_
    | with_reducible refine wbin ?_
    | with_reducible refine wcmp ?_
    | with_reducible refine wix ?_
    | with_reducible refine wiff ?_
    | with_reducible refine o_bl ?_
    | with_reducible refine wret ?_
    | with_reducible refine wnot ?_
    | with_reducible refine wneg ?_
    | with_reducible refine wite ?_
    | with_reducible refine wand ?_
    | with_reducible refine wand1 ?_
    | with_reducible refine wor ?_
    | with_reducible refine wor1 ?_
    | with_reducible refine wtup ?_
    | with_reducible refine wlst ?_
    | with_reducible refine wbi ?_
    | with_reducible refine wisi ?_
    | with_reducible refine wsl ?_
    | with_reducible refine weo1 ?_
    | with_reducible refine weo0 ?_
    | with_reducible refine wrev ?_
    | with_reducible refine wcallk ?_
    | with_reducible refine wnil ?_
    | with_reducible refine k_nx ?_
    | with_reducible refine k_rt ?_
    | with_reducible refine k_bk ?_
    | with_reducible refine k_ct ?_
    | with_reducible refine l_nx ?_
    | with_reducible refine l_ct ?_
    | with_reducible refine l_bk ?_
    | with_reducible refine l_rt ?_
    | with_reducible refine o_add ?_
    | with_reducible refine o_sub ?_
    | with_reducible refine o_lt ?_
    | with_reducible refine o_le ?_
    | with_reducible refine o_gt ?_
    | with_reducible refine o_ge ?_
    | with_reducible refine o_eqs ?_
    | with_reducible refine o_eqb ?_
    | with_reducible refine o_neb ?_
    | refine Lk.mk rfl ?_
    | with_reducible refine o_eqi ?_
    | with_reducible refine o_nei ?_
    | with_reducible refine o_tl ?_
    | with_reducible refine o_iterl ?_
    | with_reducible refine o_itert ?_
    | with_reducible refine o_revl ?_
    | with_reducible refine o_revt ?_
    | with_reducible refine o_nes ?_
    | with_reducible refine o_isn ?_
    | with_reducible refine o_isnn ?_
    | with_reducible refine o_int ?_
    | with_reducible refine o_ix0 ?_
    | with_reducible refine o_ix1 ?_
    | with_reducible refine o_LT ?_
    | with_reducible refine o_nLT ?_
    | with_reducible refine o_lens ?_
    | with_reducible refine o_lent ?_
    | with_reducible refine o_lenl ?_
    | with_reducible refine o_lenr ?_
    | with_reducible refine o_tot ?_
    | with_reducible refine o_tott ?_
    | with_reducible refine o_lit ?_
    | with_reducible refine o_lil ?_
    | with_reducible refine o_all ?_
    | with_reducible refine o_any ?_
    | with_reducible refine o_sum ?_
    | with_reducible refine o_maxd ?_
    | with_reducible refine wval ?_
    | with_reducible refine wisc ?_
    | with_reducible refine wdgt ?_
    | with_reducible refine wmaxd ?_
    | with_reducible refine wlrg ?_
    | with_reducible refine wapp ?_
    | with_reducible refine wext ?_
    | with_reducible refine wpop ?_
    | with_reducible refine wfnv ?_
    | with_reducible refine wchain ?_
    | with_reducible refine wsset ?_
    | with_reducible refine wnls ?_
    | with_reducible refine wndc ?_
    | ((with_reducible refine newl_go ?_ ?_); · (simp only [List.length_cons, List.length_nil, lim]; omega))
    | with_reducible refine wec0 ?_
    | with_reducible refine wec1 ?_
    | with_reducible refine wival ?_
    | with_reducible refine wirg1 ?_
    | with_reducible refine wirg2 ?_
    | with_reducible refine wirg3 ?_
    | with_reducible refine wizip ?_
    | with_reducible refine wlc ?_
    | with_reducible refine wsetc ?_
    | with_reducible refine wsetd ?_
    | with_reducible refine wsett ?_
    | with_reducible refine wpar ?_
    | with_reducible refine waug ?_
    | with_reducible refine wseti ?_
    | with_reducible refine wex ?_
    | with_reducible refine wretn ?_
    | with_reducible refine wretc ?_
    | with_reducible refine wfor ?_
    | with_reducible refine wforF ?_
    | with_reducible refine wtg1 ?_
    | with_reducible refine wtg2 ?_
    | with_reducible refine wpas ?_
    | with_reducible refine wbrk ?_
    | with_reducible refine wcnt ?_
    | with_reducible refine wraise ?_
    | with_reducible refine wtry ?_
    | with_reducible refine wtbc ?_
    | with_reducible refine wtbk ?_
    | with_reducible refine wtbi ?_
    | ((with_reducible refine br_t ?_ ?_); · first | exact rfl | assumption | decide)
    | ((with_reducible refine br_f ?_ ?_); · first | exact rfl | assumption | decide)
    | ((with_reducible refine br_dt ?_ ?_); · assumption)
    | ((with_reducible refine br_df ?_ ?_); · assumption)
    | ((with_reducible refine o_tup ?_ ?_); · (simp only [List.length_cons, List.length_nil, lim]; omega))
    | ((with_reducible refine o_lst ?_ ?_); · (simp only [List.length_cons, List.length_nil, lim]; omega))
    | refine o_some rfl ?_)
abbrev ix : MU.Iw := { is_tuple := 0, is_word := 1, anew := 2, is_formed := 3, inner_sayings := 4, words_of := 5, levels_of := 6, swapped := 7, is_saying := 8, need_saying := 9, turned := 10, met_behind := 11, truths := 12, need_word := 13, truth := 14, law_well := 15, law_draw := 16, c_InvalidSaying := 1, c_InvalidWord := 2 }
theorem hD : HD fns ix.toIx := ⟨rfl, rfl⟩
theorem hY : HY fns ix := ⟨⟨rfl, rfl, rfl, rfl, rfl, rfl, rfl, rfl, rfl, rfl⟩, rfl, rfl, rfl, rfl, rfl⟩
variable {k K n w b : Nat} {η : List C} {X : Nat → D → List C → Prop} {Q : D → List C → Prop}
/-- a saying of so many words, levels -/
def Sm (m l : Nat) (s : Sy) : Prop := s.ok ∧ s.wds ≤ m ∧ s.lvs ≤ l
theorem w_lot0 (bd : Bd η w b) (hb : 2 ≤ b) (q : ∀ s η', Sm 1 1 s → Bd η' w (b - 2) → η'.length = η.length → Q s.d η') : W (callF fns (k + 2) 17 [.cel w, .int 0] η) Q X := by
  refine wcallD (np := 2) (ns := 3) (body := b_law_lot) rfl rfl ?_
  unfold b_law_lot
  (repeat array_mem_dec)
  refine w_drawn (T := ix.toIx) hD (m := 7) bd (by omega) (by decide) fun r η1 hr bd1 l1 => ?_
  (repeat array_mem_dec)
  refine w_drawn (T := ix.toIx) hD (m := 4) bd1 (by omega) (by decide) fun r η2 hr bd2 l2 => ?_
  refine o_pick (by simpa using hr) fun y hy => ?_
  have bd2 := bd2.le (b' := b - 2) (by omega)
  simp only [List.mem_cons, List.not_mem_nil, or_false] at hy
  have la : isLet "a" := by decide
  have lb : isLet "b" := by decide
  rcases hy with rfl | rfl | rfl | rfl <;> (repeat array_mem_dec) <;> refine f_rt (by omega) ?_
  · exact q .yes η2 ⟨trivial, by decide, by decide⟩ bd2 (by omega)
  · exact q (.is "a") η2 ⟨la, by decide, by decide⟩ bd2 (by omega)
  · exact q (.is "b") η2 ⟨lb, by decide, by decide⟩ bd2 (by omega)
  · exact q (.is "a") η2 ⟨la, by decide, by decide⟩ bd2 (by omega)
theorem w_lot1 (bd : Bd η w b) (hb : 5 ≤ b) (q : ∀ s η', Sm 3 2 s → Bd η' w (b - 5) → η'.length = η.length → Q s.d η') : W (callF fns (k + 3) 17 [.cel w, .int 1] η) Q X := by
  refine wcallD (np := 2) (ns := 3) (body := b_law_lot) rfl rfl ?_
  unfold b_law_lot
  (repeat array_mem_dec)
  refine w_drawn (T := ix.toIx) hD (m := 7) bd (by omega) (by decide) fun r η1 hr bd1 l1 => ?_
  (repeat array_mem_dec)
  refine br_d (fun h => ?_) fun h => ?_
  · (repeat array_mem_dec)
    refine w_drawn (T := ix.toIx) hD (m := 4) bd1 (by omega) (by decide) fun r η2 hr bd2 l2 => ?_
    refine o_pick (by simpa using hr) fun y hy => ?_
    have bd2 := bd2.le (b' := b - 5) (by omega)
    simp only [List.mem_cons, List.not_mem_nil, or_false] at hy
    have la : isLet "a" := by decide
    have lb : isLet "b" := by decide
    rcases hy with rfl | rfl | rfl | rfl <;> (repeat array_mem_dec) <;> refine f_rt (by omega) ?_
    · exact q .yes η2 ⟨trivial, by decide, by decide⟩ bd2 (by omega)
    · exact q (.is "a") η2 ⟨la, by decide, by decide⟩ bd2 (by omega)
    · exact q (.is "b") η2 ⟨lb, by decide, by decide⟩ bd2 (by omega)
    · exact q (.is "a") η2 ⟨la, by decide, by decide⟩ bd2 (by omega)
  · (repeat array_mem_dec)
    refine br_d (fun h => ?_) fun h => ?_
    · (repeat array_mem_dec)
      refine w_lot0 bd1 (by omega) fun s η2 sm bd2 l2 => ?_
      (repeat array_mem_dec)
      refine f_rt (by omega) (q (.not s) η2 ⟨sm.1, ?_, ?_⟩ (bd2.le (by omega)) (by omega))
      · simp only [Sy.wds]; have := sm.2.1; omega
      · simp only [Sy.lvs]; have := sm.2.2; omega
    · (repeat array_mem_dec)
      refine o_pickz (r - 5) (by omega) (by simp; omega) fun y hy => ?_
      simp only [List.mem_cons, List.not_mem_nil, or_false] at hy
      rcases hy with rfl | rfl
      · (repeat array_mem_dec)
        refine w_lot0 bd1 (by omega) fun s1 η2 sm1 bd2 l2 => ?_
        (repeat array_mem_dec)
        refine w_lot0 bd2 (by omega) fun s2 η3 sm2 bd3 l3 => ?_
        (repeat array_mem_dec)
        refine f_rt (by omega) (q (.two .and s1 s2) η3 ⟨⟨sm1.1, sm2.1⟩, ?_, ?_⟩ (bd3.le (by omega)) (by omega))
        · simp only [Sy.wds]; have := sm1.2.1; have := sm2.2.1; omega
        · simp only [Sy.lvs]; have := sm1.2.2; have := sm2.2.2; omega
      · (repeat array_mem_dec)
        refine w_lot0 bd1 (by omega) fun s1 η2 sm1 bd2 l2 => ?_
        (repeat array_mem_dec)
        refine w_lot0 bd2 (by omega) fun s2 η3 sm2 bd3 l3 => ?_
        (repeat array_mem_dec)
        refine f_rt (by omega) (q (.two .or s1 s2) η3 ⟨⟨sm1.1, sm2.1⟩, ?_, ?_⟩ (bd3.le (by omega)) (by omega))
        · simp only [Sy.wds]; have := sm1.2.1; have := sm2.2.1; omega
        · simp only [Sy.lvs]; have := sm1.2.2; have := sm2.2.2; omega
theorem Sm.le {m l m' l' : Nat} {s : Sy} (h : Sm m l s) (hm : m ≤ m') (hl : l ≤ l') : Sm m' l' s := ⟨h.1, Nat.le_trans h.2.1 hm, Nat.le_trans h.2.2 hl⟩
theorem Sm.two {m l m1 l1 m2 l2 : Nat} {w : Tw} {s t : Sy} (h : Sm m1 l1 s) (g : Sm m2 l2 t) (hm : m1 + m2 + 1 ≤ m) (hl : max l1 l2 + 1 ≤ l) : Sm m l (.two w s t) := by
  refine ⟨⟨h.1, g.1⟩, ?_, ?_⟩
  · simp only [Sy.wds]; have := h.2.1; have := g.2.1; omega
  · simp only [Sy.lvs]; have := h.2.2; have := g.2.2; omega
theorem Sm.not {m l m1 l1 : Nat} {s : Sy} (h : Sm m1 l1 s) (hm : m1 + 1 ≤ m) (hl : l1 + 1 ≤ l) : Sm m l (.not s) := by
  refine ⟨h.1, ?_, ?_⟩
  · simp only [Sy.wds]; have := h.2.1; omega
  · simp only [Sy.lvs]; have := h.2.2; omega
theorem w_asked : ∀ {n k w b : Nat} {m : Int} {η : List C} {Q : D → List C → Prop} {X : Nat → D → List C → Prop}, m = n + 1 → Bd η w b → 14 * (n + 1) ≤ b → (∀ s η', Sm (7 + 9 * n) (3 + 2 * n) s → Bd η' w (b - 14 * (n + 1)) → η'.length = η.length → Q s.d η') → W (callF fns (n + k + 4) 18 [.cel w, .int m] η) Q X := by
  intro n
  induction n with
  | zero =>
    intro k w b m η Q X e bd hb q
    rw [show 0 + k + 4 = k + 3 + 1 from by omega]
    refine wcallD (np := 2) (ns := 6) (body := b_law_asked) rfl rfl ?_
    unfold b_law_asked
    (repeat array_mem_dec)
    refine w_drawn (T := ix.toIx) hD (m := 2) bd (by omega) (by decide) fun r η1 hr bd1 l1 => ?_
    refine o_pick (by simpa using hr) fun y hy => ?_
    obtain ⟨tw, rfl⟩ : ∃ tw : Tw, y = .str (twS tw) := by
      simp only [List.mem_cons, List.not_mem_nil, or_false] at hy
      rcases hy with rfl | rfl
      · exact ⟨.unt, rfl⟩
      · exact ⟨.snc, rfl⟩
    (repeat array_mem_dec)
    refine w_lot1 bd1 (by omega) fun s1 η2 sm1 bd2 l2 => ?_
    (repeat array_mem_dec)
    refine w_lot1 bd2 (by omega) fun s2 η3 sm2 bd3 l3 => ?_
    (repeat array_mem_dec)
    refine br_df (by omega) ?_
    (repeat array_mem_dec)
    exact f_rt (by omega) (q (.two tw s1 s2) η3 (sm1.two sm2 (by omega) (by omega)) (bd3.le (by omega)) (by omega))
  | succ n ih =>
    intro k w b m η Q X e bd hb q
    rw [show n + 1 + k + 4 = n + k + 4 + 1 from by omega]
    refine wcallD (np := 2) (ns := 6) (body := b_law_asked) rfl rfl ?_
    unfold b_law_asked
    (repeat array_mem_dec)
    rw [show n + k + 4 = n + k + 1 + 3 from by omega]
    refine w_drawn (T := ix.toIx) hD (m := 2) bd (by omega) (by decide) fun r η1 hr bd1 l1 => ?_
    refine o_pick (by simpa using hr) fun y hy => ?_
    obtain ⟨tw, rfl⟩ : ∃ tw : Tw, y = .str (twS tw) := by
      simp only [List.mem_cons, List.not_mem_nil, or_false] at hy
      rcases hy with rfl | rfl
      · exact ⟨.unt, rfl⟩
      · exact ⟨.snc, rfl⟩
    (repeat array_mem_dec)
    refine w_lot1 bd1 (by omega) fun s1 η2 sm1 bd2 l2 => ?_
    (repeat array_mem_dec)
    refine w_lot1 bd2 (by omega) fun s2 η3 sm2 bd3 l3 => ?_
    (repeat array_mem_dec)
    refine br_dt (by omega) ?_
    (repeat array_mem_dec)
    refine w_drawn (T := ix.toIx) hD (m := 3) bd3 (by omega) (by decide) fun r η4 hr bd4 l4 => ?_
    (repeat array_mem_dec)
    refine br_i (fun hp => ?_) fun hp => ?_
    · (repeat array_mem_dec)
      rw [show n + k + 1 + 3 = n + k + 4 from by omega]
      refine ih (k := k) (m := m - 1) (by omega) bd4 (by omega) fun o η5 smo bd5 l5 => ?_
      rw [show n + k + 4 = n + k + 1 + 3 from by omega]
      (repeat array_mem_dec)
      refine w_drawn (T := ix.toIx) hD (m := 4) bd5 (by omega) (by decide) fun r η6 hr bd6 l6 => ?_
      (repeat array_mem_dec)
      refine br_d (fun h0 => ?_) fun h0 => ?_
      · (repeat array_mem_dec)
        exact f_rt (by omega) (q (.two tw o s2) η6 (smo.two sm2 (by omega) (by omega)) (bd6.le (by omega)) (by omega))
      · (repeat array_mem_dec)
        refine br_d (fun h1 => ?_) fun h1 => ?_
        · (repeat array_mem_dec)
          exact f_rt (by omega) (q (.two tw s1 (.two .and o s2)) η6 (sm1.two (smo.two sm2 (Nat.le_refl _) (Nat.le_refl _)) (by omega) (by omega)) (bd6.le (by omega)) (by omega))
        · (repeat array_mem_dec)
          refine o_pickz (r - 2) (by omega) (by simp; omega) fun y hy => ?_
          obtain ⟨ta, rfl⟩ : ∃ ta : Tw, y = .str (twS ta) := by
            simp only [List.mem_cons, List.not_mem_nil, or_false] at hy
            rcases hy with rfl | rfl
            · exact ⟨.and, rfl⟩
            · exact ⟨.or, rfl⟩
          (repeat array_mem_dec)
          refine w_drawn (T := ix.toIx) hD (m := 2) bd6 (by omega) (by decide) fun r η7 hr bd7 l7 => ?_
          (repeat array_mem_dec)
          refine br_d (fun h2 => ?_) fun h2 => ?_
          · (repeat array_mem_dec)
            exact f_rt (by omega) (q (.two ta (.two tw s1 s2) (.not o)) η7 ((sm1.two sm2 (Nat.le_refl _) (Nat.le_refl _)).two (smo.not (Nat.le_refl _) (Nat.le_refl _)) (by omega) (by omega)) (bd7.le (by omega)) (by omega))
          · (repeat array_mem_dec)
            exact f_rt (by omega) (q (.two ta (.two tw s1 s2) o) η7 ((sm1.two sm2 (Nat.le_refl _) (Nat.le_refl _)).two smo (by omega) (by omega)) (bd7.le (by omega)) (by omega))
    · (repeat array_mem_dec)
      exact f_rt (by omega) (q (.two tw s1 s2) η4 (sm1.two sm2 (by omega) (by omega)) (bd4.le (by omega)) (by omega))
/-! ### the law's own truth -/
/-- by places, one after another -/
def cmP (f w : Nat → Bool) : List Nat → Bool
  | [] => false
  | p :: ps => w p || (f p && cmP f w ps)
def gb (l : List Bool) (i : Nat) : Bool := l.getD i false
theorem bls_at {l : List Bool} {i : Nat} (h : i < l.length) : (bls l)[i]? = some (.bl (gb l i)) := by
  simp [bls, gb, h]
theorem cm_go {fs ws : List Bool} {ps : List Nat} (hf : ∀ p ∈ ps, p < fs.length ∧ p < ws.length) : callF fns (k + 1) 21 [.lst (bls fs), .lst (bls ws), .lst (ps.map fun (i : Nat) => .int (i : Int))] η = .ok (.bl (cmP (gb fs) (gb ws) ps)) η := by
  refine of_w (wcallD (np := 3) (ns := 4) (body := b_law_comes) rfl rfl ?_)
  unfold b_law_comes
  (repeat array_mem_dec)
  refine w_for (fun r v g => ∃ ps' o, r = (ps' : List Nat).map (fun (i : Nat) => D.int (i : Int)) ∧ v = [some (.lst (bls fs)), some (.lst (bls ws)), some (.lst (ps.map fun (i : Nat) => .int (i : Int))), o] ∧ g = η ∧ (∀ p ∈ ps', p ∈ ps) ∧ cmP (gb fs) (gb ws) ps' = cmP (gb fs) (gb ws) ps) ⟨ps, none, rfl, rfl, rfl, fun _ h => h, rfl⟩ ?_ ?_
  · rintro a r v g ⟨ps', o, e, rfl, rfl, hm, hc⟩
    cases ps' with
    | nil => cases e
    | cons p ps' =>
      cases e
      obtain ⟨h1, h2⟩ := hf p (hm p List.mem_cons_self)
      simp only [cmP] at hc
      (repeat (first | with_reducible refine o_ixl (bls_at h2) ?_ | with_reducible refine o_ixl (bls_at h1) ?_ | array_mem_dec))
      refine br_i (fun hp => ?_) fun hp => ?_
      · (repeat array_mem_dec); exact f_rt rfl ⟨by rw [← hc, hp]; rfl, rfl⟩
      · (repeat (first | with_reducible refine o_ixl (bls_at h1) ?_ | array_mem_dec))
        refine br_i (fun hq => ?_) fun hq => ?_
        · have hq : gb fs p = false := by simpa using hq
          (repeat array_mem_dec); exact f_rt rfl ⟨by rw [← hc, hp, hq]; rfl, rfl⟩
        · have hq : gb fs p = true := by simpa using hq
          (repeat array_mem_dec)
          exact ⟨ps', _, rfl, rfl, rfl, fun x hx => hm x (List.mem_cons_of_mem _ hx), by rw [← hc, hp, hq]; simp⟩
  · rintro v g ⟨ps', o, e, rfl, rfl, hm, hc⟩
    cases ps' with
    | cons p ps' => cases e
    | nil => (repeat array_mem_dec); exact f_rt rfl ⟨by rw [← hc]; rfl, rfl⟩
theorem cm_map : ∀ (f w : Nat → Bool) (ps : List Nat), cmP f w ps = comes (ps.map f) (ps.map w)
  | f, w, [] => rfl
  | f, w, p :: ps => by simp only [cmP, List.map_cons, comes, cm_map f w ps]
theorem gb_drop (l : List Bool) (j m : Nat) (h : j + m = l.length) : (List.range m).map (fun i => gb l (j + i)) = l.drop j := by
  refine List.ext_getElem? fun i => ?_
  by_cases hi : i < m
  · simp [hi, gb, h, show j + i < l.length from by omega]
  · simp [hi, show l.length ≤ j + i from by omega]
theorem gb_take (l : List Bool) (j : Nat) (h : j ≤ l.length) : (List.range j).map (fun i => gb l (j - 1 - i)) = (l.take j).reverse := by
  refine List.ext_getElem? fun i => ?_
  by_cases hi : i < j
  · rw [List.getElem?_reverse (by simp; omega)]
    simp [hi, gb, show j - 1 - i < l.length from by omega, List.getElem?_take, show min j l.length = j from by omega, show j - 1 - i < j from by omega]
  · rw [List.getElem?_eq_none (by simp; omega), List.getElem?_eq_none (by simp; omega)]
theorem tr_and {l : List Nat} {a b : Sy} {i : Nat} (h : i < l.length) : gb (tr l (.two .and a b)) i = (gb (tr l a) i && gb (tr l b) i) := by
  simp [tr, gb, tr_len, h]
theorem tr_or {l : List Nat} {a b : Sy} {i : Nat} (h : i < l.length) : gb (tr l (.two .or a b)) i = (gb (tr l a) i || gb (tr l b) i) := by
  simp [tr, gb, tr_len, h]
theorem tr_unt {l : List Nat} {a b : Sy} {i : Nat} (h : i < l.length) : gb (tr l (.two .unt a b)) i = cmP (gb (tr l a)) (gb (tr l b)) ((List.range (l.length - (i + 1))).map fun j => i + 1 + j) := by
  have la := tr_len l a
  have lb := tr_len l b
  rw [cm_map, List.map_map, List.map_map]
  simp only [Function.comp_def]
  rw [gb_drop _ _ _ (by omega), gb_drop _ _ _ (by omega)]
  simp only [gb, tr, List.getD_eq_getElem?_getD]
  rw [metB_at _ _ _ (by omega) (by omega)]
  rfl
theorem tr_snc {l : List Nat} {a b : Sy} {i : Nat} (h : i < l.length) : gb (tr l (.two .snc a b)) i = cmP (gb (tr l a)) (gb (tr l b)) ((List.range i).map fun j => i - 1 - j) := by
  have la := tr_len l a
  have lb := tr_len l b
  rw [cm_map, List.map_map, List.map_map]
  simp only [Function.comp_def]
  rw [gb_take _ _ (by omega), gb_take _ _ (by omega)]
  simp only [gb, tr, List.getD_eq_getElem?_getD]
  rw [snc_at _ _ _ (by omega) (by omega)]
  rfl
end K12
end
/-! P12b -/
section
set_option linter.all false
set_option maxRecDepth 100000
set_option maxHeartbeats 4000000
/-! Truth in finite histories: the law's own truth, walked. -/
namespace K12
open PySem MI MT MU

local macro_rules
  | `(tactic| array_mem_dec) => `(tactic| first
    | with_reducible refine wvar ?_
    | refine gt_go rfl ?_
    | with_reducible refine wcst ?_
    | with_reducible refine wset ?_
    | with_reducible refine wes1 ?_
    | with_reducible refine wes0 ?_
    | with_reducible refine wcall ?_
    | with_reducible refine wbin ?_
    | with_reducible refine wcmp ?_
    | with_reducible refine wix ?_
    | with_reducible refine wiff ?_
    | with_reducible refine o_bl ?_
    | with_reducible refine wret ?_
    | with_reducible refine wnot ?_
    | with_reducible refine wneg ?_
    | with_reducible refine wite ?_
    | with_reducible refine wand ?_
    | with_reducible refine wand1 ?_
    | with_reducible refine wor ?_
    | with_reducible refine wor1 ?_
    | with_reducible refine wtup ?_
    | with_reducible refine wlst ?_
    | with_reducible refine wbi ?_
    | with_reducible refine wisi ?_
    | with_reducible refine wsl ?_
    | with_reducible refine weo1 ?_
    | with_reducible refine weo0 ?_
    | with_reducible refine wrev ?_
    | with_reducible refine wcallk ?_
    | with_reducible refine wnil ?_
    | with_reducible refine k_nx ?_
    | with_reducible refine k_rt ?_
    | with_reducible refine k_bk ?_
    | with_reducible refine k_ct ?_
    | with_reducible refine l_nx ?_
    | with_reducible refine l_ct ?_
    | with_reducible refine l_bk ?_
    | with_reducible refine l_rt ?_
    | with_reducible refine o_add ?_
    | with_reducible refine o_sub ?_
    | with_reducible refine o_lt ?_
    | with_reducible refine o_le ?_
    | with_reducible refine o_gt ?_
    | with_reducible refine o_ge ?_
    | with_reducible refine o_eqs ?_
    | with_reducible refine o_eqb ?_
    | with_reducible refine o_neb ?_
    | refine Lk.mk rfl ?_
    | with_reducible refine o_eqi ?_
    | with_reducible refine o_nei ?_
    | with_reducible refine o_tl ?_
    | with_reducible refine o_iterl ?_
    | with_reducible refine o_itert ?_
    | with_reducible refine o_revl ?_
    | with_reducible refine o_revt ?_
    | with_reducible refine o_nes ?_
    | with_reducible refine o_isn ?_
    | with_reducible refine o_isnn ?_
    | with_reducible refine o_int ?_
    | with_reducible refine o_ix0 ?_
    | with_reducible refine o_ix1 ?_
    | with_reducible refine o_LT ?_
    | with_reducible refine o_nLT ?_
    | with_reducible refine o_lens ?_
    | with_reducible refine o_lent ?_
    | with_reducible refine o_lenl ?_
    | with_reducible refine o_lenr ?_
    | with_reducible refine o_tot ?_
    | with_reducible refine o_tott ?_
    | with_reducible refine o_lit ?_
    | with_reducible refine o_lil ?_
    | with_reducible refine o_all ?_
    | with_reducible refine o_any ?_
    | with_reducible refine o_sum ?_
    | with_reducible refine o_maxd ?_
    | with_reducible refine wval ?_
    | with_reducible refine wisc ?_
    | with_reducible refine wdgt ?_
    | with_reducible refine wmaxd ?_
    | with_reducible refine wlrg ?_
    | with_reducible refine wapp ?_
    | with_reducible refine wext ?_
    | with_reducible refine wpop ?_
    | with_reducible refine wfnv ?_
    | with_reducible refine wchain ?_
    | with_reducible refine wsset ?_
    | with_reducible refine wnls ?_
    | with_reducible refine wndc ?_
    | ((with_reducible refine newl_go ?_ ?_); · (simp only [List.length_cons, List.length_nil, lim]; omega))
    | with_reducible refine wec0 ?_
    | with_reducible refine wec1 ?_
    | with_reducible refine wival ?_
    | with_reducible refine wirg1 ?_
    | with_reducible refine wirg2 ?_
    | with_reducible refine wirg3 ?_
    | with_reducible refine wizip ?_
    | with_reducible refine wlc ?_
    | with_reducible refine wsetc ?_
    | with_reducible refine wsetd ?_
    | with_reducible refine wsett ?_
    | with_reducible refine wpar ?_
    | with_reducible refine waug ?_
    | with_reducible refine wseti ?_
    | with_reducible refine wex ?_
    | with_reducible refine wretn ?_
    | with_reducible refine wretc ?_
    | with_reducible refine wfor ?_
    | with_reducible refine wforF ?_
    | with_reducible refine wtg1 ?_
    | with_reducible refine wtg2 ?_
    | with_reducible refine wpas ?_
    | with_reducible refine wbrk ?_
    | with_reducible refine wcnt ?_
    | with_reducible refine wraise ?_
    | with_reducible refine wtry ?_
    | with_reducible refine wtbc ?_
    | with_reducible refine wtbk ?_
    | with_reducible refine wtbi ?_
    | ((with_reducible refine br_t ?_ ?_); · first | exact rfl | assumption | decide)
    | ((with_reducible refine br_f ?_ ?_); · first | exact rfl | assumption | decide)
    | ((with_reducible refine br_dt ?_ ?_); · assumption)
    | ((with_reducible refine br_df ?_ ?_); · assumption)
    | ((with_reducible refine o_tup ?_ ?_); · (simp only [List.length_cons, List.length_nil, lim]; omega))
    | ((with_reducible refine o_lst ?_ ?_); · (simp only [List.length_cons, List.length_nil, lim]; omega))
    | refine o_some rfl ?_)
variable {k K n w b : Nat} {η : List C} {X : Nat → D → List C → Prop} {Q : D → List C → Prop}
theorem take_gb {l : List Bool} {i : Nat} (h : i < l.length) : l.take (i + 1) = l.take i ++ [gb l i] := by
  rw [List.take_succ]
  simp [gb, h]
theorem lt_go (hη : η.all (belowC η.length) = true) {l : List Nat} (hl : l.length ≤ 1000) : ∀ {n : Nat} {s : Sy} {K : Nat}, s.lvs ≤ n → n + 1 ≤ K → callF fns K 20 [.str (sq l), s.d] η = .ok (.lst (bls (tr l s))) η
  | 0, s, K, h, _ => absurd s.lvs_pos (by omega)
  | n + 1, s, K, h, hK => by
    obtain ⟨K, rfl⟩ : ∃ k, K = k + 1 + 1 := ⟨K - 2, by omega⟩
    refine of_w (wcallD (np := 2) (ns := 9) (body := b_law_truth) rfl rfl ?_)
    unfold b_law_truth
    cases s with
    | yes =>
      simp only [Sy.d]
      (repeat (first | with_reducible refine o_iters ?_ | array_mem_dec))
      refine w_mapL (fun _ => .bl true) (by simp only [lim]; omega) (fun a ha => ?_) ?_
      · (repeat array_mem_dec); exact ⟨rfl, rfl⟩
      · (repeat array_mem_dec); exact f_rt rfl ⟨by simp [tr], rfl⟩
    | is c =>
      simp only [Sy.d]
      (repeat (first | with_reducible refine o_iters ?_ | array_mem_dec))
      refine w_mapL (fun x => .bl (decide ((⟨#[x]⟩ : Str) = c))) (by simp only [lim]; omega) (fun a ha => ?_) ?_
      · simp only [sg]; (repeat array_mem_dec); exact ⟨rfl, rfl⟩
      · (repeat array_mem_dec); exact f_rt rfl ⟨by simp [tr], rfl⟩
    | not a =>
      simp only [Sy.lvs] at h
      have ya := lt_go hη hl (n := n) (s := a) (K := K + 1) (by omega) (by omega)
      simp only [Sy.d]
      (repeat (first | with_reducible refine w_ok ya ?_ | array_mem_dec))
      refine w_mapL (fun x => .bl (!x)) (by rw [tr_len]; simp only [lim]; omega) (fun a ha => ?_) ?_
      · (repeat array_mem_dec); exact ⟨rfl, rfl⟩
      · (repeat array_mem_dec); exact f_rt rfl ⟨by simp [tr], rfl⟩
    | two w a b =>
      simp only [Sy.lvs] at h
      have ya := lt_go hη hl (n := n) (s := a) (K := K + 1) (by omega) (by omega)
      have yb := lt_go hη hl (n := n) (s := b) (K := K + 1) (by omega) (by omega)
      have la := tr_len l a
      have lb := tr_len l b
      have ls := tr_len l (.two w a b)
      cases w with
      | and =>
        simp only [Sy.d, twS]
        (repeat (first | with_reducible refine w_ok ya ?_ | with_reducible refine w_ok yb ?_ | with_reducible refine o_lenq ?_ | with_reducible refine o_rng1 (by omega) ?_ | array_mem_dec))
        refine w_forN (fun i v g => ∃ o7 o8, v = [some (.str (sq l)), some (.tup [.str "and", a.d, b.d]), none, some (.lst (bls (tr l a))), none, some (.lst (bls (tr l b))), some (.cel η.length), o7, o8] ∧ g = η ++ [.lst (bls ((tr l (.two .and a b)).take i))]) ⟨_, _, rfl, rfl⟩ ?_ ?_
        · rintro i v g hi ⟨o7, o8, rfl, rfl⟩
          have ia := bls_at (l := tr l a) (i := i) (by omega)
          have ib := bls_at (l := tr l b) (i := i) (by omega)
          have tk := take_gb (l := tr l (.two .and a b)) (i := i) (by omega)
          have ev := tr_and (l := l) (a := a) (b := b) hi
          (repeat (first | with_reducible refine o_ixl ia ?_ | with_reducible refine o_ixl ib ?_ | with_reducible refine cel_own ?_ | array_mem_dec))
          refine br_i (fun hp => ?_) fun hp => ?_ <;> (repeat (first | with_reducible refine o_ixl ia ?_ | with_reducible refine o_ixl ib ?_ | with_reducible refine cel_own ?_ | with_reducible refine cel_app (by simp [lim, ls]; omega) ?_ | array_mem_dec)) <;> exact ⟨_, _, rfl, by rw [tk, ev, hp]; simp⟩
        · rintro v g ⟨o7, o8, rfl, rfl⟩
          (repeat array_mem_dec)
          refine f_cel rfl (below_bls _) hη ⟨?_, rfl⟩
          rw [List.take_of_length_le (by omega)]
      | or =>
        simp only [Sy.d, twS]
        (repeat (first | with_reducible refine w_ok ya ?_ | with_reducible refine w_ok yb ?_ | with_reducible refine o_lenq ?_ | with_reducible refine o_rng1 (by omega) ?_ | array_mem_dec))
        refine w_forN (fun i v g => ∃ o7 o8, v = [some (.str (sq l)), some (.tup [.str "or", a.d, b.d]), none, some (.lst (bls (tr l a))), none, some (.lst (bls (tr l b))), some (.cel η.length), o7, o8] ∧ g = η ++ [.lst (bls ((tr l (.two .or a b)).take i))]) ⟨_, _, rfl, rfl⟩ ?_ ?_
        · rintro i v g hi ⟨o7, o8, rfl, rfl⟩
          have ia := bls_at (l := tr l a) (i := i) (by omega)
          have ib := bls_at (l := tr l b) (i := i) (by omega)
          have tk := take_gb (l := tr l (.two .or a b)) (i := i) (by omega)
          have ev := tr_or (l := l) (a := a) (b := b) hi
          (repeat (first | with_reducible refine o_ixl ia ?_ | with_reducible refine o_ixl ib ?_ | with_reducible refine cel_own ?_ | array_mem_dec))
          refine br_i (fun hp => ?_) fun hp => ?_ <;> (repeat (first | with_reducible refine o_ixl ia ?_ | with_reducible refine o_ixl ib ?_ | with_reducible refine cel_own ?_ | with_reducible refine cel_app (by simp [lim, ls]; omega) ?_ | array_mem_dec)) <;> exact ⟨_, _, rfl, by rw [tk, ev, hp]; simp⟩
        · rintro v g ⟨o7, o8, rfl, rfl⟩
          (repeat array_mem_dec)
          refine f_cel rfl (below_bls _) hη ⟨?_, rfl⟩
          rw [List.take_of_length_le (by omega)]
      | unt =>
        simp only [Sy.d, twS]
        (repeat (first | with_reducible refine w_ok ya ?_ | with_reducible refine w_ok yb ?_ | with_reducible refine o_lenq ?_ | with_reducible refine o_rng1 (by omega) ?_ | array_mem_dec))
        refine w_forN (fun i v g => ∃ o7 o8, v = [some (.str (sq l)), some (.tup [.str "until", a.d, b.d]), none, some (.lst (bls (tr l a))), none, some (.lst (bls (tr l b))), some (.cel η.length), o7, o8] ∧ g = η ++ [.lst (bls ((tr l (.two .unt a b)).take i))]) ⟨_, _, rfl, rfl⟩ ?_ ?_
        · rintro i v g hi ⟨o7, o8, rfl, rfl⟩
          have ia := bls_at (l := tr l a) (i := i) (by omega)
          have ib := bls_at (l := tr l b) (i := i) (by omega)
          have tk := take_gb (l := tr l (.two .unt a b)) (i := i) (by omega)
          have ev := tr_unt (l := l) (a := a) (b := b) hi
          (repeat (first | with_reducible refine o_lenq ?_ | with_reducible refine o_lrg2 (i + 1) l.length (by omega) rfl (by omega) ?_ | with_reducible refine cel_own ?_ | array_mem_dec))
          refine w_ok (cm_go (k := K) (by
            intro p hp
            simp only [List.mem_map, List.mem_range] at hp
            obtain ⟨j, hj, rfl⟩ := hp
            omega)) ?_
          (repeat (first | with_reducible refine cel_app (by simp [lim, ls]; omega) ?_ | array_mem_dec))
          exact ⟨_, _, rfl, by rw [tk, ev]; simp⟩
        · rintro v g ⟨o7, o8, rfl, rfl⟩
          (repeat array_mem_dec)
          refine f_cel rfl (below_bls _) hη ⟨?_, rfl⟩
          rw [List.take_of_length_le (by omega)]
      | snc =>
        simp only [Sy.d, twS]
        (repeat (first | with_reducible refine w_ok ya ?_ | with_reducible refine w_ok yb ?_ | with_reducible refine o_lenq ?_ | with_reducible refine o_rng1 (by omega) ?_ | array_mem_dec))
        refine w_forN (fun i v g => ∃ o7 o8, v = [some (.str (sq l)), some (.tup [.str "since", a.d, b.d]), none, some (.lst (bls (tr l a))), none, some (.lst (bls (tr l b))), some (.cel η.length), o7, o8] ∧ g = η ++ [.lst (bls ((tr l (.two .snc a b)).take i))]) ⟨_, _, rfl, rfl⟩ ?_ ?_
        · rintro i v g hi ⟨o7, o8, rfl, rfl⟩
          have ia := bls_at (l := tr l a) (i := i) (by omega)
          have ib := bls_at (l := tr l b) (i := i) (by omega)
          have tk := take_gb (l := tr l (.two .snc a b)) (i := i) (by omega)
          have ev := tr_snc (l := l) (a := a) (b := b) hi
          (repeat (first | with_reducible refine o_lenq ?_ | with_reducible refine o_lrg3 i rfl rfl rfl (by omega) ?_ | with_reducible refine cel_own ?_ | array_mem_dec))
          refine w_ok (cm_go (k := K) (by
            intro p hp
            simp only [List.mem_map, List.mem_range] at hp
            obtain ⟨j, hj, rfl⟩ := hp
            omega)) ?_
          (repeat (first | with_reducible refine cel_app (by simp [lim, ls]; omega) ?_ | array_mem_dec))
          exact ⟨_, _, rfl, by rw [tk, ev]; simp⟩
        · rintro v g ⟨o7, o8, rfl, rfl⟩
          (repeat array_mem_dec)
          refine f_cel rfl (below_bls _) hη ⟨?_, rfl⟩
          rw [List.take_of_length_le (by omega)]
end K12
end
/-! P12c -/
section
set_option linter.all false
set_option maxRecDepth 100000
set_option maxHeartbeats 4000000
/-! Truth in finite histories: the steps, what is refused. -/
namespace K12
open PySem MI MT MU

local macro_rules
  | `(tactic| array_mem_dec) => `(tactic| first
    | with_reducible refine wvar ?_
    | refine gt_go rfl ?_
    | with_reducible refine wcst ?_
    | with_reducible refine wset ?_
    | with_reducible refine wes1 ?_
    | with_reducible refine wes0 ?_
    | with_reducible refine wcall ?_
    | with_reducible refine wbin ?_
    | with_reducible refine wcmp ?_
    | with_reducible refine wix ?_
    | with_reducible refine wiff ?_
    | with_reducible refine o_bl ?_
    | with_reducible refine wret ?_
    | with_reducible refine wnot ?_
    | with_reducible refine wneg ?_
    | with_reducible refine wite ?_
    | with_reducible refine wand ?_
    | with_reducible refine wand1 ?_
    | with_reducible refine wor ?_
    | with_reducible refine wor1 ?_
    | with_reducible refine wtup ?_
    | with_reducible refine wlst ?_
    | with_reducible refine wbi ?_
    | with_reducible refine wisi ?_
    | with_reducible refine wsl ?_
    | with_reducible refine weo1 ?_
    | with_reducible refine weo0 ?_
    | with_reducible refine wrev ?_
    | with_reducible refine wcallk ?_
    | with_reducible refine wnil ?_
    | with_reducible refine k_nx ?_
    | with_reducible refine k_rt ?_
    | with_reducible refine k_bk ?_
    | with_reducible refine k_ct ?_
    | with_reducible refine l_nx ?_
    | with_reducible refine l_ct ?_
    | with_reducible refine l_bk ?_
    | with_reducible refine l_rt ?_
    | with_reducible refine o_add ?_
    | with_reducible refine o_sub ?_
    | with_reducible refine o_lt ?_
    | with_reducible refine o_le ?_
    | with_reducible refine o_gt ?_
    | with_reducible refine o_ge ?_
    | with_reducible refine o_eqs ?_
    | with_reducible refine o_eqb ?_
    | with_reducible refine o_neb ?_
    | refine Lk.mk rfl ?_
    | with_reducible refine o_eqi ?_
    | with_reducible refine o_nei ?_
    | with_reducible refine o_tl ?_
    | with_reducible refine o_iterl ?_
    | with_reducible refine o_itert ?_
    | with_reducible refine o_revl ?_
    | with_reducible refine o_revt ?_
    | with_reducible refine o_nes ?_
    | with_reducible refine o_isn ?_
    | with_reducible refine o_isnn ?_
    | with_reducible refine o_int ?_
    | with_reducible refine o_ix0 ?_
    | with_reducible refine o_ix1 ?_
    | with_reducible refine o_LT ?_
    | with_reducible refine o_nLT ?_
    | with_reducible refine o_lens ?_
    | with_reducible refine o_lent ?_
    | with_reducible refine o_lenl ?_
    | with_reducible refine o_lenr ?_
    | with_reducible refine o_tot ?_
    | with_reducible refine o_tott ?_
    | with_reducible refine o_lit ?_
    | with_reducible refine o_lil ?_
    | with_reducible refine o_all ?_
    | with_reducible refine o_any ?_
    | with_reducible refine o_sum ?_
    | with_reducible refine o_maxd ?_
    | with_reducible refine wval ?_
    | with_reducible refine wisc ?_
    | with_reducible refine wdgt ?_
    | with_reducible refine wmaxd ?_
    | with_reducible refine wlrg ?_
    | with_reducible refine wapp ?_
    | with_reducible refine wext ?_
    | with_reducible refine wpop ?_
    | with_reducible refine wfnv ?_
    | with_reducible refine wchain ?_
    | with_reducible refine wsset ?_
    | with_reducible refine wnls ?_
    | with_reducible refine wndc ?_
    | ((with_reducible refine newl_go ?_ ?_); · (simp only [List.length_cons, List.length_nil, lim]; omega))
    | with_reducible refine wec0 ?_
    | with_reducible refine wec1 ?_
    | with_reducible refine wival ?_
    | with_reducible refine wirg1 ?_
    | with_reducible refine wirg2 ?_
    | with_reducible refine wirg3 ?_
    | with_reducible refine wizip ?_
    | with_reducible refine wlc ?_
    | with_reducible refine wsetc ?_
    | with_reducible refine wsetd ?_
    | with_reducible refine wsett ?_
    | with_reducible refine wpar ?_
    | with_reducible refine waug ?_
    | with_reducible refine wseti ?_
    | with_reducible refine wex ?_
    | with_reducible refine wretn ?_
    | with_reducible refine wretc ?_
    | with_reducible refine wfor ?_
    | with_reducible refine wforF ?_
    | with_reducible refine wtg1 ?_
    | with_reducible refine wtg2 ?_
    | with_reducible refine wpas ?_
    | with_reducible refine wbrk ?_
    | with_reducible refine wcnt ?_
    | with_reducible refine wraise ?_
    | with_reducible refine wtry ?_
    | with_reducible refine wtbc ?_
    | with_reducible refine wtbk ?_
    | with_reducible refine wtbi ?_
    | ((with_reducible refine br_t ?_ ?_); · first | exact rfl | assumption | decide)
    | ((with_reducible refine br_f ?_ ?_); · first | exact rfl | assumption | decide)
    | ((with_reducible refine br_dt ?_ ?_); · assumption)
    | ((with_reducible refine br_df ?_ ?_); · assumption)
    | ((with_reducible refine o_tup ?_ ?_); · (simp only [List.length_cons, List.length_nil, lim]; omega))
    | ((with_reducible refine o_lst ?_ ?_); · (simp only [List.length_cons, List.length_nil, lim]; omega))
    | refine o_some rfl ?_)
variable {k K n w b : Nat} {η : List C} {X : Nat → D → List C → Prop} {Q : D → List C → Prop}
theorem tr_step {l : List Nat} {a b : Sy} {i : Nat} (h : i < l.length) : gb (tr l (.two .unt a b)) i = (decide (i + 1 < l.length) && (gb (tr l b) (i + 1) || (gb (tr l a) (i + 1) && gb (tr l (.two .unt a b)) (i + 1)))) := by
  have la := tr_len l a
  have lb := tr_len l b
  by_cases hi : i + 1 < l.length
  · rw [tr_unt h, tr_unt hi, decide_eq_true hi]
    obtain ⟨m, hm⟩ : ∃ m, l.length - (i + 1) = m + 1 := ⟨l.length - (i + 1) - 1, by omega⟩
    rw [hm, show l.length - (i + 1 + 1) = m from by omega, List.range_succ_eq_map]
    simp only [List.map_cons, cmP, List.map_map, Function.comp_def, Nat.add_zero, Bool.true_and]
    rw [show (fun x => i + 1 + (x + 1)) = fun j => i + 1 + 1 + j from by funext x; omega]
  · rw [tr_unt h, decide_eq_false hi, show l.length - (i + 1) = 0 from by omega]
    rfl
theorem steps_go {l : List Nat} {s1 s2 : Sy} (h : MU.Wd l) (g1 : Sm 3 2 s1) (g2 : Sm 7 3 s2) (hη : η.all (belowC η.length) = true) (hK : 19 ≤ K) : callF fns K 22 [.str (sq l), .tup [.str "until", s1.d, s2.d]] η = .ok (.bl true) η := by
  obtain ⟨K, rfl⟩ : ∃ k, K = k + 1 := ⟨K - 1, by omega⟩
  have gs : Sm 11 4 (.two .unt s1 s2) := g1.two g2 (by omega) (by omega)
  have t0 : callF fns K 14 [.str (sq l), .tup [.str "until", s1.d, s2.d]] η = _ := y_truth (T := ix) (K := K) (s := .two .unt s1 s2) hY h gs.1 (by have := gs.2.2; omega) (by have := gs.2.1; omega) hη (by omega)
  have t1 : callF fns K 14 [.str (sq l), s1.d] η = _ := y_truth (T := ix) (K := K) (s := s1) hY h g1.1 (by have := g1.2.2; omega) (by have := g1.2.1; omega) hη (by omega)
  have t2 : callF fns K 14 [.str (sq l), s2.d] η = _ := y_truth (T := ix) (K := K) (s := s2) hY h g2.1 (by have := g2.2.2; omega) (by have := g2.2.1; omega) hη (by omega)
  have e0 := tr_len l (.two .unt s1 s2)
  have e1 := tr_len l s1
  have e2 := tr_len l s2
  have l2 := h.2.2
  refine of_w (wcallD (np := 2) (ns := 7) (body := b_law_steps_right) rfl rfl ?_)
  unfold b_law_steps_right
  (repeat (first | with_reducible refine w_ok t0 ?_ | with_reducible refine w_ok t1 ?_ | with_reducible refine w_ok t2 ?_ | with_reducible refine o_lenq ?_ | with_reducible refine o_rng1 (by omega) ?_ | array_mem_dec))
  refine w_forN (fun i v g => ∃ o5 o6, v = [some (.str (sq l)), some (.tup [.str "until", s1.d, s2.d]), some (.tup (bls (tr l (.two .unt s1 s2)))), some (.tup (bls (tr l s1))), some (.tup (bls (tr l s2))), o5, o6] ∧ g = η) ⟨_, _, rfl, rfl⟩ ?_ ?_
  · rintro i v g hi ⟨o5, o6, rfl, rfl⟩
    have st := tr_step (l := l) (a := s1) (b := s2) hi
    have i0 := bls_at (l := tr l (.two .unt s1 s2)) (i := i) (by omega)
    refine wforF (wtg1 ?_)
    refine wmid (fun (d : D) => [some (.str (sq l)), some (.tup [.str "until", s1.d, s2.d]), some (.tup (bls (tr l (.two .unt s1 s2)))), some (.tup (bls (tr l s1))), some (.tup (bls (tr l s2))), some (.int i), some d]) (fun d h => d = .bl (gb (tr l (.two .unt s1 s2)) i) ∧ h = g) ?_ ?_
    · (repeat (first | with_reducible refine o_lenq ?_ | array_mem_dec))
      refine br_d (fun h1 => ?_) fun h1 => ?_
      · have j0 := bls_at (l := tr l (.two .unt s1 s2)) (i := i + 1) (by omega)
        have j1 := bls_at (l := tr l s1) (i := i + 1) (by omega)
        have j2 := bls_at (l := tr l s2) (i := i + 1) (by omega)
        rw [decide_eq_true (by omega)] at st
        (repeat (first | with_reducible refine o_ixtz j2 (by omega) ?_ | array_mem_dec))
        refine br_i (fun q2 => ?_) fun q2 => ?_
        · (repeat array_mem_dec)
          exact ⟨_, rfl, by rw [st, q2]; rfl, rfl⟩
        · (repeat (first | with_reducible refine o_ixtz j1 (by omega) ?_ | array_mem_dec))
          refine br_i (fun q1 => ?_) fun q1 => ?_
          · (repeat (first | with_reducible refine o_ixtz j0 (by omega) ?_ | array_mem_dec))
            exact ⟨_, rfl, by rw [st, q2, q1]; simp, rfl⟩
          · (repeat array_mem_dec)
            exact ⟨_, rfl, by rw [st, q2, q1]; rfl, rfl⟩
      · (repeat array_mem_dec)
        exact ⟨_, rfl, by rw [st, decide_eq_false (by omega)]; rfl, rfl⟩
    · rintro d h ⟨rfl, rfl⟩
      (repeat (first | with_reducible refine o_ixt i0 ?_ | array_mem_dec))
      refine br_f (by simp) ?_
      (repeat array_mem_dec)
      exact ⟨_, _, rfl, rfl⟩
  · rintro v g ⟨o5, o6, rfl, rfl⟩
    (repeat array_mem_dec)
    exact f_rt rfl ⟨rfl, rfl⟩
end K12
end
/-! P12d -/
section
set_option linter.all false
set_option maxRecDepth 100000
set_option maxHeartbeats 4000000
/-! Truth in finite histories: the law. -/
namespace K12
open PySem MI MT MU

local macro_rules
  | `(tactic| array_mem_dec) => `(tactic| first
    | with_reducible refine wvar ?_
    | refine gt_go rfl ?_
    | with_reducible refine wcst ?_
    | with_reducible refine wset ?_
    | with_reducible refine wes1 ?_
    | with_reducible refine wes0 ?_
    | with_reducible refine wcall ?_
    | with_reducible refine wbin ?_
    | with_reducible refine wcmp ?_
    | with_reducible refine wix ?_
    | with_reducible refine wiff ?_
    | with_reducible refine o_bl ?_
    | with_reducible refine wret ?_
    | with_reducible refine wnot ?_
    | with_reducible refine wneg ?_
    | with_reducible refine wite ?_
    | with_reducible refine wand ?_
    | with_reducible refine wand1 ?_
    | with_reducible refine wor ?_
    | with_reducible refine wor1 ?_
    | with_reducible refine wtup ?_
    | with_reducible refine wlst ?_
    | with_reducible refine wbi ?_
    | with_reducible refine wisi ?_
    | with_reducible refine wsl ?_
    | with_reducible refine weo1 ?_
    | with_reducible refine weo0 ?_
    | with_reducible refine wrev ?_
    | with_reducible refine wcallk ?_
    | with_reducible refine wnil ?_
    | with_reducible refine k_nx ?_
    | with_reducible refine k_rt ?_
    | with_reducible refine k_bk ?_
    | with_reducible refine k_ct ?_
    | with_reducible refine l_nx ?_
    | with_reducible refine l_ct ?_
    | with_reducible refine l_bk ?_
    | with_reducible refine l_rt ?_
    | with_reducible refine o_add ?_
    | with_reducible refine o_sub ?_
    | with_reducible refine o_lt ?_
    | with_reducible refine o_le ?_
    | with_reducible refine o_gt ?_
    | with_reducible refine o_ge ?_
    | with_reducible refine o_eqs ?_
    | with_reducible refine o_eqb ?_
    | with_reducible refine o_neb ?_
    | refine Lk.mk rfl ?_
    | with_reducible refine o_eqi ?_
    | with_reducible refine o_nei ?_
    | with_reducible refine o_tl ?_
    | with_reducible refine o_iterl ?_
    | with_reducible refine o_itert ?_
    | with_reducible refine o_revl ?_
    | with_reducible refine o_revt ?_
    | with_reducible refine o_nes ?_
    | with_reducible refine o_isn ?_
    | with_reducible refine o_isnn ?_
    | with_reducible refine o_int ?_
    | with_reducible refine o_ix0 ?_
    | with_reducible refine o_ix1 ?_
    | with_reducible refine o_LT ?_
    | with_reducible refine o_nLT ?_
    | with_reducible refine o_lens ?_
    | with_reducible refine o_lent ?_
    | with_reducible refine o_lenl ?_
    | with_reducible refine o_lenr ?_
    | with_reducible refine o_tot ?_
    | with_reducible refine o_tott ?_
    | with_reducible refine o_lit ?_
    | with_reducible refine o_lil ?_
    | with_reducible refine o_all ?_
    | with_reducible refine o_any ?_
    | with_reducible refine o_sum ?_
    | with_reducible refine o_maxd ?_
    | with_reducible refine wval ?_
    | with_reducible refine wisc ?_
    | with_reducible refine wdgt ?_
    | with_reducible refine wmaxd ?_
    | with_reducible refine wlrg ?_
    | with_reducible refine wapp ?_
    | with_reducible refine wext ?_
    | with_reducible refine wpop ?_
    | with_reducible refine wfnv ?_
    | with_reducible refine wchain ?_
    | with_reducible refine wsset ?_
    | with_reducible refine wnls ?_
    | with_reducible refine wndc ?_
    | ((with_reducible refine newl_go ?_ ?_); · (simp only [List.length_cons, List.length_nil, lim]; omega))
    | with_reducible refine wec0 ?_
    | with_reducible refine wec1 ?_
    | with_reducible refine wival ?_
    | with_reducible refine wirg1 ?_
    | with_reducible refine wirg2 ?_
    | with_reducible refine wirg3 ?_
    | with_reducible refine wizip ?_
    | with_reducible refine wlc ?_
    | with_reducible refine wsetc ?_
    | with_reducible refine wsetd ?_
    | with_reducible refine wsett ?_
    | with_reducible refine wpar ?_
    | with_reducible refine waug ?_
    | with_reducible refine wseti ?_
    | with_reducible refine wex ?_
    | with_reducible refine wretn ?_
    | with_reducible refine wretc ?_
    | with_reducible refine wfor ?_
    | with_reducible refine wforF ?_
    | with_reducible refine wtg1 ?_
    | with_reducible refine wtg2 ?_
    | with_reducible refine wpas ?_
    | with_reducible refine wbrk ?_
    | with_reducible refine wcnt ?_
    | with_reducible refine wraise ?_
    | with_reducible refine wtry ?_
    | with_reducible refine wtbc ?_
    | with_reducible refine wtbk ?_
    | with_reducible refine wtbi ?_
    | ((with_reducible refine br_t ?_ ?_); · first | exact rfl | assumption | decide)
    | ((with_reducible refine br_f ?_ ?_); · first | exact rfl | assumption | decide)
    | ((with_reducible refine br_dt ?_ ?_); · assumption)
    | ((with_reducible refine br_df ?_ ?_); · assumption)
    | ((with_reducible refine o_tup ?_ ?_); · (simp only [List.length_cons, List.length_nil, lim]; omega))
    | ((with_reducible refine o_lst ?_ ?_); · (simp only [List.length_cons, List.length_nil, lim]; omega))
    | refine o_some rfl ?_)
variable {k K n w b : Nat} {η : List C} {X : Nat → D → List C → Prop} {Q : D → List C → Prop}
theorem ref_go {c : Nat} {x y d : D} {s : Str} (hc : c = 1 ∨ c = 2) (h : callF fns K 14 [x, y] η = .exc c d η) (hr : reprD η d = some (.str s)) : callF fns (K + 1) 23 [x, y] η = .ok (.tup [.bl (c == 2), .bl (c == 1), .str s]) η := by
  refine of_w (wcallD (np := 2) (ns := 4) (body := b_law_refused) rfl rfl ?_)
  unfold b_law_refused
  rcases hc with rfl | rfl <;>
  · (repeat array_mem_dec)
    refine w_exc h ?_
    refine ⟨by decide, ?_⟩
    (repeat (first | with_reducible refine o_repr hr ?_ | array_mem_dec))
    exact f_rt rfl ⟨rfl, rfl⟩
theorem ne_dt {a b : Nat} {d : D} {P : Bool → Prop} (h : Dt a b d) (ha : a ≤ 60) (p : P false) : O (cmpD η .NotEq d d) P := o_ne (eq_self h ha) p
theorem bls_dt (l : List Bool) : Dt 1 (l.length) (.tup (bls l)) := by
  have h : datDs (bls l) = true ∧ dpDs (bls l) = 0 ∧ wtDs (bls l) = l.length := by
    induction l with
    | nil => exact ⟨rfl, rfl, rfl⟩
    | cons x xs ih =>
      obtain ⟨h1, h2, h3⟩ := ih
      simp only [bls] at h1 h2 h3
      refine ⟨by simp [bls, datDs, datD, h1], by simp [bls, dpDs, dpD, h2], by simp [bls, wtDs, wtD, h3]; omega⟩
  exact ⟨by simpa [datD] using h.1, by simp [dpD, h.2.1], by simp [wtD, h.2.2]⟩
theorem bad_ok {y : D} (h : y ∈ [D.non, .str "", .str "i", .str (repS "a" 301), .lst [.str "a"], .str "a b"]) : NoWd y ∧ dpD y ≤ 1 ∧ wtD y ≤ 400 ∧ datD y = true := by
  have nl : ∀ x ∈ ([105] : List Nat), x < 200 := by decide
  have e1 : (Str.ofString "") = sq [] := by decide
  have e2 : (Str.ofString "i") = sq [105] := by decide
  have e3 : repS (Str.ofString "a") 301 = sq (List.replicate 301 97) := by
    rw [show (Str.ofString "a") = sq [97] from by decide, rep_sq]
    congr 1
  have e4 : (Str.ofString "a b") = sq [97, 32, 98] := by decide
  simp only [List.mem_cons, List.not_mem_nil, or_false] at h
  rcases h with rfl | rfl | rfl | rfl | rfl | rfl
  · exact ⟨.non, by decide +kernel, by decide +kernel, rfl⟩
  · rw [e1]; exact ⟨.none, by decide +kernel, by decide +kernel, dat_sq (by simp)⟩
  · rw [e2]; exact ⟨.odd _ ⟨105, by decide, by decide⟩ (by decide) (by decide) (by decide), by decide +kernel, by decide +kernel, dat_sq (by decide)⟩
  · rw [e3]
    have q : ∀ x ∈ List.replicate 301 97, x < 200 := fun x hx => by rw [(List.mem_replicate.mp hx).2]; decide
    exact ⟨.long _ (by simp) (by simp) q, by simp [dpD], by rw [wt_sq]; simp, dat_sq q⟩
  · exact ⟨.lst _ (by decide +kernel), by decide +kernel, by decide +kernel, by decide +kernel⟩
  · rw [e4]; exact ⟨.odd _ ⟨32, by decide, by decide⟩ (by decide) (by decide) (by decide), by decide +kernel, by decide +kernel, dat_sq (by decide)⟩
theorem none_ok {y : D} (h : y ∈ [D.non, .tup [.str "is", .str "z"], .lst [.tup [.str "yes"]]]) : frmN 3 y = false ∧ dpD y ≤ 2 ∧ wtD y ≤ 400 ∧ datD y = true := by
  simp only [List.mem_cons, List.not_mem_nil, or_false] at h
  rcases h with rfl | rfl | rfl <;> exact ⟨by decide +kernel, by decide +kernel, by decide +kernel, by decide +kernel⟩
abbrev LV (zs : List Int) (i w x : D) (o4 o5 o6 o7 o8 o9 o10 : Option D) : Ev := [some (.scr (zs.map .int)), some i, some w, some x, o4, o5, o6, o7, o8, o9, o10]
theorem abc_ok : ∀ c ∈ (Str.ofString "abc").cps.toList, (⟨#[c]⟩ : Str) ∈ LETS := by decide
theorem flat1 (cs : List Nat) : (cs.map fun c => [c]).flatten = cs := by
  induction cs with
  | nil => rfl
  | cons c cs ih => simp [ih]
theorem rep_word {cs : List Nat} (h : ∀ x ∈ cs, (⟨#[x]⟩ : Str) ∈ LETS) (h1 : 1 ≤ cs.length) : MU.Wd ((List.replicate 300 cs).flatten.take 300) := by
  refine ⟨fun x hx => ?_, ?_, ?_⟩
  · have hx := List.mem_of_mem_take hx
    obtain ⟨y, hy, hx⟩ := List.mem_flatten.mp hx
    rw [(List.mem_replicate.mp hy).2] at hx
    exact h x hx
  · simp; omega
  · simp; omega
theorem plain_in : True := trivial
theorem plain (zs : List Int) (hz : zs.length ≤ 63) : callF fns 100 24 [.scr (zs.map .int)] [] = .ok (.bl true) [] := by
  refine of_w (wcallD (np := 1) (ns := 11) (body := b_law) rfl rfl ?_)
  unfold b_law
  (repeat array_mem_dec)
  refine o_rng1c (n := max 1 (min 4 zs.length)) ?_ (by omega) ?_
  · simp only [List.length_map]
    split <;> split <;> omega
  refine w_forN (fun i v g => ∃ o1 o2 o3 o4 o5 o6 o7 o8 o9 o10, v = [some (.scr (zs.map .int)), o1, o2, o3, o4, o5, o6, o7, o8, o9, o10] ∧ ∀ c ∈ g, ∃ a b s, c = wellC a b s) ⟨_, _, _, _, _, _, _, _, _, _, rfl, by simp⟩ ?_ ?_
  · rintro i v g hi ⟨o1, o2, o3, o4, o5, o6, o7, o8, o9, o10, rfl, hw⟩
    (repeat array_mem_dec)
    refine w_well (T := ix.toIx) hD hw fun g1 bd1 l1 hw1 => ?_
    (repeat array_mem_dec)
    rw [show Int.toNat 5 = 5 from rfl]
    refine w_forN (fun j v h => ∃ o3 o4 o5 o6 o7 o8 o9 o10, v = [some (.scr (zs.map .int)), some (.int i), some (.cel g.length), o3, o4, o5, o6, o7, o8, o9, o10] ∧ Bd h g.length (500 - j * 100) ∧ h.length = g.length + 1) ⟨_, _, _, _, _, _, _, _, rfl, bd1.le (by decide), l1⟩ ?_ ?_
    · rintro j v h hj ⟨o3, o4, o5, o6, o7, o8, o9, o10, rfl, bd, hl⟩
      (repeat array_mem_dec)
      refine w_drawn (T := ix.toIx) hD (m := 12) bd (by omega) (by decide) fun r η1 hr bd1 l1 => ?_
      (repeat array_mem_dec)
      refine o_rng1c (n := 1 + r) (by omega) (by omega) ?_
      refine w_fold (fun l acc g' => ∃ cs : List Nat, acc = cs.map sg ∧ cs.length + l.length = 1 + r ∧ (∀ c ∈ cs, (⟨#[c]⟩ : Str) ∈ LETS) ∧ Bd g' g.length (500 - j * 100 - 1 - cs.length) ∧ g'.length = g.length + 1) ⟨[], rfl, by simp, by simp, bd1.le (by simp), by omega⟩ ?_ ?_
      · rintro a l acc g' ⟨cs, rfl, hc, hcs, bd', hl'⟩
        simp only [List.length_cons] at hc
        refine wlcF ?_
        (repeat array_mem_dec)
        refine w_drawn (T := ix.toIx) hD (m := 3) bd' (by omega) (by decide) fun q η2 hq bd2 l2 => ?_
        refine o_pickst (show q < 3 from hq) fun c hcc => ?_
        refine ⟨by simp [lim]; omega, cs ++ [c], by simp [sg], by simp; omega, ?_, bd2.le (by simp; omega), by omega⟩
        intro x hx
        rcases List.mem_append.mp hx with hx | hx
        · exact hcs x hx
        · rw [List.mem_singleton.mp hx]; exact abc_ok c hcc
      · rintro acc g' ⟨cs, rfl, hc, hcs, bd', hl'⟩
        simp only [List.length_nil, Nat.add_zero] at hc
        rw [show cs.map sg = (cs.map fun c => [c]).map fun l => D.str (sq l) from by rw [List.map_map]; rfl]
        (repeat array_mem_dec)
        refine o_join (by rw [flat1]; simp only [lim]; omega) ?_
        rw [flat1]
        refine wmid (fun (l : List Nat) => LV zs (.int i) (.cel g.length) (.int j) (some (.str (sq l))) o5 o6 o7 o8 o9 o10) (fun l h => MU.Wd l ∧ Bd h g.length (500 - j * 100 - 20) ∧ h.length = g.length + 1) ?_ ?_
        · (repeat array_mem_dec)
          refine br_d (fun h4 => ?_) fun h4 => ?_
          · (repeat array_mem_dec)
            refine br_d (fun h0 => ?_) fun h0 => ?_
            · (repeat array_mem_dec)
              refine o_mulst (m := 300) ⟨by decide, by rw [sq_len]; simp only [lim]; omega⟩ ?_
              rw [rep_sq]
              (repeat (first | with_reducible refine o_slkz 300 rfl ?_ | array_mem_dec))
              exact ⟨_, rfl, rep_word hcs (by omega), bd'.le (by omega), hl'⟩
            · (repeat array_mem_dec)
              exact ⟨cs, rfl, ⟨hcs, by omega, by omega⟩, bd'.le (by omega), hl'⟩
          · (repeat array_mem_dec)
            exact ⟨cs, rfl, ⟨hcs, by omega, by omega⟩, bd'.le (by omega), hl'⟩
        · rintro l g2 ⟨hwd, bd2, l2⟩
          (repeat array_mem_dec)
          refine w_asked (n := 2) (k := 93) rfl bd2 (by omega) fun s η3 sm bd3 l3 => ?_
          have sl : s.lvs ≤ 7 := sm.2.2
          have sw : s.wds ≤ 25 := sm.2.1
          have ll := hwd.2.2
          have hη3 : η3.all (belowC η3.length) = true := bd3.below _
          have e1 : callF fns 99 20 [.str (sq l), s.d] η3 = _ := lt_go hη3 (by omega) (n := 7) sl (by omega)
          have e2 : callF fns 99 14 [.str (sq l), s.d] η3 = _ := y_truth (T := ix) hY hwd sm.1 (by omega) (by omega) hη3 (by omega)
          have td := bls_dt (tr l s)
          rw [tr_len] at td
          obtain ⟨sr, hsr, -⟩ := repr_dt (η := η3) (d := .lst [.tup (bls (tr l s)), .tup (bls (tr l s))]) (Dts.cons td (Dts.cons td (dts_nil (b := 0)))).lst (by omega) (by omega)
          (repeat (first | with_reducible refine w_ok e1 ?_ | with_reducible refine w_ok e2 ?_ | array_mem_dec))
          refine w_ok e2 ?_
          (repeat (first | with_reducible refine o_repr hsr ?_ | array_mem_dec))
          refine br_f (by simp) ?_
          have hwr : MU.Wd l.reverse := ⟨fun x hx => hwd.1 x (List.mem_reverse.mp hx), by rw [List.length_reverse]; exact hwd.2.1, by rw [List.length_reverse]; exact ll⟩
          obtain ⟨w1, w2, w3⟩ := Sy.sw_ok sm.1
          have e3 : callF fns 99 10 [s.d] η3 = _ := y_turned (T := ix) hY sm.1 (by omega) (by omega) (by omega)
          have e4 : callF fns 99 14 [.str (sq l.reverse), s.sw.d] η3 = .ok (.tup (bls (tr l s)).reverse) η3 := by
            have := y_truth (T := ix) (K := 99) (s := s.sw) hY hwr w1 (by omega) (by omega) hη3 (by omega)
            rw [tr_rev] at this
            rw [← List.map_reverse]
            exact this
          have tdr : Dt 1 l.length (.tup (bls (tr l s)).reverse) := td.items.rev.tup
          (repeat (first | with_reducible refine w_ok e3 ?_ | with_reducible refine w_ok e4 ?_ | with_reducible refine o_revs ?_ | with_reducible refine ne_dt tdr (by omega) ?_ | array_mem_dec))
          refine w_lot1 bd3 (by omega) fun s1 η4 sm1 bd4 l4 => ?_
          (repeat array_mem_dec)
          refine w_asked (n := 0) (k := 95) rfl bd4 (by omega) fun s2 η5 sm2 bd5 l5 => ?_
          have e5 : callF fns 99 22 [.str (sq l), .tup [.str "until", s1.d, s2.d]] η5 = _ := steps_go hwd sm1 sm2 (bd5.below _) (by omega)
          (repeat (first | with_reducible refine w_ok e5 ?_ | array_mem_dec))
          refine w_drawn (T := ix.toIx) hD (m := 6) bd5 (by omega) (by decide) fun r6 η6 hr6 bd6 l6 => ?_
          refine o_pick (show r6 < 6 from hr6) fun bad hbad => ?_
          obtain ⟨b1, b2, b3, b4⟩ := bad_ok hbad
          (repeat array_mem_dec)
          refine w_drawn (T := ix.toIx) hD (m := 3) bd6 (by omega) (by decide) fun r7 η7 hr7 bd7 l7 => ?_
          refine o_pick (show r7 < 3 from hr7) fun none hnone => ?_
          obtain ⟨c1, c2, c3, c4⟩ := none_ok hnone
          have hη7 : η7.all (belowC η7.length) = true := bd7.below _
          have b3' : wtD bad ≤ lim := by simp only [lim]; omega
          have c3' : wtD none ≤ lim := by simp only [lim]; omega
          have f1 : callF fns 98 14 [bad, none] η7 = .exc 2 bad η7 := y_truth_w (T := ix) (K := 96) (n := 1) hY b1 b2 b3' (dat_below _ _ b4) hη7 (by omega)
          have f0 : callF fns 96 8 [none] η7 = .ok (.bl false) η7 := y_unformed (T := ix) (n := 3) hY.toHW c4 (by omega) c1 (by omega)
          have f2 : callF fns 97 9 [none] η7 = .exc 1 none η7 := y_refuse (T := ix) (K := 96) (n := 2) hY.toHW f0 c4 c2 c3' (dat_below _ _ c4) hη7 (by omega)
          have f3 : callF fns 98 14 [.str (sq l), none] η7 = .exc 1 none η7 := y_truth_s (T := ix) (n := 0) (K := 96) hY hwd f2 (dat_below _ _ c4) hη7
          obtain ⟨t1, ht1, -⟩ := repr_dt (η := η7) (d := bad) (a := 1) (b := 400) ⟨b4, b2, b3⟩ (by omega) (by omega)
          obtain ⟨t2, ht2, -⟩ := repr_dt (η := η7) (d := none) (a := 2) (b := 400) ⟨c4, c2, c3⟩ (by omega) (by omega)
          have g1 : callF fns 99 23 [bad, none] η7 = .ok (.tup [.bl true, .bl false, .str t1]) η7 := ref_go (.inr rfl) f1 ht1
          have g2 : callF fns 99 23 [.str (sq l), none] η7 = .ok (.tup [.bl false, .bl true, .str t2]) η7 := ref_go (.inl rfl) f3 ht2
          have ok1 : PyData.strOk t1 = true := repr_low (by rw [view_dat b4]; exact b4) ht1
          have ok2 : PyData.strOk t2 = true := repr_low (by rw [view_dat c4]; exact c4) ht2
          have d1 : Dt 1 (wtD (.tup [.bl true, .bl false, .str t1])) (.tup [.bl true, .bl false, .str t1]) := ⟨by simp [datD, datDs, ok1], by simp [dpD, dpDs], Nat.le_refl _⟩
          have d2 : Dt 1 (wtD (.tup [.bl false, .bl true, .str t2])) (.tup [.bl false, .bl true, .str t2]) := ⟨by simp [datD, datDs, ok2], by simp [dpD, dpDs], Nat.le_refl _⟩
          (repeat (first | with_reducible refine w_ok g1 ?_ | with_reducible refine o_repr ht1 ?_ | with_reducible refine ne_dt d1 (by omega) ?_ | array_mem_dec))
          (repeat (first | with_reducible refine w_ok g2 ?_ | with_reducible refine o_repr ht2 ?_ | with_reducible refine ne_dt d2 (by omega) ?_ | array_mem_dec))
          exact ⟨_, _, _, _, _, _, _, _, rfl, bd7.le (by omega), by omega⟩
    · rintro v h ⟨o3, o4, o5, o6, o7, o8, o9, o10, rfl, bd, hl⟩
      (repeat array_mem_dec)
      exact ⟨_, _, _, _, _, _, _, _, _, _, rfl, bd.choose_spec.1.wells⟩
  · rintro v g ⟨o1, o2, o3, o4, o5, o6, o7, o8, o9, o10, rfl, hw⟩
    (repeat array_mem_dec)
    exact f_cut (η := []) (e := g) rfl rfl rfl ⟨rfl, rfl⟩
end K12
end
/-! MIv -/
section
set_option linter.all false
set_option maxRecDepth 100000
set_option maxHeartbeats 8000000
/-! The head: what the top has left, as a table of MI. -/
namespace MI
open PySem PySem.Spec L2 PyProof.Rows
/-! ### constants of the module -/
mutual
def repB (K : PySem.W.Frag) : D → Value → Bool
  | .non, .none => true
  | .bl a, .bool b => a == b
  | .int i, .int j _ => decide (i = j)
  | .str x, .str y _ => decide (x = y) && decide (x.length ≤ 1000000)
  | .tup ds, .ref a => match K.lookup a with
    | some ⟨.type c, _, .seq its _, _⟩ => decide (c = "tuple") && decide (its.size ≤ 1000000) && repsB K ds its.toList
    | _ => false
  | .scr ds, .ref a => match K.lookup a with
    | some ⟨.type c, none, .seq its _, _⟩ => decide (c = "list") && decide (its.size ≤ 1000000) && repsB K ds its.toList
    | _ => false
  | _, _ => false
def repsB (K : PySem.W.Frag) : List D → List Value → Bool
  | [], [] => true
  | d :: ds, u :: us => repB K d u && repsB K ds us
  | _, _ => false
end
mutual
theorem repB_ok {K : PySem.W.Frag} : ∀ (d : D) (u : Value), repB K d u = true → ∃ v, RelV v u ∧ ∀ (W : Wd) (ρ : List Addr) (H : Hp), W.K = K → Rep W ρ H d v
  | .non, u, h => by
    cases u <;> simp only [repB, Bool.false_eq_true] at h
    exact ⟨.non, rfl, fun _ _ _ _ => rfl⟩
  | .bl a, u, h => by
    cases u <;> simp only [repB, Bool.false_eq_true] at h
    rename_i b
    have e : a = b := by simpa using h
    subst e
    exact ⟨.bl a, rfl, fun _ _ _ _ => rfl⟩
  | .int i, u, h => by
    cases u <;> simp only [repB, Bool.false_eq_true] at h
    rename_i j t
    have e : i = j := by simpa using h
    subst e
    exact ⟨.int i, ⟨t, rfl⟩, fun _ _ _ _ => rfl⟩
  | .str x, u, h => by
    cases u <;> simp only [repB, Bool.false_eq_true, Bool.and_eq_true, decide_eq_true_eq] at h
    rename_i y t
    obtain ⟨e, hl⟩ := h
    subst e
    exact ⟨.str x, ⟨t, rfl⟩, fun _ _ _ _ => ⟨rfl, by rw [sizeLine_eq]; omega⟩⟩
  | .tup ds, u, h => by
    cases u <;> simp only [repB, Bool.false_eq_true] at h
    rename_i a
    split at h
    · rename_i c od its n sl e
      simp only [Bool.and_eq_true, decide_eq_true_eq] at h
      obtain ⟨⟨h1, h2⟩, h3⟩ := h
      subst h1
      obtain ⟨vs, hv, hr, hl⟩ := repsB_ok ds its.toList h3
      refine ⟨.ref a, rfl, fun W ρ H hK => ⟨a, vs, rfl, .inr ⟨_, its, n, by rw [hK]; exact e, rfl, rfl, by rw [sizeLine_eq]; omega, hv⟩, ?_, hr W ρ H hK⟩⟩
      rw [hl, Array.length_toList, sizeLine_eq]
      omega
    · cases h
  | .scr ds, u, h => by
    cases u <;> simp only [repB, Bool.false_eq_true] at h
    rename_i a
    split at h
    · rename_i c its n sl e
      simp only [Bool.and_eq_true, decide_eq_true_eq] at h
      obtain ⟨⟨h1, h2⟩, h3⟩ := h
      subst h1
      obtain ⟨vs, hv, hr, hl⟩ := repsB_ok ds its.toList h3
      refine ⟨.ref a, rfl, fun W ρ H hK => ⟨a, vs, rfl, .inr ⟨_, its, n, by rw [hK]; exact e, rfl, rfl, rfl, by rw [sizeLine_eq]; omega, hv⟩, ?_, hr W ρ H hK⟩⟩
      rw [hl, Array.length_toList, sizeLine_eq]
      omega
    · cases h
  | .lst _, u, h => by cases u <;> simp [repB] at h
  | .dct _, u, h => by cases u <;> simp [repB] at h
  | .cel _, u, h => by cases u <;> simp [repB] at h
  | .fn _, u, h => by cases u <;> simp [repB] at h
  | .err _ _, u, h => by cases u <;> simp [repB] at h
theorem repsB_ok {K : PySem.W.Frag} : ∀ (ds : List D) (us : List Value), repsB K ds us = true → ∃ vs, Vals vs us ∧ (∀ (W : Wd) (ρ : List Addr) (H : Hp), W.K = K → Reps W ρ H ds vs) ∧ ds.length = us.length
  | [], [], _ => ⟨[], .nil, fun _ _ _ _ => rfl, rfl⟩
  | d :: ds, u :: us, h => by
    simp only [repsB, Bool.and_eq_true] at h
    obtain ⟨v, h1, h2⟩ := repB_ok d u h.1
    obtain ⟨vs, g1, g2, g3⟩ := repsB_ok ds us h.2
    exact ⟨v :: vs, .cons h1 g1, fun W ρ H hK => ⟨v, vs, rfl, h2 W ρ H hK, g2 W ρ H hK⟩, by simp [g3]⟩
  | [], _ :: _, h => by simp [repsB] at h
  | _ :: _, [], h => by simp [repsB] at h
end
def globB (K : PySem.W.Frag) (p : Str × D) : Bool := match PySem.W.nsIn K mainGlobals p.1 with
  | some (some u) => repB K p.2 u
  | _ => false
/-! ### errors -/
/-- what the text tells of the class that stands above all errors, and of its __init__ -/
structure EDesc where
  y0 : Str
  file : Str
  name : Str
  qual : Str
  params : Arguments
  body : List Stmt
  scope : Scope
abbrev InW1 : Type := Option (Str × Str × Arguments × FuncBody × Scope × Addr × Addr)
def inA (K : PySem.W.Frag) (y : Str) : Addr := He.ma K (He.ga K y) "__init__"
def initW (K : PySem.W.Frag) (y : Str) : InW1 := match K.lookup (inA K y) with
  | some ⟨_, _, .func fd, _⟩ => some (fd.name, fd.qualname, fd.params, fd.body, fd.scope, fd.globals, fd.builtins)
  | _ => none
def EDesc.val (e : EDesc) : InW1 := some (e.name, e.qual, e.params, .stmts e.body, e.scope, mainGlobals, builtinsNs)
def codeFile (K : PySem.W.Frag) (file : Str) (a : Addr) : Bool := match K.lookup a with
  | some ⟨_, _, .fields vs, _⟩ => (match (vs[2]? : Option Value) with
    | some (.str f _) => decide (file = f)
    | _ => false)
  | _ => false
def cellTo (K : PySem.W.Frag) (a D : Addr) : Bool := match K.lookup a with
  | some ⟨_, _, .cell (some (.ref z)), _⟩ => decide (z = D)
  | _ => false
def initB (e : EDesc) (K : PySem.W.Frag) : Bool := match K.lookup (inA K e.y0) with
  | some ⟨_, _, .func fd, _⟩ => (match fd.defaults, fd.kwdefaults, fd.annotations, fd.code, fd.closure with
    | .none, .none, none, .ref cda, [(x, cc)] => decide (x = "__class__") && PySem.W.codeIn K (.ref cda) e.qual && codeFile K e.file cda && cellTo K cc (He.ga K e.y0)
    | _, _, _, _, _ => false)
  | _ => false
def oexB (K : PySem.W.Frag) (C : Addr) : Bool := match K.lookup C with
  | some ⟨.type "type", _, .cls cd, sl⟩ => (match cd.mro, sl.toList with
    | .ref C' :: bm, [_, _, _, _, some (.builtin n), _] => C' == C && n == "ValueError.__new__" && !cd.hasDel && cd.hasDict && PySem.HandSPX.refsVE bm
    | _, _ => false)
  | _ => false
/-- one class -/
def clsB1 (K : PySem.W.Frag) (y0 y : Str) : Bool :=
  oexB K (He.ga K y) && decide (PySem.W.findIn K (.ref (He.ga K y)) "__setattr__" = some (some (.builtin "object.__setattr__"))) && decide (PySem.W.typeIn K (.ref (He.ga K y)) = some (.type "type")) && PySem.W.keepIn K (.ref (He.ga K y)) && L2.xfB K (He.ga K y) &&
  decide (PySem.W.findIn K (.ref (He.ga K y)) "__init__" = some (some (.ref (inA K y0)))) && decide (PySem.W.findIn K (.ref (He.ga K y)) "value" = some none) && (PySem.W.clsIn K (He.ga K y)).isSome &&
  decide (PySem.W.findIn K (.ref (He.ga K y)) "__class__" = some (some (.builtin "object.__class__"))) && decide (PySem.W.specialIn K (.builtin "object.__class__") "__get__" = some (some (.builtin "getset_descriptor.__get__"))) && decide (PySem.W.takesIn K (.builtin "object.__class__") = some true) &&
  decide (PySem.W.mroIn K (He.ga K y) (.type "object") = some true) && decide (PySem.W.kitOne K (.type "NoneType") (.ref (He.ga K y)) = some false) && decide (PySem.W.mroIn K (He.ga K y) (.ref (He.ga K y0)) = some true) &&
  decide (PySem.W.subIn K (.ref (He.ga K y)) (.type "ValueError") = some true) && decide (PySem.W.ks_superIn K (He.ga K y) (He.ga K y0) "__init__" = some (some (.builtin "ValueError.__init__")))
def pairB (K : PySem.W.Frag) (p q : Str × Nat) : Bool := decide (PySem.W.kitOne K (.ref (He.ga K p.1)) (.ref (He.ga K q.1)) = some (subC p.2 q.2)) && (!(q.2 == 0) || decide (PySem.W.exmOne K (.ref (He.ga K p.1)) (.ref (He.ga K q.1)) = some true))
def errB (e : EDesc) (cls : List (Str × Nat)) (K : PySem.W.Frag) : Bool :=
  initB e K && decide (PySem.W.typeIn K (.ref (inA K e.y0)) = some (.type "function")) && (PySem.W.clsIn K (He.ga K e.y0)).isSome && decide (PySem.W.nsIn K cStatics "thirdparty.any" = some none) && decide (PySem.W.nsIn K mainGlobals "super" = some none) &&
  cls.all (fun p => clsB1 K e.y0 p.1) && cls.all (fun p => cls.all (pairB K p))
/-! ### the hook -/
abbrev AlM : Type := (Bool × Bool × InW1) × He.AlD
def obsM (e : EDesc) (cls : List (Str × Nat)) (gl : List (Str × D)) (fa : List He.Fa) (fn : List He.DefD) (K : PySem.W.Frag) : AlM := ((gl.all (globB K), errB e cls K, initW K e.y0), He.obsD fa fn K)
def valM (e : EDesc) (fn : List He.DefD) : AlM := ((true, true, e.val), He.valD fn)
def SaysM (e : EDesc) (cls : List (Str × Nat)) (gl : List (Str × D)) (fa : List He.Fa) (fn : List He.DefD) (K : PySem.W.Frag) : Prop := obsM e cls gl fa fn K = valM e fn
/-- what the names reach, and the world of classes -/
def asM (g : Addr → Option Obj) : Nat → List Addr
  | 0 => [mainGlobals, cStatics]
  | n + 1 => He.growD g (asM g n)
def obsMG (n : Nat) (e : EDesc) (cls : List (Str × Nat)) (gl : List (Str × D)) (fa : List He.Fa) (fn : List He.DefD) (g : Addr → Option Obj) : AlM := obsM e cls gl fa fn (He.frG g (asM g n))
def hookM (n : Nat) (e : EDesc) (cls : List (Str × Nat)) (gl : List (Str × D)) (fa : List He.Fa) (fn : List He.DefD) : PySem.W.Hook where
  α := AlM
  obs := fun s => obsMG n e cls gl fa fn s.heap.get?
  val := fun _ => valM e fn
  says := fun _ h => ∃ K : PySem.W.Frag, K.In h ∧ SaysM e cls gl fa fn K
  of := fun _ _ e => ⟨_, He.frG_in, e⟩
  keeps := fun _ _ _ ⟨K, hK, c⟩ k => ⟨K, PySem.W.Frag.In.keeps hK k, c⟩
theorem obsMG_eq {n : Nat} {e : EDesc} {cls : List (Str × Nat)} {gl : List (Str × D)} {fa : List He.Fa} {fn : List He.DefD} {g : Addr → Option Obj} {s : Shared} (h : ∀ a, g a = s.heap.get? a) : obsMG n e cls gl fa fn g = (hookM n e cls gl fa fn).obs s := by
  have e : g = s.heap.get? := funext h
  rw [e]
  rfl
/-- what the law's text tells of a def -/
structure Inf (T : Tab) (fx : Nat → Option Fn) (fn : List He.DefD) (p : Str × Nat × Nat) : Prop where
  ex : ∃ (fi : Fn) (ps N : List Str) (d : He.DefD), fx p.2.1 = some fi ∧ fn[p.2.1]? = some d ∧ d.at_ = (p.1, none) ∧ d.dfl = [] ∧ d.kwd = [] ∧ ps.length = p.2.2 ∧ FnScope N ps d.scope ∧ fi.np = ps.length ∧ fi.ns = N.length ∧ okSs fi.body ⟨T, N, d.scope, fun _ => true⟩ d.body = true ∧
    (∀ (kV doc pm : Value) (an : Option Addr) (cdv ct : Value), BindF (PySem.W.fnOf d.name d.qual d.params d.body d.scope .none kV doc pm an cdv ct) ps ps.length [] (List.range ps.length) ∧
      ∀ ks kp, (p.2.1, ks, kp) ∈ T.kw → BindF (PySem.W.fnOf d.name d.qual d.params d.body d.scope .none kV doc pm an cdv ct) ps 0 ks kp)
/-- what the text tells of the __init__ -/
structure EInf (e : EDesc) (P : Program) : Prop where
  hd : ∃ ar : Arg, (e.params.posonlyargs ++ e.params.args).head? = some ar ∧ ar.arg = "self"
  S : NdefX.NScope ME.iNames ["self", "value"] ["__class__"] e.scope
  ks : e.scope.names.lookup ("super" : Str) = some .globalImplicit
  T : ME.InitT e.body
  bd : ∀ (cl : List (Str × Addr)) (doc pm cdv ct : Value) (us : List Value), us.length = 2 → bindArgs (PySem.W.fnX e.name e.qual e.params e.body e.scope cl .none .none doc pm none cdv ct) ⟨us, []⟩ = pure ((["self", "value"] : List Str).zip us)
  file : ((P.main.file : Str) == e.file) = true
  top : (P.main.scope.names.lookup ("super" : Str)).isSome = false
theorem oexB_ok {K : PySem.W.Frag} {C : Addr} (h : oexB K C = true) : ∃ nm q N bs bm sn sub ab col dd k0 k1 k2 k3 k5, K.lookup C = some (excClassObj nm q C N bs bm true sn sub ab col dd k0 k1 k2 k3 k5 "ValueError.__new__") ∧ PySem.HandSPX.refsVE bm = true := by
  unfold oexB at h
  split at h
  · rename_i dd cd sl ho
    split at h
    · rename_i C' bm k0 k1 k2 k3 n k5 hm hs
      simp only [Bool.and_eq_true, beq_iff_eq, Bool.not_eq_true'] at h
      obtain ⟨⟨⟨⟨rfl, rfl⟩, hdel⟩, hdct⟩, hv⟩ := h
      obtain ⟨nm, bs, mro, ns, qn, hd, sn, sb, ab, col, del⟩ := cd
      simp only at hm hdel hdct
      subst hm hdel hdct
      have e : sl = #[k0, k1, k2, k3, some (.builtin "ValueError.__new__"), k5] := by
        have := congrArg List.toArray hs
        simpa using this
      subst e
      exact ⟨nm, qn, ns, bs, bm, sn, sb, ab, col, dd, k0, k1, k2, k3, k5, ho, hv⟩
    · cases h
  · cases h
/-- the classes of errors stand as they must -/
theorem err_ok {e : EDesc} {cls : List (Str × Nat)} {K : PySem.W.Frag} {h : Heap} {mg : Str → Option Value} {P : Program} {w : World} {base : Heap} {W : Wd} (X : K.In h) (G : h.Ns mainGlobals mg) (hB : errB e cls K = true) (hW : initW K e.y0 = e.val) (EI : EInf e P)
    (hglo : ∀ p ∈ cls, mg p.1 = some (.ref (He.ga K p.1))) (hca : ∀ p ∈ cls, ME.ca W p.2 = He.ga K p.1) : ME.ErrOk cls W (L2.CX P w) P w K mg base := by
  unfold errB at hB
  simp only [Bool.and_eq_true, List.all_eq_true, decide_eq_true_eq] at hB
  obtain ⟨⟨⟨⟨⟨⟨b1, b2⟩, b3⟩, b4⟩, b5⟩, b6⟩, b7⟩ := hB
  obtain ⟨ar, ar1, ar2⟩ := EI.hd
  have hi : ∃ fd, ME.InitOk P w K mg base (L2.CX P w) (inA K e.y0) (He.ga K e.y0) fd := by
    unfold initB at b1
    unfold initW EDesc.val at hW
    split at b1
    · rename_i oc od fd osl ho
      rw [ho] at hW
      split at b1
      · rename_i cda x cc q1 q2 q3 q4 q5
        simp only [Bool.and_eq_true, decide_eq_true_eq] at b1
        obtain ⟨⟨⟨rfl, c2⟩, c3⟩, c4⟩ := b1
        obtain ⟨n1, n2, n3, n4, n5, n6, n7, n8, n9, n10, n11, n12, n13, n14, n15⟩ := fd
        simp only at q1 q2 q3 q4 q5 hW
        simp only [Option.some.injEq, Prod.mk.injEq] at hW
        obtain ⟨h1, h2, h3, h4, h5, h6, h7⟩ := hW
        subst q1 q2 q3 q4 q5 h1 h2 h3 h4 h5 h6 h7
        refine ⟨_, b2, ME.init_fn ho c2 (ar := ar) ?_ ar2 EI.S EI.ks (PySem.W.mg_none_of X G b5) EI.T, .all fun us hl => EI.bd _ _ _ _ _ us hl⟩
        refine ⟨⟨_, _, _, ho⟩, ar1, ?_, ?_, ?_, EI.top, b4⟩
        · unfold codeFile at c3
          split at c3
          · rename_i ccl cdd vs ccs hcode
            split at c3
            · rename_i f tf hvs
              have c3 : e.file = f := of_decide_eq_true c3
              subst c3
              exact ⟨_, _, vs, _, _, tf, hcode, hvs, EI.file⟩
            · cases c3
          · cases c3
        · unfold cellTo at c4
          split at c4
          · rename_i cl cld z csl hcell
            have c4 : z = He.ga K e.y0 := of_decide_eq_true c4
            subst c4
            exact ⟨_, _, _, hcell⟩
          · cases c4
        · exact Option.isSome_iff_exists.mp b3
      · cases b1
    · cases b1
  obtain ⟨fd, IO⟩ := hi
  refine ⟨⟨_, _, fd, IO, fun p hp => ?_⟩, fun p hp => by rw [hca p hp]; exact hglo p hp, fun p hp q hq => ?_, fun p hp q hq n => ?_⟩
  · rw [hca p hp]
    have c := b6 p hp
    unfold clsB1 at c
    simp only [Bool.and_eq_true, decide_eq_true_eq] at c
    obtain ⟨⟨⟨⟨⟨⟨⟨⟨⟨⟨⟨⟨⟨⟨⟨c1, c2⟩, c3⟩, c4⟩, c5⟩, c6⟩, c7⟩, c8⟩, c9⟩, c10⟩, c11⟩, c12⟩, c13⟩, c14⟩, c15⟩, c16⟩ := c
    have xf := L2.xfB_ok c5
    exact ⟨⟨⟨oexB_ok c1, c2, xf.exC, c3, c4⟩, c14, c15, c16, Option.isSome_iff_exists.mp c8⟩, c6, c7, xf, c8, c9, c10, c11, c12, c13⟩
  · rw [hca p hp, hca q hq]
    have c := b7 p hp q hq
    unfold pairB at c
    simp only [Bool.and_eq_true, decide_eq_true_eq] at c
    exact c.1
  · rw [hca p hp, hca q hq]
    have c := b7 p hp q hq
    unfold pairB at c
    simp only [Bool.and_eq_true, decide_eq_true_eq, Bool.or_eq_true, Bool.not_eq_true', n] at c
    simpa using c.2
def wdFn (K : PySem.W.Frag) (T : Tab) (f : Nat) : Addr := if f < clsB then He.ga K (((T.fns.find? fun p => p.2.1 == f).map (·.1)).getD ⟨#[]⟩) else He.ga K (((T.cls.find? fun p => clsB + p.2 == f).map (·.1)).getD ⟨#[]⟩)
/-- the names of the table's defs are told once -/
def Once (T : Tab) : Prop := (∀ p ∈ T.fns, p.2.1 < clsB ∧ T.fns.find? (fun q => q.2.1 == p.2.1) = some p) ∧ ∀ p ∈ T.cls, T.cls.find? (fun q => clsB + q.2 == clsB + p.2) = some p
abbrev fasM (T : Tab) : List He.Fa := T.fns.map (fun p => .glo p.1) ++ T.bn.map .free ++ T.cls.map (fun p => .glo p.1)
theorem tab_ok {T : Tab} {e : EDesc} {P : Program} {w : World} {fx : Nat → Option Fn} {fn : List He.DefD} {K : PySem.W.Frag} {h : Heap} {mg : Str → Option Value} (X : K.In h) (G : h.Ns mainGlobals mg) (c : SaysM e T.cls T.glob (fasM T) fn K) (once : Once T) (inf : ∀ p ∈ T.fns, Inf T fx fn p) (EI : EInf e P) :
    TabOk T ⟨K, wdFn K T, []⟩ fx mg ∧ ∀ base, ME.ErrOk T.cls ⟨K, wdFn K T, []⟩ (L2.CX P w) P w K mg base := by
  have c1 : T.glob.all (globB K) = true := congrArg (fun z : AlM => z.1.1) c
  have c3 : errB e T.cls K = true := congrArg (fun z : AlM => z.1.2.1) c
  have c4 : initW K e.y0 = e.val := congrArg (fun z : AlM => z.1.2.2) c
  have c2 : He.SaysD (fasM T) fn K := congrArg (fun z : AlM => z.2) c
  have fact : ∀ f ∈ fasM T, f.ok K = true := fun f m => by
    obtain ⟨i, e⟩ := List.mem_iff_getElem?.mp m
    exact He.SaysD.fact c2 i e
  have wf : ∀ p ∈ T.fns, wdFn K T p.2.1 = He.ga K p.1 := fun p m => by
    unfold wdFn
    rw [if_pos (once.1 p m).1, (once.1 p m).2]
    rfl
  have wc : ∀ p ∈ T.cls, wdFn K T (clsB + p.2) = He.ga K p.1 := fun p m => by
    unfold wdFn
    rw [if_neg (by omega), once.2 p m]
    rfl
  refine ⟨⟨fun p m => ?_, fun y m => ?_, fun p m => ?_, fun p m => ?_⟩, fun base => err_ok X G c3 c4 EI (fun p m => ?_) wc⟩
  · have g := List.all_eq_true.mp c1 p m
    unfold globB at g
    split at g
    · rename_i u e
      obtain ⟨v, r1, r2⟩ := repB_ok p.2 u g
      exact ⟨u, v, PySem.W.mg_of X G e, r1, fun W' ρ H iw => r2 W' ρ H iw.1⟩
    · cases g
  · exact He.free_ok X G (fact _ (List.mem_append_left _ (List.mem_append_right _ (List.mem_map.mpr ⟨y, m, rfl⟩))))
  · show mg p.1 = some (.ref (wdFn K T p.2.1))
    rw [wf p m]
    exact He.glo_ok X G (fact _ (List.mem_append_left _ (List.mem_append_left _ (List.mem_map.mpr ⟨p, m, rfl⟩))))
  · obtain ⟨fi, ps, N, d, e1, e2, e3, e4, e5, e6, e7, e8, e9, e10, e11⟩ := (inf p m).ex
    obtain ⟨fd, F⟩ := He.SaysD.def_ c2 p.2.1 e2
    have w1 : He.fAd K d.at_ = wdFn K T p.2.1 := by
      rw [e3, wf p m]
      rfl
    have w2 : d.dvs K = [] := by unfold He.DefD.dvs; rw [e4]; rfl
    have w3 : d.kws K = [] := by unfold He.DefD.kws; rw [e5]; rfl
    rw [w1, w2, w3] at F
    exact ⟨fi, ps, e1, e6, ⟨d.name, d.qual, d.params, d.body, d.scope, N, fd, F, e7, e8, e9, e10, e11⟩⟩
  · exact He.glo_ok X G (fact _ (List.mem_append_right _ (List.mem_map.mpr ⟨p, m, rfl⟩)))
/-- THE LAW: over the table, from what MI says of it -/
theorem law_of {T : Tab} {e : EDesc} {fx : Nat → Option Fn} {fn : List He.DefD} {l : PySem.W.OpenLaw} {q : Program} {loose : List Str} {XP : (Str → Option Value) → Heap → Prop} {d : DefRec} {k i : Nat}
    (most : l.most = some 63) (noDef : d.params.defaults = []) (room : Room (k + 2) callerA) (once : Once T) (inf : ∀ p ∈ T.fns, Inf T fx fn p) (EI : EInf e l.prog) (isLaw : (d.name, i, 1) ∈ T.fns)
    (plain : ∀ zs : List Int, zs.length ≤ 63 → (∀ z ∈ zs, Builtin.Int.intBits z ≤ 1048576) → callF fx k i [.scr (zs.map .int)] [] = .ok (.bl true) []) :
    PySem.W.WalkO q loose XP (fun w h => ∃ K : PySem.W.Frag, K.In h ∧ SaysM e T.cls T.glob (fasM T) fn K) l.row.toRowW d [] (fun f vs => PySem.call f vs) := by
  suffices main : ∀ (w : World) (mg : Str → Option Value) (fa : Addr) (h : Heap), (∃ K : PySem.W.Frag, K.In h ∧ SaysM e T.cls T.glob (fasM T) fn K) → h.Ns mainGlobals mg → mg d.name = some (.ref fa) →
      ∃ (K : PySem.W.Frag) (fd : FuncData) (y : Str) (sp : Sp), K.In h ∧ (∀ (s : Shared) (u : Value), BindsTo s fd ⟨[u], []⟩ [(y, u)]) ∧
        (∀ (G : Hp) (a : Addr) (zs : List Int), zs.length ≤ 63 → (∀ z ∈ zs, Builtin.Int.intBits z ≤ 1048576) → SqL K G a (zs.map V.int) → sp [.ref a] G (fun v _ => v = .bl true) fun _ _ _ => False) ∧
        ∀ base : Heap, K.In base → base.Ns mainGlobals mg → FnG l.prog w K mg base (L2.CX l.prog w) (k + 2) fa fd [y] sp from
    walk_g (n := 63) (cx := L2.CX l.prog) most (by rw [sizeLine_eq]; decide) noDef room main fun w G s e t' h => by
      obtain ⟨_, _, _, _, _, _, _, _, _, _, _, _, z⟩ := h
      exact z
  intro w mg fa h Y G hmg
  obtain ⟨K, inK, c⟩ := Y
  obtain ⟨TO, hE⟩ := tab_ok (w := w) inK G c once inf EI
  obtain ⟨fd, ps, hl, P0⟩ := proms (cx := L2.CX l.prog w) (P := l.prog) (w := w) TO rfl (fun _ => hE) k _ isLaw
  have e := hmg.symm.trans (TO.fns _ isLaw)
  cases e
  match ps, hl with
  | [y], _ =>
    refine ⟨K, fd, y, _, inK, fun s u => .of_eq ((P0 h).bd [u] [] rfl rfl), fun G0 a zs few bits sq => law_sp (W := ⟨K, wdFn K T, []⟩) rfl (by rw [sizeLine_eq]; omega) sq (plain zs few bits), fun base inB nsB => ?_⟩
    exact (P0 base).G
end MI
end
/-! K12b -/
section
set_option linter.all false
set_option maxRecDepth 1000000
set_option maxHeartbeats 0
/-! The head of the law. -/
namespace K12
open PySem PySem.Spec PyProof.Rows L2 MI
def d_is_tuple : He.DefD := ⟨("is_tuple", none), "is_tuple", "is_tuple", defArgs st_is_tuple, defBody st_is_tuple, defScope st_is_tuple, [], []⟩
def d_is_word : He.DefD := ⟨("is_word", none), "is_word", "is_word", defArgs st_is_word, defBody st_is_word, defScope st_is_word, [], []⟩
def d_anew : He.DefD := ⟨("anew", none), "anew", "anew", defArgs st_anew, defBody st_anew, defScope st_anew, [], []⟩
def d_is_formed : He.DefD := ⟨("is_formed", none), "is_formed", "is_formed", defArgs st_is_formed, defBody st_is_formed, defScope st_is_formed, [], []⟩
def d_inner_sayings : He.DefD := ⟨("inner_sayings", none), "inner_sayings", "inner_sayings", defArgs st_inner_sayings, defBody st_inner_sayings, defScope st_inner_sayings, [], []⟩
def d_words_of : He.DefD := ⟨("words_of", none), "words_of", "words_of", defArgs st_words_of, defBody st_words_of, defScope st_words_of, [], []⟩
def d_levels_of : He.DefD := ⟨("levels_of", none), "levels_of", "levels_of", defArgs st_levels_of, defBody st_levels_of, defScope st_levels_of, [], []⟩
def d_swapped : He.DefD := ⟨("swapped", none), "swapped", "swapped", defArgs st_swapped, defBody st_swapped, defScope st_swapped, [], []⟩
def d_is_saying : He.DefD := ⟨("is_saying", none), "is_saying", "is_saying", defArgs st_is_saying, defBody st_is_saying, defScope st_is_saying, [], []⟩
def d_need_saying : He.DefD := ⟨("need_saying", none), "need_saying", "need_saying", defArgs st_need_saying, defBody st_need_saying, defScope st_need_saying, [], []⟩
def d_turned : He.DefD := ⟨("turned", none), "turned", "turned", defArgs st_turned, defBody st_turned, defScope st_turned, [], []⟩
def d_met_behind : He.DefD := ⟨("met_behind", none), "met_behind", "met_behind", defArgs st_met_behind, defBody st_met_behind, defScope st_met_behind, [], []⟩
def d_truths : He.DefD := ⟨("truths", none), "truths", "truths", defArgs st_truths, defBody st_truths, defScope st_truths, [], []⟩
def d_need_word : He.DefD := ⟨("need_word", none), "need_word", "need_word", defArgs st_need_word, defBody st_need_word, defScope st_need_word, [], []⟩
def d_truth : He.DefD := ⟨("truth", none), "truth", "truth", defArgs st_truth, defBody st_truth, defScope st_truth, [], []⟩
def d_law_well : He.DefD := ⟨("_law_well", none), "_law_well", "_law_well", defArgs st_law_well, defBody st_law_well, defScope st_law_well, [], []⟩
def d_law_draw : He.DefD := ⟨("_law_draw", none), "_law_draw", "_law_draw", defArgs st_law_draw, defBody st_law_draw, defScope st_law_draw, [], []⟩
def d_law_lot : He.DefD := ⟨("_law_lot", none), "_law_lot", "_law_lot", defArgs st_law_lot, defBody st_law_lot, defScope st_law_lot, [], []⟩
def d_law_asked : He.DefD := ⟨("_law_asked", none), "_law_asked", "_law_asked", defArgs st_law_asked, defBody st_law_asked, defScope st_law_asked, [], []⟩
def d_law_parts : He.DefD := ⟨("_law_parts", none), "_law_parts", "_law_parts", defArgs st_law_parts, defBody st_law_parts, defScope st_law_parts, [], []⟩
def d_law_truth : He.DefD := ⟨("_law_truth", none), "_law_truth", "_law_truth", defArgs st_law_truth, defBody st_law_truth, defScope st_law_truth, [], []⟩
def d_law_comes : He.DefD := ⟨("_law_comes", none), "_law_comes", "_law_comes", defArgs st_law_comes, defBody st_law_comes, defScope st_law_comes, [], []⟩
def d_law_steps_right : He.DefD := ⟨("_law_steps_right", none), "_law_steps_right", "_law_steps_right", defArgs st_law_steps_right, defBody st_law_steps_right, defScope st_law_steps_right, [], []⟩
def d_law_refused : He.DefD := ⟨("_law_refused", none), "_law_refused", "_law_refused", defArgs st_law_refused, defBody st_law_refused, defScope st_law_refused, [], []⟩
def d_law : He.DefD := ⟨("law", none), "law", "law", defArgs st_law, defBody st_law, defScope st_law, [], []⟩
def dfs : List He.DefD := [d_is_tuple, d_is_word, d_anew, d_is_formed, d_inner_sayings, d_words_of, d_levels_of, d_swapped, d_is_saying, d_need_saying, d_turned, d_met_behind, d_truths, d_need_word, d_truth, d_law_well, d_law_draw, d_law_lot, d_law_asked, d_law_parts, d_law_truth, d_law_comes, d_law_steps_right, d_law_refused, d_law]
theorem sc_is_tuple : FnScope N_is_tuple ["value", "low", "high"] (defScope st_is_tuple) := ⟨by decide +kernel, by decide +kernel, by decide +kernel, by decide +kernel, by decide +kernel, by decide +kernel, by decide +kernel⟩
theorem inf_is_tuple : Inf tab fns dfs ("is_tuple", 0, 3) := by
  refine ⟨_, ["value", "low", "high"], N_is_tuple, d_is_tuple, rfl, rfl, rfl, rfl, rfl, rfl, sc_is_tuple, rfl, rfl, ok_is_tuple, fun kV doc pm an cdv ct => ⟨fun us ws h1 h2 => ?_, fun ks kp hm => ?_⟩⟩
  · match us, h1, ws, h2 with
    | [a0, a1, a2], _, [], _ => rfl
  · have hm2 : (ks, kp) ∈ (tab.kw.filter fun q => q.1 == 0).map (·.2) := List.mem_map.mpr ⟨_, List.mem_filter.mpr ⟨hm, rfl⟩, rfl⟩
    have hm3 : (ks, kp) ∈ ([] : List (List Str × List Nat)) := hm2
    exact absurd hm3 (by simp)
theorem sc_is_word : FnScope N_is_word ["value", "words"] (defScope st_is_word) := ⟨by decide +kernel, by decide +kernel, by decide +kernel, by decide +kernel, by decide +kernel, by decide +kernel, by decide +kernel⟩
theorem inf_is_word : Inf tab fns dfs ("is_word", 1, 2) := by
  refine ⟨_, ["value", "words"], N_is_word, d_is_word, rfl, rfl, rfl, rfl, rfl, rfl, sc_is_word, rfl, rfl, ok_is_word, fun kV doc pm an cdv ct => ⟨fun us ws h1 h2 => ?_, fun ks kp hm => ?_⟩⟩
  · match us, h1, ws, h2 with
    | [a0, a1], _, [], _ => rfl
  · have hm2 : (ks, kp) ∈ (tab.kw.filter fun q => q.1 == 1).map (·.2) := List.mem_map.mpr ⟨_, List.mem_filter.mpr ⟨hm, rfl⟩, rfl⟩
    have hm3 : (ks, kp) ∈ ([] : List (List Str × List Nat)) := hm2
    exact absurd hm3 (by simp)
theorem sc_anew : FnScope N_anew ["value"] (defScope st_anew) := ⟨by decide +kernel, by decide +kernel, by decide +kernel, by decide +kernel, by decide +kernel, by decide +kernel, by decide +kernel⟩
theorem inf_anew : Inf tab fns dfs ("anew", 2, 1) := by
  refine ⟨_, ["value"], N_anew, d_anew, rfl, rfl, rfl, rfl, rfl, rfl, sc_anew, rfl, rfl, ok_anew, fun kV doc pm an cdv ct => ⟨fun us ws h1 h2 => ?_, fun ks kp hm => ?_⟩⟩
  · match us, h1, ws, h2 with
    | [a0], _, [], _ => rfl
  · have hm2 : (ks, kp) ∈ (tab.kw.filter fun q => q.1 == 2).map (·.2) := List.mem_map.mpr ⟨_, List.mem_filter.mpr ⟨hm, rfl⟩, rfl⟩
    have hm3 : (ks, kp) ∈ ([] : List (List Str × List Nat)) := hm2
    exact absurd hm3 (by simp)
theorem sc_is_formed : FnScope N_is_formed ["value"] (defScope st_is_formed) := ⟨by decide +kernel, by decide +kernel, by decide +kernel, by decide +kernel, by decide +kernel, by decide +kernel, by decide +kernel⟩
theorem inf_is_formed : Inf tab fns dfs ("is_formed", 3, 1) := by
  refine ⟨_, ["value"], N_is_formed, d_is_formed, rfl, rfl, rfl, rfl, rfl, rfl, sc_is_formed, rfl, rfl, ok_is_formed, fun kV doc pm an cdv ct => ⟨fun us ws h1 h2 => ?_, fun ks kp hm => ?_⟩⟩
  · match us, h1, ws, h2 with
    | [a0], _, [], _ => rfl
  · have hm2 : (ks, kp) ∈ (tab.kw.filter fun q => q.1 == 3).map (·.2) := List.mem_map.mpr ⟨_, List.mem_filter.mpr ⟨hm, rfl⟩, rfl⟩
    have hm3 : (ks, kp) ∈ ([] : List (List Str × List Nat)) := hm2
    exact absurd hm3 (by simp)
theorem sc_inner_sayings : FnScope N_inner_sayings ["saying"] (defScope st_inner_sayings) := ⟨by decide +kernel, by decide +kernel, by decide +kernel, by decide +kernel, by decide +kernel, by decide +kernel, by decide +kernel⟩
theorem inf_inner_sayings : Inf tab fns dfs ("inner_sayings", 4, 1) := by
  refine ⟨_, ["saying"], N_inner_sayings, d_inner_sayings, rfl, rfl, rfl, rfl, rfl, rfl, sc_inner_sayings, rfl, rfl, ok_inner_sayings, fun kV doc pm an cdv ct => ⟨fun us ws h1 h2 => ?_, fun ks kp hm => ?_⟩⟩
  · match us, h1, ws, h2 with
    | [a0], _, [], _ => rfl
  · have hm2 : (ks, kp) ∈ (tab.kw.filter fun q => q.1 == 4).map (·.2) := List.mem_map.mpr ⟨_, List.mem_filter.mpr ⟨hm, rfl⟩, rfl⟩
    have hm3 : (ks, kp) ∈ ([] : List (List Str × List Nat)) := hm2
    exact absurd hm3 (by simp)
theorem sc_words_of : FnScope N_words_of ["saying"] (defScope st_words_of) := ⟨by decide +kernel, by decide +kernel, by decide +kernel, by decide +kernel, by decide +kernel, by decide +kernel, by decide +kernel⟩
theorem inf_words_of : Inf tab fns dfs ("words_of", 5, 1) := by
  refine ⟨_, ["saying"], N_words_of, d_words_of, rfl, rfl, rfl, rfl, rfl, rfl, sc_words_of, rfl, rfl, ok_words_of, fun kV doc pm an cdv ct => ⟨fun us ws h1 h2 => ?_, fun ks kp hm => ?_⟩⟩
  · match us, h1, ws, h2 with
    | [a0], _, [], _ => rfl
  · have hm2 : (ks, kp) ∈ (tab.kw.filter fun q => q.1 == 5).map (·.2) := List.mem_map.mpr ⟨_, List.mem_filter.mpr ⟨hm, rfl⟩, rfl⟩
    have hm3 : (ks, kp) ∈ ([] : List (List Str × List Nat)) := hm2
    exact absurd hm3 (by simp)
theorem sc_levels_of : FnScope N_levels_of ["saying"] (defScope st_levels_of) := ⟨by decide +kernel, by decide +kernel, by decide +kernel, by decide +kernel, by decide +kernel, by decide +kernel, by decide +kernel⟩
theorem inf_levels_of : Inf tab fns dfs ("levels_of", 6, 1) := by
  refine ⟨_, ["saying"], N_levels_of, d_levels_of, rfl, rfl, rfl, rfl, rfl, rfl, sc_levels_of, rfl, rfl, ok_levels_of, fun kV doc pm an cdv ct => ⟨fun us ws h1 h2 => ?_, fun ks kp hm => ?_⟩⟩
  · match us, h1, ws, h2 with
    | [a0], _, [], _ => rfl
  · have hm2 : (ks, kp) ∈ (tab.kw.filter fun q => q.1 == 6).map (·.2) := List.mem_map.mpr ⟨_, List.mem_filter.mpr ⟨hm, rfl⟩, rfl⟩
    have hm3 : (ks, kp) ∈ ([] : List (List Str × List Nat)) := hm2
    exact absurd hm3 (by simp)
theorem sc_swapped : FnScope N_swapped ["saying"] (defScope st_swapped) := ⟨by decide +kernel, by decide +kernel, by decide +kernel, by decide +kernel, by decide +kernel, by decide +kernel, by decide +kernel⟩
theorem inf_swapped : Inf tab fns dfs ("swapped", 7, 1) := by
  refine ⟨_, ["saying"], N_swapped, d_swapped, rfl, rfl, rfl, rfl, rfl, rfl, sc_swapped, rfl, rfl, ok_swapped, fun kV doc pm an cdv ct => ⟨fun us ws h1 h2 => ?_, fun ks kp hm => ?_⟩⟩
  · match us, h1, ws, h2 with
    | [a0], _, [], _ => rfl
  · have hm2 : (ks, kp) ∈ (tab.kw.filter fun q => q.1 == 7).map (·.2) := List.mem_map.mpr ⟨_, List.mem_filter.mpr ⟨hm, rfl⟩, rfl⟩
    have hm3 : (ks, kp) ∈ ([] : List (List Str × List Nat)) := hm2
    exact absurd hm3 (by simp)
theorem sc_is_saying : FnScope N_is_saying ["value"] (defScope st_is_saying) := ⟨by decide +kernel, by decide +kernel, by decide +kernel, by decide +kernel, by decide +kernel, by decide +kernel, by decide +kernel⟩
theorem inf_is_saying : Inf tab fns dfs ("is_saying", 8, 1) := by
  refine ⟨_, ["value"], N_is_saying, d_is_saying, rfl, rfl, rfl, rfl, rfl, rfl, sc_is_saying, rfl, rfl, ok_is_saying, fun kV doc pm an cdv ct => ⟨fun us ws h1 h2 => ?_, fun ks kp hm => ?_⟩⟩
  · match us, h1, ws, h2 with
    | [a0], _, [], _ => rfl
  · have hm2 : (ks, kp) ∈ (tab.kw.filter fun q => q.1 == 8).map (·.2) := List.mem_map.mpr ⟨_, List.mem_filter.mpr ⟨hm, rfl⟩, rfl⟩
    have hm3 : (ks, kp) ∈ ([] : List (List Str × List Nat)) := hm2
    exact absurd hm3 (by simp)
theorem sc_need_saying : FnScope N_need_saying ["saying"] (defScope st_need_saying) := ⟨by decide +kernel, by decide +kernel, by decide +kernel, by decide +kernel, by decide +kernel, by decide +kernel, by decide +kernel⟩
theorem inf_need_saying : Inf tab fns dfs ("need_saying", 9, 1) := by
  refine ⟨_, ["saying"], N_need_saying, d_need_saying, rfl, rfl, rfl, rfl, rfl, rfl, sc_need_saying, rfl, rfl, ok_need_saying, fun kV doc pm an cdv ct => ⟨fun us ws h1 h2 => ?_, fun ks kp hm => ?_⟩⟩
  · match us, h1, ws, h2 with
    | [a0], _, [], _ => rfl
  · have hm2 : (ks, kp) ∈ (tab.kw.filter fun q => q.1 == 9).map (·.2) := List.mem_map.mpr ⟨_, List.mem_filter.mpr ⟨hm, rfl⟩, rfl⟩
    have hm3 : (ks, kp) ∈ ([] : List (List Str × List Nat)) := hm2
    exact absurd hm3 (by simp)
theorem sc_turned : FnScope N_turned ["saying"] (defScope st_turned) := ⟨by decide +kernel, by decide +kernel, by decide +kernel, by decide +kernel, by decide +kernel, by decide +kernel, by decide +kernel⟩
theorem inf_turned : Inf tab fns dfs ("turned", 10, 1) := by
  refine ⟨_, ["saying"], N_turned, d_turned, rfl, rfl, rfl, rfl, rfl, rfl, sc_turned, rfl, rfl, ok_turned, fun kV doc pm an cdv ct => ⟨fun us ws h1 h2 => ?_, fun ks kp hm => ?_⟩⟩
  · match us, h1, ws, h2 with
    | [a0], _, [], _ => rfl
  · have hm2 : (ks, kp) ∈ (tab.kw.filter fun q => q.1 == 10).map (·.2) := List.mem_map.mpr ⟨_, List.mem_filter.mpr ⟨hm, rfl⟩, rfl⟩
    have hm3 : (ks, kp) ∈ ([] : List (List Str × List Nat)) := hm2
    exact absurd hm3 (by simp)
theorem sc_met_behind : FnScope N_met_behind ["kept", "wanted"] (defScope st_met_behind) := ⟨by decide +kernel, by decide +kernel, by decide +kernel, by decide +kernel, by decide +kernel, by decide +kernel, by decide +kernel⟩
theorem inf_met_behind : Inf tab fns dfs ("met_behind", 11, 2) := by
  refine ⟨_, ["kept", "wanted"], N_met_behind, d_met_behind, rfl, rfl, rfl, rfl, rfl, rfl, sc_met_behind, rfl, rfl, ok_met_behind, fun kV doc pm an cdv ct => ⟨fun us ws h1 h2 => ?_, fun ks kp hm => ?_⟩⟩
  · match us, h1, ws, h2 with
    | [a0, a1], _, [], _ => rfl
  · have hm2 : (ks, kp) ∈ (tab.kw.filter fun q => q.1 == 11).map (·.2) := List.mem_map.mpr ⟨_, List.mem_filter.mpr ⟨hm, rfl⟩, rfl⟩
    have hm3 : (ks, kp) ∈ ([] : List (List Str × List Nat)) := hm2
    exact absurd hm3 (by simp)
theorem sc_truths : FnScope N_truths ["word", "saying"] (defScope st_truths) := ⟨by decide +kernel, by decide +kernel, by decide +kernel, by decide +kernel, by decide +kernel, by decide +kernel, by decide +kernel⟩
theorem inf_truths : Inf tab fns dfs ("truths", 12, 2) := by
  refine ⟨_, ["word", "saying"], N_truths, d_truths, rfl, rfl, rfl, rfl, rfl, rfl, sc_truths, rfl, rfl, ok_truths, fun kV doc pm an cdv ct => ⟨fun us ws h1 h2 => ?_, fun ks kp hm => ?_⟩⟩
  · match us, h1, ws, h2 with
    | [a0, a1], _, [], _ => rfl
  · have hm2 : (ks, kp) ∈ (tab.kw.filter fun q => q.1 == 12).map (·.2) := List.mem_map.mpr ⟨_, List.mem_filter.mpr ⟨hm, rfl⟩, rfl⟩
    have hm3 : (ks, kp) ∈ ([] : List (List Str × List Nat)) := hm2
    exact absurd hm3 (by simp)
theorem sc_need_word : FnScope N_need_word ["word"] (defScope st_need_word) := ⟨by decide +kernel, by decide +kernel, by decide +kernel, by decide +kernel, by decide +kernel, by decide +kernel, by decide +kernel⟩
theorem inf_need_word : Inf tab fns dfs ("need_word", 13, 1) := by
  refine ⟨_, ["word"], N_need_word, d_need_word, rfl, rfl, rfl, rfl, rfl, rfl, sc_need_word, rfl, rfl, ok_need_word, fun kV doc pm an cdv ct => ⟨fun us ws h1 h2 => ?_, fun ks kp hm => ?_⟩⟩
  · match us, h1, ws, h2 with
    | [a0], _, [], _ => rfl
  · have hm2 : (ks, kp) ∈ (tab.kw.filter fun q => q.1 == 13).map (·.2) := List.mem_map.mpr ⟨_, List.mem_filter.mpr ⟨hm, rfl⟩, rfl⟩
    have hm3 : (ks, kp) ∈ ([] : List (List Str × List Nat)) := hm2
    exact absurd hm3 (by simp)
theorem sc_truth : FnScope N_truth ["word", "saying"] (defScope st_truth) := ⟨by decide +kernel, by decide +kernel, by decide +kernel, by decide +kernel, by decide +kernel, by decide +kernel, by decide +kernel⟩
theorem inf_truth : Inf tab fns dfs ("truth", 14, 2) := by
  refine ⟨_, ["word", "saying"], N_truth, d_truth, rfl, rfl, rfl, rfl, rfl, rfl, sc_truth, rfl, rfl, ok_truth, fun kV doc pm an cdv ct => ⟨fun us ws h1 h2 => ?_, fun ks kp hm => ?_⟩⟩
  · match us, h1, ws, h2 with
    | [a0, a1], _, [], _ => rfl
  · have hm2 : (ks, kp) ∈ (tab.kw.filter fun q => q.1 == 14).map (·.2) := List.mem_map.mpr ⟨_, List.mem_filter.mpr ⟨hm, rfl⟩, rfl⟩
    have hm3 : (ks, kp) ∈ ([(["saying", "word"], [1, 0])] : List (List Str × List Nat)) := hm2
    · cases List.mem_singleton.mp hm3
      intro us ws h1 h2
      match us, h1, ws, h2 with
      | [], _, [a0, a1], _ => rfl
theorem sc_law_well : FnScope N_law_well ["script", "k"] (defScope st_law_well) := ⟨by decide +kernel, by decide +kernel, by decide +kernel, by decide +kernel, by decide +kernel, by decide +kernel, by decide +kernel⟩
theorem inf_law_well : Inf tab fns dfs ("_law_well", 15, 2) := by
  refine ⟨_, ["script", "k"], N_law_well, d_law_well, rfl, rfl, rfl, rfl, rfl, rfl, sc_law_well, rfl, rfl, ok_law_well, fun kV doc pm an cdv ct => ⟨fun us ws h1 h2 => ?_, fun ks kp hm => ?_⟩⟩
  · match us, h1, ws, h2 with
    | [a0, a1], _, [], _ => rfl
  · have hm2 : (ks, kp) ∈ (tab.kw.filter fun q => q.1 == 15).map (·.2) := List.mem_map.mpr ⟨_, List.mem_filter.mpr ⟨hm, rfl⟩, rfl⟩
    have hm3 : (ks, kp) ∈ ([] : List (List Str × List Nat)) := hm2
    exact absurd hm3 (by simp)
theorem sc_law_draw : FnScope N_law_draw ["well", "many"] (defScope st_law_draw) := ⟨by decide +kernel, by decide +kernel, by decide +kernel, by decide +kernel, by decide +kernel, by decide +kernel, by decide +kernel⟩
theorem inf_law_draw : Inf tab fns dfs ("_law_draw", 16, 2) := by
  refine ⟨_, ["well", "many"], N_law_draw, d_law_draw, rfl, rfl, rfl, rfl, rfl, rfl, sc_law_draw, rfl, rfl, ok_law_draw, fun kV doc pm an cdv ct => ⟨fun us ws h1 h2 => ?_, fun ks kp hm => ?_⟩⟩
  · match us, h1, ws, h2 with
    | [a0, a1], _, [], _ => rfl
  · have hm2 : (ks, kp) ∈ (tab.kw.filter fun q => q.1 == 16).map (·.2) := List.mem_map.mpr ⟨_, List.mem_filter.mpr ⟨hm, rfl⟩, rfl⟩
    have hm3 : (ks, kp) ∈ ([] : List (List Str × List Nat)) := hm2
    exact absurd hm3 (by simp)
theorem sc_law_lot : FnScope N_law_lot ["well", "deep"] (defScope st_law_lot) := ⟨by decide +kernel, by decide +kernel, by decide +kernel, by decide +kernel, by decide +kernel, by decide +kernel, by decide +kernel⟩
theorem inf_law_lot : Inf tab fns dfs ("_law_lot", 17, 2) := by
  refine ⟨_, ["well", "deep"], N_law_lot, d_law_lot, rfl, rfl, rfl, rfl, rfl, rfl, sc_law_lot, rfl, rfl, ok_law_lot, fun kV doc pm an cdv ct => ⟨fun us ws h1 h2 => ?_, fun ks kp hm => ?_⟩⟩
  · match us, h1, ws, h2 with
    | [a0, a1], _, [], _ => rfl
  · have hm2 : (ks, kp) ∈ (tab.kw.filter fun q => q.1 == 17).map (·.2) := List.mem_map.mpr ⟨_, List.mem_filter.mpr ⟨hm, rfl⟩, rfl⟩
    have hm3 : (ks, kp) ∈ ([] : List (List Str × List Nat)) := hm2
    exact absurd hm3 (by simp)
theorem sc_law_asked : FnScope N_law_asked ["well", "most"] (defScope st_law_asked) := ⟨by decide +kernel, by decide +kernel, by decide +kernel, by decide +kernel, by decide +kernel, by decide +kernel, by decide +kernel⟩
theorem inf_law_asked : Inf tab fns dfs ("_law_asked", 18, 2) := by
  refine ⟨_, ["well", "most"], N_law_asked, d_law_asked, rfl, rfl, rfl, rfl, rfl, rfl, sc_law_asked, rfl, rfl, ok_law_asked, fun kV doc pm an cdv ct => ⟨fun us ws h1 h2 => ?_, fun ks kp hm => ?_⟩⟩
  · match us, h1, ws, h2 with
    | [a0, a1], _, [], _ => rfl
  · have hm2 : (ks, kp) ∈ (tab.kw.filter fun q => q.1 == 18).map (·.2) := List.mem_map.mpr ⟨_, List.mem_filter.mpr ⟨hm, rfl⟩, rfl⟩
    have hm3 : (ks, kp) ∈ ([] : List (List Str × List Nat)) := hm2
    exact absurd hm3 (by simp)
theorem sc_law_parts : FnScope N_law_parts ["saying"] (defScope st_law_parts) := ⟨by decide +kernel, by decide +kernel, by decide +kernel, by decide +kernel, by decide +kernel, by decide +kernel, by decide +kernel⟩
theorem inf_law_parts : Inf tab fns dfs ("_law_parts", 19, 1) := by
  refine ⟨_, ["saying"], N_law_parts, d_law_parts, rfl, rfl, rfl, rfl, rfl, rfl, sc_law_parts, rfl, rfl, ok_law_parts, fun kV doc pm an cdv ct => ⟨fun us ws h1 h2 => ?_, fun ks kp hm => ?_⟩⟩
  · match us, h1, ws, h2 with
    | [a0], _, [], _ => rfl
  · have hm2 : (ks, kp) ∈ (tab.kw.filter fun q => q.1 == 19).map (·.2) := List.mem_map.mpr ⟨_, List.mem_filter.mpr ⟨hm, rfl⟩, rfl⟩
    have hm3 : (ks, kp) ∈ ([] : List (List Str × List Nat)) := hm2
    exact absurd hm3 (by simp)
theorem sc_law_truth : FnScope N_law_truth ["word", "saying"] (defScope st_law_truth) := ⟨by decide +kernel, by decide +kernel, by decide +kernel, by decide +kernel, by decide +kernel, by decide +kernel, by decide +kernel⟩
theorem inf_law_truth : Inf tab fns dfs ("_law_truth", 20, 2) := by
  refine ⟨_, ["word", "saying"], N_law_truth, d_law_truth, rfl, rfl, rfl, rfl, rfl, rfl, sc_law_truth, rfl, rfl, ok_law_truth, fun kV doc pm an cdv ct => ⟨fun us ws h1 h2 => ?_, fun ks kp hm => ?_⟩⟩
  · match us, h1, ws, h2 with
    | [a0, a1], _, [], _ => rfl
  · have hm2 : (ks, kp) ∈ (tab.kw.filter fun q => q.1 == 20).map (·.2) := List.mem_map.mpr ⟨_, List.mem_filter.mpr ⟨hm, rfl⟩, rfl⟩
    have hm3 : (ks, kp) ∈ ([] : List (List Str × List Nat)) := hm2
    exact absurd hm3 (by simp)
theorem sc_law_comes : FnScope N_law_comes ["first", "second", "places"] (defScope st_law_comes) := ⟨by decide +kernel, by decide +kernel, by decide +kernel, by decide +kernel, by decide +kernel, by decide +kernel, by decide +kernel⟩
theorem inf_law_comes : Inf tab fns dfs ("_law_comes", 21, 3) := by
  refine ⟨_, ["first", "second", "places"], N_law_comes, d_law_comes, rfl, rfl, rfl, rfl, rfl, rfl, sc_law_comes, rfl, rfl, ok_law_comes, fun kV doc pm an cdv ct => ⟨fun us ws h1 h2 => ?_, fun ks kp hm => ?_⟩⟩
  · match us, h1, ws, h2 with
    | [a0, a1, a2], _, [], _ => rfl
  · have hm2 : (ks, kp) ∈ (tab.kw.filter fun q => q.1 == 21).map (·.2) := List.mem_map.mpr ⟨_, List.mem_filter.mpr ⟨hm, rfl⟩, rfl⟩
    have hm3 : (ks, kp) ∈ ([] : List (List Str × List Nat)) := hm2
    exact absurd hm3 (by simp)
theorem sc_law_steps_right : FnScope N_law_steps_right ["word", "saying"] (defScope st_law_steps_right) := ⟨by decide +kernel, by decide +kernel, by decide +kernel, by decide +kernel, by decide +kernel, by decide +kernel, by decide +kernel⟩
theorem inf_law_steps_right : Inf tab fns dfs ("_law_steps_right", 22, 2) := by
  refine ⟨_, ["word", "saying"], N_law_steps_right, d_law_steps_right, rfl, rfl, rfl, rfl, rfl, rfl, sc_law_steps_right, rfl, rfl, ok_law_steps_right, fun kV doc pm an cdv ct => ⟨fun us ws h1 h2 => ?_, fun ks kp hm => ?_⟩⟩
  · match us, h1, ws, h2 with
    | [a0, a1], _, [], _ => rfl
  · have hm2 : (ks, kp) ∈ (tab.kw.filter fun q => q.1 == 22).map (·.2) := List.mem_map.mpr ⟨_, List.mem_filter.mpr ⟨hm, rfl⟩, rfl⟩
    have hm3 : (ks, kp) ∈ ([] : List (List Str × List Nat)) := hm2
    exact absurd hm3 (by simp)
theorem sc_law_refused : FnScope N_law_refused ["word", "saying"] (defScope st_law_refused) := ⟨by decide +kernel, by decide +kernel, by decide +kernel, by decide +kernel, by decide +kernel, by decide +kernel, by decide +kernel⟩
theorem inf_law_refused : Inf tab fns dfs ("_law_refused", 23, 2) := by
  refine ⟨_, ["word", "saying"], N_law_refused, d_law_refused, rfl, rfl, rfl, rfl, rfl, rfl, sc_law_refused, rfl, rfl, ok_law_refused, fun kV doc pm an cdv ct => ⟨fun us ws h1 h2 => ?_, fun ks kp hm => ?_⟩⟩
  · match us, h1, ws, h2 with
    | [a0, a1], _, [], _ => rfl
  · have hm2 : (ks, kp) ∈ (tab.kw.filter fun q => q.1 == 23).map (·.2) := List.mem_map.mpr ⟨_, List.mem_filter.mpr ⟨hm, rfl⟩, rfl⟩
    have hm3 : (ks, kp) ∈ ([] : List (List Str × List Nat)) := hm2
    exact absurd hm3 (by simp)
theorem sc_law : FnScope N_law ["script"] (defScope st_law) := ⟨by decide +kernel, by decide +kernel, by decide +kernel, by decide +kernel, by decide +kernel, by decide +kernel, by decide +kernel⟩
theorem inf_law : Inf tab fns dfs ("law", 24, 1) := by
  refine ⟨_, ["script"], N_law, d_law, rfl, rfl, rfl, rfl, rfl, rfl, sc_law, rfl, rfl, ok_law, fun kV doc pm an cdv ct => ⟨fun us ws h1 h2 => ?_, fun ks kp hm => ?_⟩⟩
  · match us, h1, ws, h2 with
    | [a0], _, [], _ => rfl
  · have hm2 : (ks, kp) ∈ (tab.kw.filter fun q => q.1 == 24).map (·.2) := List.mem_map.mpr ⟨_, List.mem_filter.mpr ⟨hm, rfl⟩, rfl⟩
    have hm3 : (ks, kp) ∈ ([] : List (List Str × List Nat)) := hm2
    exact absurd hm3 (by simp)
theorem infs : ∀ p ∈ tab.fns, Inf tab fns dfs p := List.forall_mem_cons.mpr ⟨inf_is_tuple, List.forall_mem_cons.mpr ⟨inf_is_word, List.forall_mem_cons.mpr ⟨inf_anew, List.forall_mem_cons.mpr ⟨inf_is_formed, List.forall_mem_cons.mpr ⟨inf_inner_sayings, List.forall_mem_cons.mpr ⟨inf_words_of, List.forall_mem_cons.mpr ⟨inf_levels_of, List.forall_mem_cons.mpr ⟨inf_swapped, List.forall_mem_cons.mpr ⟨inf_is_saying, List.forall_mem_cons.mpr ⟨inf_need_saying, List.forall_mem_cons.mpr ⟨inf_turned, List.forall_mem_cons.mpr ⟨inf_met_behind, List.forall_mem_cons.mpr ⟨inf_truths, List.forall_mem_cons.mpr ⟨inf_need_word, List.forall_mem_cons.mpr ⟨inf_truth, List.forall_mem_cons.mpr ⟨inf_law_well, List.forall_mem_cons.mpr ⟨inf_law_draw, List.forall_mem_cons.mpr ⟨inf_law_lot, List.forall_mem_cons.mpr ⟨inf_law_asked, List.forall_mem_cons.mpr ⟨inf_law_parts, List.forall_mem_cons.mpr ⟨inf_law_truth, List.forall_mem_cons.mpr ⟨inf_law_comes, List.forall_mem_cons.mpr ⟨inf_law_steps_right, List.forall_mem_cons.mpr ⟨inf_law_refused, List.forall_mem_cons.mpr ⟨inf_law, fun p h => nomatch h⟩⟩⟩⟩⟩⟩⟩⟩⟩⟩⟩⟩⟩⟩⟩⟩⟩⟩⟩⟩⟩⟩⟩⟩⟩
theorem once : Once tab := by
  unfold Once
  decide +kernel
def fas : List He.Fa := fasM tab
def clsBody (s : Stmt) : List Stmt := match s with
  | .ClassDef _ _ _ b _ _ _ _ _ _ _ => b
  | _ => []
abbrev st_init : Stmt := (clsBody (top 1)).getD 0 (.Pass ⟨0, 0, 0, 0⟩)
def ed : EDesc := ⟨"LineError", (PySem.Challenge.pw_momentlines_k12_truth_in_finite_historie.main.file : Str), "__init__", "LineError.__init__", defArgs st_init, defBody st_init, defScope st_init⟩
theorem einf : EInf ed PySem.Challenge.pw_momentlines_k12_truth_in_finite_historie where
  hd := ⟨_, rfl, rfl⟩
  S := NdefX.nscope_by (by decide +kernel)
  ks := by decide +kernel
  T := ⟨⟨_, _, _, _, _, _, _, _, _, _, _, _, _, rfl, fun _ => rfl, fun _ => rfl⟩⟩
  bd := fun cl doc pm cdv ct us hl => match us, hl with
    | [_, _], _ => rfl
  file := by simp [ed]
  top := by decide +kernel
abbrev R : PySem.W.OpenRow := PySem.W.OpenLaw.row PySem.Challenge.rw_momentlines_k12_truth_in_finite_historie
abbrev hk : PySem.W.Hook := hookM 5 ed tab.cls tab.glob fas dfs
def ob (s : PySem.W.SharedT) : AlM := obsMG 5 ed tab.cls tab.glob fas dfs (HandSHeadRun.getT s)
theorem ob_eq (s : PySem.W.SharedT) : ob s = hk.obs s.abs := obsMG_eq (HandSHeadRun.getT_eq s)
def loose0 : List Str := ["LineError", "InvalidSaying", "InvalidWord", "is_tuple", "is_word", "anew", "LETTERS", "YES", "IS", "NOT", "AND", "OR", "UNTIL", "SINCE", "PAIRS", "is_formed", "inner_sayings", "words_of", "levels_of", "swapped", "MOST_WORDS", "MOST_LEVELS", "MOST_WORD", "is_saying", "need_saying", "turned", "met_behind", "truths", "need_word", "truth"]
def loose1 : List Str := ["_law_well", "_law_draw", "_law_lot", "_law_asked", "_law_parts", "_law_truth", "_law_comes", "_law_steps_right", "_law_refused"]
abbrev loose : List Str := loose0 ++ loose1
theorem run (w : World) : HandSHeadRun.RunEq R (PySem.W.view R.prog [44]) hk ob 3000 loose w := by
  intro os
  kernel_rfl
end K12
open PySem PySem.W PySem.Calls PyProof.Rows
theorem K12.law_from (plain : ∀ zs : List Int, zs.length ≤ 63 → (∀ z ∈ zs, Builtin.Int.intBits z ≤ 1048576) → MI.callF K12.fns 100 24 [.scr (zs.map .int)] [] = .ok (.bl true) []) : PySem.Challenge.rw_momentlines_k12_truth_in_finite_historie.Holds := by
  w_on; o_law
  refine HandSHeadRun.head_any (r := OpenLaw.row PySem.Challenge.rw_momentlines_k12_truth_in_finite_historie) (q := view (OpenLaw.row PySem.Challenge.rw_momentlines_k12_truth_in_finite_historie).prog [44]) (H := K12.hk) (ob := K12.ob) (M := 3000) (loose := K12.loose) (d := HandSHeadRun.topDef (OpenLaw.row PySem.Challenge.rw_momentlines_k12_truth_in_finite_historie).prog 44) (kwd := []) K12.ob_eq
    (by kernel_rfl) (fun s => by kernel_rfl) K12.run (by kernel_rfl) (by kernel_rfl) (by kernel_rfl) (by rfl) (by first | assumption | decide +kernel) (by decide +kernel) ⟨rfl, rfl, rfl, rfl, rfl, by decide +kernel⟩ ?hw ?hc
  case hw => w_witness2
  case hc => exact MI.law_of (T := K12.tab) (e := K12.ed) (fx := K12.fns) (fn := K12.dfs) (k := 100) (i := 24) rfl (by kernel_rfl) ⟨rfl, by decide, by decide⟩ K12.once K12.infs K12.einf (by decide +kernel) plain
end
theorem PySem.Challenge.cw_momentlines_k12_truth_in_finite_historie_holds : PySem.Challenge.rw_momentlines_k12_truth_in_finite_historie.Holds :=
  K12.law_from fun zs h _ => K12.plain zs h
