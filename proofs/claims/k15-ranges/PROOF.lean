import PyProof.Rows.All
import Wide.All
import OpenK.AllK
import Wide.FinOn
import HandS.ForMost
import HandS.Wide
import HandS.Style
import HandS.IsInst
import HandS.Walk
import HandS.WideBits
import HandS.Defaults
import HandS.HeadHook2
import HandS.HeadEnd
import HandS.Head2
import HandS.SortInts
import HandS.Deep
import HandS.Conv
import HandS.Set
import HandS.SetFor
import HandS.Zip
import HandS.EndBits
import HandS.HeadHook1
import HandS.Head0
import HandS.Head1
import PySem.Challenge.RW_stillranges_k15_ranges_moved_turned_less
set_option Elab.async false
set_option linter.all false
set_option maxRecDepth 100000
/-! A small evaluator for the part of Python that the text uses: data, core terms, answers. -/
namespace EV
open PySem PySem.Spec PyProof.Rows L2

/-- data as the evaluator sees it: ro a list that is only read, obj k the k-th list that may be changed -/
inductive D where
  | non | bl (b : Bool) | int (i : Int) | str (x : Str) | tup (xs : List D) | lst (xs : List D) | ro (xs : List D) | obj (k : Nat)

/-- the lists that may be changed -/
abbrev Mm := List (List D)

mutual
def D.py : D → PyData
  | .non => .none
  | .bl b => .bool b
  | .int i => .int i
  | .str x => .str x
  | .tup xs => .tuple (D.pyL xs)
  | .lst xs => .list (D.pyL xs)
  | .ro xs => .list (D.pyL xs)
  | .obj _ => .none
def D.pyL : List D → List PyData
  | [] => []
  | x :: xs => D.py x :: D.pyL xs
end
mutual
def D.pure : D → Bool
  | .tup xs => D.pureL xs
  | .lst xs => D.pureL xs
  | .ro xs => D.pureL xs
  | .obj _ => false
  | .non => true
  | .bl _ => true
  | .int _ => true
  | .str _ => true
def D.pureL : List D → Bool
  | [] => true
  | x :: xs => D.pure x && D.pureL xs
end
mutual
/-- the changed lists from the n-th on, as plain data -/
def D.frz (n : Nat) (m : Mm) : D → D
  | .tup xs => .tup (D.frzL n m xs)
  | .lst xs => .lst (D.frzL n m xs)
  | .ro xs => .ro (D.frzL n m xs)
  | .obj k => if k < n then .obj k else match m[k]? with | some xs => .lst xs | none => .obj k
  | .non => .non
  | .bl b => .bl b
  | .int i => .int i
  | .str x => .str x
def D.frzL (n : Nat) (m : Mm) : List D → List D
  | [] => []
  | x :: xs => D.frz n m x :: D.frzL n m xs
end

/-- an answer -/
inductive R (α : Type) where
  | ok (a : α) (m : Mm)
  | bad
def R.bind {α β : Type} (r : R α) (f : α → Mm → R β) : R β :=
  match r with
  | .ok a m => f a m
  | .bad => .bad
@[simp] theorem R.bind_ok {α β : Type} (a : α) (m : Mm) (f : α → Mm → R β) : (R.ok a m).bind f = f a m := rfl
@[simp] theorem R.bind_bad {α β : Type} (f : α → Mm → R β) : (R.bad : R α).bind f = .bad := rfl
def R.opt {α : Type} (o : Option α) (m : Mm) : R α := match o with | some a => .ok a m | none => .bad
@[simp] theorem R.opt_some {α : Type} (a : α) (m : Mm) : R.opt (some a) m = .ok a m := rfl
@[simp] theorem R.opt_none {α : Type} (m : Mm) : R.opt (none : Option α) m = .bad := rfl

/-- operators, comparisons, built-ins, methods, what is walked -/
inductive Bop | add | sub | mul | div | mod | pow
inductive Cop | lt | le | gt | ge | eq | ne | is | isnot | isin | notin
inductive Bi | len | abs | min2 | max2 | min1 | max1 | sum | toInt | toList | toTuple | sorted | repr | isInt | isBool | isStr | isTuple | isList
inductive Mt | append | pop | popAt | index | bitLen
inductive Ik | seq | enum | zip | rng1 | rng2
inductive Tg where
  | v (i : Nat) | tup (ts : List Tg)
/-- core terms: expressions -/
inductive E where
  | bad
  | var (i : Nat)
  | non | bl (b : Bool) | int (i : Int) | str (x : Str)
  | tup (es : List E) | lst (es : List E) | newc (e : E)
  | bin (o : Bop) (a b : E) | neg (a : E) | cmp (o : Cop) (a b : E) | chain (o p : Cop) (a b c : E)
  | and (a b : E) | or (a b : E) | not (a : E) | ife (c a b : E)
  | idx (a i : E) | cut (a : E) (lo hi : Option E)
  | call (f : Nat) (es : List E) | callk (f : Nat) (es : List E) (ix : List Nat)
  | bi (b : Bi) (es : List E)
  | mt (f : Mt) (a : E) (es : List E)
  | comp (elt : E) (t : Tg) (k : Ik) (es : List E) (c : Option E) (own : List Nat)
  | lrng (a b : E) | sset (a : E)
/-- core terms: statements -/
inductive S where
  | bad
  | pass | brk | cont
  | set (t : Tg) (e : E)
  | par (is : List Nat) (es : List E)
  | put (o i e : E)
  | ret (e : E) | retN
  | ex (e : E)
  | ife (c : E) (a b : List S)
  | for (t : Tg) (k : Ik) (es : List E) (body : List S)
  | whl (c : E) (body : List S)

/-! ### values -/
/-- the items of a list, changed or not -/
def D.asL (m : Mm) : D → Option (List D)
  | .lst xs => some xs
  | .obj k => m[k]?
  | _ => none
/-- .. or only read -/
def D.asR (m : Mm) : D → Option (List D)
  | .lst xs => some xs
  | .ro xs => some xs
  | .obj k => m[k]?
  | _ => none
/-- the items of a list or a tuple -/
def D.asS (m : Mm) : D → Option (List D)
  | .lst xs => some xs
  | .ro xs => some xs
  | .tup xs => some xs
  | .obj k => m[k]?
  | _ => none
def D.asI : D → Option Int
  | .int i => some i
  | _ => none
def intsD : List D → Option (List Int)
  | [] => some []
  | .int i :: r => (intsD r).map (i :: ·)
  | _ :: _ => none
def strsD : List D → Option (List Str)
  | [] => some []
  | .str i :: r => (strsD r).map (i :: ·)
  | _ :: _ => none
def D.truth (m : Mm) : D → Option Bool
  | .non => some false
  | .bl b => some b
  | .int i => some (i != 0)
  | .str x => if x.length ≤ sizeLine then some ((x.length : Int) != 0) else none
  | .tup xs => some (!xs.isEmpty)
  | .lst xs => some (!xs.isEmpty)
  | .ro xs => some (!xs.isEmpty)
  | .obj k => (m[k]?).map fun xs => !xs.isEmpty
/-- plain data to compare -/
def eqvD (x y : D) : Option Bool := if x.pure && y.pure && SeqAt.shaped x.py && SeqAt.shaped y.py then some (PyData.eqv x.py y.py) else none
def D.eqv (m : Mm) (a b : D) : Option Bool := eqvD (D.frz 0 m a) (D.frz 0 m b)
def binD (m : Mm) : Bop → D → D → Option D
  | .add, .int i, .int j => some (.int (i + j))
  | .add, .str x, .str y => if x.length + y.length ≤ sizeLine then some (.str (x ++ y)) else none
  | .add, .tup xs, .tup ys => if xs ≠ [] ∧ ys ≠ [] ∧ xs.length + ys.length ≤ sizeLine then some (.tup (xs ++ ys)) else none
  | .add, a, b => match a.asL m, b.asL m with
    | some xs, some ys => if xs.length + ys.length ≤ sizeLine then some (.lst (xs ++ ys)) else none
    | _, _ => none
  | .sub, .int i, .int j => some (.int (i - j))
  | .mul, .int i, .int j => if i.natAbs.log2 + j.natAbs.log2 < 1000000 then some (.int (i * j)) else none
  | .mul, a, .int k => match a.asL m with
    | some xs => if -(2 ^ 63) ≤ k ∧ k < 2 ^ 63 ∧ xs.length * k.toNat ≤ sizeLine then some (.lst (List.replicate k.toNat xs).flatten) else none
    | none => none
  | .div, .int i, .int j => if 0 < j ∧ j.natAbs.log2 < 9000 then some (.int (i / j)) else none
  | .mod, .int i, .int j => if 0 < j then some (.int (i % j)) else none
  | .pow, .int i, .int j => if 0 ≤ j ∧ (Builtin.Int.intBits i : Int) * j ≤ 2 ^ 27 then some (.int (i ^ j.toNat)) else none
  | _, _, _ => none
def D.flat : D → Bool
  | .tup _ => false
  | .lst _ => false
  | .ro _ => false
  | .obj _ => false
  | _ => true
/-- == of flat things -/
def D.eqF : D → D → Bool
  | .non, .non => true
  | .bl a, .bl b => a == b
  | .int i, .int j => i == j
  | .bl a, .int j => (if a then 1 else 0) == j
  | .int i, .bl b => i == (if b then 1 else 0)
  | .str x, .str y => x == y
  | _, _ => false
def cmpD (m : Mm) : Cop → D → D → Option Bool
  | .lt, .int i, .int j => some (decide (i < j))
  | .le, .int i, .int j => some (decide (i ≤ j))
  | .gt, .int i, .int j => some (decide (j < i))
  | .ge, .int i, .int j => some (decide (j ≤ i))
  | .eq, a, b => D.eqv m a b
  | .ne, a, b => (D.eqv m a b).map (!·)
  | .is, a, .non => some (match a with | .non => true | _ => false)
  | .isnot, a, .non => some (match a with | .non => false | _ => true)
  | .isin, a, b => match b.asS m with
    | some xs => if a.flat && xs.all D.flat then some (xs.any fun y => D.eqF y a) else none
    | none => none
  | .notin, a, b => match b.asS m with
    | some xs => if a.flat && xs.all D.flat then some (!(xs.any fun y => D.eqF y a)) else none
    | none => none
  | _, _, _ => none
def D.isNon : D → Bool
  | .non => true
  | _ => false
def idxD (m : Mm) (a i : D) : Option D :=
  match i with
  | .int k => match a with
    | .str x => if x.length ≤ sizeLine then (atI x.cps.toList k).map fun c => .str ⟨#[c]⟩ else none
    | a => match a.asS m with
      | some xs => atI xs k
      | none => none
  | _ => none
def cutL {α : Type} (xs : List α) (lo hi : Option Int) : List α := (xs.drop (HT.sIx xs.length 0 lo)).take (HT.sIx xs.length xs.length hi - HT.sIx xs.length 0 lo)
def cutD (m : Mm) (l h : Option Int) : D → Option D
  | .str x => if x.length ≤ sizeLine then some (.str (cutS x l h)) else none
  | a => match a.asR m with
    | some xs => some (.lst (cutL xs l h))
    | none => none
def maxL : List Int → Option Int
  | [] => none
  | x :: r => match maxL r with
    | none => some x
    | some y => some (if x < y then y else x)
def minL : List Int → Option Int
  | [] => none
  | x :: r => match minL r with
    | none => some x
    | some y => some (if y < x then y else x)
def insI (x : Int) : List Int → List Int
  | [] => [x]
  | y :: r => if x ≤ y then x :: y :: r else y :: insI x r
def sortI : List Int → List Int
  | [] => []
  | x :: r => insI x (sortI r)
def reprD (x : D) : Option D := if x.pure && x.py.showable && decide (x.py.depth ≤ 64) && decide (x.py.shown.length ≤ sizeLine) then some (.str x.py.shown) else none
def biD (m : Mm) : Bi → List D → Option D
  | .len, [.str x] => if x.length ≤ sizeLine then some (.int x.length) else none
  | .len, [a] => (a.asS m).map fun xs => .int xs.length
  | .abs, [.int i] => some (.int (if i < 0 then -i else i))
  | .min2, [.int i, .int j] => some (.int (if j < i then j else i))
  | .max2, [.int i, .int j] => some (.int (if j > i then j else i))
  | .min1, [a] => ((a.asR m).bind intsD).bind fun ns => (minL ns).map .int
  | .max1, [a] => ((a.asR m).bind intsD).bind fun ns => (maxL ns).map .int
  | .sum, [a] => ((a.asR m).bind intsD).map fun ns => .int ns.sum
  | .toInt, [.int i] => some (.int i)
  | .toInt, [.bl b] => some (.int (if b then 1 else 0))
  | .toList, [a] => (a.asS m).map .lst
  | .toTuple, [.tup xs] => some (.tup xs)
  | .toTuple, [a] => (a.asR m).map .tup
  | .sorted, [a] => ((a.asR m).bind intsD).map fun ns => .lst ((sortI ns).map .int)
  | .repr, [a] => reprD (D.frz 0 m a)
  | .isInt, [a] => some (.bl (match a with | .int _ => true | .bl _ => true | _ => false))
  | .isBool, [a] => some (.bl (match a with | .bl _ => true | _ => false))
  | .isStr, [a] => some (.bl (match a with | .str _ => true | _ => false))
  | .isTuple, [a] => some (.bl (match a with | .tup _ => true | _ => false))
  | .isList, [a] => some (.bl (match a with | .lst _ => true | .ro _ => true | .obj _ => true | _ => false))
  | _, _ => none
/-- methods: the answer, the lists behind -/
def findF (y : D) : List D → Nat → Option Nat
  | [], _ => none
  | x :: r, k => if D.eqF x y then some k else findF y r (k + 1)
def mtD (m : Mm) : Mt → D → List D → R D
  | .append, .obj k, [d] => match m[k]? with
    | some xs => if d.pure && decide (xs.length < sizeLine) then .ok .non (m.set k (xs ++ [d])) else .bad
    | none => .bad
  | .pop, .obj k, [] => match m[k]? with
    | some xs => match xs[xs.length - 1]? with
      | some d => .ok d (m.set k xs.dropLast)
      | none => .bad
    | none => .bad
  | .popAt, .obj k, [.int i] => match m[k]? with
    | some xs => match ixN xs.length i with
      | some j => match xs[j]? with
        | some d => if -(2 ^ 63) ≤ i ∧ i < 2 ^ 63 then .ok d (m.set k (xs.eraseIdx j)) else .bad
        | none => .bad
      | none => .bad
    | none => .bad
  | .index, a, [y] => match a.asR m with
    | some xs => if y.flat && xs.all D.flat then (match findF y xs 0 with | some j => .ok (.int j) m | none => .bad) else .bad
    | none => .bad
  | .bitLen, .int i, [] => .ok (.int (Builtin.Int.intBits i)) m
  | _, _, _ => .bad
/-- a receiver of the method's kind -/
def mtOk : Mt → D → Bool
  | .bitLen, .int _ => true
  | .bitLen, _ => false
  | _, .lst _ => true
  | _, .ro _ => true
  | _, .obj _ => true
  | _, _ => false
/-- what is walked: its items, the list that has to stand still -/
def enumD : List D → Nat → List D
  | [], _ => []
  | x :: r, k => .tup [.int k, x] :: enumD r (k + 1)
def zipD : List D → List D → List D
  | x :: r, y :: s => .tup [x, y] :: zipD r s
  | _, _ => []
def rngD (lo : Int) : Nat → List D
  | 0 => []
  | n + 1 => .int lo :: rngD (lo + 1) n
def signsD : List Nat → List D
  | [] => []
  | c :: r => .str ⟨#[c]⟩ :: signsD r
def watch : D → List Nat
  | .obj k => [k]
  | _ => []
def itD (m : Mm) : Ik → List D → Option (List D × List Nat)
  | .seq, [.str x] => some (signsD x.cps.toList, [])
  | .seq, [a] => (a.asS m).map fun xs => (xs, watch a)
  | .enum, [a] => (a.asR m).map fun xs => (enumD xs 0, watch a)
  | .zip, [a, b] => match a.asR m, b.asR m with
    | some xs, some ys => some (zipD xs ys, watch a ++ watch b)
    | _, _ => none
  | .rng1, [.int j] => if -(2 ^ 62) ≤ j ∧ j < 2 ^ 62 then some (rngD 0 j.toNat, []) else none
  | .rng2, [.int i, .int j] => if -(2 ^ 62) ≤ i ∧ i < 2 ^ 62 ∧ -(2 ^ 62) ≤ j ∧ j < 2 ^ 62 then some (rngD i (j - i).toNat, []) else none
  | _, _ => none
mutual
def D.same : D → D → Bool
  | .non, .non => true
  | .bl a, .bl b => a == b
  | .int a, .int b => a == b
  | .str a, .str b => a == b
  | .tup a, .tup b => D.sameL a b
  | .lst a, .lst b => D.sameL a b
  | .ro a, .ro b => D.sameL a b
  | .obj a, .obj b => a == b
  | _, _ => false
def D.sameL : List D → List D → Bool
  | [], [] => true
  | x :: xs, y :: ys => D.same x y && D.sameL xs ys
  | _, _ => false
end
/-- the watched lists stand as they stood -/
def sameAt (m m' : Mm) (ws : List Nat) : Bool := ws.all fun k => match m[k]?, m'[k]? with
  | some xs, some ys => D.sameL xs ys
  | _, _ => false

/-- list(range(i, j)) -/
def lrngD : D → D → Option D
  | .int i, .int j => if -(2 ^ 62) ≤ i ∧ i < 2 ^ 62 ∧ -(2 ^ 62) ≤ j ∧ j < 2 ^ 62 ∧ (j - i).toNat ≤ 2 ^ 24 then some (.lst (rngD i (j - i).toNat)) else none
  | _, _ => none
/-- each number once -/
def dedI : List Int → List Int
  | [] => []
  | x :: r => if x ∈ r then dedI r else x :: dedI r
/-- sorted(set(numbers)) -/
def ssetD (m : Mm) (x : D) : Option D := ((x.asR m).bind intsD).bind fun ns => if ns.length ≤ 4000 ∧ (dedI ns).length < 64 then some (.lst ((sortI (dedI ns)).map .int)) else none
/-! ### the evaluator -/
abbrev Rho := List (Option D)
def setT : Tg → D → Rho → Option Rho
  | .v i, d, r => some (r.set i (some d))
  | .tup ts, .tup ds, r => setTs ts ds r
  | .tup _, _, _ => none
where setTs : List Tg → List D → Rho → Option Rho
  | [], [], r => some r
  | t :: ts, d :: ds, r => (setT t d r).bind fun r' => setTs ts ds r'
  | _, _, _ => none
def wipeD (r : Rho) : List Nat → Rho
  | [] => r
  | v :: vs => (wipeD r vs).set v none
def evEs (f : E → Mm → R D) : List E → Mm → R (List D)
  | [], m => .ok [] m
  | e :: es, m => (f e m).bind fun d m1 => (evEs f es m1).bind fun ds m2 => .ok (d :: ds) m2
def pick {α : Type} : List Nat → List α → Option (List α)
  | [], _ => some []
  | i :: is, ds => (ds[i]?).bind fun d => (pick is ds).map fun r => d :: r
def evO (f : E → Mm → R D) : Option E → Mm → R (Option Int)
  | none, m => .ok none m
  | some e, m => (f e m).bind fun d m1 => match d with
    | .int i => .ok (some i) m1
    | _ => .bad
/-- the turns of a comprehension -/
def evLc (f : D → Mm → R (Option D)) (m0 : Mm) (ws : List Nat) : List D → List D → Mm → R (List D)
  | [], acc, m => if sameAt m0 m ws then .ok acc m else .bad
  | x :: r, acc, m => if sameAt m0 m ws && decide (acc.length < sizeLine) then (f x m).bind fun y m1 => evLc f m0 ws r (match y with | some d => acc ++ [d] | none => acc) m1 else .bad
section
variable (call : Nat → List D → Mm → R D)
def evE : Nat → E → Rho → Mm → R D
  | 0, _, _, _ => .bad
  | n + 1, e, r, m => match e with
    | .bad => .bad
    | .var i => match r[i]? with
      | some (some d) => .ok d m
      | _ => .bad
    | .non => .ok .non m
    | .bl b => .ok (.bl b) m
    | .int i => .ok (.int i) m
    | .str x => .ok (.str x) m
    | .tup es => (evEs (fun e m => evE n e r m) es m).bind fun ds m1 => .ok (.tup ds) m1
    | .lst es => (evEs (fun e m => evE n e r m) es m).bind fun ds m1 => .ok (.lst ds) m1
    | .newc e => (evE n e r m).bind fun d m1 => match d with
      | .lst ds => if D.pureL ds then .ok (.obj m1.length) (m1 ++ [ds]) else .bad
      | _ => .bad
    | .bin o a b => (evE n a r m).bind fun x m1 => (evE n b r m1).bind fun y m2 => R.opt (binD m2 o x y) m2
    | .neg a => (evE n a r m).bind fun x m1 => match x with
      | .int i => .ok (.int (-i)) m1
      | _ => .bad
    | .cmp o a b => (evE n a r m).bind fun x m1 => (evE n b r m1).bind fun y m2 => R.opt ((cmpD m2 o x y).map .bl) m2
    | .chain o p a b c => (evE n a r m).bind fun x m1 => (evE n b r m1).bind fun y m2 => match cmpD m2 o x y with
      | some true => (evE n c r m2).bind fun z m3 => R.opt ((cmpD m3 p y z).map .bl) m3
      | some false => .ok (.bl false) m2
      | none => .bad
    | .and a b => (evE n a r m).bind fun x m1 => match x with
      | .bl true => evE n b r m1
      | .bl false => .ok (.bl false) m1
      | _ => .bad
    | .or a b => (evE n a r m).bind fun x m1 => match x with
      | .bl false => evE n b r m1
      | .bl true => .ok (.bl true) m1
      | _ => .bad
    | .not a => (evE n a r m).bind fun x m1 => match x with
      | .bl b => .ok (.bl (!b)) m1
      | _ => .bad
    | .ife c a b => (evE n c r m).bind fun x m1 => match x.truth m1 with
      | some true => evE n a r m1
      | some false => evE n b r m1
      | none => .bad
    | .idx a i => (evE n a r m).bind fun x m1 => (evE n i r m1).bind fun y m2 => R.opt (idxD m2 x y) m2
    | .cut a l h => (evE n a r m).bind fun x m1 => (evO (fun e m => evE n e r m) l m1).bind fun y m2 => (evO (fun e m => evE n e r m) h m2).bind fun z m3 => R.opt (cutD m3 y z x) m3
    | .call f es => (evEs (fun e m => evE n e r m) es m).bind fun ds m1 => call f ds m1
    | .callk f es ix => (evEs (fun e m => evE n e r m) es m).bind fun ds m1 => match pick ix ds with
      | some ds' => call f ds' m1
      | none => .bad
    | .bi b es => (evEs (fun e m => evE n e r m) es m).bind fun ds m1 => R.opt (biD m1 b ds) m1
    | .mt f a es => (evE n a r m).bind fun x m1 => if mtOk f x then (evEs (fun e m => evE n e r m) es m1).bind fun ds m2 => mtD m2 f x ds else .bad
    | .comp elt t k es c own => (evEs (fun e m => evE n e r m) es m).bind fun ds m1 => match itD m1 k ds with
      | some (xs, ws) => (evLc (fun x m => match setT t x (wipeD r own) with
          | some r1 => match c with
            | none => (evE n elt r1 m).bind fun d m2 => .ok (some d) m2
            | some c => (evE n c r1 m).bind fun b m2 => match b.truth m2 with
              | some true => (evE n elt r1 m2).bind fun d m3 => .ok (some d) m3
              | some false => .ok none m2
              | none => .bad
          | none => .bad) m1 ws xs [] m1).bind fun ys m2 => .ok (.lst ys) m2
      | none => .bad
    | .lrng a b => (evE n a r m).bind fun x m1 => (evE n b r m1).bind fun y m2 => R.opt (lrngD x y) m2
    | .sset a => (evE n a r m).bind fun x m1 => R.opt (ssetD m1 x) m1

/-- behind a statement -/
inductive O where
  | nx (r : Rho) (m : Mm) | rt (d : D) (m : Mm) | bk (r : Rho) (m : Mm) | ct (r : Rho) (m : Mm) | bad
def O.bind (o : O) (f : Rho → Mm → O) : O :=
  match o with
  | .nx r m => f r m
  | .rt d m => .rt d m
  | .bk r m => .bk r m
  | .ct r m => .ct r m
  | .bad => .bad
def R.stm {α : Type} (x : R α) (f : α → Mm → O) : O :=
  match x with
  | .ok a m => f a m
  | .bad => .bad
def evSs (f : S → Rho → Mm → O) : List S → Rho → Mm → O
  | [], r, m => .nx r m
  | s :: ss, r, m => (f s r m).bind fun r1 m1 => evSs f ss r1 m1
/-- the turns of a for -/
def evFor (f : Rho → Mm → O) (t : Tg) (m0 : Mm) (ws : List Nat) : List D → Rho → Mm → O
  | [], r, m => if sameAt m0 m ws then .nx r m else .bad
  | x :: xs, r, m => if sameAt m0 m ws then (match setT t x r with
    | some r1 => match f r1 m with
      | .nx r2 m2 => evFor f t m0 ws xs r2 m2
      | .ct r2 m2 => evFor f t m0 ws xs r2 m2
      | .bk r2 m2 => .nx r2 m2
      | .rt d m2 => .rt d m2
      | .bad => .bad
    | none => .bad) else .bad
def evWhl (c : Rho → Mm → R D) (f : Rho → Mm → O) : Nat → Rho → Mm → O
  | 0, _, _ => .bad
  | k + 1, r, m => (c r m).stm fun x m1 => match x.truth m1 with
    | some true => match f r m1 with
      | .nx r2 m2 => evWhl c f k r2 m2
      | .ct r2 m2 => evWhl c f k r2 m2
      | .bk r2 m2 => .nx r2 m2
      | .rt d m2 => .rt d m2
      | .bad => .bad
    | some false => .nx r m1
    | none => .bad
def setPar : List Nat → List D → Rho → Option Rho
  | [], [], r => some r
  | i :: is, d :: ds, r => setPar is ds (r.set i (some d))
  | _, _, _ => none
variable (wf : Nat)
def evS : Nat → S → Rho → Mm → O
  | 0, _, _, _ => .bad
  | n + 1, s, r, m => match s with
    | .bad => .bad
    | .pass => .nx r m
    | .brk => .bk r m
    | .cont => .ct r m
    | .set t e => (evE call n e r m).stm fun d m1 => match setT t d r with
      | some r1 => .nx r1 m1
      | none => .bad
    | .par is es => (evEs (fun e m => evE call n e r m) es m).stm fun ds m1 => match setPar is ds r with
      | some r1 => .nx r1 m1
      | none => .bad
    | .put o i e => (evE call n e r m).stm fun d m1 => (evE call n o r m1).stm fun x m2 => (evE call n i r m2).stm fun y m3 => match x, y with
      | .obj k, .int j => match m3[k]? with
        | some xs => match ixN xs.length j with
          | some p => if d.pure then .nx r (m3.set k (xs.set p d)) else .bad
          | none => .bad
        | none => .bad
      | _, _ => .bad
    | .ret e => (evE call n e r m).stm fun d m1 => .rt d m1
    | .retN => .rt .non m
    | .ex e => (evE call n e r m).stm fun _ m1 => .nx r m1
    | .ife c a b => (evE call n c r m).stm fun x m1 => match x.truth m1 with
      | some true => evSs (fun s r m => evS n s r m) a r m1
      | some false => evSs (fun s r m => evS n s r m) b r m1
      | none => .bad
    | .for t k es body => (evEs (fun e m => evE call n e r m) es m).stm fun ds m1 => match itD m1 k ds with
      | some (xs, ws) => evFor (fun r m => evSs (fun s r m => evS n s r m) body r m) t m1 ws xs r m1
      | none => .bad
    | .whl c body => evWhl (fun r m => evE call n c r m) (fun r m => evSs (fun s r m => evS n s r m) body r m) wf r m
end
/-- a def: its number of slots, of parameters, its body; keep: what it makes and hands back may be changed by its caller -/
structure Fd where
  many : Nat
  params : Nat
  body : List S
  keep : Bool
def startD (many : Nat) (ds : List D) : Rho := ds.map some ++ List.replicate (many - ds.length) none
def outD (keep : Bool) (m : Mm) : O → R D
  | .nx _ m1 => .ok .non (if keep then m1 else m1.take m.length)
  | .rt d m1 => if keep then .ok d m1 else .ok (D.frz m.length m1 d) (m1.take m.length)
  | _ => .bad
/-- the call of the def number f, at most k calls one in another -/
def callN (G : List Fd) (wf fuel : Nat) : Nat → Nat → List D → Mm → R D
  | 0, _, _, _ => .bad
  | k + 1, f, ds, m => match G[f]? with
    | some g => if ds.length = g.params then outD g.keep m (evSs (fun s r m => evS (callN G wf fuel k) wf fuel s r m) g.body (startD g.many ds) m) else .bad
    | none => .bad
end EV

set_option Elab.async false
set_option linter.all false
set_option autoImplicit false
set_option maxRecDepth 100000
namespace EV
open PySem PySem.Spec L2

mutual
inductive Rep (K : PySem.W.Frag) (as hd : List Addr) (H : Hp) : D → V → Prop
  | non : Rep K as hd H .non .non
  | bl (b : Bool) : Rep K as hd H (.bl b) (.bl b)
  | int (i : Int) : Rep K as hd H (.int i) (.int i)
  | str (x : Str) : Rep K as hd H (.str x) (.str x)
  | tup {a : Addr} {xs : List V} {ds : List D} : H a = some (.tup xs) → a ∉ as → a ∉ hd → Reps K as hd H ds xs → Rep K as hd H (.tup ds) (.ref a)
  | lst {a : Addr} {xs : List V} {ds : List D} : H a = some (.lst xs) → a ∉ as → a ∉ hd → Reps K as hd H ds xs → Rep K as hd H (.lst ds) (.ref a)
  | ro {a : Addr} {xs : List V} {ds : List D} : Rd H a (.lst xs) → a ∉ as → a ∉ hd → Reps K as hd H ds xs → Rep K as hd H (.ro ds) (.ref a)
  | rok {a : Addr} {xs : List V} {ds : List D} : (∀ H', SqL K H' a xs) → Reps K as hd H ds xs → Rep K as hd H (.ro ds) (.ref a)
  | obj {k : Nat} {a : Addr} : as[k]? = some a → Rep K as hd H (.obj k) (.ref a)
inductive Reps (K : PySem.W.Frag) (as hd : List Addr) (H : Hp) : List D → List V → Prop
  | nil : Reps K as hd H [] []
  | cons {d : D} {v : V} {ds : List D} {vs : List V} : Rep K as hd H d v → Reps K as hd H ds vs → Reps K as hd H (d :: ds) (v :: vs)
end

structure Ok (K : PySem.W.Frag) (as hd : List Addr) (H : Hp) (m : Mm) : Prop where
  len : as.length = m.length
  nd : as.Nodup
  dis : ∀ a, a ∈ as → a ∉ hd
  cell : ∀ (k : Nat) (a : Addr), as[k]? = some a → ∃ ds xs, m[k]? = some ds ∧ H a = some (.lst xs) ∧ Reps K as hd H ds xs ∧ D.pureL ds = true
  hdn : ∀ a, a ∈ hd → ∃ o, H a = some o
structure Step (as hd : List Addr) (H : Hp) (as' hd' : List Addr) (H' : Hp) : Prop where
  pre : as <+: as'
  keep : ∀ a o, H a = some o → a ∉ as → H' a = some o
  newA : ∀ a, a ∈ as' → a ∈ as ∨ H a = none
  newH : ∀ a, a ∈ hd' → a ∈ as ∨ a ∈ hd ∨ H a = none

section
variable {K : PySem.W.Frag} {as hd as' hd' as2 hd2 : List Addr} {H H' H2 : Hp}
theorem Step.refl : Step as hd H as hd H := ⟨List.prefix_refl _, fun _ _ h _ => h, fun a h => .inl h, fun a h => .inr (.inl h)⟩
theorem rd_some {a : Addr} {u : HO} (h : Rd H a u) : ∃ o, H a = some o := by
  rcases h with h | ⟨o, h⟩
  · exact ⟨_, h⟩
  · exact ⟨_, h⟩
theorem Step.out (st : Step as hd H as' hd' H') {a : Addr} {o : HO} (h : H a = some o) (h1 : a ∉ as) (h2 : a ∉ hd) : a ∉ as' ∧ a ∉ hd' := by
  refine ⟨fun z => ?_, fun z => ?_⟩
  · rcases st.newA a z with q | q
    · exact h1 q
    · rw [h] at q; cases q
  · rcases st.newH a z with q | q | q
    · exact h1 q
    · exact h2 q
    · rw [h] at q; cases q
theorem Step.rd (st : Step as hd H as' hd' H') {a : Addr} {u : HO} (h : Rd H a u) (h1 : a ∉ as) : Rd H' a u := by
  rcases h with h | ⟨o, h⟩
  · exact .inl (st.keep a _ h h1)
  · exact .inr ⟨o, st.keep a _ h h1⟩
theorem prefix_get {α : Type} {l l' : List α} (h : l <+: l') {k : Nat} {a : α} (e : l[k]? = some a) : l'[k]? = some a := by
  obtain ⟨t, rfl⟩ := h
  rw [List.getElem?_append_left (List.getElem?_eq_some_iff.mp e).1]
  exact e
theorem prefix_mem {α : Type} {l l' : List α} (h : l <+: l') {a : α} (e : a ∈ l) : a ∈ l' := by
  obtain ⟨t, rfl⟩ := h
  exact List.mem_append_left _ e
mutual
theorem Rep.mono (st : Step as hd H as' hd' H') : ∀ {d : D} {v : V}, Rep K as hd H d v → Rep K as' hd' H' d v
  | _, _, .non => .non
  | _, _, .bl b => .bl b
  | _, _, .int i => .int i
  | _, _, .str x => .str x
  | _, _, .tup h1 h2 h3 h4 => by
    have q := st.out h1 h2 h3
    exact .tup (st.keep _ _ h1 h2) q.1 q.2 (Reps.mono st h4)
  | _, _, .lst h1 h2 h3 h4 => by
    have q := st.out h1 h2 h3
    exact .lst (st.keep _ _ h1 h2) q.1 q.2 (Reps.mono st h4)
  | _, _, .ro h1 h2 h3 h4 => by
    obtain ⟨o, e⟩ := rd_some h1
    have q := st.out e h2 h3
    exact .ro (st.rd h1 h2) q.1 q.2 (Reps.mono st h4)
  | _, _, .rok h1 h2 => .rok h1 (Reps.mono st h2)
  | _, _, .obj h => .obj (prefix_get st.pre h)
theorem Reps.mono (st : Step as hd H as' hd' H') : ∀ {ds : List D} {vs : List V}, Reps K as hd H ds vs → Reps K as' hd' H' ds vs
  | _, _, .nil => .nil
  | _, _, .cons h1 h2 => .cons (Rep.mono st h1) (Reps.mono st h2)
end
theorem Step.trans (s1 : Step as hd H as' hd' H') (s2 : Step as' hd' H' as2 hd2 H2) : Step as hd H as2 hd2 H2 := by
  have back : ∀ a, H' a = none → a ∈ as ∨ H a = none := fun a q => by
    by_cases z : a ∈ as
    · exact .inl z
    · cases e : H a with
      | none => exact .inr rfl
      | some o => rw [s1.keep a o e z] at q; cases q
  refine ⟨s1.pre.trans s2.pre, fun a o h n => ?_, fun a h => ?_, fun a h => ?_⟩
  · refine s2.keep a o (s1.keep a o h n) fun z => ?_
    rcases s1.newA a z with q | q
    · exact n q
    · rw [h] at q; cases q
  · rcases s2.newA a h with q | q
    · exact s1.newA a q
    · exact back a q
  · rcases s2.newH a h with q | q | q
    · rcases s1.newA a q with q | q
      · exact .inl q
      · exact .inr (.inr q)
    · exact s1.newH a q
    · rcases back a q with q | q
      · exact .inl q
      · exact .inr (.inr q)

/-! ### what is wanted behind an answer -/
abbrev RP (α β : Type) := List Addr → List Addr → Hp → α → β → Prop
def Post {α β : Type} (K : PySem.W.Frag) (P : RP α β) (as hd : List Addr) (H : Hp) (Q : β → Hp → Prop) : R α → Prop
  | .ok a m => ∀ as' H' b, Step as hd H as' hd H' → Ok K as' hd H' m → P as' hd H' a b → Q b H'
  | .bad => False
abbrev EqB : RP Bool Bool := fun _ _ _ a b => a = b
theorem Post.step {α β : Type} {P : RP α β} {Q : β → Hp → Prop} {r : R α} (h : Post K P as hd H Q r) (st : Step as hd H as' hd H') : Post K P as' hd H' Q r := by
  cases r with
  | ok a m => exact fun as2 H2 b s2 ok p => h as2 H2 b (st.trans s2) ok p
  | bad => exact h
theorem Post.bind {α β γ δ : Type} {P : RP α β} {P' : RP γ δ} {Q : δ → Hp → Prop} {Q' : β → Hp → Prop} {r : R α} {G : α → Mm → R γ} (h : Post K P' as hd H Q (r.bind G))
    (k : ∀ as' H' a m b, r = .ok a m → Step as hd H as' hd H' → Ok K as' hd H' m → P as' hd H' a b → Post K P' as' hd H' Q (G a m) → Q' b H') : Post K P as hd H Q' r := by
  cases r with
  | ok a m => exact fun as' H' b st ok p => k as' H' a m b rfl st ok p (Post.step (r := G a m) h st)
  | bad => exact h
theorem Post.mono {α β : Type} {P : RP α β} {Q Q' : β → Hp → Prop} {r : R α} (h : Post K P as hd H Q r) (k : ∀ b H', Q b H' → Q' b H') : Post K P as hd H Q' r := by
  cases r with
  | ok a m => exact fun as' H' b st ok p => k _ _ (h as' H' b st ok p)
  | bad => exact h

structure EnvR (K : PySem.W.Frag) (as hd : List Addr) (H : Hp) (ρ : Rho) (σ : St) : Prop where
  len : σ.length = ρ.length
  get : ∀ (i : Nat) d, ρ[i]? = some (some d) → ∃ v, σ[i]? = some (some v) ∧ Rep K as hd H d v
theorem EnvR.mono {ρ : Rho} {σ : St} (e : EnvR K as hd H ρ σ) (st : Step as hd H as' hd' H') : EnvR K as' hd' H' ρ σ :=
  ⟨e.len, fun i d h => let ⟨v, h1, h2⟩ := e.get i d h; ⟨v, h1, h2.mono st⟩⟩
theorem EnvR.set {ρ : Rho} {σ : St} (e : EnvR K as hd H ρ σ) (i : Nat) {d : D} {v : V} (r : Rep K as hd H d v) : EnvR K as hd H (ρ.set i (some d)) (σ.set i (some v)) := by
  refine ⟨by simp [e.len], fun j d' h => ?_⟩
  by_cases hj : i = j
  · subst hj
    have hi : i < ρ.length := by
      have := (List.getElem?_eq_some_iff.mp h).1
      simpa using this
    rw [List.getElem?_set_self hi] at h
    cases h
    exact ⟨v, List.getElem?_set_self (by rw [e.len]; exact hi), r⟩
  · rw [List.getElem?_set_ne hj] at h
    obtain ⟨v', h1, h2⟩ := e.get j d' h
    exact ⟨v', by rw [List.getElem?_set_ne hj]; exact h1, h2⟩

/-- a reading by an action of the evaluator -/
def rd {α β : Type} (K : PySem.W.Frag) (P : RP α β) (F : Rho → Mm → R α) (σ : St) (H : Hp) (Q : β → Hp → Prop) : Prop :=
  ∃ as hd ρ m, Ok K as hd H m ∧ EnvR K as hd H ρ σ ∧ Post K P as hd H Q (F ρ m)

/-! ### new objects -/
theorem Ok.named {m : Mm} (ok : Ok K as hd H m) {a : Addr} (h : a ∈ as) : ∃ o, H a = some o := by
  obtain ⟨k, e⟩ := List.mem_iff_getElem?.mp h
  obtain ⟨ds, xs, _, e2, _⟩ := ok.cell k a e
  exact ⟨_, e2⟩
theorem Ok.fresh {m : Mm} (ok : Ok K as hd H m) {p : Addr} (h : H p = none) : p ∉ as ∧ p ∉ hd := by
  refine ⟨fun z => ?_, fun z => ?_⟩
  · obtain ⟨o, e⟩ := ok.named z
    rw [h] at e; cases e
  · obtain ⟨o, e⟩ := ok.hdn p z
    rw [h] at e; cases e
theorem Step.laid {p : Addr} {o : HO} (h : H p = none) : Step as hd H as hd (upd H p o) :=
  ⟨List.prefix_refl _, fun a u e _ => by rw [upd_ne (fun z => by subst z; rw [h] at e; cases e)]; exact e, fun a z => .inl z, fun a z => .inr (.inl z)⟩
theorem Ok.step {m : Mm} (ok : Ok K as hd H m) (st : Step as hd H as hd H') (hs : ∀ a, a ∈ as → H' a = H a) : Ok K as hd H' m := by
  refine ⟨ok.len, ok.nd, ok.dis, fun k a e => ?_, fun a z => ?_⟩
  · obtain ⟨ds, xs, h1, h2, h3, h4⟩ := ok.cell k a e
    exact ⟨ds, xs, h1, by rw [hs a (List.mem_of_getElem? e)]; exact h2, h3.mono st, h4⟩
  · obtain ⟨o, e⟩ := ok.hdn a z
    exact ⟨o, st.keep a o e fun y => ok.dis a y z⟩
theorem Ok.laid {m : Mm} (ok : Ok K as hd H m) {p : Addr} {o : HO} (h : H p = none) : Ok K as hd (upd H p o) m :=
  ok.step (Step.laid h) fun a z => upd_ne fun y => (ok.fresh h).1 (by rw [← y]; exact z)
end
end EV

set_option Elab.async false
set_option linter.all false
set_option autoImplicit false
set_option maxRecDepth 100000
namespace EV
open PySem PySem.Spec PyProof.Rows L2

/-! ### calls, with room for texts of data (no shape is being shown) -/
structure Rm (k : Nat) (A : Around) : Prop where
  room : Room k A
  gd : A.guards = some []
theorem Rm.mono {j k : Nat} {A : Around} (r : Rm k A) (h : j ≤ k) : Rm j A := ⟨r.room.mono h, r.gd⟩
theorem Rm.deeper {k : Nat} {A : Around} (r : Rm (k + 1) A) (env : Env) : Rm k (A.deeper env) := ⟨r.room.deeper env, r.gd⟩
abbrev Prm := List V → Hp → VK → Prop
structure FnG (P : Program) (w : World) (K : PySem.W.Frag) (mg : Str → Option Value) (base : Heap) (k : Nat) (f : Addr) (fd : FuncData) (ps : List Str) (sp : Prm) : Prop where
  len : ∀ vs H Q, sp vs H Q → vs.length = ps.length
  go : ∀ (A : Around) (outer : List Env) (s : Shared) (H : Hp) (args : Args) (us : List Value) (vs : List V) (Q : VK), Rm k A → Env0 P w K mg base A outer s H →
    BindsTo s fd args (ps.zip us) → Vals vs us → sp vs H Q → codeAny (model P w) A (.call (.ref f) args) (CR CX0 outer P w H s Q E0) s

section
variable {P : Program} {w : World} {K : PySem.W.Frag} {mg : Str → Option Value} {base : Heap} {x qual : Str} {params : Arguments} {body : List Stmt} {scope : Scope}
  {dvs : List V} {kws : List (Str × V)} {f : Addr} {fd : FuncData} {N ps : List Str} {k : Nat} {sp : Prm}
/-- a def of the text keeps its promise by its body -/
theorem fng_of (F : FunD K x qual params body scope dvs kws f fd) (S : FnScope N ps scope) (len : ∀ vs H Q, sp vs H Q → vs.length = ps.length)
    (hb : ∀ (cdv : Value) (A : Around) (outer : List Env) (s : Shared) (H : Hp) (vs : List V) (Q : VK), Rm k (A.deeper (envOfC qual scope s.heap.objs.size f cdv)) → sp vs H Q →
      ∃ t, PSs (cxOf CX0 P w K mg base N qual scope f cdv A outer s H E0).nox body t ∧ t { nx := fun _ H' => Q .non H', rt := Q } (start N vs) H) :
    FnG P w K mg base (k + 1) f fd ps sp := by
  obtain ⟨oc, od, dV, kV, doc, pm, an, cdv, ct, osl, rfl, lk, hcd, _, _⟩ := F.ex
  refine ⟨len, fun A outer s H args us vs Q hr e0 hbt r hsp => ?_⟩
  have sub : ∀ b o, base.get? b = some o → s.heap.get? b = some o := fun b o e => (e0.bs b o e).1
  have KX := e0.mod.kin.keeps sub
  have kinds : ∀ y ∈ ps.zip us, scope.names.lookup y.1 = some .local ∨ (scope.names.lookup y.1 = some .cell ∧ ((cellsFrom (s.heap.objs.size + 1) scope.names []).lookup y.1).isSome = true) := by
    rintro ⟨n, v⟩ hy
    rcases S.par n (List.of_mem_zip hy).1 with q | q
    · exact .inl q
    · exact .inr ⟨q, PySem.W.cellsFrom_some _ _ _ (.inl q)⟩
  refine codeAny_call_function hr.room.depth (KX _ _ lk) rfl S.co S.gen rfl (PySem.W.codeRec_of KX hcd) (hbt _ _ _ _ (wpAny_newFunctionEnv_cells S.kind kinds fun env he s1 x => ?_))
  subst he
  refine ⟨(e0.mod.nolimit.keeps sub).keeps x.toInCall.keep, codeAny_func ?_⟩
  obtain ⟨t, ht, hq⟩ := hb cdv A outer s H vs Q (hr.deeper _) hsp
  have I := inv_start (CX := CX0) (E := E0) S hr.room.hd e0 (len _ _ _ hsp) r x
  refine wpAny_mono (ht.nox.run [] s1 (start N vs) H _ I hq) (fun fl s' hs => ?_) fun e s' hs => hs
  cases fl with
  | ret u =>
    obtain ⟨v, σ', H', J, rv, q⟩ := hs
    exact ⟨v, H', J.os, J.bare, J.base, J.hok, rv, q⟩
  | next =>
    obtain ⟨σ', H', J, q⟩ := hs
    exact ⟨.non, H', J.os, J.bare, J.base, J.hok, rfl, q⟩
  | brk =>
    obtain ⟨_, _, _, q⟩ := hs
    exact q.elim
  | cont =>
    obtain ⟨_, _, _, q⟩ := hs
    exact q.elim
end
section
variable {X : Cx} {k : Nat} {f : Addr} {fd : FuncData} {ps : List Str} {sp : Prm} {x : Str} {p pos : Pos} {e : Expr} {es : List Expr} {t : TA}
theorem run_fng {pins : List (Addr × Obj)} {σ : L2.St} {H : Hp} {s : Shared} {Q : VK} {us : List Value} {vs : List V} (F : FnG X.prog X.w X.K X.mg X.base k f fd ps sp) (hr : Rm k X.A) (hb : Binds X.K fd ps [])
    (I : Inv X pins σ H s) (r : Vals vs us) (h : sp vs H Q) : wpAny (model X.prog X.w) X.A (PySem.call (.ref f) us) (EP X pins σ Q) X.xe s := by
  have hl : (us ++ []).length = ps.length := by
    rw [List.append_nil, ← r.length]
    exact F.len _ _ _ h
  have hbt := hb s us I.kIn hl
  rw [List.append_nil] at hbt
  refine wpAny_call (codeAny_mono (F.go X.A X.stack s H ⟨us, []⟩ us vs Q hr I.env0 hbt r h) fun r s' hq => ?_)
  cases r with
  | error e => exact False.elim hq
  | ok fl =>
    cases fl with
    | ret u => exact I.after hq
    | next => exact False.elim hq
    | brk => exact False.elim hq
    | cont => exact False.elim hq
def tCl (sp : Prm) (t : TA) : TE := fun σ H Q => t σ H fun vs H1 => sp vs H1 Q
theorem pe_clg (F : FnG X.prog X.w X.K X.mg X.base k f fd ps sp) (hr : Rm k X.A) (hg : Gl X x) (hm : X.mg x = some (.ref f)) (hk : PySem.W.keepIn X.K (.ref f) = true) (hb : Binds X.K fd ps [])
    (ha : PA X (e :: es) t) (hdb : (x == ("__debug__" : Str)) = false) (he : starEach (e :: es) X.env = (false, eval e X.env) :: starEach es X.env) (hpl : (backTo pos (starEach es X.env)).any (·.1) = false) :
    PE X (.Call (.Name x p) (e :: es) [] pos) (tCl sp t) := by
  refine ⟨fun pins s σ H Q I h => wpAny_Call_Name_kw (ld_glob I hg hm ?_ hdb)⟩
  refine PySem.W.callWith_K (h₀ := X.base) I.ok.mod.kin hk (thn (ha.run pos pins s σ H _ I h) fun us s1 ⟨vs, H1, I1, r, q⟩ => ⟨I1.kIn, run_fng F hr hb I1 r q⟩) he hpl
theorem pe_clg0 (F : FnG X.prog X.w X.K X.mg X.base k f fd ps sp) (hr : Rm k X.A) (hg : Gl X x) (hm : X.mg x = some (.ref f)) (hk : PySem.W.keepIn X.K (.ref f) = true) (hb : Binds X.K fd ps [])
    (hdb : (x == ("__debug__" : Str)) = false) : PE X (.Call (.Name x p) [] [] pos) (tCl sp tNil) := by
  refine ⟨fun pins s σ H Q I h => wpAny_Call_Name_kw (ld_glob I hg hm ?_ hdb)⟩
  exact PySem.W.callWith_K0 I.kIn hk (run_fng (us := []) F hr hb I .nil h)
end
/-! ### more operators -/
section
variable {X : Cx}
def CPowG (i j : Int) : Prop := 0 ≤ j ∧ (Builtin.Int.intBits i : Int) * j ≤ 2 ^ 27
theorem oq_pow : OpR X (binaryOp .Pow) (rI CPowG fun i j => .int (i ^ j.toNat)) := opI fun _ _ _ _ _ _ _ hc q => PyProof.Rows.pow_int hc.1 hc.2 q
end
end EV

set_option Elab.async false
set_option linter.all false
set_option maxRecDepth 100000
set_option autoImplicit false
namespace EV
open PySem PySem.Spec PyProof.Rows L2
section
variable {K : PySem.W.Frag} {as hd : List Addr} {H : Hp} {m : Mm}
theorem Rep.asL (ok : Ok K as hd H m) {d : D} {v : V} {xs : List D} (r : Rep K as hd H d v) (h : d.asL m = some xs) : ∃ a vs, v = .ref a ∧ H a = some (.lst vs) ∧ Reps K as hd H xs vs := by
  cases r with
  | lst h1 h2 h3 h4 =>
    cases h
    exact ⟨_, _, rfl, h1, h4⟩
  | obj e =>
    obtain ⟨ds, vs, e1, e2, e3, _⟩ := ok.cell _ _ e
    have h : m[_]? = some xs := h
    rw [e1] at h
    cases h
    exact ⟨_, _, rfl, e2, e3⟩
  | _ => cases h
theorem Rep.asR (ok : Ok K as hd H m) {d : D} {v : V} {xs : List D} (r : Rep K as hd H d v) (h : d.asR m = some xs) : ∃ a vs, v = .ref a ∧ SqL K H a vs ∧ Reps K as hd H xs vs := by
  cases r with
  | lst h1 h2 h3 h4 =>
    cases h
    exact ⟨_, _, rfl, .of h1, h4⟩
  | ro h1 h2 h3 h4 =>
    cases h
    exact ⟨_, _, rfl, .inl h1, h4⟩
  | rok h1 h2 =>
    cases h
    exact ⟨_, _, rfl, h1 H, h2⟩
  | obj e =>
    obtain ⟨ds, vs, e1, e2, e3, _⟩ := ok.cell _ _ e
    have h : m[_]? = some xs := h
    rw [e1] at h
    cases h
    exact ⟨_, _, rfl, .of e2, e3⟩
  | _ => cases h
theorem Rep.asS (ok : Ok K as hd H m) {d : D} {v : V} {xs : List D} (r : Rep K as hd H d v) (h : d.asS m = some xs) :
    ∃ a vs, v = .ref a ∧ ((SqL K H a vs ∧ d.asR m = some xs) ∨ (H a = some (.tup vs) ∧ d = .tup xs)) ∧ Reps K as hd H xs vs := by
  cases r with
  | lst h1 h2 h3 h4 =>
    cases h
    exact ⟨_, _, rfl, .inl ⟨.of h1, rfl⟩, h4⟩
  | ro h1 h2 h3 h4 =>
    cases h
    exact ⟨_, _, rfl, .inl ⟨.inl h1, rfl⟩, h4⟩
  | rok h1 h2 =>
    cases h
    exact ⟨_, _, rfl, .inl ⟨h1 H, rfl⟩, h2⟩
  | tup h1 h2 h3 h4 =>
    cases h
    exact ⟨_, _, rfl, .inr ⟨h1, rfl⟩, h4⟩
  | obj e =>
    obtain ⟨ds, vs, e1, e2, e3, _⟩ := ok.cell _ _ e
    have h : m[_]? = some xs := h
    rw [e1] at h
    cases h
    exact ⟨_, _, rfl, .inl ⟨.of e2, e1⟩, e3⟩
  | _ => cases h
theorem Reps.length : ∀ {xs : List D} {vs : List V}, Reps K as hd H xs vs → xs.length = vs.length
  | _, _, .nil => rfl
  | _, _, .cons _ t => congrArg Nat.succ (Reps.length t)
theorem Reps.append : ∀ {xs ys : List D} {vs ws : List V}, Reps K as hd H xs vs → Reps K as hd H ys ws → Reps K as hd H (xs ++ ys) (vs ++ ws)
  | _, _, _, _, .nil, s => s
  | _, _, _, _, .cons r t, s => .cons r (Reps.append t s)
theorem Reps.get : ∀ {xs : List D} {vs : List V} {i : Nat} {v : V}, Reps K as hd H xs vs → vs[i]? = some v → ∃ d, xs[i]? = some d ∧ Rep K as hd H d v
  | _, _, _, _, .nil, e => by simp at e
  | _, _, 0, _, .cons r _, e => by simp at e; subst e; exact ⟨_, rfl, r⟩
  | _, _, i + 1, _, .cons _ t, e => by simpa using Reps.get (i := i) t (by simpa using e)
theorem Reps.got : ∀ {xs : List D} {vs : List V} {i : Nat} {d : D}, Reps K as hd H xs vs → xs[i]? = some d → ∃ v, vs[i]? = some v ∧ Rep K as hd H d v
  | _, _, _, _, .nil, e => by simp at e
  | _, _, 0, _, .cons r _, e => by simp at e; subst e; exact ⟨_, rfl, r⟩
  | _, _, i + 1, _, .cons _ t, e => by simpa using Reps.got (i := i) t (by simpa using e)
theorem Reps.drop : ∀ {xs : List D} {vs : List V} (n : Nat), Reps K as hd H xs vs → Reps K as hd H (xs.drop n) (vs.drop n)
  | _, _, 0, r => r
  | _, _, _ + 1, .nil => .nil
  | _, _, n + 1, .cons _ t => Reps.drop n t
theorem Reps.take : ∀ {xs : List D} {vs : List V} (n : Nat), Reps K as hd H xs vs → Reps K as hd H (xs.take n) (vs.take n)
  | _, _, 0, _ => .nil
  | _, _, _ + 1, .nil => .nil
  | _, _, n + 1, .cons r t => .cons r (Reps.take n t)
theorem Reps.set : ∀ {xs : List D} {vs : List V} (n : Nat) {d : D} {v : V}, Reps K as hd H xs vs → Rep K as hd H d v → Reps K as hd H (xs.set n d) (vs.set n v)
  | _, _, _, _, _, .nil, _ => .nil
  | _, _, 0, _, _, .cons _ t, q => .cons q t
  | _, _, n + 1, _, _, .cons r t, q => .cons r (Reps.set n t q)
theorem Reps.dropLast : ∀ {xs : List D} {vs : List V}, Reps K as hd H xs vs → Reps K as hd H xs.dropLast vs.dropLast
  | _, _, .nil => .nil
  | _, _, .cons _ .nil => .nil
  | _, _, .cons r (.cons q t) => .cons r (Reps.dropLast (.cons q t))
theorem Reps.erase : ∀ {xs : List D} {vs : List V} (n : Nat), Reps K as hd H xs vs → Reps K as hd H (xs.eraseIdx n) (vs.eraseIdx n)
  | _, _, _, .nil => .nil
  | _, _, 0, .cons _ t => t
  | _, _, n + 1, .cons r t => .cons r (Reps.erase n t)
theorem Reps.rep {xs : List D} {vs : List V} (r : Reps K as hd H xs vs) : ∀ n : Nat, Reps K as hd H (List.replicate n xs).flatten (List.replicate n vs).flatten
  | 0 => .nil
  | n + 1 => by
    rw [List.replicate_succ, List.replicate_succ, List.flatten_cons, List.flatten_cons]
    exact r.append (Reps.rep r n)
/-- a new list or tuple -/
theorem Post.laidL (ok : Ok K as hd H m) {p : Addr} {vs : List V} {xs : List D} {Q : VK} (hp : H p = none) (r : Reps K as hd H xs vs) (h : Post K (Rep K) as hd H Q (.ok (.lst xs) m)) : Q (.ref p) (upd H p (.lst vs)) :=
  h as _ (.ref p) (Step.laid hp) (ok.laid hp) (.lst upd_same (ok.fresh hp).1 (ok.fresh hp).2 (r.mono (Step.laid hp)))
theorem Post.laidT (ok : Ok K as hd H m) {p : Addr} {vs : List V} {xs : List D} {Q : VK} (hp : H p = none) (r : Reps K as hd H xs vs) (h : Post K (Rep K) as hd H Q (.ok (.tup xs) m)) : Q (.ref p) (upd H p (.tup vs)) :=
  h as _ (.ref p) (Step.laid hp) (ok.laid hp) (.tup upd_same (ok.fresh hp).1 (ok.fresh hp).2 (r.mono (Step.laid hp)))
theorem Post.now {α β : Type} {P : RP α β} {Q : β → Hp → Prop} {a : α} {b : β} (ok : Ok K as hd H m) (h : Post K P as hd H Q (.ok a m)) (p : P as hd H a b) : Q b H := h as H b Step.refl ok p
end

/-! ### operators over data -/
def qD (K : PySem.W.Frag) (g : Mm → D → D → Option D) : R2 := fun x y H Q => ∃ as hd m d e, Ok K as hd H m ∧ Rep K as hd H d x ∧ Rep K as hd H e y ∧ Post K (Rep K) as hd H Q (R.opt (g m d e) m)
theorem Reps.nil_of {K : PySem.W.Frag} {as hd : List Addr} {H : Hp} {xs : List D} {vs : List V} (r : Reps K as hd H xs vs) (h : xs ≠ []) : vs ≠ [] := by
  rintro rfl
  cases r
  exact h rfl
section
variable {X : Cx}
def opOf : Bop → Operator
  | .add => .Add | .sub => .Sub | .mul => .Mult | .div => .FloorDiv | .mod => .Mod | .pow => .Pow
theorem bin_ok (o : Bop) : OpR X (binaryOp (opOf o)) (qD X.K fun m => binD m o) := by
  rintro pins s σ H x y v u Q I rx ry ⟨as, hd, m, d, e, ok, r1, r2, h⟩
  dsimp only at h
  cases hb : binD m o d e with
  | none => rw [hb] at h; exact h.elim
  | some z =>
    rw [hb] at h
    unfold binD at hb
    split at hb
    · cases r1; cases r2; cases hb
      exact op_add pins s σ H _ _ v u Q I rx ry ⟨_, _, rfl, rfl, h.now ok (.int _)⟩
    · cases r1; cases r2
      split at hb
      · cases hb
        exact op_add_str pins s σ H _ _ v u Q I rx ry ⟨_, _, rfl, rfl, by assumption, h.now ok (.str _)⟩
      · cases hb
    · cases r1 with
      | tup a1 b1 c1 t1 =>
      cases r2 with
      | tup a2 b2 c2 t2 =>
      split at hb
      · rename_i hc
        cases hb
        obtain ⟨n1, n2, n3⟩ := hc
        refine op_catT pins s σ H _ _ v u Q I rx ry ⟨_, _, _, _, rfl, rfl, .of a1, .of a2, t1.nil_of n1, by rw [← t1.length, ← t2.length]; exact n3, fun z => absurd z (t2.nil_of n2), fun _ p hp => Post.laidT ok hp (t1.append t2) h⟩
      · cases hb
    · split at hb
      · split at hb
        · rename_i h1 h2 hz
          cases hb
          obtain ⟨l, vs, rfl, q1, t1⟩ := r1.asL ok h1
          obtain ⟨b, ws, rfl, q2, t2⟩ := r2.asL ok h2
          exact op_cat pins s σ H _ _ v u Q I rx ry ⟨l, b, vs, ws, rfl, rfl, q1, q2, by rw [← t1.length, ← t2.length]; exact hz, fun p hp => Post.laidL ok hp (t1.append t2) h⟩
        · cases hb
      · cases hb
    · cases r1; cases r2; cases hb
      exact op_sub pins s σ H _ _ v u Q I rx ry ⟨_, _, rfl, rfl, h.now ok (.int _)⟩
    · cases r1; cases r2
      split at hb
      · cases hb
        exact op_mulW pins s σ H _ _ v u Q I rx ry ⟨_, _, rfl, rfl, by assumption, h.now ok (.int _)⟩
      · cases hb
    · split at hb
      · split at hb
        · rename_i hc
          cases hb
          obtain ⟨l, vs, rfl, q1, t1⟩ := r1.asL ok (by assumption)
          cases r2
          exact op_rep pins s σ H _ _ v u Q I rx ry ⟨_, _, _, rfl, rfl, q1, hc.1, hc.2.1, by rw [← t1.length]; exact hc.2.2, fun p hp => Post.laidL ok hp (t1.rep _) h⟩
        · cases hb
      · cases hb
    · cases r1; cases r2
      split at hb
      · cases hb
        exact op_fdivW pins s σ H _ _ v u Q I rx ry ⟨_, _, rfl, rfl, by assumption, h.now ok (.int _)⟩
      · cases hb
    · cases r1; cases r2
      split at hb
      · cases hb
        exact op_mod pins s σ H _ _ v u Q I rx ry ⟨_, _, rfl, rfl, by assumption, h.now ok (.int _)⟩
      · cases hb
    · cases r1; cases r2
      split at hb
      · cases hb
        exact oq_pow pins s σ H _ _ v u Q I rx ry ⟨_, _, rfl, rfl, by assumption, h.now ok (.int _)⟩
      · cases hb
    · cases hb

/-! ### comparisons -/
mutual
theorem Rep.dpP {K : PySem.W.Frag} {as hd : List Addr} {H : Hp} : ∀ {d : D} {v : V}, Rep K as hd H d v → d.pure = true → Dp K H v d.py
  | _, _, .non, _ => .non
  | _, _, .bl b, _ => .bl b
  | _, _, .int i, _ => .int i
  | _, _, .str x, _ => .str x
  | _, _, .tup h1 h2 h3 h4, p => .tup (.of h1) (Reps.dpP h4 p)
  | _, _, .lst h1 h2 h3 h4, p => .lst (.of h1) (Reps.dpP h4 p)
  | _, _, .ro h1 h2 h3 h4, p => .lst (.inl h1) (Reps.dpP h4 p)
  | _, _, .rok h1 h2, p => .lst (h1 H) (Reps.dpP h2 p)
  | _, _, .obj e, p => nomatch p
theorem Reps.dpP {K : PySem.W.Frag} {as hd : List Addr} {H : Hp} : ∀ {ds : List D} {vs : List V}, Reps K as hd H ds vs → D.pureL ds = true → DpAll K H vs (D.pyL ds)
  | _, _, .nil, _ => .nil
  | _, _, .cons h1 h2, p => .cons (Rep.dpP h1 (Bool.and_eq_true_iff.mp p).1) (Reps.dpP h2 (Bool.and_eq_true_iff.mp p).2)
end
mutual
theorem Rep.dp {K : PySem.W.Frag} {as hd : List Addr} {H : Hp} {m : Mm} (ok : Ok K as hd H m) : ∀ {d : D} {v : V}, Rep K as hd H d v → (D.frz 0 m d).pure = true → Dp K H v (D.frz 0 m d).py
  | _, _, .non, _ => .non
  | _, _, .bl b, _ => .bl b
  | _, _, .int i, _ => .int i
  | _, _, .str x, _ => .str x
  | _, _, .tup h1 h2 h3 h4, p => .tup (.of h1) (Reps.dp ok h4 p)
  | _, _, .lst h1 h2 h3 h4, p => .lst (.of h1) (Reps.dp ok h4 p)
  | _, _, .ro h1 h2 h3 h4, p => .lst (.inl h1) (Reps.dp ok h4 p)
  | _, _, .rok h1 h2, p => .lst (h1 H) (Reps.dp ok h2 p)
  | _, _, .obj (k := k) e, p => by
    obtain ⟨ds, xs, e1, e2, e3, e4⟩ := ok.cell _ _ e
    have q : D.frz 0 m (.obj k) = .lst ds := by
      show (if k < 0 then D.obj k else match m[k]? with | some xs => D.lst xs | none => .obj k) = _
      rw [if_neg (Nat.not_lt_zero _), e1]
    rw [q]
    exact .lst (.of e2) (Reps.dpP e3 e4)
theorem Reps.dp {K : PySem.W.Frag} {as hd : List Addr} {H : Hp} {m : Mm} (ok : Ok K as hd H m) : ∀ {ds : List D} {vs : List V}, Reps K as hd H ds vs → D.pureL (D.frzL 0 m ds) = true → DpAll K H vs (D.pyL (D.frzL 0 m ds))
  | _, _, .nil, _ => .nil
  | _, _, .cons h1 h2, p => .cons (Rep.dp ok h1 (Bool.and_eq_true_iff.mp p).1) (Reps.dp ok h2 (Bool.and_eq_true_iff.mp p).2)
end
theorem Rep.flat {K : PySem.W.Frag} {as hd : List Addr} {H : Hp} {d : D} {v : V} (r : Rep K as hd H d v) (f : d.flat = true) : flatV v = true := by
  cases r <;> first | rfl | cases f
theorem Reps.flat {K : PySem.W.Frag} {as hd : List Addr} {H : Hp} : ∀ {ds : List D} {vs : List V}, Reps K as hd H ds vs → ds.all D.flat = true → vs.all flatV = true
  | _, _, .nil, _ => rfl
  | _, _, .cons h1 h2, p => by
    rw [List.all_cons, Bool.and_eq_true] at p ⊢
    exact ⟨h1.flat p.1, Reps.flat h2 p.2⟩
theorem Rep.eqF {K : PySem.W.Frag} {as hd : List Addr} {H : Hp} {d e : D} {v u : V} (r : Rep K as hd H d v) (q : Rep K as hd H e u) (f : d.flat = true) (g : e.flat = true) : eqV v u = D.eqF d e := by
  cases r <;> cases q <;> first | rfl | cases f | cases g
theorem Reps.anyF {K : PySem.W.Frag} {as hd : List Addr} {H : Hp} {e : D} {u : V} (q : Rep K as hd H e u) (g : e.flat = true) : ∀ {ds : List D} {vs : List V}, Reps K as hd H ds vs → ds.all D.flat = true → inV u vs = ds.any fun y => D.eqF y e
  | _, _, .nil, _ => rfl
  | _, _, .cons h1 h2, p => by
    rw [List.all_cons, Bool.and_eq_true] at p
    have ih := Reps.anyF q g h2 p.2
    unfold inV at ih ⊢
    rw [List.any_cons, List.any_cons, ih, h1.eqF q p.1 g]
def copOf : Cop → CmpOp
  | .lt => .Lt | .le => .LtE | .gt => .Gt | .ge => .GtE | .eq => .Eq | .ne => .NotEq | .is => .Is | .isnot => .IsNot | .isin => .In | .notin => .NotIn
theorem cmp_ok (hu : X.A.units + 64 < cLine) (o : Cop) : OpR X (compareOp (copOf o)) (qD X.K fun m d e => (cmpD m o d e).map .bl) := by
  rintro pins s σ H x y v u Q I rx ry ⟨as, hd, m, d, e, ok, r1, r2, h⟩
  dsimp only at h
  cases hb : cmpD m o d e with
  | none => rw [hb] at h; exact h.elim
  | some z =>
    rw [hb] at h
    have fin : Q (.bl z) H := h.now ok (.bl z)
    have eqs : ∀ {z' : Bool}, D.eqv m d e = some z' → rEqD X.K x y H (fun v H' => v = .bl z' ∧ H' = H) := fun {z'} hq => by
      unfold D.eqv eqvD at hq
      split at hq
      · rename_i hc
        cases hq
        simp only [Bool.and_eq_true] at hc
        exact ⟨_, _, r1.dp ok hc.1.1.1, r2.dp ok hc.1.1.2, hc.1.2, hc.2, rfl, rfl⟩
      · cases hq
    unfold cmpD at hb
    split at hb
    · cases r1; cases r2; cases hb
      exact op_lt pins s σ H _ _ v u Q I rx ry ⟨_, _, rfl, rfl, fin⟩
    · cases r1; cases r2; cases hb
      exact op_le pins s σ H _ _ v u Q I rx ry ⟨_, _, rfl, rfl, fin⟩
    · cases r1; cases r2; cases hb
      exact op_gt pins s σ H _ _ v u Q I rx ry ⟨_, _, rfl, rfl, fin⟩
    · cases r1; cases r2; cases hb
      exact op_ge pins s σ H _ _ v u Q I rx ry ⟨_, _, rfl, rfl, fin⟩
    · obtain ⟨p, q, h1, h2, h3, h4, h5, h6⟩ := eqs hb
      refine op_eqD hu pins s σ H _ _ v u Q I rx ry ⟨p, q, h1, h2, h3, h4, ?_⟩
      rw [h5]
      exact fin
    · cases hq : D.eqv m d e with
      | none => rw [hq] at hb; cases hb
      | some z' =>
        rw [hq] at hb
        cases hb
        obtain ⟨p, q, h1, h2, h3, h4, h5, h6⟩ := eqs hq
        refine op_neD hu pins s σ H _ _ v u Q I rx ry ⟨p, q, h1, h2, h3, h4, ?_⟩
        have h5' : PyData.eqv p q = z' := V.bl.inj h5
        rw [h5']
        exact fin
    · cases r2
      refine op_isN pins s σ H _ _ v u Q I rx ry ⟨rfl, ?_⟩
      cases hb
      cases r1 <;> exact fin
    · cases r2
      refine op_notN pins s σ H _ _ v u Q I rx ry ⟨rfl, ?_⟩
      cases hb
      cases r1 <;> exact fin
    · split at hb
      · split at hb
        · rename_i xs hx hc
          cases hb
          rw [Bool.and_eq_true] at hc
          obtain ⟨a, vs, rfl, q, t⟩ := r2.asS ok hx
          refine op_in_seq pins s σ H _ _ v u Q I rx ry ⟨a, vs, rfl, ?_, r1.flat hc.1, t.flat hc.2, ?_⟩
          · rcases q with ⟨q, _⟩ | ⟨q, _⟩
            · exact .inl q
            · exact .inr (.of q)
          · rw [t.anyF r1 hc.1 hc.2]
            exact fin
        · cases hb
      · cases hb
    · split at hb
      · split at hb
        · rename_i xs hx hc
          cases hb
          rw [Bool.and_eq_true] at hc
          obtain ⟨a, vs, rfl, q, t⟩ := r2.asS ok hx
          refine op_notIn_seq pins s σ H _ _ v u Q I rx ry ⟨a, vs, rfl, ?_, r1.flat hc.1, t.flat hc.2, ?_⟩
          · rcases q with ⟨q, _⟩ | ⟨q, _⟩
            · exact .inl q
            · exact .inr (.of q)
          · rw [t.anyF r1 hc.1 hc.2]
            exact fin
        · cases hb
      · cases hb
    · cases hb

/-! ### subscripts -/
theorem atI_len {α β : Type} {xs : List α} {ys : List β} (h : xs.length = ys.length) {i : Int} {j : Nat} : ixN xs.length i = some j ↔ ixN ys.length i = some j := by rw [h]
theorem Reps.atI {K : PySem.W.Frag} {as hd : List Addr} {H : Hp} {xs : List D} {vs : List V} (t : Reps K as hd H xs vs) {k : Int} {d : D} (h : L2.atI xs k = some d) : ∃ v, L2.atI vs k = some v ∧ Rep K as hd H d v := by
  unfold L2.atI at h ⊢
  rw [← t.length]
  cases e : ixN xs.length k with
  | none => rw [e] at h; cases h
  | some j =>
    rw [e] at h
    exact t.got h
theorem idx_ok : IxR X (qD X.K idxD) := by
  rintro value slice pins s σ H x y v u Q I rx ry ⟨as, hd, m, d, e, ok, r1, r2, h⟩ hs
  cases hb : idxD m d e with
  | none => rw [hb] at h; exact h.elim
  | some z =>
    rw [hb] at h
    unfold idxD at hb
    split at hb
    · cases r2
      split at hb
      · cases r1
        split at hb
        · rename_i hz
          cases hc : L2.atI _ _ with
          | none => rw [hc] at hb; cases hb
          | some c =>
            rw [hc] at hb
            cases hb
            exact ix_str value slice pins s σ H _ _ v u Q I rx ry ⟨_, _, _, rfl, rfl, hz, hc, h.now ok (.str _)⟩ hs
        · cases hb
      · split at hb
        · rename_i xs hx
          obtain ⟨a, vs, rfl, q, t⟩ := r1.asS ok hx
          obtain ⟨w, hw, rw'⟩ := t.atI hb
          rcases q with ⟨q, _⟩ | ⟨q, _⟩
          · exact ix_list value slice pins s σ H _ _ v u Q I rx ry ⟨_, _, _, _, rfl, rfl, q, hw, h.now ok rw'⟩ hs
          · exact ix_tup value slice pins s σ H _ _ v u Q I rx ry ⟨_, _, _, _, rfl, rfl, .of q, hw, h.now ok rw'⟩ hs
        · cases hb
    · cases hb
end
end EV

set_option Elab.async false
set_option linter.all false
set_option maxRecDepth 100000
set_option autoImplicit false
namespace EV
open PySem PySem.Spec PyProof.Rows L2
section
variable {K : PySem.W.Frag} {as hd : List Addr} {H : Hp} {m : Mm}
theorem Reps.intsD : ∀ {xs : List D} {vs : List V} {ns : List Int}, Reps K as hd H xs vs → EV.intsD xs = some ns → vs = ns.map V.int
  | _, _, ns, .nil, e => by cases e; rfl
  | _, _, ns, .cons (d := d) (ds := ds) h1 h2, e => by
    cases h1 with
    | int i =>
      cases q : EV.intsD ds with
      | none => simp [EV.intsD, q] at e
      | some r =>
        have e' : i :: r = ns := by simpa [EV.intsD, q] using e
        subst e'
        rw [Reps.intsD h2 q]
        rfl
    | _ => cases e
theorem Reps.ofInts : ∀ (ns : List Int), Reps K as hd H (ns.map D.int) (ns.map V.int)
  | [] => .nil
  | i :: ns => .cons (.int i) (Reps.ofInts ns)
theorem Rep.rints (ok : Ok K as hd H m) {d : D} {v : V} {ns : List Int} (r : Rep K as hd H d v) (h : (d.asR m).bind EV.intsD = some ns) : ∃ a, v = .ref a ∧ SqL K H a (ns.map V.int) := by
  cases e : d.asR m with
  | none => rw [e] at h; cases h
  | some xs =>
    rw [e] at h
    obtain ⟨a, vs, e1, q, t⟩ := r.asR ok e
    exact ⟨a, e1, by rw [← t.intsD h]; exact q⟩
end
theorem maxL_spec : ∀ (ns : List Int) (x : Int), x ∈ ns → (∀ y, y ∈ ns → y ≤ x) → maxL ns = some x
  | [], x, h, _ => nomatch h
  | a :: r, x, h, g => by
    have ga := g a List.mem_cons_self
    cases e : maxL r with
    | none =>
      have er : r = [] := by
        cases r with
        | nil => rfl
        | cons b s =>
          exfalso
          unfold maxL at e
          split at e <;> cases e
      subst er
      have : x = a := by simpa using h
      subst this
      rfl
    | some y =>
      have hy : y ∈ r ∧ ∀ z, z ∈ r → z ≤ y := maxL_mem r y e
      have gy := g y (List.mem_cons_of_mem _ hy.1)
      show (match maxL r with | none => some a | some y => some (if a < y then y else a)) = some x
      rw [e]
      show some (if a < y then y else a) = some x
      rcases List.mem_cons.mp h with rfl | h
      · have hyx : ¬ x < y := by omega
        rw [if_neg hyx]
      · have := hy.2 x h
        have : x = y := by omega
        subst this
        by_cases q : a < x
        · rw [if_pos q]
        · rw [if_neg q]
          have : a = x := by omega
          rw [this]
where maxL_mem : ∀ (ns : List Int) (x : Int), maxL ns = some x → x ∈ ns ∧ ∀ z, z ∈ ns → z ≤ x
  | [], x, h => nomatch h
  | a :: r, x, h => by
    cases e : maxL r with
    | none =>
      have h' : (match maxL r with | none => some a | some y => some (if a < y then y else a)) = some x := h
      rw [e] at h'
      have : a = x := Option.some.inj h'
      subst this
      have er : r = [] := by
        cases r with
        | nil => rfl
        | cons b s =>
          exfalso
          unfold maxL at e
          split at e <;> cases e
      subst er
      exact ⟨List.mem_cons_self, fun z hz => by have : z = a := by simpa using hz
                                                omega⟩
    | some y =>
      have h' : (match maxL r with | none => some a | some y => some (if a < y then y else a)) = some x := h
      rw [e] at h'
      have q : (if a < y then y else a) = x := Option.some.inj h'
      obtain ⟨h1, h2⟩ := maxL_mem r y e
      by_cases c : a < y
      · rw [if_pos c] at q
        subst q
        refine ⟨List.mem_cons_of_mem _ h1, fun z hz => ?_⟩
        rcases List.mem_cons.mp hz with rfl | hz
        · omega
        · exact h2 z hz
      · rw [if_neg c] at q
        subst q
        refine ⟨List.mem_cons_self, fun z hz => ?_⟩
        rcases List.mem_cons.mp hz with rfl | hz
        · omega
        · have := h2 z hz
          omega
theorem minL_spec : ∀ (ns : List Int) (x : Int), x ∈ ns → (∀ y, y ∈ ns → x ≤ y) → minL ns = some x
  | [], x, h, _ => nomatch h
  | a :: r, x, h, g => by
    have ga := g a List.mem_cons_self
    cases e : minL r with
    | none =>
      have er : r = [] := by
        cases r with
        | nil => rfl
        | cons b s =>
          exfalso
          unfold minL at e
          split at e <;> cases e
      subst er
      have : x = a := by simpa using h
      subst this
      rfl
    | some y =>
      have hy : y ∈ r ∧ ∀ z, z ∈ r → y ≤ z := minL_mem r y e
      have gy := g y (List.mem_cons_of_mem _ hy.1)
      show (match minL r with | none => some a | some y => some (if y < a then y else a)) = some x
      rw [e]
      show some (if y < a then y else a) = some x
      rcases List.mem_cons.mp h with rfl | h
      · have hyx : ¬ y < x := by omega
        rw [if_neg hyx]
      · have := hy.2 x h
        have : x = y := by omega
        subst this
        by_cases q : x < a
        · rw [if_pos q]
        · rw [if_neg q]
          have : a = x := by omega
          rw [this]
where minL_mem : ∀ (ns : List Int) (x : Int), minL ns = some x → x ∈ ns ∧ ∀ z, z ∈ ns → x ≤ z
  | [], x, h => nomatch h
  | a :: r, x, h => by
    cases e : minL r with
    | none =>
      have h' : (match minL r with | none => some a | some y => some (if y < a then y else a)) = some x := h
      rw [e] at h'
      have : a = x := Option.some.inj h'
      subst this
      have er : r = [] := by
        cases r with
        | nil => rfl
        | cons b s =>
          exfalso
          unfold minL at e
          split at e <;> cases e
      subst er
      exact ⟨List.mem_cons_self, fun z hz => by have : z = a := by simpa using hz
                                                omega⟩
    | some y =>
      have h' : (match minL r with | none => some a | some y => some (if y < a then y else a)) = some x := h
      rw [e] at h'
      have q : (if y < a then y else a) = x := Option.some.inj h'
      obtain ⟨h1, h2⟩ := minL_mem r y e
      by_cases c : y < a
      · rw [if_pos c] at q
        subst q
        refine ⟨List.mem_cons_of_mem _ h1, fun z hz => ?_⟩
        rcases List.mem_cons.mp hz with rfl | hz
        · omega
        · exact h2 z hz
      · rw [if_neg c] at q
        subst q
        refine ⟨List.mem_cons_self, fun z hz => ?_⟩
        rcases List.mem_cons.mp hz with rfl | hz
        · omega
        · have := h2 z hz
          omega
theorem insI_perm (x : Int) : ∀ l : List Int, (insI x l).Perm (x :: l)
  | [] => .refl _
  | y :: r => by
    unfold insI
    split
    · exact .refl _
    · exact ((insI_perm x r).cons y).trans (.swap x y r)
theorem sortI_perm : ∀ l : List Int, (sortI l).Perm l
  | [] => .refl _
  | x :: r => (insI_perm x (sortI r)).trans ((sortI_perm r).cons x)
theorem insI_sorted (x : Int) : ∀ l : List Int, l.Pairwise (· ≤ ·) → (insI x l).Pairwise (· ≤ ·)
  | [], _ => List.pairwise_singleton _ _
  | y :: r, h => by
    unfold insI
    have h' := List.pairwise_cons.mp h
    split
    · rename_i c
      refine List.pairwise_cons.mpr ⟨fun z hz => ?_, h⟩
      rcases List.mem_cons.mp hz with rfl | hz
      · exact c
      · exact Int.le_trans c (h'.1 z hz)
    · rename_i c
      refine List.pairwise_cons.mpr ⟨fun z hz => ?_, insI_sorted x r h'.2⟩
      rcases List.mem_cons.mp ((insI_perm x r).mem_iff.mp hz) with rfl | hz
      · omega
      · exact h'.1 z hz
theorem sortI_sorted : ∀ l : List Int, (sortI l).Pairwise (· ≤ ·)
  | [] => .nil
  | x :: r => insI_sorted x _ (sortI_sorted r)
theorem perm_sorted_eq : ∀ {a b : List Int}, a.Perm b → a.Pairwise (· ≤ ·) → b.Pairwise (· ≤ ·) → a = b
  | [], b, p, _, _ => (List.nil_perm.mp p).symm
  | x :: r, [], p, _, _ => absurd p.length_eq (by simp)
  | x :: r, y :: s, p, h1, h2 => by
    have g1 := List.pairwise_cons.mp h1
    have g2 := List.pairwise_cons.mp h2
    have hx : x ∈ y :: s := p.mem_iff.mp List.mem_cons_self
    have hy : y ∈ x :: r := p.mem_iff.mpr List.mem_cons_self
    have e : x = y := by
      rcases List.mem_cons.mp hx with q | q
      · exact q
      · rcases List.mem_cons.mp hy with q2 | q2
        · exact q2.symm
        · have := g2.1 x q
          have := g1.1 y q2
          omega
    subst e
    rw [perm_sorted_eq (List.perm_cons x |>.mp p) g1.2 g2.2]
mutual
theorem pure_nodict : ∀ d : D, d.py.hasDict = false
  | .non => rfl
  | .bl _ => rfl
  | .int _ => rfl
  | .str _ => rfl
  | .tup xs => by show PyData.hasDictAll _ = false; exact pure_nodictL xs
  | .lst xs => by show PyData.hasDictAll _ = false; exact pure_nodictL xs
  | .ro xs => by show PyData.hasDictAll _ = false; exact pure_nodictL xs
  | .obj _ => rfl
theorem pure_nodictL : ∀ ds : List D, PyData.hasDictAll (D.pyL ds) = false
  | [] => rfl
  | d :: ds => by
    show (d.py.hasDict || PyData.hasDictAll (D.pyL ds)) = false
    rw [pure_nodict d, pure_nodictL ds]
    rfl
end
/-! ### built-ins over data -/
def qL (K : PySem.W.Frag) (g : Mm → List D → Option D) : List V → Hp → VK → Prop := fun vs H Q => ∃ as hd m ds, Ok K as hd H m ∧ Reps K as hd H ds vs ∧ Post K (Rep K) as hd H Q (R.opt (g m ds) m)
def biV : Bi → Value
  | .len => .builtin "len" | .abs => .builtin "abs" | .min2 => .builtin "min" | .max2 => .builtin "max" | .min1 => .builtin "min" | .max1 => .builtin "max" | .sum => .builtin "sum"
  | .toInt => .type "int" | .toList => .type "list" | .toTuple => .type "tuple" | .sorted => .builtin "sorted" | .repr => .builtin "repr" | _ => .none
section
variable {X : Cx}
theorem repr_ok (hr : Rm 1 X.A) {pins : List (Addr × Obj)} {σ : L2.St} {H : Hp} {s : Shared} {v : V} {u : Value} {d : D} {Q : VK} (I : Inv X pins σ H s) (r : RelV v u) (h : Dp X.K H v d.py) (h1 : d.py.showable = true) (h2 : d.py.depth ≤ 64) (h3 : d.py.shown.length ≤ sizeLine)
    (q : Q (.str d.py.shown) H) : wpAny (model X.prog X.w) X.A (PySem.call (.builtin "repr") [u]) (EP X pins σ Q) X.xe s := by
  obtain ⟨as, rd⟩ := Dp.reads I _ _ _ h r
  have fin : ∀ tk, EP X pins σ Q (.str d.py.shown tk) { s with toks := s.toks + 1 } := fun tk => ⟨.str _, H, I.tok _, ⟨_, rfl⟩, q⟩
  generalize hd : d.py = e at h h1 h2 h3 q rd fin
  cases rd with
  | none => exact PySem.P.repr_of_none (fin _)
  | bool b => exact PySem.P.repr_of_bool (fin _)
  | int i t =>
    have h1' : decide (i.natAbs.log2 < 1920) = true := h1
    exact PySem.P.repr_of_int (of_decide_eq_true h1') (fin _)
  | str x t => exact PySem.P.repr_of_str (fin _) h3
  | list e1 e2 e3 e4 =>
    refine repr_of_reads' (.list e1 e2 e3 e4) h1 (fun z => ?_) hr.gd (by have := hr.room.un; omega) (fun _ _ e => e) (fun h' tk t' hk => ⟨.str _, H, I.kept hk, ⟨_, rfl⟩, q⟩) h3
    rw [← hd, pure_nodict] at z
    cases z
  | tuple e1 e2 e3 e4 =>
    refine repr_of_reads' (.tuple e1 e2 e3 e4) h1 (fun z => ?_) hr.gd (by have := hr.room.un; omega) (fun _ _ e => e) (fun h' tk t' hk => ⟨.str _, H, I.kept hk, ⟨_, rfl⟩, q⟩) h3
    rw [← hd, pure_nodict] at z
    cases z
  | dict e1 e2 e3 e4 e5 =>
    have z := pure_nodict d
    rw [hd] at z
    cases z
theorem bi_ok (hc : X.calm = true) (hr : Rm 1 X.A) (b : Bi) (hb : biV b ≠ .none) : CallR X (biV b) (qL X.K fun m => biD m b) := by
  rintro pins s σ H vs us Q I rv ⟨as, hd, m, ds, ok, rs, h⟩
  dsimp only at h
  cases e : biD m b ds with
  | none => rw [e] at h; exact h.elim
  | some z =>
    rw [e] at h
    unfold biD at e
    split at e
    · -- len of a text
      cases rs with | cons r1 r2 =>
      cases r2
      cases r1
      split at e
      · cases e
        exact call_len_str pins s σ H _ us Q I rv ⟨_, rfl, by assumption, h.now ok (.int _)⟩
      · cases e
    · cases rs with | cons r1 r2 =>
      cases r2
      cases q : D.asS m _ with
      | none => rw [q] at e; cases e
      | some xs =>
        rw [q] at e
        cases e
        obtain ⟨a, ws, rfl, qq, t⟩ := r1.asS ok q
        refine call_len_seq pins s σ H _ us Q I rv ⟨a, ws, rfl, ?_, ?_⟩
        · rcases qq with ⟨qq, _⟩ | ⟨qq, _⟩
          · exact .inl qq
          · exact .inr (.of qq)
        · rw [← t.length]
          exact h.now ok (.int _)
    · cases rs with | cons r1 r2 =>
      cases r2; cases r1; cases e
      exact call_abs pins s σ H _ us Q I rv ⟨_, rfl, h.now ok (.int _)⟩
    · cases rs with | cons r1 r2 =>
      cases r2 with | cons r2 r3 =>
      cases r3; cases r1; cases r2; cases e
      exact call_min2 hc pins s σ H _ us Q I rv ⟨_, _, rfl, h.now ok (.int _)⟩
    · cases rs with | cons r1 r2 =>
      cases r2 with | cons r2 r3 =>
      cases r3; cases r1; cases r2; cases e
      exact call_max2 hc pins s σ H _ us Q I rv ⟨_, _, rfl, h.now ok (.int _)⟩
    · cases rs with | cons r1 r2 =>
      cases r2
      cases q : (D.asR m _).bind intsD with
      | none => rw [q] at e; cases e
      | some ns =>
        rw [q] at e
        obtain ⟨a, rfl, qq⟩ := r1.rints ok q
        cases ns with
        | nil => cases e
        | cons x r =>
          refine cr_min hc pins s σ H _ us Q I rv ⟨a, _, rfl, qq, by simp, fun y hy hle => ?_⟩
          have e' : (minL (x :: r)).map D.int = some z := e
          rw [minL_spec _ y hy hle] at e'
          cases e'
          exact h.now ok (.int _)
    · cases rs with | cons r1 r2 =>
      cases r2
      cases q : (D.asR m _).bind intsD with
      | none => rw [q] at e; cases e
      | some ns =>
        rw [q] at e
        obtain ⟨a, rfl, qq⟩ := r1.rints ok q
        cases ns with
        | nil => cases e
        | cons x r =>
          refine cr_max hc pins s σ H _ us Q I rv ⟨a, _, rfl, qq, by simp, fun y hy hle => ?_⟩
          have e' : (maxL (x :: r)).map D.int = some z := e
          rw [maxL_spec _ y hy hle] at e'
          cases e'
          exact h.now ok (.int _)
    · cases rs with | cons r1 r2 =>
      cases r2
      cases q : (D.asR m _).bind intsD with
      | none => rw [q] at e; cases e
      | some ns =>
        rw [q] at e
        cases e
        obtain ⟨a, rfl, qq⟩ := r1.rints ok q
        exact cr_sum hc pins s σ H _ us Q I rv ⟨a, _, rfl, qq, h.now ok (.int _)⟩
    · cases rs with | cons r1 r2 =>
      cases r2; cases r1; cases e
      exact call_int1 pins s σ H _ us Q I rv (.inl ⟨_, rfl, h.now ok (.int _)⟩)
    · cases rs with | cons r1 r2 =>
      cases r2; cases r1; cases e
      exact call_int1 pins s σ H _ us Q I rv (.inr ⟨_, rfl, h.now ok (.int _)⟩)
    · cases rs with | cons r1 r2 =>
      cases r2
      cases q : D.asS m _ with
      | none => rw [q] at e; cases e
      | some xs =>
        rw [q] at e
        cases e
        obtain ⟨a, ws, rfl, qq, t⟩ := r1.asS ok q
        refine call_list_of pins s σ H _ us Q I rv ⟨a, ws, rfl, ?_, fun p hp => Post.laidL ok hp t h⟩
        rcases qq with ⟨qq, _⟩ | ⟨qq, _⟩
        · exact .inl qq
        · exact .inr (.of qq)
    · cases rs with | cons r1 r2 =>
      cases r2
      cases e
      cases r1 with
      | tup h1 h2 h3 h4 => exact call_tuple_of pins s σ H _ us Q I rv ⟨_, _, rfl, .inr ⟨.of h1, h.now ok (.tup h1 h2 h3 h4)⟩⟩
    · cases rs with | cons r1 r2 =>
      cases r2
      cases q : D.asR m _ with
      | none => rw [q] at e; cases e
      | some xs =>
        rw [q] at e
        cases e
        obtain ⟨a, ws, rfl, qq, t⟩ := r1.asR ok q
        exact call_tuple_of pins s σ H _ us Q I rv ⟨a, ws, rfl, .inl ⟨qq, fun p hp => Post.laidT ok hp t h⟩⟩
    · cases rs with | cons r1 r2 =>
      cases r2
      cases q : (D.asR m _).bind intsD with
      | none => rw [q] at e; cases e
      | some ns =>
        rw [q] at e
        cases e
        obtain ⟨a, rfl, qq⟩ := r1.rints ok q
        refine cr_sortedI pins s σ H _ us Q I rv ⟨a, _, rfl, qq, fun ns' p hp hs hn => ?_⟩
        rw [perm_sorted_eq (hp.trans (sortI_perm ns).symm) hs (sortI_sorted ns)]
        exact Post.laidL ok hn (Reps.ofInts _) h
    · cases rs with | cons r1 r2 =>
      cases r2
      unfold reprD at e
      split at e
      · rename_i hcnd
        cases e
        simp only [Bool.and_eq_true, decide_eq_true_eq] at hcnd
        obtain ⟨u, rfl, ru⟩ := vals1 rv
        exact repr_ok hr I ru (r1.dp ok hcnd.1.1.1) hcnd.1.1.2 hcnd.1.2 hcnd.2 (h.now ok (.str _))
      · cases e
    all_goals first | exact absurd rfl hb | cases e
end
end EV

set_option Elab.async false
set_option linter.all false
set_option maxRecDepth 100000
set_option autoImplicit false
namespace EV
open PySem PySem.Spec PyProof.Rows L2

/-! ### readings -/
section
variable (K : PySem.W.Frag) (call : Nat → List D → Mm → R D) (wf : Nat)
def rdE (n : Nat) (e : E) : TE := fun σ H Q => ∃ as hd ρ m, Ok K as hd H m ∧ EnvR K as hd H ρ σ ∧ Post K (Rep K) as hd H Q (evE call n e ρ m)
def rdL (n : Nat) (es : List E) : TA := fun σ H Q => ∃ as hd ρ m, Ok K as hd H m ∧ EnvR K as hd H ρ σ ∧ Post K (Reps K) as hd H Q (evEs (fun e m => evE call n e ρ m) es m)
def evB (n : Nat) (e : E) (ρ : Rho) (m : Mm) : R Bool := (evE call n e ρ m).bind fun d m1 => R.opt (d.truth m1) m1
def rdB (n : Nat) (e : E) : TT := fun σ H Q => ∃ as hd ρ m, Ok K as hd H m ∧ EnvR K as hd H ρ σ ∧ Post K EqB as hd H Q (evB call n e ρ m)
/-- a new list: it lies hidden -/
def PostF (as hd : List Addr) (H : Hp) (Q : VK) : R D → Prop
  | .ok d m => ∃ ds, d = .lst ds ∧ ∀ as' H' p vs, Step as hd H as' (p :: hd) H' → Ok K as' (p :: hd) H' m → p ∉ hd → H p = none → H' p = some (.lst vs) → Reps K as' (p :: hd) H' ds vs → Q (.ref p) H'
  | .bad => False
def rdF (n : Nat) (e : E) : TE := fun σ H Q => ∃ as hd ρ m, Ok K as hd H m ∧ EnvR K as hd H ρ σ ∧ PostF K as hd H Q (evE call n e ρ m)
def PostS (as hd : List Addr) (H : Hp) (D : Ends) : O → Prop
  | .nx ρ m => ∀ as' H' σ', Step as hd H as' hd H' → Ok K as' hd H' m → EnvR K as' hd H' ρ σ' → D.nx σ' H'
  | .rt d m => ∀ as' H' v, Step as hd H as' hd H' → Ok K as' hd H' m → Rep K as' hd H' d v → D.rt v H'
  | .bk ρ m => ∀ as' H' σ', Step as hd H as' hd H' → Ok K as' hd H' m → EnvR K as' hd H' ρ σ' → D.bk σ' H'
  | .ct ρ m => ∀ as' H' σ', Step as hd H as' hd H' → Ok K as' hd H' m → EnvR K as' hd H' ρ σ' → D.ct σ' H'
  | .bad => False
def rdS (n : Nat) (s : S) : TS := fun D σ H => ∃ as hd ρ m, Ok K as hd H m ∧ EnvR K as hd H ρ σ ∧ PostS K as hd H D (evS call wf n s ρ m)
def rdSs (n : Nat) (ss : List S) : TS := fun D σ H => ∃ as hd ρ m, Ok K as hd H m ∧ EnvR K as hd H ρ σ ∧ PostS K as hd H D (evSs (fun s r m => evS call wf n s r m) ss ρ m)
/-- targets -/
def Tg.slots : Tg → List Nat
  | .v i => [i]
  | .tup ts => slotsL ts
where slotsL : List Tg → List Nat
  | [] => []
  | t :: ts => t.slots ++ slotsL ts
def SameOff (vs : List Nat) (σ σ' : L2.St) : Prop := σ'.length = σ.length ∧ ∀ i, i ∉ vs → σ'[i]? = σ[i]?
def rdT (t : Tg) : TG := fun v σ H Q => ∃ as hd ρ m d ρ', Ok K as hd H m ∧ EnvR K as hd H ρ σ ∧ Rep K as hd H d v ∧ setT t d ρ = some ρ' ∧ ∀ σ', EnvR K as hd H ρ' σ' → SameOff t.slots σ σ' → Q σ' H
def rdTs (ts : List Tg) : TGs := fun vs σ H Q => ∃ as hd ρ m ds ρ', Ok K as hd H m ∧ EnvR K as hd H ρ σ ∧ Reps K as hd H ds vs ∧ setT.setTs ts ds ρ = some ρ' ∧ ∀ σ', EnvR K as hd H ρ' σ' → SameOff (Tg.slots.slotsL ts) σ σ' → Q σ' H
/-- what is walked -/
structure Serves (as hd : List Addr) (H : Hp) (J : It) (xs : List D) (ws : List Nat) (m0 : Mm) : Prop where
  item : ∀ as' hd' H' m', Step as hd H as' hd' H' → Ok K as' hd' H' m' → sameAt m0 m' ws = true → ∀ (i : Nat) d, xs[i]? = some d → J.go i H' ∧ ∀ x H2, J.yld i H' x H2 → Step as' hd' H' as' hd' H2 ∧ Ok K as' hd' H2 m' ∧ Rep K as' hd' H2 d x
  stop : ∀ as' hd' H' m', Step as hd H as' hd' H' → Ok K as' hd' H' m' → sameAt m0 m' ws = true → J.stop xs.length H'
def evI (n : Nat) (k : Ik) (es : List E) (ρ : Rho) (m : Mm) : R (List D × List Nat × Mm) := (evEs (fun e m => evE call n e ρ m) es m).bind fun ds m1 => R.opt ((itD m1 k ds).map fun p => (p.1, p.2, m1)) m1
def RpI : RP (List D × List Nat × Mm) It := fun as hd H a J => Serves K as hd H J a.1 a.2.1 a.2.2
def rdI (n : Nat) (k : Ik) (es : List E) : TI := fun σ H R => ∃ as hd ρ m, Ok K as hd H m ∧ EnvR K as hd H ρ σ ∧ Post K (RpI K) as hd H R (evI call n k es ρ m)
end

theorem _root_.L2.PE.mono {X : Cx} {e : Expr} {t t' : TE} (h : PE X e t) (k : ∀ σ H Q, t' σ H Q → t σ H Q) : PE X e t' := ⟨fun pins s σ H Q I q => h.run pins s σ H Q I (k σ H Q q)⟩
theorem _root_.L2.PT.mono {X : Cx} {e : Expr} {t t' : TT} (h : PT X e t) (k : ∀ σ H Q, t' σ H Q → t σ H Q) : PT X e t' := ⟨fun pins s σ H Q I q => h.run pins s σ H Q I (k σ H Q q)⟩
theorem _root_.L2.PA.mono {X : Cx} {e : List Expr} {t t' : TA} (h : PA X e t) (k : ∀ σ H Q, t' σ H Q → t σ H Q) : PA X e t' := ⟨fun pos pins s σ H Q I q => h.run pos pins s σ H Q I (k σ H Q q)⟩
theorem _root_.L2.PS.mono {X : Cx} {e : Stmt} {t t' : TS} (h : PS X e t) (k : ∀ D σ H, t' D σ H → t D σ H) : PS X e t' := ⟨fun pins s σ H D I q => h.run pins s σ H D I (k D σ H q)⟩
theorem _root_.L2.PSs.mono {X : Cx} {e : List Stmt} {t t' : TS} (h : PSs X e t) (k : ∀ D σ H, t' D σ H → t D σ H) : PSs X e t' := ⟨fun pins s σ H D I q => h.run pins s σ H D I (k D σ H q)⟩
theorem _root_.L2.PG.mono {X : Cx} {e : Expr} {t t' : TG} (h : PG X e t) (k : ∀ v σ H Q, t' v σ H Q → t v σ H Q) : PG X e t' := ⟨fun pins s σ H v u Q I r q => h.run pins s σ H v u Q I r (k v σ H Q q)⟩
theorem _root_.L2.PGs.mono {X : Cx} {e : List Expr} {t t' : TGs} (h : PGs X e t) (k : ∀ v σ H Q, t' v σ H Q → t v σ H Q) : PGs X e t' := ⟨fun pins s σ H v u Q I r q => h.run pins s σ H v u Q I r (k v σ H Q q)⟩
theorem _root_.L2.PI.mono {X : Cx} {tg e : Expr} {t t' : TI} (h : PI X tg e t) (k : ∀ σ H R, t' σ H R → t σ H R) : PI X tg e t' := ⟨fun pins s σ H R I q => h.run pins s σ H R I (k σ H R q)⟩
theorem _root_.L2.PI.or {X : Cx} {tg e : Expr} {t t' : TI} (h : PI X tg e t) (h' : PI X tg e t') : PI X tg e (fun σ H R => t σ H R ∨ t' σ H R) :=
  ⟨fun pins s σ H R I q => q.elim (h.run pins s σ H R I) (h'.run pins s σ H R I)⟩

section
variable {K : PySem.W.Frag} {as hd as' hd' : List Addr} {H H' : Hp} {m : Mm}
theorem PostS.step {D : Ends} {o : O} (h : PostS K as hd H D o) (st : Step as hd H as' hd H') : PostS K as' hd H' D o := by
  cases o with
  | nx ρ m => exact fun a2 H2 σ' s2 => h a2 H2 σ' (st.trans s2)
  | rt d m => exact fun a2 H2 v s2 => h a2 H2 v (st.trans s2)
  | bk ρ m => exact fun a2 H2 σ' s2 => h a2 H2 σ' (st.trans s2)
  | ct ρ m => exact fun a2 H2 σ' s2 => h a2 H2 σ' (st.trans s2)
  | bad => exact h
/-- an answer, then a statement's rest -/
theorem Post.stm {α β : Type} {P : RP α β} {D : Ends} {Q' : β → Hp → Prop} {r : R α} {G : α → Mm → O} (h : PostS K as hd H D (r.stm G))
    (k : ∀ as' H' a m b, r = .ok a m → Step as hd H as' hd H' → Ok K as' hd H' m → P as' hd H' a b → PostS K as' hd H' D (G a m) → Q' b H') : Post K P as hd H Q' r := by
  cases r with
  | ok a m => exact fun as' H' b st ok p => k as' H' a m b rfl st ok p (PostS.step (o := G a m) h st)
  | bad => exact h
/-! ### the hidden list -/
mutual
theorem Rep.hid {D' : Addr} {o : HO} (z : D' ∈ hd) : ∀ {d : D} {v : V}, Rep K as hd H d v → Rep K as hd (upd H D' o) d v
  | _, _, .non => .non
  | _, _, .bl b => .bl b
  | _, _, .int i => .int i
  | _, _, .str x => .str x
  | _, _, .tup h1 h2 h3 h4 => .tup (by rw [upd_ne (fun e => h3 (by rw [e]; exact z))]; exact h1) h2 h3 (Reps.hid z h4)
  | _, _, .lst h1 h2 h3 h4 => .lst (by rw [upd_ne (fun e => h3 (by rw [e]; exact z))]; exact h1) h2 h3 (Reps.hid z h4)
  | _, _, .ro (a := a) h1 h2 h3 h4 => by
    have ne : a ≠ D' := fun e => h3 (by rw [e]; exact z)
    refine .ro ?_ h2 h3 (Reps.hid z h4)
    unfold Rd
    rw [upd_ne ne]
    exact h1
  | _, _, .rok h1 h2 => .rok h1 (Reps.hid z h2)
  | _, _, .obj h => .obj h
theorem Reps.hid {D' : Addr} {o : HO} (z : D' ∈ hd) : ∀ {ds : List D} {vs : List V}, Reps K as hd H ds vs → Reps K as hd (upd H D' o) ds vs
  | _, _, .nil => .nil
  | _, _, .cons h1 h2 => .cons (Rep.hid z h1) (Reps.hid z h2)
end
theorem Ok.hid {D' : Addr} {o : HO} (ok : Ok K as hd H m) (z : D' ∈ hd) : Ok K as hd (upd H D' o) m := by
  refine ⟨ok.len, ok.nd, ok.dis, fun k a e => ?_, fun a h => ?_⟩
  · obtain ⟨ds, xs, h1, h2, h3, h4⟩ := ok.cell k a e
    refine ⟨ds, xs, h1, ?_, h3.hid z, h4⟩
    rw [upd_ne (fun q => ok.dis a (List.mem_of_getElem? e) (by rw [q]; exact z))]
    exact h2
  · by_cases q : a = D'
    · subst q
      exact ⟨_, upd_same⟩
    · rw [upd_ne q]
      exact ok.hdn a h
/-- a new list, hidden -/
theorem Ok.hide (ok : Ok K as hd H m) {p : Addr} (hp : H p = none) (xs : List V) : Step as hd H as (p :: hd) (upd H p (.lst xs)) ∧ Ok K as (p :: hd) (upd H p (.lst xs)) m ∧ p ∉ hd := by
  have f := ok.fresh hp
  have st : Step as hd H as (p :: hd) (upd H p (.lst xs)) := by
    refine ⟨List.prefix_refl _, fun a u e _ => by rw [upd_ne (fun z => by subst z; rw [hp] at e; cases e)]; exact e, fun a z => .inl z, fun a z => ?_⟩
    rcases List.mem_cons.mp z with rfl | z
    · exact .inr (.inr hp)
    · exact .inr (.inl z)
  refine ⟨st, ⟨ok.len, ok.nd, fun a z y => ?_, fun k a e => ?_, fun a z => ?_⟩, f.2⟩
  · rcases List.mem_cons.mp y with rfl | y
    · exact f.1 z
    · exact ok.dis a z y
  · obtain ⟨ds, ys, h1, h2, h3, h4⟩ := ok.cell k a e
    exact ⟨ds, ys, h1, by rw [upd_ne (fun z => f.1 (by rw [← z]; exact List.mem_of_getElem? e))]; exact h2, h3.mono st, h4⟩
  · rcases List.mem_cons.mp z with rfl | z
    · exact ⟨_, upd_same⟩
    · obtain ⟨o, e⟩ := ok.hdn a z
      exact ⟨o, by rw [upd_ne (fun y => f.2 (by rw [← y]; exact z))]; exact e⟩
mutual
theorem Rep.show_ {p : Addr} : ∀ {d : D} {v : V}, Rep K as (p :: hd) H d v → Rep K as hd H d v
  | _, _, .non => .non
  | _, _, .bl b => .bl b
  | _, _, .int i => .int i
  | _, _, .str x => .str x
  | _, _, .tup h1 h2 h3 h4 => .tup h1 h2 (fun z => h3 (List.mem_cons_of_mem _ z)) (Reps.show_ h4)
  | _, _, .lst h1 h2 h3 h4 => .lst h1 h2 (fun z => h3 (List.mem_cons_of_mem _ z)) (Reps.show_ h4)
  | _, _, .ro h1 h2 h3 h4 => .ro h1 h2 (fun z => h3 (List.mem_cons_of_mem _ z)) (Reps.show_ h4)
  | _, _, .rok h1 h2 => .rok h1 (Reps.show_ h2)
  | _, _, .obj h => .obj h
theorem Reps.show_ {p : Addr} : ∀ {ds : List D} {vs : List V}, Reps K as (p :: hd) H ds vs → Reps K as hd H ds vs
  | _, _, .nil => .nil
  | _, _, .cons h1 h2 => .cons (Rep.show_ h1) (Reps.show_ h2)
end
theorem Ok.show_ {p : Addr} (ok : Ok K as (p :: hd) H m) : Ok K as hd H m :=
  ⟨ok.len, ok.nd, fun a z y => ok.dis a z (List.mem_cons_of_mem _ y), fun k a e => let ⟨ds, xs, h1, h2, h3, h4⟩ := ok.cell k a e; ⟨ds, xs, h1, h2, h3.show_, h4⟩, fun a z => ok.hdn a (List.mem_cons_of_mem _ z)⟩
theorem Step.show_ {p : Addr} (st : Step as hd H as' (p :: hd) H') : Step as hd H as' hd H' := ⟨st.pre, st.keep, st.newA, fun a z => .inr (.inl z)⟩
mutual
theorem Rep.more {p : Addr} : ∀ {d : D} {v : V}, Rep K as (p :: hd) H d v → Rep K (as ++ [p]) hd H d v
  | _, _, .non => .non
  | _, _, .bl b => .bl b
  | _, _, .int i => .int i
  | _, _, .str x => .str x
  | _, _, .tup h1 h2 h3 h4 => .tup h1 (fun z => (List.mem_append.mp z).elim h2 fun z => h3 (by rw [List.mem_singleton.mp z]; exact List.mem_cons_self)) (fun z => h3 (List.mem_cons_of_mem _ z)) (Reps.more h4)
  | _, _, .lst h1 h2 h3 h4 => .lst h1 (fun z => (List.mem_append.mp z).elim h2 fun z => h3 (by rw [List.mem_singleton.mp z]; exact List.mem_cons_self)) (fun z => h3 (List.mem_cons_of_mem _ z)) (Reps.more h4)
  | _, _, .ro h1 h2 h3 h4 => .ro h1 (fun z => (List.mem_append.mp z).elim h2 fun z => h3 (by rw [List.mem_singleton.mp z]; exact List.mem_cons_self)) (fun z => h3 (List.mem_cons_of_mem _ z)) (Reps.more h4)
  | _, _, .rok h1 h2 => .rok h1 (Reps.more h2)
  | _, _, .obj h => .obj (by rw [List.getElem?_append_left (List.getElem?_eq_some_iff.mp h).1]; exact h)
theorem Reps.more {p : Addr} : ∀ {ds : List D} {vs : List V}, Reps K as (p :: hd) H ds vs → Reps K (as ++ [p]) hd H ds vs
  | _, _, .nil => .nil
  | _, _, .cons h1 h2 => .cons (Rep.more h1) (Reps.more h2)
end
/-- a hidden list becomes one that may be changed -/
theorem Ok.more {p : Addr} {ds : List D} {vs : List V} (ok : Ok K as (p :: hd) H m) (hp : p ∉ hd) (e : H p = some (.lst vs)) (r : Reps K as (p :: hd) H ds vs) (hq : D.pureL ds = true) : Ok K (as ++ [p]) hd H (m ++ [ds]) := by
  have np : p ∉ as := fun z => ok.dis p z List.mem_cons_self
  refine ⟨by simp [ok.len], ?_, fun a z y => ?_, fun k a ea => ?_, fun a z => ok.hdn a (List.mem_cons_of_mem _ z)⟩
  · refine List.nodup_append.mpr ⟨ok.nd, by simp, fun a ha b hb => ?_⟩
    rw [List.mem_singleton.mp hb]
    exact fun z => np (by rw [← z]; exact ha)
  · rcases List.mem_append.mp z with z | z
    · exact ok.dis a z (List.mem_cons_of_mem _ y)
    · rw [List.mem_singleton.mp z] at y
      exact hp y
  · by_cases hk : k < as.length
    · rw [List.getElem?_append_left hk] at ea
      obtain ⟨ds', xs, h1, h2, h3, h4⟩ := ok.cell k a ea
      exact ⟨ds', xs, by rw [List.getElem?_append_left (by rw [← ok.len]; exact hk)]; exact h1, h2, h3.more, h4⟩
    · have hk' : k = as.length := by
        have := (List.getElem?_eq_some_iff.mp ea).1
        simp at this
        omega
      subst hk'
      have ea' : p = a := by simpa using ea
      subst ea'
      exact ⟨ds, vs, by rw [ok.len]; simp, e, r.more, hq⟩
theorem Step.more {p : Addr} (st : Step as hd H as' (p :: hd) H') (hn : H p = none) : Step as hd H (as' ++ [p]) hd H' := by
  refine ⟨st.pre.trans (List.prefix_append _ _), st.keep, fun a z => ?_, fun a z => .inr (.inl z)⟩
  rcases List.mem_append.mp z with z | z
  · exact st.newA a z
  · rw [List.mem_singleton.mp z]
    exact .inr hn
end
/-! ### slots -/
theorem SameOff.refl {vs : List Nat} {σ : L2.St} : SameOff vs σ σ := ⟨rfl, fun _ _ => rfl⟩
theorem SameOff.trans {vs ws : List Nat} {σ σ1 σ2 : L2.St} (a : SameOff vs σ σ1) (b : SameOff ws σ1 σ2) : SameOff (vs ++ ws) σ σ2 :=
  ⟨b.1.trans a.1, fun i h => (b.2 i fun z => h (List.mem_append_right _ z)).trans (a.2 i fun z => h (List.mem_append_left _ z))⟩
theorem SameOff.mono {vs ws : List Nat} {σ σ1 : L2.St} (a : SameOff vs σ σ1) (h : ∀ i, i ∈ vs → i ∈ ws) : SameOff ws σ σ1 := ⟨a.1, fun i z => a.2 i fun y => z (h i y)⟩
theorem wipe_get : ∀ (vs : List Nat) (σ : L2.St) (i : Nat), (wipe σ vs)[i]? = if i ∈ vs ∧ i < σ.length then some none else σ[i]?
  | [], σ, i => by simp [wipe]
  | v :: vs, σ, i => by
    unfold wipe
    by_cases hv : v = i
    · subst hv
      by_cases hl : v < σ.length
      · rw [List.getElem?_set_self (by rw [wipe_length]; exact hl), if_pos ⟨List.mem_cons_self, hl⟩]
      · rw [List.getElem?_eq_none (by rw [List.length_set, wipe_length]; omega), if_neg (fun z => hl z.2), List.getElem?_eq_none (by omega)]
    · rw [List.getElem?_set_ne hv, wipe_get vs σ i]
      by_cases hm : i ∈ vs
      · simp [hm]
      · have : ¬ i ∈ v :: vs := fun z => (List.mem_cons.mp z).elim (fun e => hv e.symm) hm
        simp [hm, this]
theorem SameOff.wipe {vs : List Nat} {σ σ' : L2.St} (h : SameOff vs σ σ') : L2.wipe σ' vs = L2.wipe σ vs := by
  apply List.ext_getElem?
  intro i
  rw [wipe_get, wipe_get, h.1]
  by_cases hi : i ∈ vs ∧ i < σ.length
  · rw [if_pos hi, if_pos hi]
  · rw [if_neg hi, if_neg hi]
    by_cases hm : i ∈ vs
    · have : ¬ i < σ.length := fun z => hi ⟨hm, z⟩
      rw [List.getElem?_eq_none (by rw [h.1]; omega), List.getElem?_eq_none (by omega)]
    · exact h.2 i hm
theorem wipeD_length : ∀ (vs : List Nat) (ρ : Rho), (wipeD ρ vs).length = ρ.length
  | [], _ => rfl
  | v :: vs, ρ => by
    unfold wipeD
    rw [List.length_set, wipeD_length vs ρ]
theorem wipeD_get : ∀ (vs : List Nat) (ρ : Rho) (i : Nat) (d : D), (wipeD ρ vs)[i]? = some (some d) → i ∉ vs ∧ ρ[i]? = some (some d)
  | [], ρ, i, d, h => ⟨by simp, h⟩
  | v :: vs, ρ, i, d, h => by
    unfold wipeD at h
    by_cases hv : v = i
    · subst hv
      by_cases hl : v < (wipeD ρ vs).length
      · rw [List.getElem?_set_self hl] at h; cases h
      · rw [List.getElem?_eq_none (by rw [List.length_set]; omega)] at h; cases h
    · rw [List.getElem?_set_ne hv] at h
      obtain ⟨h1, h2⟩ := wipeD_get vs ρ i d h
      exact ⟨fun z => (List.mem_cons.mp z).elim (fun e => hv e.symm) h1, h2⟩
theorem EnvR.wipe {K : PySem.W.Frag} {as hd : List Addr} {H : Hp} {ρ : Rho} {σ : L2.St} (e : EnvR K as hd H ρ σ) (vs : List Nat) : EnvR K as hd H (wipeD ρ vs) (L2.wipe σ vs) := by
  refine ⟨by rw [wipe_length, wipeD_length, e.len], fun i d h => ?_⟩
  obtain ⟨h1, h2⟩ := wipeD_get vs ρ i d h
  obtain ⟨v, h3, h4⟩ := e.get i d h2
  exact ⟨v, by rw [wipe_get, if_neg (fun z => h1 z.1)]; exact h3, h4⟩
end EV

set_option Elab.async false
set_option linter.all false
set_option maxRecDepth 100000
set_option autoImplicit false
namespace EV
open PySem PySem.Spec PyProof.Rows L2
section
variable {X : Cx} {call : Nat → List D → Mm → R D} {wf n : Nat} {e a b c : Expr} {ea eb ec : E} {es : List Expr} {ies : List E} {pos pos' : Pos} {x : Str} {i : Nat}

theorem rdE_bad {σ : L2.St} {H : Hp} {Q : VK} : ¬ rdE X.K call n .bad σ H Q := fun ⟨_, _, _, _, _, _, h⟩ => by cases n <;> exact h
theorem s_bad : PE X e (rdE X.K call n .bad) := ⟨fun _ _ _ _ _ _ h => (rdE_bad h).elim⟩
theorem rdE0 {σ : L2.St} {H : Hp} {Q : VK} : ¬ rdE X.K call 0 ea σ H Q := fun ⟨_, _, _, _, _, _, h⟩ => h
theorem s_0 : PE X e (rdE X.K call 0 ea) := ⟨fun _ _ _ _ _ _ h => (rdE0 h).elim⟩
theorem s_var (hN : X.N[i]? = some x) (hv : Vis X.env.scope x) (hd : (x == ("__debug__" : Str)) = false) (hc : (x == ("__classdict__" : Str)) = false) : PE X (.Name x pos) (rdE X.K call (n + 1) (.var i)) :=
  (pe_var hN hv hd hc).mono fun σ H Q ⟨as, hd, ρ, m, ok, env, h⟩ => by
    have h : Post X.K (Rep X.K) as hd H Q (match ρ[i]? with | some (some d) => .ok d m | _ => .bad) := h
    split at h
    · rename_i d e1
      obtain ⟨v, h1, h2⟩ := env.get i d e1
      exact ⟨v, h1, h.now ok h2⟩
    · exact h.elim
theorem s_int {i : Int} {j : Nat} : PE X (.Constant (.int i) j pos) (rdE X.K call (n + 1) (.int i)) := pe_int.mono fun σ H Q ⟨as, hd, ρ, m, ok, env, h⟩ => Post.now ok h (.int i)
theorem s_bl {i : Bool} {j : Nat} : PE X (.Constant (.bool i) j pos) (rdE X.K call (n + 1) (.bl i)) := pe_bl.mono fun σ H Q ⟨as, hd, ρ, m, ok, env, h⟩ => Post.now ok h (.bl i)
theorem s_str {i : Str} {j : Nat} : PE X (.Constant (.str i) j pos) (rdE X.K call (n + 1) (.str i)) := pe_str.mono fun σ H Q ⟨as, hd, ρ, m, ok, env, h⟩ => Post.now ok h (.str i)
theorem s_non {j : Nat} : PE X (.Constant .none j pos) (rdE X.K call (n + 1) .non) := pe_non.mono fun σ H Q ⟨as, hd, ρ, m, ok, env, h⟩ => Post.now ok h .non
/-- a module's number, text -/
theorem s_gint {i : Int} {t : Tok} (hg : Gl X x) (hm : X.mg x = some (.int i t)) (hd : (x == ("__debug__" : Str)) = false) : PE X (.Name x pos) (rdE X.K call (n + 1) (.int i)) := (pe_glob (v := .int i) hg hm ⟨t, rfl⟩ hd).mono fun σ H Q ⟨as, hd, ρ, m, ok, env, h⟩ => Post.now ok h (.int i)
theorem s_gstr {i : Str} {t : Tok} (hg : Gl X x) (hm : X.mg x = some (.str i t)) (hd : (x == ("__debug__" : Str)) = false) : PE X (.Name x pos) (rdE X.K call (n + 1) (.str i)) := (pe_glob (v := .str i) hg hm ⟨t, rfl⟩ hd).mono fun σ H Q ⟨as, hd, ρ, m, ok, env, h⟩ => Post.now ok h (.str i)

/-! ### lists of arguments -/
theorem sa_nil : PA X [] (rdL X.K call n []) := pa_nil.mono fun σ H Q ⟨as, hd, ρ, m, ok, env, h⟩ => Post.now ok h .nil
theorem sa_cons (ha : PE X a (rdE X.K call n ea)) (hr : PA X es (rdL X.K call n ies)) (hs : starEach (a :: es) X.env = (false, eval a X.env) :: starEach es X.env) : PA X (a :: es) (rdL X.K call n (ea :: ies)) :=
  (pa_cons ha hr hs).mono fun σ H Q ⟨as, hd, ρ, m, ok, env, h⟩ => ⟨as, hd, ρ, m, ok, env, Post.bind (P' := Reps X.K) h fun as1 H1 d1 m1 v1 _ st1 ok1 r1 h1 =>
    ⟨as1, hd, ρ, m1, ok1, env.mono st1, Post.bind (P' := Reps X.K) h1 fun as2 H2 d2 m2 v2 _ st2 ok2 r2 h2 => Post.now ok2 h2 (.cons (r1.mono st2) r2)⟩⟩
theorem evEs_len (f : E → Mm → R D) : ∀ (es : List E) (m : Mm) (ds : List D) (m' : Mm), evEs f es m = .ok ds m' → ds.length = es.length
  | [], m, ds, m', h => by cases h; rfl
  | e :: es, m, ds, m', h => by
    unfold evEs at h
    cases q : f e m with
    | bad => rw [q] at h; cases h
    | ok d m1 =>
      rw [q] at h
      have h : (evEs f es m1).bind (fun ds m2 => R.ok (d :: ds) m2) = .ok ds m' := h
      cases q2 : evEs f es m1 with
      | bad => rw [q2] at h; cases h
      | ok ds' m2 =>
        rw [q2] at h
        cases h
        exact congrArg Nat.succ (evEs_len f es m1 ds' _ q2)

/-! ### displays -/
theorem small_line {n : Nat} (h : n ≤ 1000) : n ≤ sizeLine := Nat.le_of_lt (small1000 h)
theorem s_tup {k : Nat} (ha : PA X es (rdL X.K call n ies)) (hl : ies.length ≤ 1000) : PE X (.Tuple es k pos) (rdE X.K call (n + 1) (.tup ies)) :=
  (pe_tup ha).mono fun σ H Q ⟨as, hd, ρ, m, ok, env, h⟩ => ⟨as, hd, ρ, m, ok, env, Post.bind (P' := Rep X.K) h fun as1 H1 ds m1 vs e1 st1 ok1 r1 h1 =>
    ⟨by rw [← r1.length, evEs_len _ _ _ _ _ e1]; exact small_line hl, fun p hp => Post.laidT ok1 hp r1 h1⟩⟩
theorem f_lst (ha : PA X es (rdL X.K call n ies)) (hl : ies.length ≤ 1000) : PE X (.List es pos) (rdF X.K call (n + 1) (.lst ies)) :=
  (pe_lst ha).mono fun σ H Q ⟨as, hd, ρ, m, ok, env, h⟩ => ⟨as, hd, ρ, m, ok, env, by
    have h : PostF X.K as hd H Q ((evEs (fun e m => evE call n e ρ m) ies m).bind fun ds m1 => .ok (.lst ds) m1) := h
    cases q : evEs (fun e m => evE call n e ρ m) ies m with
    | bad => rw [q] at h; exact h.elim
    | ok ds m1 =>
      rw [q] at h
      obtain ⟨ds', e, h⟩ := h
      cases e
      refine fun as1 H1 vs st ok1 r => ⟨by rw [← r.length, evEs_len _ _ _ _ _ q]; exact small_line hl, fun p hp => ?_⟩
      obtain ⟨s2, ok2, np⟩ := ok1.hide hp vs
      refine h as1 _ p vs (st.trans s2) ok2 np ?_ upd_same (r.mono s2)
      cases z : H p with
      | none => rfl
      | some o =>
        by_cases y : p ∈ as
        · exact absurd (prefix_mem st.pre y) (ok1.fresh hp).1
        · rw [st.keep p o z y] at hp; cases hp⟩
/-- a new list as plain data, as one that may be changed -/
theorem rdE_of_F {σ : L2.St} {H : Hp} {Q : VK} (hl : ∀ ρ m d m', evE call n ea ρ m = .ok d m' → ∃ ds, d = .lst ds) (h : rdE X.K call n ea σ H Q) : rdF X.K call n ea σ H Q := by
  obtain ⟨as, hd, ρ, m, ok, env, h⟩ := h
  refine ⟨as, hd, ρ, m, ok, env, ?_⟩
  cases q : evE call n ea ρ m with
  | bad => rw [q] at h; exact h.elim
  | ok d m1 =>
    obtain ⟨ds, rfl⟩ := hl _ _ _ _ q
    rw [q] at h
    refine ⟨ds, rfl, fun as' H' p vs st ok' np hp e r => h as' H' _ st.show_ ok'.show_ (.lst e (fun z => ok'.dis p z List.mem_cons_self) np r.show_)⟩
theorem s_newc (ha : PE X a (rdF X.K call n ea)) : PE X a (rdE X.K call (n + 1) (.newc ea)) :=
  ha.mono fun σ H Q ⟨as, hd, ρ, m, ok, env, h⟩ => ⟨as, hd, ρ, m, ok, env, by
    have h : Post X.K (Rep X.K) as hd H Q ((evE call n ea ρ m).bind fun d m1 => match d with
      | .lst ds => if D.pureL ds then .ok (.obj m1.length) (m1 ++ [ds]) else .bad
      | _ => .bad) := h
    cases q : evE call n ea ρ m with
    | bad => rw [q] at h; exact h.elim
    | ok d m1 =>
      rw [q] at h
      cases d with
      | lst ds =>
        have h : Post X.K (Rep X.K) as hd H Q (if D.pureL ds then .ok (.obj m1.length) (m1 ++ [ds]) else .bad) := h
        split at h
        · rename_i hp
          refine ⟨ds, rfl, fun as' H' p vs st ok' np hn e r => h _ H' (.ref p) (st.more hn) (ok'.more np e r hp) (.obj ?_)⟩
          rw [← ok'.len]
          simp
        · exact h.elim
      | _ => exact h.elim⟩

/-! ### operators -/
theorem s_bin {o : Bop} (ha : PE X a (rdE X.K call n ea)) (hb : PE X b (rdE X.K call n eb)) : PE X (.BinOp a (opOf o) b pos) (rdE X.K call (n + 1) (.bin o ea eb)) :=
  (pe_op (bin_ok o) ha hb).mono fun σ H Q ⟨as, hd, ρ, m, ok, env, h⟩ => ⟨as, hd, ρ, m, ok, env, Post.bind (P' := Rep X.K) h fun as1 H1 d1 m1 v1 _ st1 ok1 r1 h1 =>
    ⟨as1, hd, ρ, m1, ok1, env.mono st1, Post.bind (P' := Rep X.K) h1 fun as2 H2 d2 m2 v2 _ st2 ok2 r2 h2 => ⟨as2, hd, m2, d1, d2, ok2, r1.mono st2, r2, h2⟩⟩⟩
theorem s_neg (ha : PE X a (rdE X.K call n ea)) : PE X (.UnaryOp .USub a pos) (rdE X.K call (n + 1) (.neg ea)) :=
  (pe_un un_neg ha).mono fun σ H Q ⟨as, hd, ρ, m, ok, env, h⟩ => ⟨as, hd, ρ, m, ok, env, Post.bind (P' := Rep X.K) h fun as1 H1 d1 m1 v1 _ st1 ok1 r1 h1 => by
    cases r1 with
    | int i => exact ⟨i, rfl, Post.now ok1 h1 (.int _)⟩
    | _ => exact h1.elim⟩
theorem s_cmp {o : Cop} (hu : X.A.units + 64 < cLine) (ha : PE X a (rdE X.K call n ea)) (hb : PE X b (rdE X.K call n eb)) (hm : behindInMarks (copOf o) b = false) : PE X (.Compare a [copOf o] [b] pos) (rdE X.K call (n + 1) (.cmp o ea eb)) :=
  (pe_cmpR (cmp_ok hu o) ha hb hm).mono fun σ H Q ⟨as, hd, ρ, m, ok, env, h⟩ => ⟨as, hd, ρ, m, ok, env, Post.bind (P' := Rep X.K) h fun as1 H1 d1 m1 v1 _ st1 ok1 r1 h1 =>
    ⟨as1, hd, ρ, m1, ok1, env.mono st1, Post.bind (P' := Rep X.K) h1 fun as2 H2 d2 m2 v2 _ st2 ok2 r2 h2 => ⟨as2, hd, m2, d1, d2, ok2, r1.mono st2, r2, h2⟩⟩⟩
theorem Post.map {K : PySem.W.Frag} {α β γ δ : Type} {P : RP α β} {P' : RP γ δ} {as hd : List Addr} {H : Hp} {Q : δ → Hp → Prop} {Q' : β → Hp → Prop} {r : R γ} {r' : R α} (h : Post K P' as hd H Q r)
    (k : ∀ c m, r = .ok c m → ∃ a, r' = .ok a m ∧ ∀ as' H' b, P as' hd H' a b → ∃ d, P' as' hd H' c d ∧ (Q d H' → Q' b H')) : Post K P as hd H Q' r' := by
  cases r with
  | bad => exact h.elim
  | ok c m =>
    obtain ⟨a, e, g⟩ := k c m rfl
    rw [e]
    intro as' H' b st ok p
    obtain ⟨d, p', q⟩ := g as' H' b p
    exact q (h as' H' d st ok p')
theorem Rep.tru {K : PySem.W.Frag} {as hd : List Addr} {H : Hp} {m : Mm} (ok : Ok K as hd H m) {d : D} {v : V} {k : Bool} (r : Rep K as hd H d v) (q : d.truth m = some k) : TruV K v H k := by
  have em : ∀ {ds : List D} {xs : List V}, Reps K as hd H ds xs → (!ds.isEmpty) = !xs.isEmpty := fun t => by cases t <;> rfl
  cases r with
  | non => cases q; exact rfl
  | bl => cases q; exact rfl
  | int => cases q; exact rfl
  | str x =>
    have q : (if x.length ≤ sizeLine then some ((x.length : Int) != 0) else none) = some k := q
    split at q
    · cases q
      exact ⟨by assumption, rfl⟩
    · cases q
  | tup g1 g2 g3 g4 =>
    cases q
    exact .inr (.inl ⟨_, .of g1, em g4⟩)
  | lst g1 g2 g3 g4 =>
    cases q
    exact .inl ⟨_, .of g1, em g4⟩
  | ro g1 g2 g3 g4 =>
    cases q
    exact .inl ⟨_, .inl g1, em g4⟩
  | rok g1 g2 =>
    cases q
    exact .inl ⟨_, g1 H, em g2⟩
  | obj e =>
    obtain ⟨ds, xs, e1, e2, e3, e4⟩ := ok.cell _ _ e
    have q : (m[_]?).map (fun (xs : List D) => !xs.isEmpty) = some k := q
    rw [e1] at q
    cases q
    exact .inl ⟨_, .of e2, em e3⟩
/-- a test by its value -/
theorem b_truth (ha : PE X a (rdE X.K call n ea)) (he : ∀ whole, isTrue a X.env whole = (do let v ← whole; standAt a.pos; holding [v] (truthy v))) : PT X a (rdB X.K call n ea) :=
  (pt_truth ha he).mono fun σ H Q ⟨as, hd, ρ, m, ok, env, h⟩ => ⟨as, hd, ρ, m, ok, env, Post.bind (P' := EqB) h fun as1 H1 d1 m1 v1 _ st1 ok1 r1 h1 => by
    cases q : d1.truth m1 with
    | none => rw [q] at h1; exact h1.elim
    | some k =>
      rw [q] at h1
      exact ⟨k, r1.tru ok1 q, Post.now ok1 h1 rfl⟩⟩
theorem b_cmp {o : Cop} (hu : X.A.units + 64 < cLine) (ha : PE X a (rdE X.K call n ea)) (hb : PE X b (rdE X.K call n eb)) (hm : behindInMarks (copOf o) b = false) : PT X (.Compare a [copOf o] [b] pos) (rdB X.K call (n + 1) (.cmp o ea eb)) := by
  refine (pt_cmpR (cmp_ok hu o) ha hb hm).mono fun σ H Q ⟨as, hd, ρ, m, ok, env, h⟩ => ?_
  have h : Post X.K EqB as hd H Q (((evE call n ea ρ m).bind fun x m1 => (evE call n eb ρ m1).bind fun y m2 => R.opt ((cmpD m2 o x y).map D.bl) m2).bind fun (d : D) m1 => R.opt (d.truth m1) m1) := h
  refine ⟨as, hd, ρ, m, ok, env, ?_⟩
  cases q1 : evE call n ea ρ m with
  | bad => rw [q1] at h; exact h.elim
  | ok d1 m1 =>
    rw [q1] at h
    intro as1 H1 v1 st1 ok1 r1
    refine ⟨as1, hd, ρ, m1, ok1, env.mono st1, ?_⟩
    have h : Post X.K EqB as hd H Q (((evE call n eb ρ m1).bind fun y m2 => R.opt ((cmpD m2 o d1 y).map D.bl) m2).bind fun (d : D) m1 => R.opt (d.truth m1) m1) := h
    cases q2 : evE call n eb ρ m1 with
    | bad => rw [q2] at h; exact h.elim
    | ok d2 m2 =>
      rw [q2] at h
      intro as2 H2 v2 st2 ok2 r2
      have h : Post X.K EqB as hd H Q ((R.opt ((cmpD m2 o d1 d2).map D.bl) m2).bind fun (d : D) m1 => R.opt (d.truth m1) m1) := h
      refine ⟨as2, hd, m2, d1, d2, ok2, r1.mono st2, r2, ?_⟩
      show Post X.K (Rep X.K) as2 hd H2 _ (R.opt ((cmpD m2 o d1 d2).map D.bl) m2)
      cases q3 : cmpD m2 o d1 d2 with
      | none => rw [q3] at h; exact h.elim
      | some k =>
        rw [q3] at h
        intro as3 H3 v3 st3 ok3 r3
        cases r3
        exact ⟨k, rfl, h as3 H3 k (st1.trans (st2.trans st3)) ok3 rfl⟩
end
end EV

set_option Elab.async false
set_option linter.all false
set_option maxRecDepth 100000
set_option autoImplicit false
namespace EV
open PySem PySem.Spec PyProof.Rows L2
section
variable {X : Cx} {call : Nat → List D → Mm → R D} {wf n : Nat} {e a b c : Expr} {ea eb ec : E} {es rest : List Expr} {ies : List E} {pos pos' : Pos} {x : Str} {i : Nat}
/-! ### and, or, not, if else -/
def evAnd (call : Nat → List D → Mm → R D) (n : Nat) (eb : E) (ρ : Rho) (x : D) (m1 : Mm) : R D := match x with
  | .bl true => evE call n eb ρ m1
  | .bl false => .ok (.bl false) m1
  | _ => .bad
def evOr (call : Nat → List D → Mm → R D) (n : Nat) (eb : E) (ρ : Rho) (x : D) (m1 : Mm) : R D := match x with
  | .bl false => evE call n eb ρ m1
  | .bl true => .ok (.bl true) m1
  | _ => .bad
theorem evE_and {ρ : Rho} {m : Mm} : evE call (n + 1) (.and ea eb) ρ m = (evE call n ea ρ m).bind (evAnd call n eb ρ) := rfl
theorem evE_or {ρ : Rho} {m : Mm} : evE call (n + 1) (.or ea eb) ρ m = (evE call n ea ρ m).bind (evOr call n eb ρ) := rfl
theorem rdE_up {σ : L2.St} {H : Hp} {Q : VK} {k : Nat} (hk : ∀ ρ m, evE call n ea ρ m = evE call k eb ρ m) (h : rdE X.K call n ea σ H Q) : rdE X.K call k eb σ H Q := by
  obtain ⟨as, hd, ρ, m, ok, env, h⟩ := h
  exact ⟨as, hd, ρ, m, ok, env, by rw [← hk]; exact h⟩
theorem s_and (ha : PE X a (rdE X.K call n ea)) (hb : PE X (.BoolOp .And (b :: rest) pos) (rdE X.K call n eb)) : PE X (.BoolOp .And (a :: b :: rest) pos) (rdE X.K call (n + 1) (.and ea eb)) :=
  (pe_and ha hb).mono fun σ H Q ⟨as, hd, ρ, m, ok, env, h⟩ => ⟨as, hd, ρ, m, ok, env, Post.bind (P' := Rep X.K) (G := evAnd call n eb ρ) h fun as1 H1 d1 m1 v1 _ st1 ok1 r1 h1 => by
    cases r1 with
    | bl k =>
      refine ⟨k, rfl, ?_⟩
      cases k with
      | true =>
        rw [if_pos rfl]
        exact ⟨as1, hd, ρ, m1, ok1, env.mono st1, h1⟩
      | false =>
        rw [if_neg Bool.false_ne_true]
        exact Post.now ok1 h1 (.bl false)
    | _ => exact h1.elim⟩
theorem s_or (ha : PE X a (rdE X.K call n ea)) (hb : PE X (.BoolOp .Or (b :: rest) pos) (rdE X.K call n eb)) : PE X (.BoolOp .Or (a :: b :: rest) pos) (rdE X.K call (n + 1) (.or ea eb)) :=
  (pe_or ha hb).mono fun σ H Q ⟨as, hd, ρ, m, ok, env, h⟩ => ⟨as, hd, ρ, m, ok, env, Post.bind (P' := Rep X.K) (G := evOr call n eb ρ) h fun as1 H1 d1 m1 v1 _ st1 ok1 r1 h1 => by
    cases r1 with
    | bl k =>
      refine ⟨k, rfl, ?_⟩
      cases k with
      | true =>
        rw [if_pos rfl]
        exact Post.now ok1 h1 (.bl true)
      | false =>
        rw [if_neg Bool.false_ne_true]
        exact ⟨as1, hd, ρ, m1, ok1, env.mono st1, h1⟩
    | _ => exact h1.elim⟩
theorem s_one {op : PySem.BoolOp} (ha : PE X a (rdE X.K call n ea)) : PE X (.BoolOp op [a] pos) (rdE X.K call n ea) := pe_one ha
theorem s_not (ha : PE X a (rdE X.K call n ea)) : PE X (.UnaryOp .Not a pos) (rdE X.K call (n + 1) (.not ea)) :=
  (pe_not ha).mono fun σ H Q ⟨as, hd, ρ, m, ok, env, h⟩ => ⟨as, hd, ρ, m, ok, env, Post.bind (P' := Rep X.K) h fun as1 H1 d1 m1 v1 _ st1 ok1 r1 h1 => by
    cases r1 with
    | bl k => exact ⟨k, rfl, Post.now ok1 h1 (.bl _)⟩
    | _ => exact h1.elim⟩
def evIf (call : Nat → List D → Mm → R D) (n : Nat) (ea eb : E) (ρ : Rho) (k : Bool) (m1 : Mm) : R D := match k with
  | true => evE call n ea ρ m1
  | false => evE call n eb ρ m1
theorem evE_ife {ρ : Rho} {m : Mm} : evE call (n + 1) (.ife ec ea eb) ρ m = (evB call n ec ρ m).bind (evIf call n ea eb ρ) := by
  show (evE call n ec ρ m).bind _ = (R.bind (evE call n ec ρ m) _).bind _
  cases evE call n ec ρ m with
  | bad => rfl
  | ok d m1 =>
    show (match d.truth m1 with | some true => _ | some false => _ | none => _) = (R.opt (d.truth m1) m1).bind _
    cases d.truth m1 with
    | none => rfl
    | some k => cases k <;> rfl
theorem s_ife (hc : PT X c (rdB X.K call n ec)) (ha : PE X a (rdE X.K call n ea)) (hb : PE X b (rdE X.K call n eb)) : PE X (.IfExp c a b pos) (rdE X.K call (n + 1) (.ife ec ea eb)) :=
  (pe_ifExp hc ha hb).mono fun σ H Q ⟨as, hd, ρ, m, ok, env, h⟩ => ⟨as, hd, ρ, m, ok, env, by
    rw [evE_ife] at h
    refine Post.bind (P' := Rep X.K) h fun as1 H1 k m1 k' _ st1 ok1 r1 h1 => ?_
    subst r1
    cases k with
    | true =>
      rw [if_pos rfl]
      exact ⟨as1, hd, ρ, m1, ok1, env.mono st1, h1⟩
    | false =>
      rw [if_neg Bool.false_ne_true]
      exact ⟨as1, hd, ρ, m1, ok1, env.mono st1, h1⟩⟩
/-- a test's rest, behind a part that answers by a bool -/
theorem evB_bool {ρ : Rho} {m : Mm} {k : Bool} {m1 : Mm} (q : evE call n ea ρ m = .ok (.bl k) m1) : evB call n ea ρ m = .ok k m1 := by
  unfold evB
  rw [q]
  rfl
theorem evB_and {ρ : Rho} {m : Mm} : evB call (n + 1) (.and ea eb) ρ m = (evE call n ea ρ m).bind fun x m1 => (evAnd call n eb ρ x m1).bind fun d m2 => R.opt (d.truth m2) m2 := by
  show ((evE call n ea ρ m).bind (evAnd call n eb ρ)).bind _ = _
  cases evE call n ea ρ m <;> rfl
theorem evB_or {ρ : Rho} {m : Mm} : evB call (n + 1) (.or ea eb) ρ m = (evE call n ea ρ m).bind fun x m1 => (evOr call n eb ρ x m1).bind fun d m2 => R.opt (d.truth m2) m2 := by
  show ((evE call n ea ρ m).bind (evOr call n eb ρ)).bind _ = _
  cases evE call n ea ρ m <;> rfl
theorem b_and (ha : PT X a (rdB X.K call n ea)) (hb : PW X (.BoolOp .And (b :: rest) pos) (rdB X.K call n eb)) : PW X (.BoolOp .And (a :: b :: rest) pos) (rdB X.K call (n + 1) (.and ea eb)) := by
  refine ⟨fun wh pins s σ H Q I ⟨as, hd, ρ, m, ok, env, h⟩ => (pw_and ha hb).run wh pins s σ H Q I ⟨as, hd, ρ, m, ok, env, ?_⟩⟩
  rw [evB_and] at h
  cases q1 : evE call n ea ρ m with
  | bad => rw [q1] at h; exact h.elim
  | ok d1 m1 =>
    rw [q1] at h
    have h : Post X.K EqB as hd H Q ((evAnd call n eb ρ d1 m1).bind fun (d : D) m2 => R.opt (d.truth m2) m2) := h
    cases d1 with
    | bl k =>
      rw [evB_bool q1]
      intro as1 H1 k' st1 ok1 r1
      subst r1
      cases k with
      | true =>
        rw [if_pos rfl]
        exact ⟨as1, hd, ρ, m1, ok1, env.mono st1, Post.step (r := evB call n eb ρ m1) h st1⟩
      | false =>
        rw [if_neg Bool.false_ne_true]
        exact h as1 H1 false st1 ok1 rfl
    | _ => exact h.elim
theorem b_or (ha : PT X a (rdB X.K call n ea)) (hb : PW X (.BoolOp .Or (b :: rest) pos) (rdB X.K call n eb)) : PW X (.BoolOp .Or (a :: b :: rest) pos) (rdB X.K call (n + 1) (.or ea eb)) := by
  refine ⟨fun wh pins s σ H Q I ⟨as, hd, ρ, m, ok, env, h⟩ => (pw_or ha hb).run wh pins s σ H Q I ⟨as, hd, ρ, m, ok, env, ?_⟩⟩
  rw [evB_or] at h
  cases q1 : evE call n ea ρ m with
  | bad => rw [q1] at h; exact h.elim
  | ok d1 m1 =>
    rw [q1] at h
    have h : Post X.K EqB as hd H Q ((evOr call n eb ρ d1 m1).bind fun (d : D) m2 => R.opt (d.truth m2) m2) := h
    cases d1 with
    | bl k =>
      rw [evB_bool q1]
      intro as1 H1 k' st1 ok1 r1
      subst r1
      cases k with
      | true =>
        rw [if_pos rfl]
        exact h as1 H1 true st1 ok1 rfl
      | false =>
        rw [if_neg Bool.false_ne_true]
        exact ⟨as1, hd, ρ, m1, ok1, env.mono st1, Post.step (r := evB call n eb ρ m1) h st1⟩
    | _ => exact h.elim
theorem b_one_and (ha : PT X a (rdB X.K call n ea)) : PW X (.BoolOp .And [a] pos) (rdB X.K call n ea) := pw_and1 ha
theorem b_one_or (ha : PT X a (rdB X.K call n ea)) : PW X (.BoolOp .Or [a] pos) (rdB X.K call n ea) := pw_or1 ha
theorem b_not (ha : PT X a (rdB X.K call n ea)) : PT X (.UnaryOp .Not a pos) (rdB X.K call (n + 1) (.not ea)) := by
  refine (pt_not ha).mono fun σ H Q ⟨as, hd, ρ, m, ok, env, h⟩ => ⟨as, hd, ρ, m, ok, env, ?_⟩
  have h : Post X.K EqB as hd H Q (((evE call n ea ρ m).bind fun x m1 => match x with
      | .bl b => R.ok (D.bl (!b)) m1
      | _ => .bad).bind fun (d : D) m1 => R.opt (d.truth m1) m1) := h
  cases q1 : evE call n ea ρ m with
  | bad => rw [q1] at h; exact h.elim
  | ok d1 m1 =>
    rw [q1] at h
    cases d1 with
    | bl k =>
      rw [evB_bool q1]
      intro as1 H1 k' st1 ok1 r1
      subst r1
      exact h as1 H1 (!k) st1 ok1 rfl
    | _ => exact h.elim

/-! ### two comparisons in a row -/
theorem chain_rd {o p : Cop} {σ : L2.St} {H : Hp} {Q : VK} (hh : rdE X.K call (n + 1) (.chain o p ea eb ec) σ H Q) :
    tChain (qD X.K fun m d e => (cmpD m o d e).map .bl) (qD X.K fun m d e => (cmpD m p d e).map .bl) (rdE X.K call n ea) (rdE X.K call n eb) (rdE X.K call n ec) σ H Q := by
  obtain ⟨as, hd, ρ, m, ok, env, h⟩ := hh
  refine ⟨as, hd, ρ, m, ok, env, Post.bind (P' := Rep X.K) h fun as1 H1 d1 m1 v1 _ st1 ok1 r1 h1 =>
    ⟨as1, hd, ρ, m1, ok1, env.mono st1, Post.bind (P' := Rep X.K) h1 fun as2 H2 d2 m2 v2 _ st2 ok2 r2 h2 => ⟨as2, hd, m2, d1, d2, ok2, r1.mono st2, r2, ?_⟩⟩⟩
  show Post X.K (Rep X.K) as2 hd H2 _ (R.opt ((cmpD m2 o d1 d2).map D.bl) m2)
  cases q : cmpD m2 o d1 d2 with
  | none => rw [q] at h2; exact h2.elim
  | some k =>
    rw [q] at h2
    intro as3 H3 v3 st3 ok3 r3
    cases r3
    refine ⟨k, rfl, ?_⟩
    cases k with
    | true =>
      rw [if_pos rfl]
      have h2 : Post X.K (Rep X.K) as2 hd H2 Q ((evE call n ec ρ m2).bind fun z m3 => R.opt ((cmpD m3 p d2 z).map .bl) m3) := h2
      exact ⟨as3, hd, ρ, m2, ok3, env.mono (st1.trans (st2.trans st3)), Post.bind (P' := Rep X.K) (Post.step h2 st3) fun as4 H4 d4 m4 v4 _ st4 ok4 r4 h4 => ⟨as4, hd, m4, d2, d4, ok4, r2.mono (st3.trans st4), r4, h4⟩⟩
    | false =>
      rw [if_neg Bool.false_ne_true]
      exact h2 as3 H3 (.bl false) st3 ok3 (.bl false)

/-! ### subscripts, slices -/
theorem s_idx (ha : PE X a (rdE X.K call n ea)) (hb : PE X b (rdE X.K call n eb)) (hs : PlainIx b) : PE X (.Subscript a b pos) (rdE X.K call (n + 1) (.idx ea eb)) :=
  (pe_ix idx_ok ha hb hs).mono fun σ H Q ⟨as, hd, ρ, m, ok, env, h⟩ => ⟨as, hd, ρ, m, ok, env, Post.bind (P' := Rep X.K) h fun as1 H1 d1 m1 v1 _ st1 ok1 r1 h1 =>
    ⟨as1, hd, ρ, m1, ok1, env.mono st1, Post.bind (P' := Rep X.K) h1 fun as2 H2 d2 m2 v2 _ st2 ok2 r2 h2 => ⟨as2, hd, m2, d1, d2, ok2, r1.mono st2, r2, h2⟩⟩⟩
theorem Reps.cut {K : PySem.W.Frag} {as hd : List Addr} {H : Hp} {xs : List D} {vs : List V} (t : Reps K as hd H xs vs) (lo hi : Option Int) : Reps K as hd H (cutL xs lo hi) (cutV vs lo hi) := by
  unfold cutL cutV
  rw [t.length]
  exact (t.drop _).take _
/-- what a slice answers, by values -/
def qCut (K : PySem.W.Frag) : V → Option Int → Option Int → Hp → VK → Prop := fun x lo hi H Q => ∃ as hd m d, Ok K as hd H m ∧ Rep K as hd H d x ∧ Post K (Rep K) as hd H Q (R.opt (cutD m lo hi d) m)
theorem cut_ok : SlR X (qCut X.K) := by
  rintro pins s σ H x v vl vu lo hi sl Q I rx hs pl pu ⟨as, hd, m, d, ok, r, h⟩
  have lists : ∀ xs, d.asR m = some xs → (∀ z, d ≠ .str z) → Post X.K (Rep X.K) as hd H Q (.ok (.lst (cutL xs lo hi)) m) →
      ∃ T id, typeLookup (.type T) "__getitem__" = pure (some (.builtin id)) ∧ s.TypeIs v T ∧ wpAny (model X.prog X.w) X.A (getItem v (.ref sl)) (EP X pins σ Q) X.xe s := fun xs e _ h => by
    obtain ⟨a, vs, rfl, q, t⟩ := r.asR ok e
    exact sl_list pins s σ H _ v vl vu lo hi sl Q I rx hs pl pu ⟨a, vs, rfl, q, fun p hp => Post.laidL ok hp (t.cut lo hi) h⟩
  cases d with
  | str z =>
    cases r
    have h : Post X.K (Rep X.K) as hd H Q (R.opt (if z.length ≤ sizeLine then some (D.str (cutS z lo hi)) else none) m) := h
    split at h
    · exact sl_str pins s σ H _ v vl vu lo hi sl Q I rx hs pl pu ⟨z, rfl, by assumption, Post.now ok h (.str _)⟩
    · exact h.elim
  | lst xs => exact lists xs rfl (fun _ z => nomatch z) h
  | ro xs => exact lists xs rfl (fun _ z => nomatch z) h
  | obj k =>
    have h : Post X.K (Rep X.K) as hd H Q (R.opt (match m[k]? with | some xs => some (D.lst (cutL xs lo hi)) | none => none) m) := h
    cases q : m[k]? with
    | none => rw [q] at h; exact h.elim
    | some xs =>
      rw [q] at h
      exact lists xs q (fun _ z => nomatch z) h
  | _ => exact h.elim
/-- a part of a slice -/
abbrev EqO : RP (Option Int) (Option Int) := fun _ _ _ a b => a = b
def rdO (K : PySem.W.Frag) (call : Nat → List D → Mm → R D) (n : Nat) (ie : Option E) : TO := fun σ H Q => ∃ as hd ρ m, Ok K as hd H m ∧ EnvR K as hd H ρ σ ∧ Post K EqO as hd H Q (evO (fun e m => evE call n e ρ m) ie m)
theorem _root_.L2.PO.mono {X : Cx} {e : Option Expr} {t t' : TO} (h : PO X e t) (k : ∀ σ H Q, t' σ H Q → t σ H Q) : PO X e t' := ⟨fun pins s σ H Q I q => h.run pins s σ H Q I (k σ H Q q)⟩
theorem so_none : PO X none (rdO X.K call n none) := po_none.mono fun σ H Q ⟨as, hd, ρ, m, ok, env, h⟩ => Post.now ok h rfl
theorem so_some (ha : PE X a (rdE X.K call n ea)) : PO X (some a) (rdO X.K call n (some ea)) :=
  (po_some ha).mono fun σ H Q ⟨as, hd, ρ, m, ok, env, h⟩ => ⟨as, hd, ρ, m, ok, env, Post.bind (P' := EqO) h fun as1 H1 d1 m1 v1 _ st1 ok1 r1 h1 => by
    cases r1 with
    | int i => exact ⟨i, rfl, Post.now ok1 h1 rfl⟩
    | _ => exact h1.elim⟩
theorem s_cut {lo hi : Option Expr} {il ih : Option E} {p2 : Pos} (ha : PE X a (rdE X.K call n ea)) (hl : PO X lo (rdO X.K call n il)) (hh : PO X hi (rdO X.K call n ih)) : PE X (.Subscript a (.Slice lo hi none p2) pos) (rdE X.K call (n + 1) (.cut ea il ih)) :=
  (pe_slice cut_ok ha hl hh).mono fun σ H Q ⟨as, hd, ρ, m, ok, env, h⟩ => ⟨as, hd, ρ, m, ok, env, Post.bind (P' := Rep X.K) h fun as1 H1 d1 m1 v1 _ st1 ok1 r1 h1 =>
    ⟨as1, hd, ρ, m1, ok1, env.mono st1, Post.bind (P' := Rep X.K) h1 fun as2 H2 d2 m2 v2 _ st2 ok2 r2 h2 => by
      subst r2
      exact ⟨as2, hd, ρ, m2, ok2, env.mono (st1.trans st2), Post.bind (P' := Rep X.K) h2 fun as3 H3 d3 m3 v3 _ st3 ok3 r3 h3 => by
        subst r3
        exact ⟨as3, hd, m3, d1, ok3, r1.mono (st2.trans st3), h3⟩⟩⟩⟩

/-! ### calls -/
theorem s_bi {b : Bi} {id : String} {p : Pos} (hc : X.calm = true) (hr : Rm 1 X.A) (hb : biV b = .builtin id) (hg : Gl X x) (hm : X.mg x = none) (hv : bootBuiltins x = some (.builtin id)) (ha : PA X (a :: es) (rdL X.K call n ies)) (hn : x ≠ "__name__") (hdb : (x == ("__debug__" : Str)) = false)
    (he : starEach (a :: es) X.env = (false, eval a X.env) :: starEach es X.env) (hpl : (backTo pos (starEach es X.env)).any (·.1) = false) : PE X (.Call (.Name x p) (a :: es) [] pos) (rdE X.K call (n + 1) (.bi b ies)) := by
  have h := bi_ok hc hr b (by rw [hb]; exact fun z => nomatch z)
  rw [hb] at h
  exact (pe_callB h hg hm hv ha hn hdb he hpl).mono fun σ H Q ⟨as, hd, ρ, m, ok, env, h⟩ => ⟨as, hd, ρ, m, ok, env, Post.bind (P' := Rep X.K) h fun as1 H1 ds m1 vs _ st1 ok1 r1 h1 => ⟨as1, hd, m1, ds, ok1, r1, h1⟩⟩
theorem s_biT {b : Bi} {T : String} {p : Pos} (hc : X.calm = true) (hr : Rm 1 X.A) (hb : biV b = .type T) (hg : Gl X x) (hm : X.mg x = none) (hv : bootBuiltins x = some (.type T)) (ha : PA X (a :: es) (rdL X.K call n ies)) (hn : x ≠ "__name__") (hdb : (x == ("__debug__" : Str)) = false)
    (he : starEach (a :: es) X.env = (false, eval a X.env) :: starEach es X.env) (hpl : (backTo pos (starEach es X.env)).any (·.1) = false) : PE X (.Call (.Name x p) (a :: es) [] pos) (rdE X.K call (n + 1) (.bi b ies)) := by
  have h := bi_ok hc hr b (by rw [hb]; exact fun z => nomatch z)
  rw [hb] at h
  exact (pe_callTy h hg hm hv ha hn hdb he hpl).mono fun σ H Q ⟨as, hd, ρ, m, ok, env, h⟩ => ⟨as, hd, ρ, m, ok, env, Post.bind (P' := Rep X.K) h fun as1 H1 ds m1 vs _ st1 ok1 r1 h1 => ⟨as1, hd, m1, ds, ok1, r1, h1⟩⟩
def isiT : Bi → Option String
  | .isInt => some "int" | .isBool => some "bool" | .isStr => some "str" | .isTuple => some "tuple" | .isList => some "list" | _ => none
def tyD : D → String
  | .non => "NoneType" | .bl _ => "bool" | .int _ => "int" | .str _ => "str" | .tup _ => "tuple" | .lst _ => "list" | .ro _ => "list" | .obj _ => "list"
theorem Rep.ty {K : PySem.W.Frag} {as hd : List Addr} {H : Hp} {m : Mm} (ok : Ok K as hd H m) {d : D} {v : V} (r : Rep K as hd H d v) (hk : ∀ a xs, (∀ H', SqL K H' a xs) → ∃ o, K.lookup a = some o ∧ o.cls = .type "list") : TyX K H v (.type (tyD d)) := by
  cases r with
  | non => exact .base .non
  | bl b => exact .base (.bl b)
  | int i => exact .base (.int i)
  | str x => exact .base (.str x)
  | tup g1 => exact .base (.tup g1)
  | lst g1 => exact .base (.lst g1)
  | ro g1 =>
    rcases g1 with g1 | ⟨o, g1⟩
    · exact .base (.lst g1)
    · exact .base (.frz g1)
  | rok g1 =>
    obtain ⟨o, e1, e2⟩ := hk _ _ g1
    exact .kList e1 e2
  | obj e =>
    obtain ⟨ds, xs, e1, e2, e3, e4⟩ := ok.cell _ _ e
    exact .base (.lst e2)
theorem sq_const {K : PySem.W.Frag} (a : Addr) (xs : List V) (h : ∀ H', SqL K H' a xs) : ∃ o, K.lookup a = some o ∧ o.cls = .type "list" := by
  rcases h (fun _ => none) with (h | ⟨o, h⟩) | ⟨o, its, n, h1, h2, _⟩
  · cases h
  · cases h
  · exact ⟨o, h1, h2⟩
theorem isi_val (b : Bi) (T : String) (hb : isiT b = some T) (d : D) (m : Mm) : ∃ k, kitB (tyD d) T = some k ∧ biD m b [d] = some (.bl k) := by
  cases b <;> cases hb <;> cases d <;> first | exact ⟨true, by dsimp only [tyD]; decide +kernel, rfl⟩ | exact ⟨false, by dsimp only [tyD]; decide +kernel, rfl⟩
theorem s_isi {b : Bi} {T : String} {x2 : Str} {p p2 : Pos} (hb : isiT b = some T) (hg : Gl X "isinstance") (hm : X.mg "isinstance" = none) (hg2 : Gl X x2) (hm2 : X.mg x2 = none) (hv2 : bootBuiltins x2 = some (.type T)) (hn2 : x2 ≠ "__name__") (hd2 : (x2 == ("__debug__" : Str)) = false)
    (ha : PE X a (rdE X.K call n ea)) (he : starEach [a, .Name x2 p2] X.env = (false, eval a X.env) :: starEach [.Name x2 p2] X.env) :
    PE X (.Call (.Name "isinstance" p) [a, .Name x2 p2] [] pos) (rdE X.K call (n + 1) (.bi b [ea])) := by
  have h2 : PE X (.Name x2 p2) (tC (.ty T)) := pe_bltn (v := .ty T) hg2 hm2 hv2 rfl hn2 hd2
  refine (pe_callB call_isi hg hm boot_isinstance (pa_cons ha (pa_cons h2 pa_nil rfl) he) (by decide) (by decide) he rfl).mono fun σ H Q ⟨as, hd, ρ, m, ok, env, h⟩ => ⟨as, hd, ρ, m, ok, env, ?_⟩
  have h : Post X.K (Rep X.K) as hd H Q (((evE call n ea ρ m).bind fun d m1 => R.ok [d] m1).bind fun ds m1 => R.opt (biD m1 b ds) m1) := by
    have e : evEs (fun e m => evE call n e ρ m) [ea] m = (evE call n ea ρ m).bind fun d m1 => R.ok [d] m1 := rfl
    rw [← e]
    exact h
  cases q : evE call n ea ρ m with
  | bad => rw [q] at h; exact h.elim
  | ok d m1 =>
    rw [q] at h
    intro as1 H1 v st1 ok1 r1
    have h : Post X.K (Rep X.K) as hd H Q (R.opt (biD m1 b [d]) m1) := h
    obtain ⟨k, e1, e2⟩ := isi_val b T hb d m1
    rw [e2] at h
    exact ⟨v, .ty T, .type (tyD d), .type T, k, rfl, .ty T, r1.ty ok1 sq_const, kit_ty e1, h as1 H1 _ st1 ok1 (.bl k)⟩
end
end EV

set_option Elab.async false
set_option linter.all false
set_option maxRecDepth 100000
set_option autoImplicit false
namespace EV
open PySem PySem.Spec PyProof.Rows L2
section
variable {X : Cx} {call : Nat → List D → Mm → R D} {wf n : Nat} {e a b c : Expr} {ea eb ec : E} {es rest : List Expr} {ies : List E} {pos pos' : Pos} {x : Str} {i : Nat}
/-! ### calls of defs -/
/-- what the evaluator promises of the def number i -/
def spV (K : PySem.W.Frag) (call : Nat → List D → Mm → R D) (i np : Nat) : Prm := fun vs H Q => vs.length = np ∧ ∃ as hd ds m, Ok K as hd H m ∧ Reps K as hd H ds vs ∧ Post K (Rep K) as hd H Q (call i ds m)
section
variable {k : Nat} {f : Addr} {fd : FuncData} {ps : List Str} {p : Pos} {np : Nat}
/-- as many arguments as parameters, or the evaluator has no answer -/
def Arity (call : Nat → List D → Mm → R D) (i np : Nat) : Prop := ∀ ds m, ds.length ≠ np → call i ds m = .bad
theorem sp_of (hl : Arity call i np) {vs : List V} {H : Hp} {Q : VK} {as hd : List Addr} {ds : List D} {m : Mm} (ok : Ok X.K as hd H m) (r : Reps X.K as hd H ds vs) (h : Post X.K (Rep X.K) as hd H Q (call i ds m)) : spV X.K call i np vs H Q := by
  refine ⟨?_, as, hd, ds, m, ok, r, h⟩
  by_cases q : ds.length = np
  · rw [← r.length]; exact q
  · rw [hl ds m q] at h
    exact h.elim
theorem s_call (F : FnG X.prog X.w X.K X.mg X.base k f fd ps (spV X.K call i np)) (hl : Arity call i np) (hr : Rm k X.A) (hg : Gl X x) (hm : X.mg x = some (.ref f)) (hk : PySem.W.keepIn X.K (.ref f) = true) (hb : Binds X.K fd ps [])
    (ha : PA X (a :: es) (rdL X.K call n ies)) (hdb : (x == ("__debug__" : Str)) = false) (he : starEach (a :: es) X.env = (false, eval a X.env) :: starEach es X.env) (hpl : (backTo pos (starEach es X.env)).any (·.1) = false) :
    PE X (.Call (.Name x p) (a :: es) [] pos) (rdE X.K call (n + 1) (.call i ies)) :=
  (pe_clg F hr hg hm hk hb ha hdb he hpl).mono fun σ H Q ⟨as, hd, ρ, m, ok, env, h⟩ => ⟨as, hd, ρ, m, ok, env, Post.bind (P' := Rep X.K) h fun as1 H1 ds m1 vs _ st1 ok1 r1 h1 => sp_of hl ok1 r1 h1⟩
theorem s_call0 (F : FnG X.prog X.w X.K X.mg X.base k f fd ps (spV X.K call i np)) (hl : Arity call i np) (hr : Rm k X.A) (hg : Gl X x) (hm : X.mg x = some (.ref f)) (hk : PySem.W.keepIn X.K (.ref f) = true) (hb : Binds X.K fd ps [])
    (hdb : (x == ("__debug__" : Str)) = false) : PE X (.Call (.Name x p) [] [] pos) (rdE X.K call (n + 1) (.call i [])) :=
  (pe_clg0 F hr hg hm hk hb hdb).mono fun σ H Q ⟨as, hd, ρ, m, ok, env, h⟩ => sp_of hl ok .nil h
end
/-! ### methods -/
theorem tyL {K : PySem.W.Frag} {as hd : List Addr} {H : Hp} {m : Mm} (ok : Ok K as hd H m) {d : D} {v : V} {f : Mt} (r : Rep K as hd H d v) (hf : f ≠ .bitLen) (h : mtOk f d = true) : tyV K "list" v H := by
  cases r with
  | lst g => exact .inl ⟨rfl, _, .of g⟩
  | ro g => exact .inl ⟨rfl, _, .inl g⟩
  | rok g => exact .inl ⟨rfl, _, g H⟩
  | obj e =>
    obtain ⟨ds, xs, e1, e2, e3, e4⟩ := ok.cell _ _ e
    exact .inl ⟨rfl, _, .of e2⟩
  | _ => cases f <;> first | exact absurd rfl hf | cases h
def mtN : Mt → Str
  | .append => "append" | .pop => "pop" | .popAt => "pop" | .index => "index" | .bitLen => "bit_length"
def mtI : Mt → String
  | .append => "list.append" | .pop => "list.pop" | .popAt => "list.pop" | .index => "list.index" | .bitLen => ""
/-- what a method answers, by values -/
def qM (K : PySem.W.Frag) (f : Mt) : V → List V → Hp → VK → Prop := fun v vs H Q => ∃ as hd m d ds, Ok K as hd H m ∧ Rep K as hd H d v ∧ Reps K as hd H ds vs ∧ Post K (Rep K) as hd H Q (mtD m f d ds)
theorem nd_ix {l : List Addr} (h : l.Nodup) {i j : Nat} {a : Addr} (p : l[i]? = some a) (q : l[j]? = some a) : i = j := by
  obtain ⟨h1, e1⟩ := List.getElem?_eq_some_iff.mp p
  obtain ⟨h2, e2⟩ := List.getElem?_eq_some_iff.mp q
  exact (List.getElem_inj h).mp (e1.trans e2.symm)
/-- one of the lists is changed -/
theorem Ok.put {K : PySem.W.Frag} {as hd : List Addr} {H : Hp} {m : Mm} (ok : Ok K as hd H m) {k : Nat} {a : Addr} {ds : List D} {vs : List V} (e : as[k]? = some a) (r : Reps K as hd H ds vs) (hp : D.pureL ds = true) :
    Step as hd H as hd (upd H a (.lst vs)) ∧ Ok K as hd (upd H a (.lst vs)) (m.set k ds) := by
  have hm : a ∈ as := List.mem_of_getElem? e
  have st : Step as hd H as hd (upd H a (.lst vs)) := ⟨List.prefix_refl _, fun b u q n => by rw [upd_ne (fun z => n (by rw [z]; exact hm))]; exact q, fun b z => .inl z, fun b z => .inr (.inl z)⟩
  have hk : k < m.length := by rw [← ok.len]; exact (List.getElem?_eq_some_iff.mp e).1
  refine ⟨st, ⟨by simp [ok.len], ok.nd, ok.dis, fun j b eb => ?_, fun b z => ?_⟩⟩
  · by_cases hj : k = j
    · subst hj
      rw [e] at eb
      cases eb
      exact ⟨ds, vs, List.getElem?_set_self hk, upd_same, r.mono st, hp⟩
    · obtain ⟨ds', xs, h1, h2, h3, h4⟩ := ok.cell j b eb
      have ne : b ≠ a := fun z => by
        subst z
        have := (List.getElem?_eq_some_iff.mp e).1
        exact hj (nd_ix ok.nd e eb)
      exact ⟨ds', xs, by rw [List.getElem?_set_ne hj]; exact h1, by rw [upd_ne ne]; exact h2, h3.mono st, h4⟩
  · obtain ⟨o, q⟩ := ok.hdn b z
    exact ⟨o, by rw [upd_ne (fun y => ok.dis a hm (by rw [← y]; exact z))]; exact q⟩
theorem pureL_app : ∀ {xs ys : List D}, D.pureL xs = true → D.pureL ys = true → D.pureL (xs ++ ys) = true
  | [], _, _, h => h
  | x :: xs, ys, h, g => by
    have h' := Bool.and_eq_true_iff.mp h
    exact Bool.and_eq_true_iff.mpr ⟨h'.1, pureL_app h'.2 g⟩
theorem pureL_mem : ∀ {xs : List D}, D.pureL xs = true ↔ ∀ d, d ∈ xs → d.pure = true
  | [] => Iff.intro (fun _ d h => absurd h (List.not_mem_nil)) (fun _ => rfl)
  | x :: xs => by
    constructor
    · intro h d hd
      have h' := Bool.and_eq_true_iff.mp h
      rcases List.mem_cons.mp hd with rfl | hd
      · exact h'.1
      · exact pureL_mem.mp h'.2 d hd
    · intro h
      exact Bool.and_eq_true_iff.mpr ⟨h x List.mem_cons_self, pureL_mem.mpr fun d hd => h d (List.mem_cons_of_mem _ hd)⟩
theorem findF_spec {K : PySem.W.Frag} {as hd : List Addr} {H : Hp} {y : D} {w : V} (ry : Rep K as hd H y w) (fy : y.flat = true) : ∀ {xs : List D} {vs : List V} {k j : Nat}, Reps K as hd H xs vs → xs.all D.flat = true → findF y xs k = some j →
    ∃ i z, j = k + i ∧ vs[i]? = some z ∧ eqV z w = true ∧ ∀ (l : Nat) z', l < i → vs[l]? = some z' → eqV z' w = false
  | _, _, k, j, .nil, _, h => nomatch h
  | _, _, k, j, .cons (d := d) (v := v) (ds := ds) (vs := vs) h1 h2, f, h => by
    rw [List.all_cons, Bool.and_eq_true] at f
    have h : (if D.eqF d y then some k else findF y ds (k + 1)) = some j := h
    have e := h1.eqF ry f.1 fy
    split at h
    · rename_i c
      cases h
      exact ⟨0, v, rfl, rfl, by rw [e]; exact c, fun l z' hl _ => absurd hl (Nat.not_lt_zero _)⟩
    · rename_i c
      obtain ⟨i, z, e1, e2, e3, e4⟩ := findF_spec ry fy h2 f.2 h
      refine ⟨i + 1, z, by omega, by simpa using e2, e3, fun l z' hl hz => ?_⟩
      cases l with
      | zero =>
        have : v = z' := by simpa using hz
        subst this
        rw [e]
        simpa using c
      | succ l => exact e4 l z' (by omega) (by simpa using hz)
theorem mt_ok (f : Mt) (hf : f ≠ .bitLen) : MtM X (mtI f) (qM X.K f) := by
  rintro pins s σ H x vs v us Q I rx rv ⟨as, hd, m, d, ds, ok, r, rs, h⟩
  cases f with
  | bitLen => exact absurd rfl hf
  | append =>
    cases r with
    | obj e =>
      rename_i k a
      obtain ⟨xs, ws, e1, e2, e3, e4⟩ := ok.cell _ _ e
      cases rs with
      | nil => exact h.elim
      | cons q1 q2 =>
      cases q2 with
      | cons _ _ => exact h.elim
      | nil =>
      rename_i y w
      have h : Post X.K (Rep X.K) as hd H Q (match m[k]? with | some xs => if y.pure && decide (xs.length < sizeLine) then .ok .non (m.set k (xs ++ [y])) else .bad | none => .bad) := h
      rw [e1] at h
      have h : Post X.K (Rep X.K) as hd H Q (if y.pure && decide (xs.length < sizeLine) then .ok .non (m.set k (xs ++ [y])) else .bad) := h
      split at h
      · rename_i hc
        rw [Bool.and_eq_true, decide_eq_true_eq] at hc
        refine mt_append pins s σ H _ _ v us Q I rx rv ⟨a, ws, w, rfl, rfl, e2, by rw [← e3.length]; exact hc.2, ?_⟩
        obtain ⟨st, ok'⟩ := ok.put e (e3.append (.cons q1 .nil)) (pureL_app e4 (by simp [D.pureL, hc.1]))
        exact h as _ .non st ok' .non
      · exact h.elim
    | _ => exact h.elim
  | pop =>
    cases r with
    | obj e =>
      rename_i k a
      obtain ⟨xs, ws, e1, e2, e3, e4⟩ := ok.cell _ _ e
      cases rs with
      | cons _ _ => exact h.elim
      | nil =>
      have h : Post X.K (Rep X.K) as hd H Q (match m[k]? with | some xs => (match xs[xs.length - 1]? with | some d => .ok d (m.set k xs.dropLast) | none => .bad) | none => .bad) := h
      rw [e1] at h
      have h : Post X.K (Rep X.K) as hd H Q (match xs[xs.length - 1]? with | some d => .ok d (m.set k xs.dropLast) | none => .bad) := h
      cases q : xs[xs.length - 1]? with
      | none => rw [q] at h; exact h.elim
      | some y =>
        rw [q] at h
        obtain ⟨w, hw, rw'⟩ := e3.got q
        rw [e3.length] at hw
        refine mt_pop pins s σ H _ _ v us Q I rx rv ⟨a, ws, w, rfl, rfl, e2, hw, ?_⟩
        obtain ⟨st, ok'⟩ := ok.put e e3.dropLast (pureL_mem.mpr fun d hd => pureL_mem.mp e4 d (List.mem_of_mem_take (by rw [List.dropLast_eq_take] at hd; exact hd)))
        exact h as _ w st ok' (rw'.mono st)
    | _ => exact h.elim
  | popAt =>
    cases r with
    | obj e =>
      rename_i k a
      obtain ⟨xs, ws, e1, e2, e3, e4⟩ := ok.cell _ _ e
      cases rs with
      | nil => exact h.elim
      | cons q1 q2 =>
      cases q2 with
      | cons _ _ => cases q1 <;> exact h.elim
      | nil =>
      cases q1 with
      | int i =>
        have h : Post X.K (Rep X.K) as hd H Q (match m[k]? with
          | some xs => match ixN xs.length i with
            | some j => match xs[j]? with
              | some d => if -(2 ^ 63) ≤ i ∧ i < 2 ^ 63 then .ok d (m.set k (xs.eraseIdx j)) else .bad
              | none => .bad
            | none => .bad
          | none => .bad) := h
        rw [e1] at h
        have h : Post X.K (Rep X.K) as hd H Q (match ixN xs.length i with
            | some j => match xs[j]? with
              | some d => if -(2 ^ 63) ≤ i ∧ i < 2 ^ 63 then .ok d (m.set k (xs.eraseIdx j)) else .bad
              | none => .bad
            | none => .bad) := h
        cases qj : ixN xs.length i with
        | none => rw [qj] at h; exact h.elim
        | some j =>
          rw [qj] at h
          have h : Post X.K (Rep X.K) as hd H Q (match xs[j]? with
              | some d => if -(2 ^ 63) ≤ i ∧ i < 2 ^ 63 then .ok d (m.set k (xs.eraseIdx j)) else .bad
              | none => .bad) := h
          cases q : xs[j]? with
          | none => rw [q] at h; exact h.elim
          | some y =>
            rw [q] at h
            have h : Post X.K (Rep X.K) as hd H Q (if -(2 ^ 63) ≤ i ∧ i < 2 ^ 63 then .ok y (m.set k (xs.eraseIdx j)) else .bad) := h
            split at h
            · rename_i hc
              obtain ⟨w, hw, rw'⟩ := e3.got q
              refine mt_popAt pins s σ H _ _ v us Q I rx rv ⟨a, ws, i, j, w, rfl, rfl, e2, hc.1, hc.2, by rw [← e3.length]; exact (ixN_seq qj).1, hw, ?_⟩
              obtain ⟨st, ok'⟩ := ok.put e (e3.erase j) (pureL_mem.mpr fun d hd => pureL_mem.mp e4 d (List.mem_of_mem_eraseIdx hd))
              exact h as _ w st ok' (rw'.mono st)
            · exact h.elim
      | _ => exact h.elim
    | _ => exact h.elim
  | index =>
    cases rs with
    | nil => cases r <;> exact h.elim
    | cons q1 q2 =>
    cases q2 with
    | cons _ _ => cases r <;> exact h.elim
    | nil =>
    rename_i y w
    have h : Post X.K (Rep X.K) as hd H Q (match d.asR m with
      | some xs => if y.flat && xs.all D.flat then (match findF y xs 0 with | some j => .ok (.int j) m | none => .bad) else .bad
      | none => .bad) := by cases d <;> exact h
    cases q : d.asR m with
    | none => rw [q] at h; exact h.elim
    | some xs =>
      rw [q] at h
      have h : Post X.K (Rep X.K) as hd H Q (if y.flat && xs.all D.flat then (match findF y xs 0 with | some j => .ok (.int j) m | none => .bad) else .bad) := h
      split at h
      · rename_i hc
        rw [Bool.and_eq_true] at hc
        cases qj : findF y xs 0 with
        | none => rw [qj] at h; exact h.elim
        | some j =>
          rw [qj] at h
          obtain ⟨a, ws, rfl, hq, t⟩ := r.asR ok q
          obtain ⟨i, z, e1, e2, e3, e4⟩ := findF_spec q1 hc.1 t hc.2 qj
          have e1 : j = i := by omega
          subst e1
          exact mt_index pins s σ H _ _ v us Q I rx rv ⟨a, ws, w, j, z, rfl, rfl, hq, q1.flat hc.1, t.flat hc.2, e2, e3, e4, Post.now ok h (.int _)⟩
      · exact h.elim
end
end EV

set_option Elab.async false
set_option linter.all false
set_option maxRecDepth 100000
set_option autoImplicit false
namespace EV
open PySem PySem.Spec PyProof.Rows L2
section
variable {X : Cx} {call : Nat → List D → Mm → R D} {wf n : Nat} {e a b c : Expr} {ea eb ec : E} {es rest : List Expr} {ies : List E} {pos pos' : Pos} {x : Str} {i : Nat}
theorem Post.ite {K : PySem.W.Frag} {as hd : List Addr} {H : Hp} {α β : Type} {P : RP α β} {Q : β → Hp → Prop} {b : Bool} {r : R α} (h : Post K P as hd H Q (if b then r else .bad)) : b = true ∧ Post K P as hd H Q r := by
  cases b with
  | true => exact ⟨rfl, h⟩
  | false => exact h.elim
theorem s_mt0 {f : Mt} {name : Str} {apos : Pos} (hf : f ≠ .bitLen) (slot : Slot "list" name (mtI f)) (hty : typeOf (.builtin (mtI f)) = pure (.type "method_descriptor")) (ha : PE X a (rdE X.K call n ea))
    (hbase : attributeBase a name X.env (eval a X.env) = eval a X.env) (hline : (apos.endLine == pos.line) = true) : PE X (.Call (.Attribute a name apos) [] [] pos) (rdE X.K call (n + 1) (.mt f ea [])) :=
  (pe_bm0 PySem.F.plainAttrs_list slot hty (mt_ok f hf) ha hbase hline).mono fun σ H Q ⟨as, hd, ρ, m, ok, env, h⟩ => ⟨as, hd, ρ, m, ok, env, Post.bind (P' := Rep X.K) h fun as1 H1 d1 m1 v1 _ st1 ok1 r1 h1 => by
    obtain ⟨hk, h1⟩ := Post.ite h1
    exact ⟨tyL ok1 r1 hf hk, as1, hd, m1, d1, [], ok1, r1, .nil, h1⟩⟩
theorem s_mt {f : Mt} {name : Str} {apos : Pos} (hf : f ≠ .bitLen) (slot : Slot "list" name (mtI f)) (hty : typeOf (.builtin (mtI f)) = pure (.type "method_descriptor")) (ho : PE X a (rdE X.K call n ea)) (ha : PA X (b :: es) (rdL X.K call n ies))
    (hbase : attributeBase a name X.env (eval a X.env) = eval a X.env)
    (hfew : ((backTo pos (starEach (b :: es) X.env)).all (fun x => !x.1) && (backToKw pos (keywordEach [] X.env)).all (fun x => x.1.isSome) && decide ((b :: es).length + ([] : List Keyword).length + (if ([] : List Keyword).isEmpty then 0 else 1) < 30)) = true)
    (hline : (apos.endLine == pos.line) = true) (hs : starEach (b :: es) X.env = (false, eval b X.env) :: starEach es X.env) (hplain : (backTo pos (starEach es X.env)).any (·.1) = false) :
    PE X (.Call (.Attribute a name apos) (b :: es) [] pos) (rdE X.K call (n + 1) (.mt f ea ies)) :=
  (pe_bm PySem.F.plainAttrs_list slot hty (mt_ok f hf) ho ha hbase hfew hline hs hplain).mono fun σ H Q ⟨as, hd, ρ, m, ok, env, h⟩ => ⟨as, hd, ρ, m, ok, env, Post.bind (P' := Rep X.K) h fun as1 H1 d1 m1 v1 _ st1 ok1 r1 h1 => by
    obtain ⟨hk, h1⟩ := Post.ite h1
    exact ⟨tyL ok1 r1 hf hk, as1, hd, ρ, m1, ok1, env.mono st1, Post.bind (P' := Rep X.K) h1 fun as2 H2 ds m2 vs _ st2 ok2 r2 h2 => ⟨as2, hd, m2, d1, ds, ok2, r1.mono st2, r2, h2⟩⟩⟩
theorem s_bits {apos : Pos} (ha : PE X a (rdE X.K call n ea)) (hbase : attributeBase a "bit_length" X.env (eval a X.env) = eval a X.env) (hline : (apos.endLine == pos.line) = true) : PE X (.Call (.Attribute a "bit_length" apos) [] [] pos) (rdE X.K call (n + 1) (.mt .bitLen ea [])) :=
  (pe_bits ha hbase hline).mono fun σ H Q ⟨as, hd, ρ, m, ok, env, h⟩ => ⟨as, hd, ρ, m, ok, env, Post.bind (P' := Rep X.K) h fun as1 H1 d1 m1 v1 _ st1 ok1 r1 h1 => by
    obtain ⟨hk, h1⟩ := Post.ite h1
    cases r1 with
    | int j => exact ⟨j, rfl, Post.now ok1 h1 (.int _)⟩
    | _ => cases hk⟩

/-! ### what is walked -/
mutual
theorem D.same_eq : ∀ {a b : D}, D.same a b = true → a = b
  | .non, b, h => by cases b <;> first | rfl | cases h
  | .bl x, b, h => by
    cases b <;> first | (rw [show x = _ from beq_iff_eq.mp h]) | cases h
  | .int x, b, h => by
    cases b <;> first | (rw [show x = _ from beq_iff_eq.mp h]) | cases h
  | .str x, b, h => by
    cases b <;> first | (rw [show x = _ from beq_iff_eq.mp h]) | cases h
  | .tup x, b, h => by
    cases b <;> first | (rw [D.sameL_eq (show D.sameL x _ = true from h)]) | cases h
  | .lst x, b, h => by
    cases b <;> first | (rw [D.sameL_eq (show D.sameL x _ = true from h)]) | cases h
  | .ro x, b, h => by
    cases b <;> first | (rw [D.sameL_eq (show D.sameL x _ = true from h)]) | cases h
  | .obj x, b, h => by
    cases b <;> first | (rw [show x = _ from beq_iff_eq.mp h]) | cases h
theorem D.sameL_eq : ∀ {a b : List D}, D.sameL a b = true → a = b
  | [], b, h => by cases b <;> first | rfl | cases h
  | x :: xs, b, h => by
    cases b with
    | nil => cases h
    | cons y ys =>
      have h' := Bool.and_eq_true_iff.mp (show (D.same x y && D.sameL xs ys) = true from h)
      rw [D.same_eq h'.1, D.sameL_eq h'.2]
end
theorem sameAt_get {m m' : Mm} {ws : List Nat} (h : sameAt m m' ws = true) {k : Nat} (hk : k ∈ ws) {xs : List D} (e : m[k]? = some xs) : m'[k]? = some xs := by
  have q := List.all_eq_true.mp h k hk
  rw [e] at q
  cases e' : m'[k]? with
  | none => rw [e'] at q; cases q
  | some ys =>
    rw [e'] at q
    rw [D.sameL_eq (show D.sameL xs ys = true from q)]
theorem sameAt_app {m m' : Mm} {ws vs : List Nat} (h : sameAt m m' (ws ++ vs) = true) : sameAt m m' ws = true ∧ sameAt m m' vs = true := by
  unfold sameAt at h ⊢
  rw [List.all_append, Bool.and_eq_true] at h
  exact h
/-- a list that is walked stands as it stood -/
theorem Rep.stands {K : PySem.W.Frag} {as hd as' hd' : List Addr} {H H' : Hp} {m m' : Mm} (ok : Ok K as hd H m) {d : D} {v : V} {xs : List D} (r : Rep K as hd H d v) (h : d.asR m = some xs) :
    ∃ a, v = .ref a ∧ ∀ as' hd' H' m', Step as hd H as' hd' H' → Ok K as' hd' H' m' → sameAt m m' (watch d) = true → ∃ vs, SqL K H' a vs ∧ Reps K as' hd' H' xs vs := by
  cases r with
  | lst h1 h2 h3 h4 =>
    cases h
    exact ⟨_, rfl, fun as' hd' H' m' st ok' _ => ⟨_, .of (st.keep _ _ h1 h2), h4.mono st⟩⟩
  | ro h1 h2 h3 h4 =>
    cases h
    exact ⟨_, rfl, fun as' hd' H' m' st ok' _ => ⟨_, .inl (st.rd h1 h2), h4.mono st⟩⟩
  | rok h1 h2 =>
    cases h
    exact ⟨_, rfl, fun as' hd' H' m' st ok' _ => ⟨_, h1 H', h2.mono st⟩⟩
  | obj e =>
    refine ⟨_, rfl, fun as' hd' H' m' st ok' sm => ?_⟩
    obtain ⟨ds, vs, e1, e2, e3, _⟩ := ok'.cell _ _ (prefix_get st.pre e)
    rw [sameAt_get sm List.mem_cons_self h] at e1
    cases e1
    exact ⟨vs, .of e2, e3⟩
  | _ => cases h
theorem sq_at {K : PySem.W.Frag} {as hd : List Addr} {H : Hp} {xs : List D} {vs : List V} (t : Reps K as hd H xs vs) {i : Nat} {d : D} (h : xs[i]? = some d) {x : V} (e : vs[i]? = some x) : Rep K as hd H d x := by
  obtain ⟨v, h1, h2⟩ := t.got h
  rw [e] at h1
  cases h1
  exact h2
theorem serves_list {K : PySem.W.Frag} {as hd : List Addr} {H : Hp} {m : Mm} (ok : Ok K as hd H m) {d : D} {v : V} {xs : List D} (r : Rep K as hd H d v) (h : d.asR m = some xs) :
    ∃ a, v = .ref a ∧ (∃ vs, SqL K H a vs) ∧ Serves K as hd H (Itl K a) xs (watch d) m := by
  obtain ⟨a, rfl, g⟩ := r.stands (as' := as) (hd' := hd) (H' := H) (m' := m) ok h
  obtain ⟨a', vs0, e0, q0, _⟩ := r.asR ok h
  cases e0
  refine ⟨a, rfl, ⟨vs0, q0⟩, ⟨fun as' hd' H' m' st ok' sm i y hi => ?_, fun as' hd' H' m' st ok' sm => ?_⟩⟩
  · obtain ⟨vs, q, t⟩ := g as' hd' H' m' st ok' sm
    obtain ⟨w, hw, rw'⟩ := t.got hi
    refine ⟨⟨vs, w, q, hw⟩, fun x H2 ⟨e, hy⟩ => ?_⟩
    subst e
    exact ⟨Step.refl, ok', sq_at t hi (hy vs q)⟩
  · obtain ⟨vs, q, t⟩ := g as' hd' H' m' st ok' sm
    exact ⟨vs, q, by rw [t.length]; exact Nat.le_refl _⟩
theorem serves_tup {K : PySem.W.Frag} {as hd : List Addr} {H : Hp} {m : Mm} {a : Addr} {xs : List D} {vs : List V} (h1 : H a = some (.tup vs)) (h2 : a ∉ as) (t : Reps K as hd H xs vs) : Serves K as hd H (Itt K a) xs [] m := by
  refine ⟨fun as' hd' H' m' st ok' sm i y hi => ?_, fun as' hd' H' m' st ok' sm => ?_⟩
  · have q := st.keep _ _ h1 h2
    obtain ⟨w, hw, rw'⟩ := (t.mono st).got hi
    refine ⟨⟨vs, w, .of q, hw⟩, fun x H2 ⟨e, hy⟩ => ?_⟩
    subst e
    exact ⟨Step.refl, ok', sq_at (t.mono st) hi (hy vs (.of q))⟩
  · exact ⟨vs, .of (st.keep _ _ h1 h2), by rw [t.length]; exact Nat.le_refl _⟩
theorem signs_get : ∀ (l : List Nat) (i : Nat) (d : D), (signsD l)[i]? = some d → ∃ c, l[i]? = some c ∧ d = .str ⟨#[c]⟩
  | [], i, d, h => by simp [signsD] at h
  | c :: r, 0, d, h => ⟨c, rfl, by simpa [signsD] using h.symm⟩
  | c :: r, i + 1, d, h => by simpa using signs_get r i d (by simpa [signsD] using h)
theorem signs_len : ∀ l : List Nat, (signsD l).length = l.length
  | [] => rfl
  | _ :: r => congrArg Nat.succ (signs_len r)
theorem serves_str {K : PySem.W.Frag} {as hd : List Addr} {H : Hp} {m : Mm} (x : Str) : Serves K as hd H (Its x) (signsD x.cps.toList) [] m := by
  refine ⟨fun as' hd' H' m' st ok' sm i y hi => ?_, fun as' hd' H' m' st ok' sm => ?_⟩
  · obtain ⟨c, hc, rfl⟩ := signs_get _ _ _ hi
    have hl : i < x.cps.size := by
      have := (List.getElem?_eq_some_iff.mp hc).1
      simpa using this
    refine ⟨hl, fun v H2 ⟨e, c', hc', ev⟩ => ?_⟩
    subst e ev
    have : c = c' := by
      rw [Array.getElem?_toList] at hc
      rw [hc] at hc'
      exact Option.some.inj hc'
    subst this
    exact ⟨Step.refl, ok', .str _⟩
  · show x.cps.size ≤ _
    rw [signs_len]
    simp
theorem rng_get : ∀ (n : Nat) (lo : Int) (i : Nat) (d : D), (rngD lo n)[i]? = some d → i < n ∧ d = .int (lo + i)
  | 0, lo, i, d, h => by simp [rngD] at h
  | n + 1, lo, 0, d, h => ⟨Nat.succ_pos _, by
    have : D.int lo = d := by simpa [rngD] using h
    rw [← this]
    simp⟩
  | n + 1, lo, i + 1, d, h => by
    obtain ⟨h1, h2⟩ := rng_get n (lo + 1) i d (by simpa [rngD] using h)
    refine ⟨by omega, ?_⟩
    rw [h2]
    congr 1
    omega
theorem rng_len : ∀ (n : Nat) (lo : Int), (rngD lo n).length = n
  | 0, _ => rfl
  | n + 1, lo => congrArg Nat.succ (rng_len n (lo + 1))
theorem serves_rng {K : PySem.W.Frag} {as hd : List Addr} {H : Hp} {m : Mm} (lo : Int) (k : Nat) : Serves K as hd H (Itr lo k) (rngD lo k) [] m := by
  refine ⟨fun as' hd' H' m' st ok' sm i y hi => ?_, fun as' hd' H' m' st ok' sm => ?_⟩
  · obtain ⟨hc, rfl⟩ := rng_get _ _ _ _ hi
    refine ⟨hc, fun v H2 ⟨e, ev⟩ => ?_⟩
    subst e ev
    exact ⟨Step.refl, ok', .int _⟩
  · show k ≤ _
    rw [rng_len]
    exact Nat.le_refl _
theorem enum_get : ∀ (l : List D) (k i : Nat) (d : D), (enumD l k)[i]? = some d → ∃ y, l[i]? = some y ∧ d = .tup [.int ((k + i : Nat) : Int), y]
  | [], k, i, d, h => by simp [enumD] at h
  | c :: r, k, 0, d, h => ⟨c, rfl, by simpa [enumD] using h.symm⟩
  | c :: r, k, i + 1, d, h => by
    obtain ⟨y, h1, h2⟩ := enum_get r (k + 1) i d (by simpa [enumD] using h)
    refine ⟨y, by simpa using h1, ?_⟩
    rw [h2, show k + 1 + i = k + (i + 1) by omega]
theorem enum_len : ∀ (l : List D) (k : Nat), (enumD l k).length = l.length
  | [], _ => rfl
  | _ :: r, k => congrArg Nat.succ (enum_len r (k + 1))
theorem pair_rep {K : PySem.W.Frag} {as hd : List Addr} {H : Hp} {m : Mm} (ok : Ok K as hd H m) {T : Addr} (hT : H T = none) {d e : D} {v u : V} (r : Rep K as hd H d v) (q : Rep K as hd H e u) :
    Step as hd H as hd (upd H T (.tup [v, u])) ∧ Ok K as hd (upd H T (.tup [v, u])) m ∧ Rep K as hd (upd H T (.tup [v, u])) (.tup [d, e]) (.ref T) :=
  ⟨Step.laid hT, ok.laid hT, .tup upd_same (ok.fresh hT).1 (ok.fresh hT).2 (.cons (r.mono (Step.laid hT)) (.cons (q.mono (Step.laid hT)) .nil))⟩
theorem serves_enum {K : PySem.W.Frag} {as hd : List Addr} {H : Hp} {m : Mm} (ok : Ok K as hd H m) {d : D} {v : V} {xs : List D} (r : Rep K as hd H d v) (h : d.asR m = some xs) :
    ∃ a vs, v = .ref a ∧ SqL K H a vs ∧ Serves K as hd H (Ite K a) (enumD xs 0) (watch d) m := by
  obtain ⟨a, rfl, g⟩ := r.stands (as' := as) (hd' := hd) (H' := H) (m' := m) ok h
  obtain ⟨a', vs0, e0, q0, _⟩ := r.asR ok h
  cases e0
  refine ⟨a, vs0, rfl, q0, ⟨fun as' hd' H' m' st ok' sm i y hi => ?_, fun as' hd' H' m' st ok' sm => ?_⟩⟩
  · obtain ⟨vs, q, t⟩ := g as' hd' H' m' st ok' sm
    obtain ⟨z, hz, rfl⟩ := enum_get _ _ _ _ hi
    obtain ⟨w, hw, rw'⟩ := t.got hz
    refine ⟨⟨vs, w, q, hw⟩, fun x H2 ⟨T, w', e1, e2, e3, hy⟩ => ?_⟩
    subst e1 e3
    rw [Nat.zero_add]
    exact pair_rep ok' e2 (.int _) (sq_at t hz (hy vs q))
  · obtain ⟨vs, q, t⟩ := g as' hd' H' m' st ok' sm
    exact ⟨vs, q, by rw [enum_len, t.length]; exact Nat.le_refl _⟩
theorem zip_get : ∀ (l k : List D) (i : Nat) (d : D), (zipD l k)[i]? = some d → ∃ y z, l[i]? = some y ∧ k[i]? = some z ∧ d = .tup [y, z]
  | [], _, i, d, h => by simp [zipD] at h
  | _ :: _, [], i, d, h => by simp [zipD] at h
  | c :: r, e :: s, 0, d, h => ⟨c, e, rfl, rfl, by simpa [zipD] using h.symm⟩
  | c :: r, e :: s, i + 1, d, h => by simpa using zip_get r s i d (by simpa [zipD] using h)
theorem zip_len : ∀ (l k : List D), l.length ≤ (zipD l k).length ∨ k.length ≤ (zipD l k).length
  | [], _ => .inl (Nat.zero_le _)
  | _ :: _, [] => .inr (Nat.zero_le _)
  | _ :: r, _ :: s => (zip_len r s).elim (fun h => .inl (Nat.succ_le_succ h)) fun h => .inr (Nat.succ_le_succ h)
theorem serves_zip {K : PySem.W.Frag} {as hd : List Addr} {H : Hp} {m : Mm} (ok : Ok K as hd H m) {d e : D} {v u : V} {xs ys : List D} (r : Rep K as hd H d v) (h : d.asR m = some xs) (r' : Rep K as hd H e u) (h' : e.asR m = some ys) :
    ∃ a b vs us, v = .ref a ∧ u = .ref b ∧ SqL K H a vs ∧ SqL K H b us ∧ Serves K as hd H (Itz K a b) (zipD xs ys) (watch d ++ watch e) m := by
  obtain ⟨a, rfl, g⟩ := r.stands (as' := as) (hd' := hd) (H' := H) (m' := m) ok h
  obtain ⟨a', vs0, e0, q0, _⟩ := r.asR ok h
  cases e0
  obtain ⟨b, rfl, g2⟩ := r'.stands (as' := as) (hd' := hd) (H' := H) (m' := m) ok h'
  obtain ⟨b', us0, e0, p0, _⟩ := r'.asR ok h'
  cases e0
  refine ⟨a, b, vs0, us0, rfl, rfl, q0, p0, ⟨fun as' hd' H' m' st ok' sm i y hi => ?_, fun as' hd' H' m' st ok' sm => ?_⟩⟩
  · obtain ⟨s1, s2⟩ := sameAt_app sm
    obtain ⟨vs, q, t⟩ := g as' hd' H' m' st ok' s1
    obtain ⟨us, q2, t2⟩ := g2 as' hd' H' m' st ok' s2
    obtain ⟨z, z2, hz, hz2, rfl⟩ := zip_get _ _ _ _ hi
    obtain ⟨w, hw, rw'⟩ := t.got hz
    obtain ⟨w2, hw2, rw2⟩ := t2.got hz2
    refine ⟨⟨vs, us, w, w2, q, q2, hw, hw2⟩, fun x H2 ⟨T, y1, y2, e1, e2, e3, hy, hy2⟩ => ?_⟩
    subst e1 e3
    exact pair_rep ok' e2 (sq_at t hz (hy vs q)) (sq_at t2 hz2 (hy2 us q2))
  · obtain ⟨s1, s2⟩ := sameAt_app sm
    obtain ⟨vs, q, t⟩ := g as' hd' H' m' st ok' s1
    obtain ⟨us, q2, t2⟩ := g2 as' hd' H' m' st ok' s2
    refine ⟨vs, us, q, q2, ?_⟩
    rw [← t.length, ← t2.length]
    exact zip_len xs ys

/-! ### for, comprehensions: what they walk -/
section
variable {tg it it2 : Expr} {ei ei2 : E} {p : Pos}
theorem evI_ok {k : Ik} {ρ : Rho} {m : Mm} {ds : List D} {m1 : Mm} (q : evEs (fun e m => evE call n e ρ m) ies m = .ok ds m1) : evI call n k ies ρ m = R.opt ((itD m1 k ds).map fun p => (p.1, p.2, m1)) m1 := by
  unfold evI
  rw [q]
  rfl
theorem i_seq (hi : PE X it (rdE X.K call n ei)) : PI X tg it (rdI X.K call n .seq [ei]) := by
  refine ((pi_list hi).or ((pi_tup hi).or (pi_str hi))).mono fun σ H R' ⟨as, hd, ρ, m, ok, env, h⟩ => ?_
  cases q : evE call n ei ρ m with
  | bad =>
    have e : evEs (fun e m => evE call n e ρ m) [ei] m = .bad := by unfold evEs; rw [q]; rfl
    unfold evI at h
    rw [e] at h
    exact h.elim
  | ok d m1 =>
    have e : evEs (fun e m => evE call n e ρ m) [ei] m = .ok [d] m1 := by unfold evEs; rw [q]; rfl
    rw [evI_ok e] at h
    cases d with
    | str x =>
      refine .inr (.inr ⟨as, hd, ρ, m, ok, env, ?_⟩)
      rw [q]
      intro as1 H1 v st1 ok1 r1
      cases r1
      exact ⟨x, rfl, h as1 H1 (Its x) st1 ok1 (serves_str x)⟩
    | tup xs =>
      refine .inr (.inl ⟨as, hd, ρ, m, ok, env, ?_⟩)
      rw [q]
      intro as1 H1 v st1 ok1 r1
      cases r1 with
      | tup g1 g2 g3 g4 => exact ⟨_, rfl, ⟨_, .of g1⟩, h as1 H1 _ st1 ok1 (serves_tup g1 g2 g4)⟩
    | non => exact h.elim
    | bl b => exact h.elim
    | int j => exact h.elim
    | lst xs =>
      refine .inl ⟨as, hd, ρ, m, ok, env, ?_⟩
      rw [q]
      intro as1 H1 v st1 ok1 r1
      obtain ⟨a, rfl, hq, sv⟩ := serves_list ok1 r1 rfl
      exact ⟨a, rfl, hq, h as1 H1 _ st1 ok1 sv⟩
    | ro xs =>
      refine .inl ⟨as, hd, ρ, m, ok, env, ?_⟩
      rw [q]
      intro as1 H1 v st1 ok1 r1
      obtain ⟨a, rfl, hq, sv⟩ := serves_list ok1 r1 rfl
      exact ⟨a, rfl, hq, h as1 H1 _ st1 ok1 sv⟩
    | obj k =>
      refine .inl ⟨as, hd, ρ, m, ok, env, ?_⟩
      rw [q]
      intro as1 H1 v st1 ok1 r1
      have h : Post X.K (RpI X.K) as hd H R' (R.opt (((m1[k]?).map fun xs => (xs, [k])).map fun p => (p.1, p.2, m1)) m1) := h
      cases qk : m1[k]? with
      | none => rw [qk] at h; exact h.elim
      | some xs =>
        rw [qk] at h
        obtain ⟨a, rfl, hq, sv⟩ := serves_list ok1 r1 (show D.asR m1 (.obj k) = some xs from qk)
        exact ⟨a, rfl, hq, h as1 H1 _ st1 ok1 sv⟩
theorem i_enum {elts : List Expr} {kk : Nat} {tpos : Pos} (hg : Gl X "enumerate") (hm : X.mg "enumerate" = none) (ha : PA X [it] (rdL X.K call n [ei])) (hs : starEach [it] X.env = [(false, eval it X.env)]) :
    PI X (.Tuple elts kk tpos) (.Call (.Name "enumerate" p) [it] [] pos) (rdI X.K call n .enum [ei]) := by
  refine (pi_enum hg hm ha hs).mono fun σ H R' ⟨as, hd, ρ, m, ok, env, h⟩ => ⟨as, hd, ρ, m, ok, env, ?_⟩
  cases q : evEs (fun e m => evE call n e ρ m) [ei] m with
  | bad => unfold evI at h; rw [q] at h; exact h.elim
  | ok ds m1 =>
    rw [evI_ok q] at h
    intro as1 H1 vs st1 ok1 r1
    have hl := evEs_len _ _ _ _ _ q
    match ds, hl with
    | [d], _ =>
      cases r1 with | cons r1 r2 =>
      cases r2
      have h : Post X.K (RpI X.K) as hd H R' (R.opt (((d.asR m1).map fun xs => (enumD xs 0, watch d)).map fun p => (p.1, p.2, m1)) m1) := h
      cases qk : d.asR m1 with
      | none => rw [qk] at h; exact h.elim
      | some xs =>
        rw [qk] at h
        obtain ⟨a, vs, rfl, hq, sv⟩ := serves_enum ok1 r1 qk
        exact ⟨a, vs, rfl, hq, h as1 H1 _ st1 ok1 sv⟩
theorem i_zip {elts : List Expr} {kk : Nat} {tpos : Pos} (hg : Gl X "zip") (hm : X.mg "zip" = none) (ha : PA X [it, it2] (rdL X.K call n [ei, ei2]))
    (hs : starEach [it, it2] X.env = (false, eval it X.env) :: starEach [it2] X.env) (hpl : (backTo pos (starEach [it2] X.env)).any (·.1) = false) :
    PI X (.Tuple elts kk tpos) (.Call (.Name "zip" p) [it, it2] [] pos) (rdI X.K call n .zip [ei, ei2]) := by
  refine (pi_zip hg hm ha hs hpl).mono fun σ H R' ⟨as, hd, ρ, m, ok, env, h⟩ => ⟨as, hd, ρ, m, ok, env, ?_⟩
  cases q : evEs (fun e m => evE call n e ρ m) [ei, ei2] m with
  | bad => unfold evI at h; rw [q] at h; exact h.elim
  | ok ds m1 =>
    rw [evI_ok q] at h
    intro as1 H1 vs st1 ok1 r1
    have hl := evEs_len _ _ _ _ _ q
    match ds, hl with
    | [d, e], _ =>
      cases r1 with | cons r1 r2 =>
      cases r2 with | cons r2 r3 =>
      cases r3
      have h : Post X.K (RpI X.K) as hd H R' (R.opt ((match d.asR m1, e.asR m1 with
        | some xs, some ys => some (zipD xs ys, watch d ++ watch e)
        | _, _ => none : Option (List D × List Nat)).map fun p => (p.1, p.2, m1)) m1) := h
      cases qk : d.asR m1 with
      | none => rw [qk] at h; exact h.elim
      | some xs =>
        cases qj : e.asR m1 with
        | none => rw [qk, qj] at h; exact h.elim
        | some ys =>
          rw [qk, qj] at h
          obtain ⟨a, b, vs, us, rfl, rfl, hq, hq2, sv⟩ := serves_zip ok1 r1 qk r2 qj
          exact ⟨a, b, vs, us, rfl, hq, hq2, h as1 H1 _ st1 ok1 sv⟩
theorem i_rng1 (hg : Gl X "range") (hm : X.mg "range" = none) (ha : PA X [it] (rdL X.K call n [ei])) (hs : starEach [it] X.env = [(false, eval it X.env)]) :
    PI X tg (.Call (.Name "range" p) [it] [] pos) (rdI X.K call n .rng1 [ei]) := by
  refine (pi_range1 hg hm ha hs).mono fun σ H R' ⟨as, hd, ρ, m, ok, env, h⟩ => ⟨as, hd, ρ, m, ok, env, ?_⟩
  cases q : evEs (fun e m => evE call n e ρ m) [ei] m with
  | bad => unfold evI at h; rw [q] at h; exact h.elim
  | ok ds m1 =>
    rw [evI_ok q] at h
    intro as1 H1 vs st1 ok1 r1
    have hl := evEs_len _ _ _ _ _ q
    match ds, hl with
    | [d], _ =>
      cases r1 with | cons r1 r2 =>
      cases r2
      cases r1 with
      | int j =>
        have h : Post X.K (RpI X.K) as hd H R' (R.opt ((if -(2 ^ 62) ≤ j ∧ j < 2 ^ 62 then some (rngD 0 j.toNat, ([] : List Nat)) else none).map fun p => (p.1, p.2, m1)) m1) := h
        split at h
        · rename_i hc
          exact ⟨j, rfl, hc.1, hc.2, h as1 H1 _ st1 ok1 (serves_rng 0 _)⟩
        · exact h.elim
      | _ => exact h.elim
theorem i_rng2 (hg : Gl X "range") (hm : X.mg "range" = none) (ha : PA X [it, it2] (rdL X.K call n [ei, ei2])) (hs : starEach [it, it2] X.env = [(false, eval it X.env), (false, eval it2 X.env)]) (hs2 : starEach [it2] X.env = [(false, eval it2 X.env)]) :
    PI X tg (.Call (.Name "range" p) [it, it2] [] pos) (rdI X.K call n .rng2 [ei, ei2]) := by
  refine (pi_range2 hg hm ha hs hs2).mono fun σ H R' ⟨as, hd, ρ, m, ok, env, h⟩ => ⟨as, hd, ρ, m, ok, env, ?_⟩
  cases q : evEs (fun e m => evE call n e ρ m) [ei, ei2] m with
  | bad => unfold evI at h; rw [q] at h; exact h.elim
  | ok ds m1 =>
    rw [evI_ok q] at h
    intro as1 H1 vs st1 ok1 r1
    have hl := evEs_len _ _ _ _ _ q
    match ds, hl with
    | [d, e], _ =>
      cases r1 with | cons r1 r2 =>
      cases r2 with | cons r2 r3 =>
      cases r3
      cases r1 with
      | int i =>
        cases r2 with
        | int j =>
          have h : Post X.K (RpI X.K) as hd H R' (R.opt ((if -(2 ^ 62) ≤ i ∧ i < 2 ^ 62 ∧ -(2 ^ 62) ≤ j ∧ j < 2 ^ 62 then some (rngD i (j - i).toNat, ([] : List Nat)) else none).map fun p => (p.1, p.2, m1)) m1) := h
          split at h
          · rename_i hc
            exact ⟨i, j, rfl, hc, h as1 H1 _ st1 ok1 (serves_rng i _)⟩
          · exact h.elim
        | _ => exact h.elim
      | _ => exact h.elim
end
end
end EV

set_option Elab.async false
set_option linter.all false
set_option maxRecDepth 100000
set_option autoImplicit false
namespace EV
open PySem PySem.Spec PyProof.Rows L2
section
variable {X : Cx} {call : Nat → List D → Mm → R D} {wf n : Nat} {e a b c : Expr} {ea eb ec : E} {es rest : List Expr} {ies : List E} {pos pos' : Pos} {x : Str} {i : Nat}
/-! ### targets -/
theorem t_name (hN : X.N.Nodup) (hi : X.N[i]? = some x) (hx : Loc X.env.scope x) (hf : X.fn x = true ∨ X.env.scope.names.lookup x = some .local) : PG X (.Name x pos) (rdT X.K (.v i)) :=
  (pg_name hN hi hx hf).mono fun v σ H Q ⟨as, hd, ρ, m, d, ρ', ok, env, r, h1, h2⟩ => by
    cases h1
    refine h2 _ (env.set i r) ⟨by simp, fun j hj => ?_⟩
    rw [List.getElem?_set_ne]
    intro e
    exact hj (by rw [e]; exact List.mem_cons_self)
theorem ts_nil : PGs X [] (rdTs X.K []) := pgs_nil.mono fun v σ H Q ⟨as, hd, ρ, m, ds, ρ', ok, env, r, h1, h2⟩ => by
  cases ds with
  | nil =>
    cases r
    cases h1
    exact ⟨rfl, h2 σ env SameOff.refl⟩
  | cons _ _ => cases h1
theorem ts_cons {t : Tg} {ts : List Tg} (h1 : PG X e (rdT X.K t)) (h2 : PGs X es (rdTs X.K ts)) (hs : (assignEach (e :: es) X.env).map (·.2) = assign e X.env :: (assignEach es X.env).map (·.2)) : PGs X (e :: es) (rdTs X.K (t :: ts)) :=
  (pgs_cons h1 h2 hs).mono fun v σ H Q ⟨as, hd, ρ, m, ds, ρ', ok, env, r, g1, g2⟩ => by
    cases ds with
    | nil => cases g1
    | cons d ds =>
      cases r with
      | cons r1 r2 =>
        have g1 : (setT t d ρ).bind (fun r' => setT.setTs ts ds r') = some ρ' := g1
        cases q : setT t d ρ with
        | none => rw [q] at g1; cases g1
        | some ρ1 =>
          rw [q] at g1
          exact ⟨_, _, rfl, as, hd, ρ, m, d, ρ1, ok, env, r1, q, fun σ1 env1 so => ⟨as, hd, ρ1, m, ds, ρ', ok, env1, r2, g1, fun σ2 env2 so2 => g2 σ2 env2 (so.trans so2)⟩⟩
theorem setTs_len : ∀ {ts : List Tg} {ds : List D} {ρ ρ' : Rho}, setT.setTs ts ds ρ = some ρ' → ds.length = ts.length
  | [], [], _, _, _ => rfl
  | [], _ :: _, _, _, h => nomatch h
  | _ :: _, [], _, _, h => nomatch h
  | t :: ts, d :: ds, ρ, ρ', h => by
    have h : (setT t d ρ).bind (fun r' => setT.setTs ts ds r') = some ρ' := h
    cases q : setT t d ρ with
    | none => rw [q] at h; cases h
    | some ρ1 =>
      rw [q] at h
      exact congrArg Nat.succ (setTs_len (ts := ts) h)
theorem t_tup {ts : List Tg} {k : Nat} (hc : X.calm = true) (h : PGs X es (rdTs X.K ts)) (hn : (assignEach es X.env).length = ts.length) (hst : (assignEach es X.env).findIdx? (·.1) = none) : PG X (.Tuple es k pos) (rdT X.K (.tup ts)) :=
  (pg_tup hc h hn hst).mono fun v σ H Q ⟨as, hd, ρ, m, d, ρ', ok, env, r, g1, g2⟩ => by
    cases d with
    | tup ds =>
      cases r with
      | tup q1 q2 q3 q4 => exact ⟨_, _, rfl, .of q1, by rw [← q4.length]; exact setTs_len g1, as, hd, ρ, m, ds, ρ', ok, env, q4, g1, g2⟩
    | _ => cases g1

/-! ### list comprehensions -/
def evTurn (call : Nat → List D → Mm → R D) (n : Nat) (elt : E) (t : Tg) (c : Option E) (own : List Nat) (ρ : Rho) (x : D) (m : Mm) : R (Option D) := match setT t x (wipeD ρ own) with
  | some r1 => match c with
    | none => (evE call n elt r1 m).bind fun d m2 => .ok (some d) m2
    | some c => (evE call n c r1 m).bind fun b m2 => match b.truth m2 with
      | some true => (evE call n elt r1 m2).bind fun d m3 => .ok (some d) m3
      | some false => .ok none m2
      | none => .bad
  | none => .bad
theorem evE_comp {elt : E} {t : Tg} {k : Ik} {c : Option E} {own : List Nat} {ρ : Rho} {m : Mm} : evE call (n + 1) (.comp elt t k ies c own) ρ m =
    (evI call n k ies ρ m).bind fun p m1 => (evLc (evTurn call n elt t c own ρ) m1 p.2.1 p.1 [] m1).bind fun ys m2 => .ok (.lst ys) m2 := by
  show (evEs _ ies m).bind _ = (R.bind _ _).bind _
  cases q : evEs (fun e m => evE call n e ρ m) ies m with
  | bad => rfl
  | ok ds m1 =>
    show (match itD m1 k ds with | some (xs, ws) => _ | none => _) = (R.opt _ m1).bind _
    cases itD m1 k ds with
    | none => rfl
    | some p => rfl
/-- the tests of a clause: none, or one -/
inductive Cs (X : Cx) (call : Nat → List D → Mm → R D) (n : Nat) : List Expr → Option E → Prop where
  | no : Cs X call n [] none
  | one {e : Expr} {ie : E} : PT X e (rdB X.K call n ie) → Cs X call n [e] (some ie)
def evC (call : Nat → List D → Mm → R D) (n : Nat) (c : Option E) (ρ : Rho) (m : Mm) : R Bool := match c with
  | none => .ok true m
  | some c => evB call n c ρ m
def rdC (K : PySem.W.Frag) (call : Nat → List D → Mm → R D) (n : Nat) (c : Option E) : TT := fun σ H Q => ∃ as hd ρ m, Ok K as hd H m ∧ EnvR K as hd H ρ σ ∧ Post K EqB as hd H Q (evC call n c ρ m)
theorem _root_.L2.PTs.mono {X : Cx} {e : List Expr} {t t' : TT} (h : PTs X e t) (k : ∀ σ H Q, t' σ H Q → t σ H Q) : PTs X e t' := ⟨fun pins s σ H Q I q => h.run pins s σ H Q I (k σ H Q q)⟩
theorem c_of {ifs : List Expr} {c : Option E} (h : Cs X call n ifs c) : PTs X ifs (rdC X.K call n c) := by
  cases h with
  | no => exact pts_nil.mono fun σ H Q ⟨as, hd, ρ, m, ok, env, h⟩ => Post.now ok h rfl
  | one h => exact pts_one h
theorem evTurn_eq {elt : E} {t : Tg} {c : Option E} {own : List Nat} {ρ ρ1 : Rho} {x : D} {m : Mm} (h : setT t x (wipeD ρ own) = some ρ1) :
    evTurn call n elt t c own ρ x m = (evC call n c ρ1 m).bind fun k m2 => if k then (evE call n elt ρ1 m2).bind fun d m3 => .ok (some d) m3 else .ok none m2 := by
  unfold evTurn evC
  rw [h]
  cases c with
  | none => rfl
  | some c =>
    show (evE call n c ρ1 m).bind _ = (evB call n c ρ1 m).bind _
    unfold evB
    cases evE call n c ρ1 m with
    | bad => rfl
    | ok b m2 =>
      show (match b.truth m2 with | some true => _ | some false => _ | none => _) = (R.opt (b.truth m2) m2).bind _
      cases b.truth m2 with
      | none => rfl
      | some k => cases k <;> rfl
/-- what is wanted behind the turns that are left: the list lies hidden at p -/
def PostLc (K : PySem.W.Frag) (as hd : List Addr) (H : Hp) (p : Addr) (Q : VK) : R (List D) → Prop
  | .ok ds m => ∀ as' H' vs, Step as hd H as' (p :: hd) H' → Ok K as' (p :: hd) H' m → H' p = some (.lst vs) → Reps K as' (p :: hd) H' ds vs → Q (.ref p) H'
  | .bad => False
theorem wipe_wipe (σ : L2.St) (vs : List Nat) : L2.wipe (L2.wipe σ vs) vs = L2.wipe σ vs := by
  apply List.ext_getElem?
  intro i
  rw [wipe_get, wipe_length]
  by_cases h : i ∈ vs ∧ i < σ.length
  · rw [if_pos h, wipe_get, if_pos h]
  · rw [if_neg h]
theorem Step.hid {as hd as' hd' : List Addr} {H H' : Hp} (st : Step as hd H as' hd' H') {p : Addr} (hp : H p = none) (o : HO) : Step as hd H as' hd' (upd H' p o) :=
  ⟨st.pre, fun a u e n => by rw [upd_ne (fun z => by rw [z, hp] at e; cases e)]; exact st.keep a u e n, st.newA, st.newH⟩
theorem Step.none {K : PySem.W.Frag} {as hd as' hd' : List Addr} {H H' : Hp} {m : Mm} (st : Step as hd H as' hd' H') (ok : Ok K as' hd' H' m) {p : Addr} (hp : H' p = Option.none) : H p = Option.none := by
  cases z : H p with
  | none => rfl
  | some o =>
    by_cases y : p ∈ as
    · exact absurd (prefix_mem st.pre y) (ok.fresh hp).1
    · rw [st.keep p o z y] at hp; cases hp
theorem evI_mem {k : Ik} {ρ : Rho} {m m1 : Mm} {p : List D × List Nat × Mm} (h : evI call n k ies ρ m = .ok p m1) : p.2.2 = m1 := by
  unfold evI at h
  cases q : evEs (fun e m => evE call n e ρ m) ies m with
  | bad => rw [q] at h; cases h
  | ok ds m2 =>
    rw [q] at h
    have h : R.opt ((itD m2 k ds).map fun p => (p.1, p.2, m2)) m2 = .ok p m1 := h
    cases q2 : itD m2 k ds with
    | none => rw [q2] at h; cases h
    | some z =>
      rw [q2] at h
      cases h
      rfl
theorem lc_rd {K : PySem.W.Frag} {ie : E} {t : Tg} {k : Ik} {ci : Option E} {vs : List Nat} (hsl : ∀ j, j ∈ t.slots → j ∈ vs) {σ : L2.St} {H : Hp} {Q : VK} (h : rdF K call (n + 1) (.comp ie t k ies ci vs) σ H Q) :
    tLc (rdI K call n k ies) (rdT K t) (rdC K call n ci) (rdE K call n ie) vs σ H Q := by
  obtain ⟨as, hd, ρ, m, ok, env, h⟩ := h
  rw [evE_comp] at h
  refine ⟨as, hd, ρ, m, ok, env, ?_⟩
  cases q : evI call n k ies ρ m with
  | bad => rw [q] at h; exact h.elim
  | ok pr m1 =>
  have em := evI_mem q
  obtain ⟨xs, ws, m1'⟩ := pr
  have em : m1' = m1 := em
  subst em
  rw [q] at h
  have h : PostF K as hd H Q ((evLc (evTurn call n ie t ci vs ρ) m1' ws xs [] m1').bind fun ys m2 => .ok (.lst ys) m2) := h
  intro as1 H1 J st1 ok1 sv p hp
  have sv : Serves K as1 hd H1 J xs ws m1' := sv
  have h : PostLc K as1 hd H1 p Q (evLc (evTurn call n ie t ci vs ρ) m1' ws xs [] m1') := by
    cases q2 : evLc (evTurn call n ie t ci vs ρ) m1' ws xs [] m1' with
    | bad => rw [q2] at h; exact h.elim
    | ok ys m2 =>
      rw [q2] at h
      obtain ⟨ds', e, h⟩ := h
      cases e
      exact fun as' H' us st ok' e r => h as' H' p us (st1.trans st) ok' (ok1.fresh hp).2 (st1.none ok1 hp) e r
  obtain ⟨s0, ok0, np⟩ := ok1.hide hp []
  refine ⟨fun i N H' => N = xs.length - i ∧ i ≤ xs.length ∧ ∃ as' m' accD accV, Step as1 hd H1 as' (p :: hd) H' ∧ Ok K as' (p :: hd) H' m' ∧ H' p = some (.lst accV) ∧ Reps K as' (p :: hd) H' accD accV ∧
      PostLc K as1 hd H1 p Q (evLc (evTurn call n ie t ci vs ρ) m1' ws (xs.drop i) accD m'), ⟨xs.length, rfl, Nat.zero_le _, as1, m1', [], [], s0, ok0, upd_same, .nil, h⟩, ?_⟩
  rintro i N H' ⟨rfl, hi, as', m', accD, accV, st, ok', ep, ra, fin⟩
  have np' : p ∉ as' := fun z => ok'.dis p z List.mem_cons_self
  by_cases hlt : i < xs.length
  · rw [List.drop_eq_getElem_cons hlt] at fin
    have fin : PostLc K as1 hd H1 p Q (if sameAt m1' m' ws && decide (accD.length < sizeLine) then (evTurn call n ie t ci vs ρ xs[i] m').bind fun y m1 => evLc (evTurn call n ie t ci vs ρ) m1' ws (xs.drop (i + 1)) (match y with | some d => accD ++ [d] | none => accD) m1 else .bad) := fin
    split at fin
    case isFalse => exact fin.elim
    rename_i hcnd
    rw [Bool.and_eq_true, decide_eq_true_eq] at hcnd
    obtain ⟨go, yl⟩ := sv.item as' (p :: hd) H' m' st ok' hcnd.1 i xs[i] (List.getElem?_eq_getElem hlt)
    refine .inr ⟨go, fun H2 => ∃ N', N' < xs.length - i ∧ (N' = xs.length - (i + 1) ∧ i + 1 ≤ xs.length ∧ ∃ as' m' accD accV, Step as1 hd H1 as' (p :: hd) H2 ∧ Ok K as' (p :: hd) H2 m' ∧ H2 p = some (.lst accV) ∧ Reps K as' (p :: hd) H2 accD accV ∧
      PostLc K as1 hd H1 p Q (evLc (evTurn call n ie t ci vs ρ) m1' ws (xs.drop (i + 1)) accD m')), fun H2 hN => hN, fun v H2 hy => ?_⟩
    obtain ⟨s2, ok2, rx⟩ := yl v H2 hy
    cases qt : setT t xs[i] (wipeD ρ vs) with
    | none =>
      have e : evTurn call n ie t ci vs ρ xs[i] m' = .bad := by unfold evTurn; rw [qt]
      rw [e] at fin
      exact fin.elim
    | some ρ1 =>
      rw [evTurn_eq qt] at fin
      refine ⟨as', p :: hd, wipeD ρ vs, m', xs[i], ρ1, ok2, (env.mono (st1.trans (st.trans s2))).wipe vs, rx, qt, fun σ2 env2 so => ⟨?_, as', p :: hd, ρ1, m', ok2, env2, ?_⟩⟩
      · rw [(so.mono hsl).wipe, wipe_wipe]
      · cases qc : evC call n ci ρ1 m' with
        | bad => rw [qc] at fin; exact fin.elim
        | ok b m2 =>
          rw [qc] at fin
          intro as3 H3 b' s3 ok3 eb
          subst eb
          have p3 : H3 p = some (.lst accV) := s3.keep p _ (s2.keep p _ ep np') np'
          cases b with
          | false =>
            rw [if_neg Bool.false_ne_true]
            exact ⟨_, by omega, rfl, hlt, as3, m2, accD, accV, st.trans (s2.trans s3), ok3, p3, ra.mono (s2.trans s3), fin⟩
          | true =>
            rw [if_pos rfl]
            refine ⟨as3, p :: hd, ρ1, m2, ok3, env2.mono s3, ?_⟩
            have fin : PostLc K as1 hd H1 p Q (((evE call n ie ρ1 m2).bind fun d m3 => R.ok (some d) m3).bind fun y m1 => evLc (evTurn call n ie t ci vs ρ) m1' ws (xs.drop (i + 1)) (match y with | some d => accD ++ [d] | none => accD) m1) := fin
            cases qe : evE call n ie ρ1 m2 with
            | bad => rw [qe] at fin; exact fin.elim
            | ok d m3 =>
              rw [qe] at fin
              intro as4 H4 v4 s4 ok4 r4
              have np3 : p ∉ as3 := fun z => ok3.dis p z List.mem_cons_self
              have s5 := st.trans (s2.trans (s3.trans s4))
              refine ⟨accV, s4.keep p _ p3 np3, by rw [← ra.length]; exact hcnd.2, _, by omega, rfl, hlt, as4, m3, accD ++ [d], accV ++ [v4], s5.hid hp _, ok4.hid List.mem_cons_self, upd_same, ?_, fin⟩
              exact ((ra.mono (s2.trans (s3.trans s4))).append (.cons r4 .nil)).hid List.mem_cons_self
  · have e : i = xs.length := by omega
    subst e
    rw [List.drop_length] at fin
    have fin : PostLc K as1 hd H1 p Q (if sameAt m1' m' ws then .ok accD m' else .bad) := fin
    split at fin
    case isFalse => exact fin.elim
    rename_i hcnd
    exact .inl ⟨sv.stop as' (p :: hd) H' m' st ok' hcnd, fin as' H' accV st ok' ep ra⟩
end
end EV

set_option Elab.async false
set_option linter.all false
set_option maxRecDepth 100000
set_option autoImplicit false
namespace EV
open PySem PySem.Spec PyProof.Rows L2
/-! ### which assignments store from the right -/
def isStar : Expr → Bool
  | .Starred _ _ => true
  | _ => false
def nmOf (env : Env) (line : Nat) : Expr → Option Str
  | .Name id pos => if env.kindOf id == some .local && pos.line == line then some id else none
  | _ => none
theorem sw_eq {ts vs : List Expr} {kt k2 : Nat} {pt pt2 : Pos} {env : Env} : swappedStores [.Tuple ts kt pt] (.Tuple vs k2 pt2) env =
    (if (!(ts.length == 2 || ts.length == 3) || vs.length != ts.length || env.blockKind != .function) = true then pure none else
     if vs.any isStar = true then pure none else
     if ((ts.filterMap (nmOf env ((ts.head?.map (·.pos.line)).getD 0))).length != ts.length || (ts.filterMap (nmOf env ((ts.head?.map (·.pos.line)).getD 0))).eraseDups.length != (ts.filterMap (nmOf env ((ts.head?.map (·.pos.line)).getD 0))).length) = true then pure none else
     if vs.all (foldedForSure 8) = true then pure none else
     if vs.all (constantsAlone 8) = true then (do unsupported "assign.tuple-of-constant-expressions:order-of-the-stores"; pure (some (ts.filterMap (nmOf env ((ts.head?.map (·.pos.line)).getD 0))))) else
     pure (some (ts.filterMap (nmOf env ((ts.head?.map (·.pos.line)).getD 0))))) := by
  rfl
/-- the kind of a block is its scope's -/
theorem bk_fun {env : Env} (h : env.scope.kind = .function) : env.blockKind = .function := by
  unfold Env.blockKind
  rw [h]
  rfl

section
variable {X : Cx} {call : Nat → List D → Mm → R D} {wf n : Nat} {e a b c tg : Expr} {ea eb ec : E} {es rest : List Expr} {ies : List E} {pos pos' : Pos} {x : Str} {i : Nat} {st : Stmt} {sts bd bd2 : List Stmt} {s : S} {ss ib ib2 : List S} {t : Tg}
theorem rdS_bad {D : Ends} {σ : L2.St} {H : Hp} : ¬ rdS X.K call wf n .bad D σ H := fun ⟨_, _, _, _, _, _, h⟩ => by cases n <;> exact h
theorem z_bad : PS X st (rdS X.K call wf n .bad) := ⟨fun _ _ _ _ _ _ h => (rdS_bad h).elim⟩
theorem z_0 : PS X st (rdS X.K call wf 0 s) := ⟨fun _ _ _ _ _ _ ⟨_, _, _, _, _, _, h⟩ => False.elim h⟩
theorem z_pass : PS X (.Pass pos) (rdS X.K call wf (n + 1) .pass) := ps_pass.mono fun D σ H ⟨as, hd, ρ, m, ok, env, h⟩ => h as H σ Step.refl ok env
theorem z_brk : PS X (.Break pos) (rdS X.K call wf (n + 1) .brk) := ps_break.mono fun D σ H ⟨as, hd, ρ, m, ok, env, h⟩ => h as H σ Step.refl ok env
theorem z_cont : PS X (.Continue pos) (rdS X.K call wf (n + 1) .cont) := ps_continue.mono fun D σ H ⟨as, hd, ρ, m, ok, env, h⟩ => h as H σ Step.refl ok env
theorem z_doc {i : Str} {j : Nat} : PS X (.Expr (.Constant (.str i) j pos) pos') (rdS X.K call wf (n + 1) .pass) := ps_doc.mono fun D σ H ⟨as, hd, ρ, m, ok, env, h⟩ => h as H σ Step.refl ok env
theorem z_ex (ha : PE X a (rdE X.K call n ea)) (hs : swapsWith a none pos.line X.env = pure false) : PS X (.Expr a pos) (rdS X.K call wf (n + 1) (.ex ea)) :=
  (ps_expr ha hs).mono fun D σ H ⟨as, hd, ρ, m, ok, env, h⟩ => ⟨as, hd, ρ, m, ok, env, Post.stm h fun as1 H1 d m1 v _ st1 ok1 r1 h1 => h1 as1 H1 σ Step.refl ok1 (env.mono st1)⟩
theorem z_ret (ha : PE X a (rdE X.K call n ea)) : PS X (.Return (some a) pos) (rdS X.K call wf (n + 1) (.ret ea)) :=
  (ps_ret ha).mono fun D σ H ⟨as, hd, ρ, m, ok, env, h⟩ => ⟨as, hd, ρ, m, ok, env, Post.stm h fun as1 H1 d m1 v _ st1 ok1 r1 h1 => h1 as1 H1 v Step.refl ok1 r1⟩
theorem z_retN : PS X (.Return none pos) (rdS X.K call wf (n + 1) .retN) := ps_retN.mono fun D σ H ⟨as, hd, ρ, m, ok, env, h⟩ => h as H .non Step.refl ok .non
/-- a target's part of an assignment -/
theorem rd_set {D : Ends} {σ : L2.St} {H : Hp} (h : rdS X.K call wf (n + 1) (.set t ea) D σ H) : rdE X.K call n ea σ H fun v H1 => rdT X.K t v σ H1 D.nx := by
  obtain ⟨as, hd, ρ, m, ok, env, h⟩ := h
  refine ⟨as, hd, ρ, m, ok, env, Post.stm h fun as1 H1 d m1 v _ st1 ok1 r1 h1 => ?_⟩
  cases q : setT t d ρ with
  | none => rw [q] at h1; exact h1.elim
  | some ρ1 =>
    rw [q] at h1
    exact ⟨as1, hd, ρ, m1, d, ρ1, ok1, env.mono st1, r1, q, fun σ' env' _ => h1 as1 H1 σ' Step.refl ok1 env'⟩
theorem z_set (ha : PE X a (rdE X.K call n ea)) (hg : PG X tg (rdT X.K t)) (hs : swapsWithSole [tg] a pos.line X.env = pure false) (hw : swappedStores [tg] a X.env = pure none) (h1 : (assignEach [tg] X.env).map (·.2) = [assign tg X.env]) :
    PS X (.Assign [tg] a pos) (rdS X.K call wf (n + 1) (.set t ea)) := (ps_asg ha hg hs hw h1).mono fun D σ H h => rd_set h
theorem rdE.mono {σ : L2.St} {H : Hp} {Q Q' : VK} (h : rdE X.K call n ea σ H Q) (k : ∀ v H', Q v H' → Q' v H') : rdE X.K call n ea σ H Q' := by
  obtain ⟨as, hd, ρ, m, ok, env, h⟩ := h
  exact ⟨as, hd, ρ, m, ok, env, h.mono k⟩
theorem rdT_v {v : V} {σ : L2.St} {H : Hp} {Q : L2.St → Hp → Prop} (h : rdT X.K (.v i) v σ H Q) : gName i v σ H Q := by
  obtain ⟨as, hd, ρ, m, d, ρ', ok, env, r, h1, h2⟩ := h
  cases h1
  refine h2 _ (env.set i r) ⟨by simp, fun j hj => ?_⟩
  rw [List.getElem?_set_ne]
  intro e
  exact hj (by rw [e]; exact List.mem_cons_self)
theorem newc_F {σ : L2.St} {H : Hp} {Q : VK} (h : rdE X.K call (n + 1) (.newc ea) σ H Q) : rdF X.K call n ea σ H Q := by
  obtain ⟨as, hd, ρ, m, ok, env, h⟩ := h
  refine ⟨as, hd, ρ, m, ok, env, ?_⟩
  have h : Post X.K (Rep X.K) as hd H Q ((evE call n ea ρ m).bind fun d m1 => match d with
    | .lst ds => if D.pureL ds then .ok (.obj m1.length) (m1 ++ [ds]) else .bad
    | _ => .bad) := h
  cases q : evE call n ea ρ m with
  | bad => rw [q] at h; exact h.elim
  | ok d m1 =>
    rw [q] at h
    cases d with
    | lst ds =>
      have h : Post X.K (Rep X.K) as hd H Q (if D.pureL ds then .ok (.obj m1.length) (m1 ++ [ds]) else .bad) := h
      split at h
      · rename_i hp
        refine ⟨ds, rfl, fun as' H' p vs st ok' np hn e r => h _ H' (.ref p) (st.more hn) (ok'.more np e r hp) (.obj ?_)⟩
        rw [← ok'.len]
        simp
      · exact h.elim
    | _ => exact h.elim
theorem comp_lst {ie : E} {k : Ik} {ci : Option E} {vs : List Nat} {ρ : Rho} {m : Mm} {d : D} {m' : Mm} (h : evE call (n + 1) (.comp ie t k ies ci vs) ρ m = .ok d m') : ∃ ds, d = .lst ds := by
  rw [evE_comp] at h
  cases q : evI call n k ies ρ m with
  | bad => rw [q] at h; cases h
  | ok p m1 =>
    rw [q] at h
    have h : (evLc (evTurn call n ie t ci vs ρ) m1 p.2.1 p.1 [] m1).bind (fun ys m2 => R.ok (D.lst ys) m2) = .ok d m' := h
    cases q2 : evLc (evTurn call n ie t ci vs ρ) m1 p.2.1 p.1 [] m1 with
    | bad => rw [q2] at h; cases h
    | ok ys m2 =>
      rw [q2] at h
      cases h
      exact ⟨_, rfl⟩
/-- name = [..] on one line -/
theorem z_setLc {y : Str} {py spos : Pos} {elt iter : Expr} {ifs : List Expr} {scope : Scope} {own : List (Str × Nat)} {ie : E} {k : Ik} {ci : Option E} (hp : PS X st (tAsg (tLc (rdI X.K call n k ies) (rdT X.K t) (rdC X.K call n ci) (rdE X.K call n ie) (own.map (·.2))) (gName i)))
    (hsl : ∀ j, j ∈ t.slots → j ∈ own.map (·.2)) : PS X st (rdS X.K call wf (n + 2) (.set (.v i) (.comp ie t k ies ci (own.map (·.2))))) :=
  hp.mono fun D σ H h => lc_rd hsl (rdE_of_F (fun ρ m d m' e => comp_lst e) ((rd_set h).mono fun v H' q => rdT_v q))
theorem z_setLcN {y : Str} {py spos : Pos} {elt iter : Expr} {ifs : List Expr} {scope : Scope} {own : List (Str × Nat)} {ie : E} {k : Ik} {ci : Option E} (hp : PS X st (tAsg (tLc (rdI X.K call n k ies) (rdT X.K t) (rdC X.K call n ci) (rdE X.K call n ie) (own.map (·.2))) (gName i)))
    (hsl : ∀ j, j ∈ t.slots → j ∈ own.map (·.2)) : PS X st (rdS X.K call wf (n + 3) (.set (.v i) (.newc (.comp ie t k ies ci (own.map (·.2)))))) :=
  hp.mono fun D σ H h => lc_rd hsl (newc_F ((rd_set h).mono fun v H' q => rdT_v q))
/-- a, b = x, y -/
theorem setPar_len : ∀ {is : List Nat} {ds : List D} {ρ ρ' : Rho}, setPar is ds ρ = some ρ' → ds.length = is.length
  | [], [], _, _, _ => rfl
  | [], _ :: _, _, _, h => nomatch h
  | _ :: _, [], _, _, h => nomatch h
  | t :: ts, d :: ds, ρ, ρ', h => congrArg Nat.succ (setPar_len (is := ts) h)
theorem z_par2 {i j : Nat} (hp : PS X st (tPar i j (rdL X.K call n ies))) : PS X st (rdS X.K call wf (n + 1) (.par [i, j] ies)) :=
  hp.mono fun D σ H ⟨as, hd, ρ, m, ok, env, h⟩ => ⟨as, hd, ρ, m, ok, env, Post.stm h fun as1 H1 ds m1 vs _ st1 ok1 r1 h1 => by
    cases q : setPar [i, j] ds ρ with
    | none => rw [q] at h1; exact h1.elim
    | some ρ1 =>
      rw [q] at h1
      match ds, setPar_len q, q with
      | [d1, d2], _, q =>
        cases q
        cases r1 with | cons r1 r2 =>
        cases r2 with | cons r2 r3 =>
        cases r3
        exact ⟨_, _, rfl, h1 as1 H1 _ Step.refl ok1 (((env.mono st1).set i r1).set j r2)⟩⟩
theorem z_par3 {i j l : Nat} (hp : PS X st (tPar3 i j l (rdL X.K call n ies))) : PS X st (rdS X.K call wf (n + 1) (.par [i, j, l] ies)) :=
  hp.mono fun D σ H ⟨as, hd, ρ, m, ok, env, h⟩ => ⟨as, hd, ρ, m, ok, env, Post.stm h fun as1 H1 ds m1 vs _ st1 ok1 r1 h1 => by
    cases q : setPar [i, j, l] ds ρ with
    | none => rw [q] at h1; exact h1.elim
    | some ρ1 =>
      rw [q] at h1
      match ds, setPar_len q, q with
      | [d1, d2, d3], _, q =>
        cases q
        cases r1 with | cons r1 r2 =>
        cases r2 with | cons r2 r3 =>
        cases r3 with | cons r3 r4 =>
        cases r4
        exact ⟨_, _, _, rfl, h1 as1 H1 _ Step.refl ok1 ((((env.mono st1).set i r1).set j r2).set l r3)⟩⟩
/-- o[i] = e, a list that may be changed -/
theorem pureL_set : ∀ {xs : List D} {j : Nat} {d : D}, D.pureL xs = true → d.pure = true → D.pureL (xs.set j d) = true := fun {xs j d} h g => pureL_mem.mpr fun y hy => by
  rcases List.mem_or_eq_of_mem_set hy with z | z
  · exact pureL_mem.mp h y z
  · rw [z]; exact g
theorem z_put {o i' e' : Expr} {io ii ie : E} {tpos : Pos} (hp : PS X st (tAsg (rdE X.K call n ie) (gSub (rdE X.K call n io) (rdE X.K call n ii) rSetL))) : PS X st (rdS X.K call wf (n + 1) (.put io ii ie)) :=
  hp.mono fun D σ H ⟨as, hd, ρ, m, ok, env, h⟩ => ⟨as, hd, ρ, m, ok, env, Post.stm h fun as1 H1 d m1 v _ st1 ok1 r1 h1 =>
    ⟨as1, hd, ρ, m1, ok1, env.mono st1, Post.stm h1 fun as2 H2 x m2 w _ st2 ok2 r2 h2 =>
      ⟨as2, hd, ρ, m2, ok2, env.mono (st1.trans st2), Post.stm h2 fun as3 H3 y m3 u _ st3 ok3 r3 h3 => by
        have r2' := r2.mono st3
        cases r2' with
        | @obj k a ek =>
          cases r3 with
          | int j =>
            obtain ⟨xs, ws, e1, e2, e3, e4⟩ := ok3.cell _ _ ek
            have h3 : PostS X.K as3 hd H3 D (match m3[k]? with
              | some xs => match ixN xs.length j with
                | some p => if d.pure then .nx ρ (m3.set k (xs.set p d)) else .bad
                | none => .bad
              | none => .bad) := h3
            rw [e1] at h3
            have h3 : PostS X.K as3 hd H3 D (match ixN xs.length j with
                | some p => if d.pure then .nx ρ (m3.set k (xs.set p d)) else .bad
                | none => .bad) := h3
            cases q : ixN xs.length j with
            | none => rw [q] at h3; exact h3.elim
            | some p =>
              rw [q] at h3
              have h3 : PostS X.K as3 hd H3 D (if d.pure then .nx ρ (m3.set k (xs.set p d)) else .bad) := h3
              split at h3
              · rename_i hp
                obtain ⟨st4, ok4⟩ := ok3.put ek (e3.set p (r1.mono (st2.trans st3))) (pureL_set e4 hp)
                exact ⟨a, ws, j, p, rfl, rfl, e2, by rw [← e3.length]; exact q, h3 as3 _ σ st4 ok4 (env.mono (st1.trans (st2.trans (st3.trans st4))))⟩
              · exact h3.elim
          | _ => exact h3.elim
        | _ => exact h3.elim⟩⟩⟩

/-! ### blocks, if, for, while -/
theorem zs_nil : PSs X [] (rdSs X.K call wf n []) := pss_nil.mono fun D σ H ⟨as, hd, ρ, m, ok, env, h⟩ => h as H σ Step.refl ok env
theorem zs_cons (h1 : PS X st (rdS X.K call wf n s)) (h2 : PSs X sts (rdSs X.K call wf n ss)) : PSs X (st :: sts) (rdSs X.K call wf n (s :: ss)) :=
  (pss_cons h1 h2).mono fun D σ H ⟨as, hd, ρ, m, ok, env, h⟩ => ⟨as, hd, ρ, m, ok, env, by
    have h : PostS X.K as hd H D ((evS call wf n s ρ m).bind fun r1 m1 => evSs (fun s r m => evS call wf n s r m) ss r1 m1) := h
    cases q : evS call wf n s ρ m with
    | nx r1 m1 =>
      rw [q] at h
      exact fun as1 H1 σ1 st1 ok1 env1 => ⟨as1, hd, r1, m1, ok1, env1, PostS.step h st1⟩
    | rt d m1 => rw [q] at h; exact h
    | bk r1 m1 => rw [q] at h; exact h
    | ct r1 m1 => rw [q] at h; exact h
    | bad => rw [q] at h; exact h⟩
theorem z_ife (hc : PT X c (rdB X.K call n ec)) (ha : PSs X bd (rdSs X.K call wf n ib)) (hb : PSs X bd2 (rdSs X.K call wf n ib2)) : PS X (.If c bd bd2 pos) (rdS X.K call wf (n + 1) (.ife ec ib ib2)) :=
  (ps_if hc ha hb).mono fun D σ H ⟨as, hd, ρ, m, ok, env, h⟩ => ⟨as, hd, ρ, m, ok, env, by
    have h : PostS X.K as hd H D ((evE call n ec ρ m).stm fun x m1 => match x.truth m1 with
      | some true => evSs (fun s r m => evS call wf n s r m) ib ρ m1
      | some false => evSs (fun s r m => evS call wf n s r m) ib2 ρ m1
      | none => .bad) := h
    unfold evB
    cases q : evE call n ec ρ m with
    | bad => rw [q] at h; exact h.elim
    | ok d m1 =>
      rw [q] at h
      have h : PostS X.K as hd H D (match d.truth m1 with
        | some true => evSs (fun s r m => evS call wf n s r m) ib ρ m1
        | some false => evSs (fun s r m => evS call wf n s r m) ib2 ρ m1
        | none => .bad) := h
      show Post X.K EqB as hd H _ (R.opt (d.truth m1) m1)
      cases q2 : d.truth m1 with
      | none => rw [q2] at h; exact h.elim
      | some k =>
        rw [q2] at h
        intro as1 H1 k' st1 ok1 e
        subst e
        cases k with
        | true =>
          rw [if_pos rfl]
          exact ⟨as1, hd, ρ, m1, ok1, env.mono st1, PostS.step h st1⟩
        | false =>
          rw [if_neg Bool.false_ne_true]
          exact ⟨as1, hd, ρ, m1, ok1, env.mono st1, PostS.step h st1⟩⟩
theorem z_for {k : Ik} {iter : Expr} (hp : PassesOwn (model X.prog X.w) X.A X.env X.xe) (hc : X.calm = true) (hi : PI X tg iter (rdI X.K call n k ies)) (hg : PG X tg (rdT X.K t)) (hb : PSs X bd (rdSs X.K call wf n ib))
    (hs : ∀ x, foldedSetIterable iter X.env x = pure x) : PS X (.For tg iter bd [] pos) (rdS X.K call wf (n + 1) (.for t k ies ib)) := by
  refine (ps_for hp hc hi hg hb hs).mono fun D σ H ⟨as, hd, ρ, m, ok, env, h⟩ => ⟨as, hd, ρ, m, ok, env, ?_⟩
  have h : PostS X.K as hd H D ((evEs (fun e m => evE call n e ρ m) ies m).stm fun ds m1 => match itD m1 k ds with
    | some (xs, ws) => evFor (fun r m => evSs (fun s r m => evS call wf n s r m) ib r m) t m1 ws xs ρ m1
    | none => .bad) := h
  generalize hf : (fun (r : Rho) (m : Mm) => evSs (fun s r m => evS call wf n s r m) ib r m) = f at h
  cases q : evEs (fun e m => evE call n e ρ m) ies m with
  | bad => rw [q] at h; exact h.elim
  | ok ds m1 =>
  rw [evI_ok q]
  rw [q] at h
  have h : PostS X.K as hd H D (match itD m1 k ds with
    | some (xs, ws) => evFor f t m1 ws xs ρ m1
    | none => .bad) := h
  cases qi : itD m1 k ds with
  | none => rw [qi] at h; exact h.elim
  | some pr =>
  rw [qi] at h
  obtain ⟨xs, ws⟩ := pr
  intro as1 H1 J st1 ok1 sv
  have sv : Serves X.K as1 hd H1 J xs ws m1 := sv
  have h : PostS X.K as1 hd H1 D (evFor f t m1 ws xs ρ m1) := PostS.step h st1
  refine ⟨fun i N σ' H' => N = xs.length - i ∧ i ≤ xs.length ∧ ∃ as' ρ' m', Step as1 hd H1 as' hd H' ∧ Ok X.K as' hd H' m' ∧ EnvR X.K as' hd H' ρ' σ' ∧ PostS X.K as' hd H' D (evFor f t m1 ws (xs.drop i) ρ' m'),
    ⟨xs.length, rfl, Nat.zero_le _, as1, ρ, m1, Step.refl, ok1, env.mono st1, h⟩, ?_⟩
  rintro i N σ' H' ⟨rfl, hi, as', ρ', m', st, ok', env', fin⟩
  by_cases hlt : i < xs.length
  · rw [List.drop_eq_getElem_cons hlt] at fin
    have fin : PostS X.K as' hd H' D (if sameAt m1 m' ws then (match setT t xs[i] ρ' with
      | some r1 => match f r1 m' with
        | .nx r2 m2 => evFor f t m1 ws (xs.drop (i + 1)) r2 m2
        | .ct r2 m2 => evFor f t m1 ws (xs.drop (i + 1)) r2 m2
        | .bk r2 m2 => .nx r2 m2
        | .rt d m2 => .rt d m2
        | .bad => .bad
      | none => .bad) else .bad) := fin
    split at fin
    case isFalse => exact fin.elim
    rename_i sm
    obtain ⟨go, yl⟩ := sv.item as' hd H' m' st ok' sm i xs[i] (List.getElem?_eq_getElem hlt)
    refine .inr ⟨go, fun σ2 H2 => ∃ N', N' < xs.length - i ∧ (N' = xs.length - (i + 1) ∧ i + 1 ≤ xs.length ∧ ∃ as' ρ' m', Step as1 hd H1 as' hd H2 ∧ Ok X.K as' hd H2 m' ∧ EnvR X.K as' hd H2 ρ' σ2 ∧ PostS X.K as' hd H2 D (evFor f t m1 ws (xs.drop (i + 1)) ρ' m')), fun σ2 H2 hN => hN, fun v H2 hy => ?_⟩
    obtain ⟨s2, ok2, rx⟩ := yl v H2 hy
    cases qt : setT t xs[i] ρ' with
    | none => rw [qt] at fin; exact fin.elim
    | some ρ1 =>
      rw [qt] at fin
      have fin : PostS X.K as' hd H' D (match f ρ1 m' with
        | .nx r2 m2 => evFor f t m1 ws (xs.drop (i + 1)) r2 m2
        | .ct r2 m2 => evFor f t m1 ws (xs.drop (i + 1)) r2 m2
        | .bk r2 m2 => .nx r2 m2
        | .rt d m2 => .rt d m2
        | .bad => .bad) := fin
      refine ⟨as', hd, ρ', m', xs[i], ρ1, ok2, env'.mono s2, rx, qt, fun σ2 env2 _ => ⟨as', hd, ρ1, m', ok2, env2, ?_⟩⟩
      show PostS X.K as' hd H2 _ (evSs (fun s r m => evS call wf n s r m) ib ρ1 m')
      have ef : evSs (fun s r m => evS call wf n s r m) ib ρ1 m' = f ρ1 m' := by rw [← hf]
      rw [ef]
      cases qf : f ρ1 m' with
      | nx r2 m2 =>
        rw [qf] at fin
        exact fun as3 H3 σ3 s3 ok3 env3 => ⟨_, by omega, rfl, hlt, as3, r2, m2, st.trans (s2.trans s3), ok3, env3, PostS.step fin (s2.trans s3)⟩
      | ct r2 m2 =>
        rw [qf] at fin
        exact fun as3 H3 σ3 s3 ok3 env3 => ⟨_, by omega, rfl, hlt, as3, r2, m2, st.trans (s2.trans s3), ok3, env3, PostS.step fin (s2.trans s3)⟩
      | bk r2 m2 =>
        rw [qf] at fin
        exact fun as3 H3 σ3 s3 ok3 env3 => fin as3 H3 σ3 (s2.trans s3) ok3 env3
      | rt d m2 =>
        rw [qf] at fin
        exact fun as3 H3 v3 s3 ok3 r3 => fin as3 H3 v3 (s2.trans s3) ok3 r3
      | bad => rw [qf] at fin; exact fin.elim
  · have e : i = xs.length := by omega
    subst e
    rw [List.drop_length] at fin
    have fin : PostS X.K as' hd H' D (if sameAt m1 m' ws then .nx ρ' m' else .bad) := fin
    split at fin
    case isFalse => exact fin.elim
    rename_i sm
    exact .inl ⟨sv.stop as' hd H' m' st ok' sm, fin as' H' σ' Step.refl ok' env'⟩
theorem z_whl (hp : PassesOwn (model X.prog X.w) X.A X.env X.xe) (hc : PT X c (rdB X.K call n ec)) (hb : PSs X bd (rdSs X.K call wf n ib)) : PS X (.While c bd [] pos) (rdS X.K call wf (n + 1) (.whl ec ib)) := by
  refine (ps_while hp hc hb).mono fun D σ H ⟨as, hd, ρ, m, ok, env, h⟩ => ?_
  have h : PostS X.K as hd H D (evWhl (fun r m => evE call n ec r m) (fun r m => evSs (fun s r m => evS call wf n s r m) ib r m) wf ρ m) := h
  refine ⟨fun N σ' H' => ∃ as' hd' ρ' m', Ok X.K as' hd' H' m' ∧ EnvR X.K as' hd' H' ρ' σ' ∧ PostS X.K as' hd' H' D (evWhl (fun r m => evE call n ec r m) (fun r m => evSs (fun s r m => evS call wf n s r m) ib r m) N ρ' m'), ⟨wf, as, hd, ρ, m, ok, env, h⟩, ?_⟩
  rintro N σ' H' ⟨as', hd', ρ', m', ok', env', fin⟩
  cases N with
  | zero => exact fin.elim
  | succ N =>
    refine ⟨as', hd', ρ', m', ok', env', ?_⟩
    unfold evB
    have fin : PostS X.K as' hd' H' D ((evE call n ec ρ' m').stm fun x m1 => match x.truth m1 with
      | some true => match evSs (fun s r m => evS call wf n s r m) ib ρ' m1 with
        | .nx r2 m2 => evWhl (fun r m => evE call n ec r m) (fun r m => evSs (fun s r m => evS call wf n s r m) ib r m) N r2 m2
        | .ct r2 m2 => evWhl (fun r m => evE call n ec r m) (fun r m => evSs (fun s r m => evS call wf n s r m) ib r m) N r2 m2
        | .bk r2 m2 => .nx r2 m2
        | .rt d m2 => .rt d m2
        | .bad => .bad
      | some false => .nx ρ' m1
      | none => .bad) := fin
    cases q : evE call n ec ρ' m' with
    | bad => rw [q] at fin; exact fin.elim
    | ok d m1 =>
      rw [q] at fin
      have fin : PostS X.K as' hd' H' D (match d.truth m1 with
        | some true => match evSs (fun s r m => evS call wf n s r m) ib ρ' m1 with
          | .nx r2 m2 => evWhl (fun r m => evE call n ec r m) (fun r m => evSs (fun s r m => evS call wf n s r m) ib r m) N r2 m2
          | .ct r2 m2 => evWhl (fun r m => evE call n ec r m) (fun r m => evSs (fun s r m => evS call wf n s r m) ib r m) N r2 m2
          | .bk r2 m2 => .nx r2 m2
          | .rt d m2 => .rt d m2
          | .bad => .bad
        | some false => .nx ρ' m1
        | none => .bad) := fin
      show Post X.K EqB as' hd' H' _ (R.opt (d.truth m1) m1)
      cases q2 : d.truth m1 with
      | none => rw [q2] at fin; exact fin.elim
      | some k =>
        rw [q2] at fin
        intro as1 H1 k' st1 ok1 e
        subst e
        cases k with
        | false =>
          rw [if_neg Bool.false_ne_true]
          exact fin as1 H1 σ' st1 ok1 (env'.mono st1)
        | true =>
          rw [if_pos rfl]
          have fin : PostS X.K as' hd' H' D (match evSs (fun s r m => evS call wf n s r m) ib ρ' m1 with
            | .nx r2 m2 => evWhl (fun r m => evE call n ec r m) (fun r m => evSs (fun s r m => evS call wf n s r m) ib r m) N r2 m2
            | .ct r2 m2 => evWhl (fun r m => evE call n ec r m) (fun r m => evSs (fun s r m => evS call wf n s r m) ib r m) N r2 m2
            | .bk r2 m2 => .nx r2 m2
            | .rt d m2 => .rt d m2
            | .bad => .bad) := fin
          refine ⟨fun σ2 H2 => ∃ as' hd' ρ' m', Ok X.K as' hd' H2 m' ∧ EnvR X.K as' hd' H2 ρ' σ2 ∧ PostS X.K as' hd' H2 D (evWhl (fun r m => evE call n ec r m) (fun r m => evSs (fun s r m => evS call wf n s r m) ib r m) N ρ' m'),
            fun σ2 H2 hN => ⟨N, Nat.lt_succ_self _, hN⟩, as1, hd', ρ', m1, ok1, env'.mono st1, ?_⟩
          cases qf : evSs (fun s r m => evS call wf n s r m) ib ρ' m1 with
          | nx r2 m2 =>
            rw [qf] at fin
            exact fun as3 H3 σ3 s3 ok3 env3 => ⟨as3, hd', r2, m2, ok3, env3, PostS.step fin (st1.trans s3)⟩
          | ct r2 m2 =>
            rw [qf] at fin
            exact fun as3 H3 σ3 s3 ok3 env3 => ⟨as3, hd', r2, m2, ok3, env3, PostS.step fin (st1.trans s3)⟩
          | bk r2 m2 =>
            rw [qf] at fin
            exact fun as3 H3 σ3 s3 ok3 env3 => fin as3 H3 σ3 (st1.trans s3) ok3 env3
          | rt d m2 =>
            rw [qf] at fin
            exact fun as3 H3 v3 s3 ok3 r3 => fin as3 H3 v3 (st1.trans s3) ok3 r3
          | bad => rw [qf] at fin; exact fin.elim
end
end EV

set_option Elab.async false
set_option linter.all false
set_option maxRecDepth 100000
set_option autoImplicit false
namespace EV
open PySem PySem.Spec PyProof.Rows L2
section
variable {X : Cx} {call : Nat → List D → Mm → R D} {wf n : Nat} {e a b c tg : Expr} {ea eb ec : E} {es rest : List Expr} {ies : List E} {pos pos' : Pos} {x : Str} {i : Nat}
/-! ### what is left of tests -/
theorem evB_ife {ρ : Rho} {m : Mm} : evB call (n + 1) (.ife ec ea eb) ρ m = (evB call n ec ρ m).bind fun k m1 => if k then evB call n ea ρ m1 else evB call n eb ρ m1 := by
  show (evE call (n + 1) (.ife ec ea eb) ρ m).bind _ = _
  rw [evE_ife]
  cases evB call n ec ρ m with
  | bad => rfl
  | ok k m1 => cases k <;> rfl
theorem b_ife (hc : PT X c (rdB X.K call n ec)) (ha : PT X a (rdB X.K call n ea)) (hb : PT X b (rdB X.K call n eb)) : PT X (.IfExp c a b pos) (rdB X.K call (n + 1) (.ife ec ea eb)) := by
  refine ⟨fun pins s σ H Q I ⟨as, hd, ρ, m, ok, env, h⟩ => ?_⟩
  rw [evB_ife] at h
  show wpAny _ _ (do if ← isTrue c X.env (eval c X.env) then isTrue a X.env (eval a X.env) else isTrue b X.env (eval b X.env)) _ _ s
  refine wpAny_bind (thn (hc.run pins s σ H (fun k H1 => if k = true then rdB X.K call n ea σ H1 Q else rdB X.K call n eb σ H1 Q) I ⟨as, hd, ρ, m, ok, env, Post.bind (P' := EqB) h fun as1 H1 k m1 k' _ st1 ok1 e h1 => ?_⟩) fun k s1 ⟨H1, I1, q1⟩ => ?_)
  · subst e
    cases k with
    | true =>
      rw [if_pos rfl]
      exact ⟨as1, hd, ρ, m1, ok1, env.mono st1, h1⟩
    | false =>
      rw [if_neg Bool.false_ne_true]
      exact ⟨as1, hd, ρ, m1, ok1, env.mono st1, h1⟩
  · cases k with
    | true => exact ha.run pins s1 σ H1 Q I1 q1
    | false => exact hb.run pins s1 σ H1 Q I1 q1
theorem rdB_bad {σ : L2.St} {H : Hp} {Q : Bool → Hp → Prop} : ¬ rdB X.K call n .bad σ H Q := fun ⟨_, _, _, _, _, _, h⟩ => by cases n <;> exact h
theorem b_bad : PT X e (rdB X.K call n .bad) := ⟨fun _ _ _ _ _ _ h => (rdB_bad h).elim⟩
theorem b_0 : PT X e (rdB X.K call 0 ea) := ⟨fun _ _ _ _ _ _ ⟨_, _, _, _, _, _, h⟩ => False.elim h⟩
theorem f_bad : PE X e (rdF X.K call n .bad) := ⟨fun _ _ _ _ _ _ ⟨_, _, _, _, _, _, h⟩ => by cases n <;> exact False.elim h⟩
theorem f_0 : PE X e (rdF X.K call 0 ea) := ⟨fun _ _ _ _ _ _ ⟨_, _, _, _, _, _, h⟩ => False.elim h⟩
theorem s_chain {o p : Cop} (hu : X.A.units + 64 < cLine) (ha : PE X a (rdE X.K call n ea)) (hb : PE X b (rdE X.K call n eb)) (hc : PE X c (rdE X.K call n ec)) (hm : lastMarks [copOf o, copOf p] [b, c] = false) :
    PE X (.Compare a [copOf o, copOf p] [b, c] pos) (rdE X.K call (n + 1) (.chain o p ea eb ec)) := (pe_chain (cmp_ok hu o) (cmp_ok hu p) ha hb hc hm).mono fun σ H Q h => chain_rd h
theorem chain_bl {o p : Cop} {ρ : Rho} {m : Mm} {d : D} {m' : Mm} (h : evE call (n + 1) (.chain o p ea eb ec) ρ m = .ok d m') : ∃ k, d = .bl k := by
  have h : (evE call n ea ρ m).bind (fun x m1 => (evE call n eb ρ m1).bind fun y m2 => match cmpD m2 o x y with
    | some true => (evE call n ec ρ m2).bind fun z m3 => R.opt ((cmpD m3 p y z).map D.bl) m3
    | some false => .ok (.bl false) m2
    | none => .bad) = .ok d m' := h
  cases q1 : evE call n ea ρ m with
  | bad => rw [q1] at h; cases h
  | ok d1 m1 =>
    rw [q1] at h
    simp only [R.bind_ok] at h
    cases q2 : evE call n eb ρ m1 with
    | bad => rw [q2] at h; cases h
    | ok d2 m2 =>
      rw [q2] at h
      simp only [R.bind_ok] at h
      split at h
      · cases q3 : evE call n ec ρ m2 with
        | bad => rw [q3] at h; cases h
        | ok d3 m3 =>
          rw [q3] at h
          simp only [R.bind_ok] at h
          cases q4 : cmpD m3 p d2 d3 with
          | none => rw [q4] at h; cases h
          | some k =>
            rw [q4] at h
            cases h
            exact ⟨k, rfl⟩
      · cases h
        exact ⟨false, rfl⟩
      · cases h
theorem b_chain {o p : Cop} (hu : X.A.units + 64 < cLine) (ha : PE X a (rdE X.K call n ea)) (hb : PE X b (rdE X.K call n eb)) (hc : PE X c (rdE X.K call n ec)) (hm : lastMarks [copOf o, copOf p] [b, c] = false) :
    PT X (.Compare a [copOf o, copOf p] [b, c] pos) (rdB X.K call (n + 1) (.chain o p ea eb ec)) := (pt_chain (cmp_ok hu o) (cmp_ok hu p) ha hb hc hm).mono fun σ H Q ⟨as, hd, ρ, m, ok, env, h⟩ => by
  refine chain_rd (n := n) ⟨as, hd, ρ, m, ok, env, ?_⟩
  unfold evB at h
  cases q : evE call (n + 1) (.chain o p ea eb ec) ρ m with
  | bad => rw [q] at h; exact h.elim
  | ok d m1 =>
    rw [q] at h
    obtain ⟨k, rfl⟩ := chain_bl q
    intro as1 H1 v st1 ok1 r1
    cases r1
    exact ⟨k, rfl, h as1 H1 k st1 ok1 rfl⟩
/-! ### list(..), + as new lists -/
theorem f_list {p : Pos} (hg : Gl X "list") (hm : X.mg "list" = none) (ha : PA X [a] (rdL X.K call n [ea])) (he : starEach [a] X.env = (false, eval a X.env) :: starEach [] X.env) :
    PE X (.Call (.Name "list" p) [a] [] pos) (rdF X.K call (n + 1) (.bi .toList [ea])) := by
  refine (pe_callTy call_list_of hg hm (by decide +kernel) ha (by decide) (by decide) he rfl).mono fun σ H Q ⟨as, hd, ρ, m, ok, env, h⟩ => ⟨as, hd, ρ, m, ok, env, ?_⟩
  have h : PostF X.K as hd H Q ((evEs (fun e m => evE call n e ρ m) [ea] m).bind fun ds m1 => R.opt (biD m1 .toList ds) m1) := h
  cases q : evEs (fun e m => evE call n e ρ m) [ea] m with
  | bad => rw [q] at h; exact h.elim
  | ok ds m1 =>
    rw [q] at h
    intro as1 H1 vs st1 ok1 r1
    have hl := evEs_len _ _ _ _ _ q
    match ds, hl with
    | [d], _ =>
      cases r1 with | cons r1 r2 =>
      cases r2
      have h : PostF X.K as hd H Q (R.opt ((d.asS m1).map D.lst) m1) := h
      cases q2 : d.asS m1 with
      | none => rw [q2] at h; exact h.elim
      | some xs =>
        rw [q2] at h
        obtain ⟨ds', e, h⟩ := h
        cases e
        obtain ⟨a', ws, rfl, qq, t⟩ := r1.asS ok1 q2
        refine ⟨a', ws, rfl, ?_, fun p hp => ?_⟩
        · rcases qq with ⟨qq, _⟩ | ⟨qq, _⟩
          · exact .inl qq
          · exact .inr (.of qq)
        · obtain ⟨s2, ok2, np⟩ := ok1.hide hp ws
          exact h as1 _ p ws (st1.trans s2) ok2 np (st1.none ok1 hp) upd_same (t.mono s2)
/-! ### calls by keywords -/
/-- how keywords bind the parameters: the parameter number j gets the keyword number ix[j] -/
def KB (K : PySem.W.Frag) (fd : FuncData) (ps ks : List Str) (ix : List Nat) : Prop := ∀ (s : Shared) (ws us : List Value), K.In s.heap → ws.length = ks.length → pick ix ws = some us → BindsTo s fd ⟨[], ks.zip ws⟩ (ps.zip us)
theorem pick_rel {P : List V → List Value → Prop} : ∀ {ix : List Nat} {vs : List V} {ws : List Value} {us : List V}, Vals vs ws → pick ix vs = some us → ∃ zs, pick ix ws = some zs ∧ Vals us zs
  | [], _, _, _, _, h => by cases h; exact ⟨[], rfl, .nil⟩
  | i :: is, vs, ws, us, r, h => by
    have h : ((vs[i]?).bind fun d => (pick is vs).map fun r => d :: r) = some us := h
    cases q1 : vs[i]? with
    | none => rw [q1] at h; cases h
    | some v =>
      cases q2 : pick is vs with
      | none => rw [q1, q2] at h; cases h
      | some r' =>
        rw [q1, q2] at h
        cases h
        obtain ⟨u, hu, ru⟩ := r.get q1
        obtain ⟨zs, h1, h2⟩ := pick_rel (P := P) r q2
        refine ⟨u :: zs, ?_, .cons ru h2⟩
        show ((ws[i]?).bind fun d => (pick is ws).map fun r => d :: r) = _
        rw [hu, h1]
        rfl
theorem pick_reps {K : PySem.W.Frag} {as hd : List Addr} {H : Hp} : ∀ {ix : List Nat} {ds : List D} {vs : List V} {es : List D}, Reps K as hd H ds vs → pick ix ds = some es → ∃ us, pick ix vs = some us ∧ Reps K as hd H es us
  | [], _, _, _, _, h => by cases h; exact ⟨[], rfl, .nil⟩
  | i :: is, ds, vs, es, r, h => by
    have h : ((ds[i]?).bind fun d => (pick is ds).map fun r => d :: r) = some es := h
    cases q1 : ds[i]? with
    | none => rw [q1] at h; cases h
    | some d =>
      cases q2 : pick is ds with
      | none => rw [q1, q2] at h; cases h
      | some r' =>
        rw [q1, q2] at h
        cases h
        obtain ⟨u, hu, ru⟩ := r.got q1
        obtain ⟨zs, h1, h2⟩ := pick_reps r q2
        refine ⟨u :: zs, ?_, .cons ru h2⟩
        show ((vs[i]?).bind fun d => (pick is vs).map fun r => d :: r) = _
        rw [hu, h1]
        rfl
theorem _root_.L2.PK.mono {X : Cx} {e : List Keyword} {t t' : TA} (h : PK X e t) (k : ∀ σ H Q, t' σ H Q → t σ H Q) : PK X e t' := ⟨fun pos pins s σ H Q I q => h.run pos pins s σ H Q I (k σ H Q q)⟩
theorem sk_nil : PK X [] (rdL X.K call n []) := pk_nil.mono fun σ H Q ⟨as, hd, ρ, m, ok, env, h⟩ => Post.now ok h .nil
theorem sk_cons {nm : Option Str} {kpos : Pos} {kws : List Keyword} (ha : PE X a (rdE X.K call n ea)) (hr : PK X kws (rdL X.K call n ies)) : PK X (⟨nm, a, kpos⟩ :: kws) (rdL X.K call n (ea :: ies)) :=
  (pk_cons ha hr).mono fun σ H Q ⟨as, hd, ρ, m, ok, env, h⟩ => ⟨as, hd, ρ, m, ok, env, Post.bind (P' := Reps X.K) h fun as1 H1 d1 m1 v1 _ st1 ok1 r1 h1 =>
    ⟨as1, hd, ρ, m1, ok1, env.mono st1, Post.bind (P' := Reps X.K) h1 fun as2 H2 d2 m2 v2 _ st2 ok2 r2 h2 => Post.now ok2 h2 (.cons (r1.mono st2) r2)⟩⟩
theorem s_callk {k np : Nat} {f : Addr} {fd : FuncData} {ps ks : List Str} {ix : List Nat} {p : Pos} {kws : List Keyword} (F : FnG X.prog X.w X.K X.mg X.base k f fd ps (spV X.K call i np)) (hl : Arity call i np) (hr : Rm k X.A) (hg : Gl X x) (hm : X.mg x = some (.ref f))
    (hk : PySem.W.keepIn X.K (.ref f) = true) (hb : KB X.K fd ps ks ix) (ha : PK X kws (rdL X.K call n ies)) (hdb : (x == ("__debug__" : Str)) = false) (hlen : ies.length = ks.length)
    (hall : (backToKw pos (keywordEach kws X.env)).all (·.1.isSome) = true) (hks : (backToKw pos (keywordEach kws X.env)).filterMap (·.1) = ks)
    (hpl : ((backTo pos (starEach [] X.env)).any (·.1) || (backToKw pos (keywordEach kws X.env)).any (·.1.isNone)) = false) :
    PE X (.Call (.Name x p) [] kws pos) (rdE X.K call (n + 1) (.callk i ies ix)) := by
  refine ⟨fun pins s σ H Q I ⟨as, hd, ρ, m, ok, env, h⟩ => wpAny_Call_Name_kw (ld_glob I hg hm ?_ hdb)⟩
  have h : Post X.K (Rep X.K) as hd H Q ((evEs (fun e m => evE call n e ρ m) ies m).bind fun ds m1 => match pick ix ds with
    | some ds' => call i ds' m1
    | none => .bad) := h
  refine PySem.W.callWith_KW0 (h₀ := X.base) I.ok.mod.kin hk hall ?_ hpl
  refine thn (ha.run pos pins s σ H (fun vs H1 => vs.length = ks.length ∧ ∃ us, pick ix vs = some us ∧ spV X.K call i np us H1 Q) I ⟨as, hd, ρ, m, ok, env, Post.bind (P' := Rep X.K) h fun as1 H1 ds m1 vs e1 st1 ok1 r1 h1 => ?_⟩) fun ws s1 ⟨vs, H1, I1, r, l1, us, e1, q1⟩ => ⟨I1.kIn, ?_⟩
  · refine ⟨by rw [← r1.length, evEs_len _ _ _ _ _ e1, hlen], ?_⟩
    cases qp : pick ix ds with
    | none => rw [qp] at h1; exact h1.elim
    | some ds' =>
      rw [qp] at h1
      obtain ⟨us, g1, g2⟩ := pick_reps r1 qp
      exact ⟨us, g1, sp_of hl ok1 g2 h1⟩
  · rw [hks]
    obtain ⟨zs, g1, g2⟩ := pick_rel (P := fun _ _ => True) r e1
    refine wpAny_call (codeAny_mono (F.go X.A X.stack s1 H1 ⟨[], ks.zip ws⟩ zs us Q hr I1.env0 (hb s1 ws zs I1.kIn (by rw [← r.length]; exact l1) g1) g2 q1) fun r s' hq => ?_)
    cases r with
    | error e => exact False.elim hq
    | ok fl =>
      cases fl with
      | ret u => exact I1.after hq
      | next => exact False.elim hq
      | brk => exact False.elim hq
      | cont => exact False.elim hq
end
end EV

set_option Elab.async false
set_option linter.all false
set_option maxRecDepth 100000
set_option autoImplicit false
namespace EV
open PySem PySem.Spec PyProof.Rows L2
/-! ### list(range(i, j)) -/
theorem rngD_map : ∀ (n : Nat) (lo : Int), rngD lo n = (List.range n).map fun k => D.int (lo + (k : Nat))
  | 0, _ => rfl
  | n + 1, lo => by
    show D.int lo :: rngD (lo + 1) n = _
    rw [rngD_map n (lo + 1), List.range_succ_eq_map, List.map_cons, List.map_map]
    congr 1
    · show D.int lo = D.int (lo + (0 : Nat))
      rw [show lo + ((0 : Nat) : Int) = lo by omega]
    · apply List.map_congr_left
      intro k _
      show D.int (lo + 1 + (k : Nat)) = D.int (lo + ((k + 1 : Nat) : Int))
      rw [show lo + 1 + (k : Int) = lo + ((k + 1 : Nat) : Int) by omega]
theorem reps_map {K : PySem.W.Frag} {as hd : List Addr} {H : Hp} {α : Type} {f : α → D} {g : α → V} (h : ∀ a, Rep K as hd H (f a) (g a)) : ∀ l : List α, Reps K as hd H (l.map f) (l.map g)
  | [] => .nil
  | a :: l => .cons (h a) (reps_map h l)
theorem reps_rng {K : PySem.W.Frag} {as hd : List Addr} {H : Hp} {i j : Int} : Reps K as hd H (rngD i (j - i).toNat) (rgV i j) := by
  rw [rngD_map]
  exact reps_map (fun k => .int _) _
section
variable {X : Cx} {call : Nat → List D → Mm → R D} {n : Nat} {a b : Expr} {ea eb : E} {p p2 q pos : Pos}
theorem s_lrng (hc : X.calm = true) (hg : Gl X "list") (hm : X.mg "list" = none) (hg2 : Gl X "range") (hm2 : X.mg "range" = none) (ha : PE X a (rdE X.K call n ea)) (hb : PE X b (rdE X.K call n eb))
    (na : starEach [a, b] X.env = (false, eval a X.env) :: starEach [b] X.env) (nb : starEach [b] X.env = (false, eval b X.env) :: starEach [] X.env) (hp : (backTo q (starEach [b] X.env)).any (·.1) = false) :
    PE X (.Call (.Name "list" p) [.Call (.Name "range" p2) [a, b] [] q] [] pos) (rdE X.K call (n + 1) (.lrng ea eb)) :=
  (pe_listRg (p := p) (pos := pos) hc hg hm (prg_2 (p := p2) (pos := q) hg2 hm2 ha hb na nb hp)).mono fun σ H Q ⟨as, hd, ρ, m, ok, env, h⟩ =>
    ⟨as, hd, ρ, m, ok, env, Post.bind (P' := Rep X.K) h fun as1 H1 d1 m1 v1 _ st1 ok1 r1 h1 => ⟨as1, hd, ρ, m1, ok1, env.mono st1, Post.bind (P' := Rep X.K) h1 fun as2 H2 d2 m2 v2 _ st2 ok2 r2 h2 => by
      have r1' := r1.mono st2
      cases r1' with
      | int i =>
        cases r2 with
        | int j =>
          have h2 : Post X.K (Rep X.K) as2 hd H2 Q (R.opt (if -(2 ^ 62) ≤ i ∧ i < 2 ^ 62 ∧ -(2 ^ 62) ≤ j ∧ j < 2 ^ 62 ∧ (j - i).toNat ≤ 2 ^ 24 then some (D.lst (rngD i (j - i).toNat)) else none) m2) := h2
          by_cases hcnd : -(2 ^ 62) ≤ i ∧ i < 2 ^ 62 ∧ -(2 ^ 62) ≤ j ∧ j < 2 ^ 62 ∧ (j - i).toNat ≤ 2 ^ 24
          · rw [if_pos hcnd] at h2
            exact ⟨i, j, rfl, rfl, hcnd, fun x hx => h2 as2 _ (.ref x) (Step.laid hx) (ok2.laid hx) (.lst upd_same (ok2.fresh hx).1 (ok2.fresh hx).2 reps_rng)⟩
          · rw [if_neg hcnd] at h2
            exact h2.elim
        | _ => exact False.elim h2
      | _ => exact False.elim h2⟩⟩
end
end EV

set_option Elab.async false
set_option linter.all false
set_option maxRecDepth 100000
set_option maxHeartbeats 8000000
set_option autoImplicit false
namespace EV
open PySem PySem.Spec PyProof.Rows L2
/-! ### set(numbers of a list), with its ledger -/
section
variable {P : Program} {w : World} {A : Around} {E : Value → Shared → Prop} {u : Shared}
/-- the set just made -/
abbrev nSet (w : World) : Obj := { cls := .type "set", dict := none, data := .set #[] 0 (.fresh 0 0 (!w.params.followText "set-order")) }
/-- the heap with it -/
abbrev withSet (w : World) (g : Heap) : Heap := g.push (nSet w)
theorem lst_at {g : Heap} {l : Addr} {items : Array Value} (hl : g.IsList l items) (o : Obj) : (g.push o).IsList l items ∧ l < g.objs.size := by
  obtain ⟨ol, e, c, d⟩ := hl
  exact ⟨⟨ol, Heap.get?_push_of_some _ e, c, d⟩, Heap.lt_size e⟩
/-- what stands behind set.__init__ -/
def Filled (w : World) (u : Shared) (ns : List Int) (v : Value) (z : Shared) : Prop := v = .none ∧ ∃ (g : Heap) (tk c : Nat), z = { u with heap := g, toks := tk } ∧ SetR w g u.heap.objs.size (fun j => decide (j ∈ ns)) c ∧ c ≤ ns.length ∧ ∀ b o, u.heap.get? b = some o → g.get? b = some o
set_option maxRecDepth 100000 in
theorem set_lst {l : Addr} {items : Array Value} (ns : List Int) {Q : Value → Shared → Prop} (hh : A.handled = none) (hl : u.heap.IsList l items) (hit : IntsAre items.toList ns) (hb : ns.length + 1 < scanBound)
    (k : ∀ (g : Heap) (tk c : Nat), SetR w g u.heap.objs.size (fun j => decide (j ∈ ns)) c → c ≤ ns.length → (∀ b o, u.heap.get? b = some o → g.get? b = some o) → Q (.ref u.heap.objs.size) { u with heap := g, toks := tk }) :
    wpAny (model P w) A (call (.type "set") [.ref l]) Q E u := by
  have len : items.size = ns.length := by rw [← hit.length, Array.length_toList]
  obtain ⟨c0, tl0, mro⟩ := F.called_set.mro
  have f1 := F.called_set.made
  have f2 := F.called_set.sub
  have f3 := F.called_set.notType
  have f4 := F.called_set.canCreate
  refine wpAny_call (codeAny_of_tree (show wpAny _ _ (callAny (.type "set") _) _ _ _ from wpAny_pure ⟨Code.quiet_builtin _ (by decide +kernel), codeAny_builtin F.entry_type_call ?_⟩))
  rw [Around.under_plain (weight_type_call_type "set" [.ref l] []) rfl]
  have f5 := F.typeCall_set_1 (.ref l)
  repeat (any_goals (first | assumption | wp_step))
  refine codeAny_mono (code_set_led1 (.ref l) (E := E) (Q₁ := fun v z => v = .ref u.heap.objs.size ∧ z = { u with heap := withSet w u.heap }) ⟨rfl, rfl⟩) fun res z hz => ?_
  match res, hz with
  | .ok (.ret v), hz =>
    obtain ⟨rfl, rfl⟩ := hz
    have at0 : (withSet w u.heap).get? u.heap.objs.size = some (nSet w) := Heap.get?_push_size _ rfl
    have ty : Shared.TypeIs { u with heap := withSet w u.heap } (.ref u.heap.objs.size) "set" := ⟨_, at0, rfl⟩
    have f6 := F.called_set.init.lookup
    have f7 := F.called_set.init.bind (.ref u.heap.objs.size)
    repeat (any_goals (first | assumption | wp_step))
    refine codeAny_mono (codeAny_call_builtin (R := wants (Filled w u ns) E) F.called_set.init.plain F.entry_set_init (check_set_init_1 ty ?_)) fun res2 z2 hz2 => ?_
    · obtain ⟨⟨ocls, odict, odata, oslots⟩, hol, hcl, nl, hdl⟩ := hl
      simp only at hcl hdl
      subst hcl; subst hdl
      have hol2 : (withSet w u.heap).get? l = some { cls := .type "list", dict := odict, data := .seq items nl, slots := oslots } := Heap.get?_push_of_some _ hol
      have g1 := F.sub_list_set
      have g2 := F.sub_list_frozenset
      have g3 : (Value.type "list" == Value.type "dict") = false := by decide
      have li : (withSet w u.heap).IsList l items := ⟨_, hol2, rfl, nl, rfl⟩
      unfold Builtin.«set.__init__» noKeywords Builtin.Frozenset.updateFrom
      generalize hpi : pyIter = pit
      wp_walk
      subst hpi
      refine wpAny_pyIter_list li (wpAny_bind (wpAny_runValue ?_))
      have lt : l < u.heap.objs.size := Heap.lt_size hol
      have h3 : A.in1.in1.in1.handled = none := by simp [hh]
      have sz : (withSet w u.heap).objs.size = u.heap.objs.size + 1 := Heap.size_push ..
      have ne : l ≠ (withSet w u.heap).objs.size := by rw [sz]; exact Nat.ne_of_lt (Nat.lt_succ_of_lt lt)
      have out : u.heap.objs.size ∉ [(withSet w u.heap).objs.size, l] := by
        rw [sz]
        simp only [List.mem_cons, List.not_mem_nil, or_false, not_or]
        exact ⟨Nat.ne_of_lt (Nat.lt_succ_self _), Nat.ne_of_gt lt⟩
      have val : ∀ (i : Nat) (v : Value), items[i]? = some v → ∃ q t, ns[i]? = some q ∧ v = .int q t := fun i v hv => by
        have hi : i < ns.length := by rw [← len]; exact (Array.getElem?_eq_some_iff.mp hv).1
        obtain ⟨t, e⟩ := hit.int_at i v (by rw [Array.getElem?_toList]; exact hv)
        exact ⟨ns[i], t, List.getElem?_eq_getElem hi, by rw [e, List.getD_eq_getElem?_getD, List.getElem?_eq_getElem hi]; rfl⟩
      refine set_update_ints ((Walks.list h3 _ l ne items).toS) u.heap.objs.size out ns len hb val (items.size - 0) 0 _ (by omega) (Nat.zero_le _) ⟨⟨_, Heap.get?_push_size _ rfl, rfl, rfl⟩, (lst_at li _).1⟩ ⟨0, Nat.le_refl 0, setR_new_at (Heap.get?_push_of_some _ at0)⟩ fun z c mv hc R => ?_
      obtain ⟨g, gens, drawn, tk, os⟩ := z
      have e1 : gens = u.gens := mv.gens
      have e2 : drawn = u.drawn := mv.drawn
      have e3 : os = u.os := mv.os
      subst e1; subst e2; subst e3
      rw [len] at hc
      refine wpAny_pure (wpAny_pure ⟨rfl, g, tk, c, rfl, R, hc, fun b o e => ?_⟩)
      have b1 : b < u.heap.objs.size := Heap.lt_size e
      refine mv.heap b o ?_ (Heap.get?_push_of_some _ (Heap.get?_push_of_some _ e))
      rw [sz]
      simp only [List.mem_cons, List.not_mem_nil, or_false, not_or]
      exact ⟨Nat.ne_of_lt b1, Nat.ne_of_lt (Nat.lt_succ_of_lt b1)⟩
    · match res2, hz2 with
      | .ok (.ret v2), hz2 =>
        obtain ⟨rfl, g, tk, c, rfl, R, hc, old⟩ := hz2
        repeat (any_goals (first | assumption | wp_step))
        exact k _ _ _ R hc old
      | .error e2, hz2 => exact hz2
      | .ok .next, hz2 => exact hz2.elim
      | .ok .brk, hz2 => exact hz2.elim
      | .ok .cont, hz2 => exact hz2.elim
  | .error e1, hz => exact hz
  | .ok .next, hz => exact hz.elim
  | .ok .brk, hz => exact hz.elim
  | .ok .cont, hz => exact hz.elim
end
end EV

set_option Elab.async false
set_option linter.all false
set_option maxRecDepth 100000
set_option autoImplicit false
namespace EV
open PySem PySem.Spec PyProof.Rows L2
/-! ### sorted(set(numbers)) -/
theorem mem_ded {k : Int} : ∀ {l : List Int}, k ∈ dedI l ↔ k ∈ l
  | [] => Iff.rfl
  | x :: r => by
    unfold dedI
    by_cases h : x ∈ r
    · rw [if_pos h, mem_ded, List.mem_cons]
      exact ⟨.inr, fun q => q.elim (fun e => e ▸ h) id⟩
    · rw [if_neg h, List.mem_cons, List.mem_cons, mem_ded]
theorem nd_ded : ∀ l : List Int, (dedI l).Nodup
  | [] => List.nodup_nil
  | x :: r => by
    unfold dedI
    by_cases h : x ∈ r
    · rw [if_pos h]; exact nd_ded r
    · rw [if_neg h]; exact List.nodup_cons.mpr ⟨fun q => h (mem_ded.mp q), nd_ded r⟩
theorem mem_ins {k x : Int} : ∀ {l : List Int}, k ∈ insI x l ↔ k = x ∨ k ∈ l
  | [] => by unfold insI; simp
  | y :: r => by
    unfold insI
    by_cases h : x ≤ y
    · rw [if_pos h, List.mem_cons]
    · rw [if_neg h, List.mem_cons, mem_ins, List.mem_cons]
      constructor
      · rintro (q | q | q)
        · exact .inr (.inl q)
        · exact .inl q
        · exact .inr (.inr q)
      · rintro (q | q | q)
        · exact .inr (.inl q)
        · exact .inl q
        · exact .inr (.inr q)
theorem mem_sort {k : Int} : ∀ {l : List Int}, k ∈ sortI l ↔ k ∈ l
  | [] => Iff.rfl
  | x :: r => by
    show k ∈ insI x (sortI r) ↔ _
    rw [mem_ins, mem_sort, List.mem_cons]
theorem ins_lt {x : Int} : ∀ {l : List Int}, l.Pairwise (· < ·) → x ∉ l → (insI x l).Pairwise (· < ·)
  | [], _, _ => List.pairwise_singleton _ _
  | y :: r, h, n => by
    obtain ⟨h1, h2⟩ := List.pairwise_cons.mp h
    have ny : x ≠ y := fun e => n (e ▸ List.mem_cons_self)
    unfold insI
    by_cases c : x ≤ y
    · rw [if_pos c]
      refine List.pairwise_cons.mpr ⟨fun z hz => ?_, h⟩
      rcases List.mem_cons.mp hz with rfl | hz
      · omega
      · have := h1 z hz; omega
    · rw [if_neg c]
      refine List.pairwise_cons.mpr ⟨fun z hz => ?_, ins_lt h2 fun q => n (List.mem_cons_of_mem _ q)⟩
      rcases mem_ins.mp hz with rfl | hz
      · omega
      · exact h1 z hz
theorem sort_lt : ∀ {l : List Int}, l.Nodup → (sortI l).Pairwise (· < ·)
  | [], _ => List.Pairwise.nil
  | x :: r, h => by
    obtain ⟨h1, h2⟩ := List.nodup_cons.mp h
    exact ins_lt (sort_lt h2) fun q => h1 (mem_sort.mp q)
theorem lt_uniq : ∀ {l m : List Int}, l.Pairwise (· < ·) → m.Pairwise (· < ·) → (∀ k, k ∈ l ↔ k ∈ m) → l = m
  | [], [], _, _, _ => rfl
  | [], y :: m, _, _, e => absurd ((e y).mpr List.mem_cons_self) List.not_mem_nil
  | x :: l, [], _, _, e => absurd ((e x).mp List.mem_cons_self) List.not_mem_nil
  | x :: l, y :: m, h, g, e => by
    obtain ⟨h1, h2⟩ := List.pairwise_cons.mp h
    obtain ⟨g1, g2⟩ := List.pairwise_cons.mp g
    have xy : x = y := by
      have a := (e x).mp List.mem_cons_self
      have b := (e y).mpr List.mem_cons_self
      rcases List.mem_cons.mp a with q | q
      · exact q
      · rcases List.mem_cons.mp b with q2 | q2
        · exact q2.symm
        · have := g1 x q
          have := h1 y q2
          omega
    subst xy
    rw [lt_uniq h2 g2 fun k => ?_]
    constructor
    · intro q
      rcases List.mem_cons.mp ((e k).mp (List.mem_cons_of_mem _ q)) with z | z
      · have := h1 k q; omega
      · exact z
    · intro q
      rcases List.mem_cons.mp ((e k).mpr (List.mem_cons_of_mem _ q)) with z | z
      · have := g1 k q; omega
      · exact z
theorem set_count {w : World} {h : Heap} {a : Addr} {ns : List Int} {c : Nat} (R : SetR w h a (fun j => decide (j ∈ ns)) c) : c = (dedI ns).length := by
  obtain ⟨o, es, ep, t, _, _, _, _, nd, mem, _, _, sz, _⟩ := R
  have e : (es.toList.map keyOf).Perm (dedI ns) := (List.perm_ext_iff_of_nodup nd (nd_ded ns)).mpr fun k => by
    rw [mem_ded, ← mem k, decide_eq_true_eq]
  have := e.length_eq
  rw [List.length_map, Array.length_toList] at this
  omega
section
variable {X : Cx} {call : Nat → List D → Mm → R D} {n : Nat} {a : Expr} {ea : E} {p p2 q pos : Pos}
theorem ints_back {K : PySem.W.Frag} {as hd : List Addr} {H : Hp} : ∀ {ds : List D} {vs : List V} {ns : List Int}, Reps K as hd H ds vs → intsD ds = some ns → vs = ns.map V.int
  | [], _, ns, .nil, h => by cases h; rfl
  | d :: ds, _, ns, .cons r rs, h => by
    cases r with
    | int i =>
      have h : (intsD ds).map (i :: ·) = some ns := h
      cases e : intsD ds with
      | none => rw [e] at h; cases h
      | some ms =>
        rw [e] at h
        cases h
        rw [ints_back rs e]
        rfl
    | _ => cases h
theorem s_sset (hc : X.calm = true) (hg : Gl X "sorted") (hm : X.mg "sorted" = none) (hg2 : Gl X "set") (hm2 : X.mg "set" = none) (ha : PE X a (rdE X.K call n ea)) (na : starEach [a] X.env = (false, eval a X.env) :: starEach [] X.env) :
    PE X (.Call (.Name "sorted" p) [.Call (.Name "set" p2) [a] [] q] [] pos) (rdE X.K call (n + 1) (.sset ea)) := by
  refine ⟨fun pins s σ H Q I ⟨as, hd, ρ, m, ok, env, h⟩ => ?_⟩
  refine Call_ (ld_blt I hg hm boot_sorted (callWith_builtin1 (args_cons (Call_ (ld_blt I hg2 hm2 boot_set (callWith_type1 (args_cons (thn (ha.run pins s σ H (fun x H1 => ∃ (l : Addr) (ns : List Int), x = .ref l ∧ SqL X.K H1 l (ns.map V.int) ∧ ns.length ≤ 4000 ∧ (dedI ns).length < 64 ∧ ∀ z, H1 z = none → Q (.ref z) (upd H1 z (.lst ((sortI (dedI ns)).map V.int)))) I ⟨as, hd, ρ, m, ok, env, ?_⟩) fun v s1 ⟨x, H1, I1, r1, q1⟩ => args_nil ?_) na) na rfl))) rfl) rfl rfl))
  · refine Post.bind (P' := Rep X.K) h fun as1 H1 d1 m1 v1 _ st1 ok1 r1 h1 => ?_
    have h1 : Post X.K (Rep X.K) as1 hd H1 Q (R.opt (((d1.asR m1).bind intsD).bind fun ns => if ns.length ≤ 4000 ∧ (dedI ns).length < 64 then some (D.lst ((sortI (dedI ns)).map .int)) else none) m1) := h1
    cases q1 : d1.asR m1 with
    | none => rw [q1] at h1; exact h1.elim
    | some xs =>
      rw [q1] at h1
      cases q2 : intsD xs with
      | none => rw [Option.bind_some, q2] at h1; exact h1.elim
      | some ns =>
        rw [Option.bind_some, q2, Option.bind_some] at h1
        by_cases c : ns.length ≤ 4000 ∧ (dedI ns).length < 64
        · rw [if_pos c] at h1
          obtain ⟨l, ws, e, sq, rs⟩ := r1.asR ok1 q1
          rw [ints_back rs q2] at sq
          exact ⟨l, ns, e, sq, c.1, c.2, fun z hz => h1 as1 _ (.ref z) (Step.laid hz) (ok1.laid hz) (.lst upd_same (ok1.fresh hz).1 (ok1.fresh hz).2 (reps_map (fun k => .int k) _))⟩
        · rw [if_neg c] at h1; exact h1.elim
  · obtain ⟨l, ns, rfl, sq, c1, c2, q1⟩ := q1
    cases r1
    obtain ⟨its, r, pl, hz⟩ := I1.list sq
    refine set_lst ns (I1.ok.hd hc) pl.isList (by simpa using RZ.intsAre_vals r) (by unfold scanBound; omega) fun g tk c R hcl old => args_nil ?_
    have cc := set_count R
    have I2 : Inv X pins σ H1 { s1 with heap := g, toks := tk } := I1.kept old
    refine sorted_set (s := { s1 with heap := g, toks := tk }) R (I.ok.hd hc) (by omega) fun z y out cap ms keep gens os hp hy hi lt mem hl => ?_
    have e : ms = sortI (dedI ns) := lt_uniq lt (sort_lt (nd_ded ns)) fun k => by rw [mem, mem_sort, mem_ded, decide_eq_true_eq]
    subst e
    have hn : H1 y = none := I2.hok.fresh hp
    have small : ((sortI (dedI ns)).map V.int).length ≤ sizeLine := by rw [List.length_map, hl, sizeLine_eq]; omega
    have J : Inv X pins σ (upd H1 y (.lst ((sortI (dedI ns)).map V.int))) { s1 with heap := z.heap, gens := z.gens, drawn := z.drawn, toks := z.toks } :=
      Inv.call (s := { s1 with heap := g, toks := tk }) (ch := []) I2 (Un.laid keep hp hn) (I2.hok.laid keep hp ⟨small, out.toList, cap, vals_of_ints hi, hy⟩) (by rw [gens]; exact I2.bare) (fun _ x => nomatch x)
    have same : z = { s1 with heap := z.heap, gens := z.gens, drawn := z.drawn, toks := z.toks } := by
      obtain ⟨zh, zg, zd, zt, zo⟩ := z
      have os : zo = s1.os := os
      subst os
      rfl
    rw [same]
    exact ⟨.ref y, _, J, rfl, q1 y hn⟩
end
end EV

set_option Elab.async false
set_option linter.all false
set_option maxRecDepth 100000
set_option autoImplicit false
namespace EV
open PySem PySem.Spec PyProof.Rows L2

/-! ### from the row's syntax to core terms -/
/-- what is known of the names: slots, defs by number, built-ins that are not hidden, the module's numbers and texts, calls by keywords (def, words, places), slots of lists that are changed, whether a list handed back may be changed -/
structure CC where
  N : List Str
  fns : List Str
  free : List Str
  gi : List (Str × Int)
  gs : List (Str × Str)
  kws : List (Nat × List Str × List Nat)
  chg : List Nat
  keep : Bool
def posFrom (x : Str) : List Str → Nat → Option Nat
  | [], _ => none
  | y :: r, k => if y = x then some k else posFrom x r (k + 1)
theorem posFrom_get {x : Str} : ∀ {l : List Str} {k j : Nat}, posFrom x l k = some j → ∃ i, j = k + i ∧ l[i]? = some x
  | [], _, _, h => nomatch h
  | y :: r, k, j, h => by
    unfold posFrom at h
    split at h
    · rename_i e
      cases h
      exact ⟨0, rfl, by rw [← e]; rfl⟩
    · obtain ⟨i, e1, e2⟩ := posFrom_get h
      exact ⟨i + 1, by omega, by simpa using e2⟩
def slotOf (x : Str) (l : List Str) : Option Nat := posFrom x l 0
theorem slotOf_get {x : Str} {l : List Str} {j : Nat} (h : slotOf x l = some j) : l[j]? = some x := by
  obtain ⟨i, e1, e2⟩ := posFrom_get h
  have : j = i := by omega
  rw [this]
  exact e2
def odd (x : Str) : Bool := x == "__debug__" || x == "__classdict__" || x == "__name__"
theorem odd_no {x : Str} (h : odd x = false) : (x == ("__debug__" : Str)) = false ∧ (x == ("__classdict__" : Str)) = false ∧ x ≠ "__name__" := by
  unfold odd at h
  rw [Bool.or_eq_false_iff, Bool.or_eq_false_iff] at h
  exact ⟨h.1.1, h.1.2, fun e => by rw [e] at h; exact absurd h.2 (by decide)⟩
def isVis (sc : Scope) (x : Str) : Bool := match sc.names.lookup x with
  | some .local => true
  | some .cell => true
  | some .free => true
  | _ => false
def isGl (sc : Scope) (x : Str) : Bool := match sc.names.lookup x with
  | some .globalImplicit => true
  | _ => false
def isLoc (sc : Scope) (fc : Str → Bool) (x : Str) : Bool := match sc.names.lookup x with
  | some .local => true
  | some .cell => fc x
  | _ => false
def cName (cx : CC) (sc : Scope) (x : Str) : E :=
  if odd x then .bad else if isVis sc x then (match slotOf x cx.N with | some i => .var i | none => .bad) else if isGl sc x then (match cx.gi.lookup x with
    | some i => .int i
    | none => match cx.gs.lookup x with
      | some z => .str z
      | none => .bad) else .bad
def cConst : Const → E
  | .int i => .int i
  | .bool b => .bl b
  | .none => .non
  | .str x => .str x
  | _ => .bad
def bopC : Operator → Option Bop
  | .Add => some .add | .Sub => some .sub | .Mult => some .mul | .FloorDiv => some .div | .Mod => some .mod | .Pow => some .pow | _ => none
def copC : CmpOp → Option Cop
  | .Lt => some .lt | .LtE => some .le | .Gt => some .gt | .GtE => some .ge | .Eq => some .eq | .NotEq => some .ne | .Is => some .is | .IsNot => some .isnot | .In => some .isin | .NotIn => some .notin
theorem bopC_ok {o : Operator} {b : Bop} (h : bopC o = some b) : o = opOf b := by cases o <;> cases h <;> rfl
theorem copC_ok {o : CmpOp} {b : Cop} (h : copC o = some b) : o = copOf b := by cases o <;> cases h <;> rfl
def isSet : Expr → Bool
  | .Set _ _ _ => true
  | _ => false
def isSlice : Expr → Bool
  | .Slice _ _ _ _ => true
  | _ => false
def isComp : Expr → Bool
  | .ListComp _ _ _ _ => true
  | .SetComp _ _ _ _ => true
  | .DictComp _ _ _ _ _ => true
  | _ => false
def isBare : Expr → Bool
  | .Call (.Name _ _) [] [] _ => true
  | _ => false
def plainA (es : List Expr) : Bool := es.all fun e => !isStar e
def cBools (f : Expr → E) (op : PySem.BoolOp) : List Expr → E
  | [] => .bad
  | [e] => f e
  | e :: es => match op with
    | .And => .and (f e) (cBools f op es)
    | .Or => .or (f e) (cBools f op es)
def biTab : List (Str × Nat × Bi) := [("len", 1, .len), ("abs", 1, .abs), ("min", 2, .min2), ("max", 2, .max2), ("min", 1, .min1), ("max", 1, .max1), ("sum", 1, .sum), ("int", 1, .toInt), ("list", 1, .toList), ("tuple", 1, .toTuple), ("sorted", 1, .sorted), ("repr", 1, .repr)]
def tyTab : List (Str × Bi) := [("int", .isInt), ("bool", .isBool), ("str", .isStr), ("tuple", .isTuple), ("list", .isList)]
def mtTab : List (Str × Nat × Mt) := [("append", 1, .append), ("pop", 0, .pop), ("pop", 1, .popAt), ("index", 1, .index), ("bit_length", 0, .bitLen)]
def cCall (cx : CC) (f : Expr → E) (sc : Scope) (x : Str) (args : List Expr) (kws : List Keyword) : E :=
  if odd x || !isGl sc x || !plainA args then .bad else
  match kws with
  | [] => match biTab.find? fun p => decide (p.1 = x) && decide (p.2.1 = args.length) with
    | some p => if decide (x ∈ cx.free) then .bi p.2.2 (args.map f) else .bad
    | none => match slotOf x cx.fns with
      | some i => .call i (args.map f)
      | none => match args with
        | [a, .Name y _] => if x = "isinstance" ∧ ("isinstance" : Str) ∈ cx.free ∧ y ∈ cx.free ∧ isGl sc y = true ∧ odd y = false then (match tyTab.lookup y with | some b => .bi b [f a] | none => .bad) else .bad
        | _ => .bad
  | kws => match args, slotOf x cx.fns with
    | [], some i => match cx.kws.find? fun p => decide (p.1 = i) && decide (p.2.1.map some = kws.map (·.arg)) with
      | some p => .callk i (kws.map fun k => f k.value) p.2.2
      | none => .bad
    | _, _ => .bad
/-- list(range(a, b)), sorted(set(a)) -/
def cSpec (cx : CC) (f : Expr → E) (sc : Scope) (x : Str) (args : List Expr) : Option E := match args with
  | [.Call (.Name y _) as [] _] =>
    if decide (x ∈ cx.free) && decide (y ∈ cx.free) && isGl sc x && isGl sc y && plainA as then
      (match as with
      | [a] => if x = "sorted" ∧ y = "set" then some (.sset (f a)) else none
      | [a, b] => if x = "list" ∧ y = "range" then some (.lrng (f a) (f b)) else none
      | _ => none)
    else none
  | _ => none
def cCallS (cx : CC) (f : Expr → E) (sc : Scope) (x : Str) (args : List Expr) (kws : List Keyword) : E := match kws with
  | [] => (match cSpec cx f sc x args with
    | some t => t
    | none => cCall cx f sc x args [])
  | k :: ks => cCall cx f sc x args (k :: ks)
def cMeth (f : Expr → E) (o : Expr) (m : Str) (ap pos : Pos) (args : List Expr) : E :=
  if isBare o || !(ap.endLine == pos.line) || !plainA args then .bad else
  match mtTab.find? fun p => decide (p.1 = m) && decide (p.2.1 = args.length) with
  | some p => .mt p.2.2 (f o) (args.map f)
  | none => .bad
/-- targets -/
def cTg (N : List Str) (sc : Scope) (fc : Str → Bool) : Nat → Expr → Option Tg
  | 0, _ => none
  | n + 1, e => match e with
    | .Name x _ => if isLoc sc fc x then (slotOf x N).map .v else none
    | .Tuple es _ _ => if plainA es then (many es n).map .tup else none
    | _ => none
where many (es : List Expr) (n : Nat) : Option (List Tg) := match es with
  | [] => some []
  | e :: r => match cTg N sc fc n e, many r n with
    | some t, some ts => some (t :: ts)
    | _, _ => none
/-- what is walked -/
def isTup : Expr → Bool
  | .Tuple _ _ _ => true
  | _ => false
def cIter (cx : CC) (f : Expr → E) (sc : Scope) (tg it : Expr) : Option (Ik × List E) :=
  if isSet it then none else
  match it with
  | .Call (.Name x _) args [] _ =>
    if decide (x ∈ cx.free) && isGl sc x && plainA args then
      (match args with
      | [a] => if x = "range" then some (.rng1, [f a]) else if x = "enumerate" then (if isTup tg then some (.enum, [f a]) else none) else some (.seq, [f it])
      | [a, b] => if x = "range" then some (.rng2, [f a, f b]) else if x = "zip" then (if isTup tg then some (.zip, [f a, f b]) else none) else some (.seq, [f it])
      | _ => some (.seq, [f it]))
    else some (.seq, [f it])
  | it => some (.seq, [f it])
def ownOf (N : List Str) (scope : Scope) : List (Str × Nat) := scope.names.filterMap fun p => match p.2 with
  | .local => (slotOf p.1 N).map fun i => (p.1, i)
  | .cell => (slotOf p.1 N).map fun i => (p.1, i)
  | _ => none
def fcOf (scope : Scope) : Str → Bool := fun x => scope.names.lookup x == some .cell
def cComp (cx : CC) (f : Scope → (Str → Bool) → Expr → E) (sc : Scope) (fc : Str → Bool) (elt tg it : Expr) (ifs : List Expr) (scope : Scope) : E :=
  if blkC cx.N sc scope (ownOf cx.N scope) then
    (match cTg cx.N (relS scope sc) (fcOf scope) 4 tg, cIter cx (f sc fc) sc tg it with
    | some t, some (k, es) => if t.slots.all fun j => decide (j ∈ (ownOf cx.N scope).map (·.2)) then
        (match ifs with
        | [] => .comp (f (relS scope sc) (fcOf scope) elt) t k es none ((ownOf cx.N scope).map (·.2))
        | [c] => .comp (f (relS scope sc) (fcOf scope) elt) t k es (some (f (relS scope sc) (fcOf scope) c)) ((ownOf cx.N scope).map (·.2))
        | _ => .bad) else .bad
    | _, _ => .bad)
  else .bad
def cStep (cx : CC) (f : Scope → (Str → Bool) → Expr → E) (sc : Scope) (fc : Str → Bool) : Expr → E
  | .Constant c _ _ => cConst c
  | .Name x _ => cName cx sc x
  | .Tuple es _ _ => if plainA es && decide (es.length ≤ 1000) then .tup (es.map (f sc fc)) else .bad
  | .List es _ => if plainA es && decide (es.length ≤ 1000) then .lst (es.map (f sc fc)) else .bad
  | .BinOp a op b _ => match bopC op with
    | some o => .bin o (f sc fc a) (f sc fc b)
    | none => .bad
  | .UnaryOp op a _ => match op with
    | .USub => .neg (f sc fc a)
    | .Not => .not (f sc fc a)
    | _ => .bad
  | .BoolOp op es _ => cBools (f sc fc) op es
  | .Compare a ops bs _ => match ops, bs with
    | [o], [b] => if isSet b then .bad else (match copC o with | some o => .cmp o (f sc fc a) (f sc fc b) | none => .bad)
    | [o, p], [b, c] => if isSet c then .bad else (match copC o, copC p with | some o, some p => .chain o p (f sc fc a) (f sc fc b) (f sc fc c) | _, _ => .bad)
    | _, _ => .bad
  | .IfExp c a b _ => .ife (f sc fc c) (f sc fc a) (f sc fc b)
  | .Subscript a b _ => match b with
    | .Slice lo hi st _ => match st with
      | none => .cut (f sc fc a) (lo.map (f sc fc)) (hi.map (f sc fc))
      | some _ => .bad
    | b => .idx (f sc fc a) (f sc fc b)
  | .Call g args kws pos => match g with
    | .Name x _ => cCallS cx (f sc fc) sc x args kws
    | .Attribute o m ap => match kws with
      | [] => cMeth (f sc fc) o m ap pos args
      | _ => .bad
    | _ => .bad
  | .ListComp elt gs scope _ => match gs with
    | [⟨tg, it, ifs, as⟩] => if as = 0 then cComp cx f sc fc elt tg it ifs scope else .bad
    | _ => .bad
  | _ => .bad
def cE (cx : CC) : Nat → Scope → (Str → Bool) → Expr → E
  | 0, _, _, _ => .bad
  | n + 1, sc, fc, e => cStep cx (cE cx n) sc fc e
end EV

set_option Elab.async false
set_option linter.all false
set_option maxRecDepth 100000
set_option autoImplicit false
namespace EV
open PySem PySem.Spec PyProof.Rows L2

/-- what a def's proof knows of its context: k the level of the defs that it calls -/
structure Gd (X : Cx) (cx : CC) (call : Nat → List D → Mm → R D) (k : Nat) : Prop where
  N : X.N = cx.N
  nd : X.N.Nodup
  calm : X.calm = true
  rm : Rm (k + 1) X.A
  fn : ∀ (i : Nat) (x : Str), cx.fns[i]? = some x → ∃ f fd ps np, X.mg x = some (.ref f) ∧ PySem.W.keepIn X.K (.ref f) = true ∧ Binds X.K fd ps [] ∧ FnG X.prog X.w X.K X.mg X.base k f fd ps (spV X.K call i np) ∧ Arity call i np ∧
    ∀ p, p ∈ cx.kws → p.1 = i → KB X.K fd ps p.2.1 p.2.2
  free : ∀ x, x ∈ cx.free → X.mg x = none
  gi : ∀ x i, cx.gi.lookup x = some i → ∃ t, X.mg x = some (.int i t)
  gs : ∀ x i, cx.gs.lookup x = some i → ∃ t, X.mg x = some (.str i t)
theorem Gd.hu {X : Cx} {cx : CC} {call : Nat → List D → Mm → R D} {k : Nat} (G : Gd X cx call k) : X.A.units + 64 < cLine := by
  have := G.rm.room.un
  omega
/-- the compiled term is right, as an expression, as a test -/
def Snd (cx : CC) (call : Nat → List D → Mm → R D) (k : Nat) (f : Scope → (Str → Bool) → Expr → E) : Prop :=
  ∀ (X : Cx) (sc : Scope) (fc : Str → Bool), Gd X cx call k → X.env.scope = sc → X.fn = fc → ∀ (e : Expr) (n : Nat), PE X e (rdE X.K call n (f sc fc e)) ∧ PT X e (rdB X.K call n (f sc fc e))

section
variable {X : Cx} {cx : CC} {call : Nat → List D → Mm → R D} {k n : Nat} {sc : Scope} {fc : Str → Bool} {f : Expr → E} {e a b : Expr} {es args : List Expr} {pos : Pos} {x : Str}
theorem vis_of (hs : X.env.scope = sc) (h : isVis sc x = true) : Vis X.env.scope x := by
  rw [hs]
  unfold isVis at h
  split at h
  · exact .inl (by assumption)
  · exact .inr (.inl (by assumption))
  · exact .inr (.inr (by assumption))
  · cases h
theorem gl_of (hs : X.env.scope = sc) (h : isGl sc x = true) : Gl X x := by
  show X.env.scope.names.lookup x = some .globalImplicit
  rw [hs]
  unfold isGl at h
  split at h
  · assumption
  · cases h
theorem loc_of (hs : X.env.scope = sc) (hf : X.fn = fc) (h : isLoc sc fc x = true) : Loc X.env.scope x ∧ (X.fn x = true ∨ X.env.scope.names.lookup x = some .local) := by
  rw [hs, hf]
  unfold isLoc at h
  split at h
  · exact ⟨.inl (by assumption), .inr (by assumption)⟩
  · exact ⟨.inr (by assumption), .inl h⟩
  · cases h
theorem star_cons {env : Env} (h : isStar e = false) : starEach (e :: es) env = (false, eval e env) :: starEach es env := by
  cases e <;> first | rfl | cases h
theorem plainA_cons (h : plainA (e :: es) = true) : isStar e = false ∧ plainA es = true := by
  unfold plainA at h ⊢
  rw [List.all_cons, Bool.and_eq_true] at h
  exact ⟨by simpa using h.1, h.2⟩
theorem plain_any {env : Env} : ∀ {es : List Expr}, plainA es = true → (backTo pos (starEach es env)).any (·.1) = false
  | [], _ => rfl
  | e :: es, h => by
    obtain ⟨h1, h2⟩ := plainA_cons h
    have := plain_any (env := env) h2
    rw [star_cons h1]
    show (false || (backTo pos (starEach es env)).any (·.1)) = false
    rw [this]
    rfl
theorem plain_all {env : Env} : ∀ {es : List Expr}, plainA es = true → (backTo pos (starEach es env)).all (fun x => !x.1) = true
  | [], _ => rfl
  | e :: es, h => by
    obtain ⟨h1, h2⟩ := plainA_cons h
    have := plain_all (env := env) h2
    rw [star_cons h1]
    show (!false && (backTo pos (starEach es env)).all (fun x => !x.1)) = true
    rw [this]
    rfl
theorem sa_all {g : Expr → E} (ih : ∀ (e : Expr) (n : Nat), PE X e (rdE X.K call n (g e))) (n : Nat) : ∀ {es : List Expr}, plainA es = true → PA X es (rdL X.K call n (es.map g))
  | [], _ => sa_nil
  | e :: es, h => sa_cons (ih e n) (sa_all ih n (plainA_cons h).2) (star_cons (plainA_cons h).1)
theorem truth_plain (h : ∀ whole, isTrue e X.env whole = (do let v ← whole; standAt e.pos; holding [v] (truthy v))) (ha : PE X e (rdE X.K call n (f e))) : PT X e (rdB X.K call n (f e)) := b_truth ha h
/-! ### names -/
theorem snd_name (G : Gd X cx call k) (hs : X.env.scope = sc) (n : Nat) : PE X (.Name x pos) (rdE X.K call n (cName cx sc x)) := by
  cases n with
  | zero => exact s_0
  | succ n =>
    unfold cName
    split
    · exact s_bad
    · rename_i ho
      obtain ⟨o1, o2, o3⟩ := odd_no (by simpa using ho)
      split
      · rename_i hv
        split
        · rename_i i hi
          exact s_var (by rw [G.N]; exact slotOf_get hi) (vis_of hs hv) o1 o2
        · exact s_bad
      · split
        · rename_i hg
          split
          · rename_i i hi
            obtain ⟨t, ht⟩ := G.gi _ _ hi
            exact s_gint (gl_of hs hg) ht o1
          · split
            · rename_i z hz
              obtain ⟨t, ht⟩ := G.gs _ _ hz
              exact s_gstr (gl_of hs hg) ht o1
            · exact s_bad
        · exact s_bad
theorem snd_const {c : Const} {j : Nat} (n : Nat) : PE X (.Constant c j pos) (rdE X.K call n (cConst c)) := by
  cases n with
  | zero => exact s_0
  | succ n => cases c <;> first | exact s_int | exact s_bl | exact s_non | exact s_str | exact s_bad
/-! ### and, or -/
theorem snd_bools (ih : ∀ (e : Expr) (n : Nat), PE X e (rdE X.K call n (f e)) ∧ PT X e (rdB X.K call n (f e))) (op : PySem.BoolOp) : ∀ (es : List Expr) (n : Nat), PE X (.BoolOp op es pos) (rdE X.K call n (cBools f op es)) ∧ PW X (.BoolOp op es pos) (rdB X.K call n (cBools f op es))
  | [], n => ⟨s_bad, ⟨fun _ _ _ _ _ _ _ h => (rdB_bad h).elim⟩⟩
  | [e], n => ⟨s_one (ih e n).1, by cases op; exact b_one_and (ih e n).2; exact b_one_or (ih e n).2⟩
  | e :: e2 :: es, n => by
    cases n with
    | zero => exact ⟨s_0, ⟨fun _ _ _ _ _ _ _ ⟨_, _, _, _, _, _, h⟩ => False.elim h⟩⟩
    | succ n =>
      have r := snd_bools ih op (e2 :: es) n
      cases op with
      | And => exact ⟨s_and (ih e n).1 r.1, b_and (ih e n).2 r.2⟩
      | Or => exact ⟨s_or (ih e n).1 r.1, b_or (ih e n).2 r.2⟩
/-! ### calls -/
theorem bi_fact : ∀ p, p ∈ biTab → bootBuiltins p.1 = some (biV p.2.2) ∧ biV p.2.2 ≠ .none ∧ p.2.1 ≠ 0 := by
  have h : (biTab.all fun p => decide (bootBuiltins p.1 = some (biV p.2.2)) && decide (biV p.2.2 ≠ .none) && decide (p.2.1 ≠ 0)) = true := by decide +kernel
  intro p hp
  have q := List.all_eq_true.mp h p hp
  rw [Bool.and_eq_true, Bool.and_eq_true, decide_eq_true_eq, decide_eq_true_eq, decide_eq_true_eq] at q
  exact ⟨q.1.1, q.1.2, q.2⟩
theorem ty_fact : ∀ p, p ∈ tyTab → ∃ T, isiT p.2 = some T ∧ bootBuiltins p.1 = some (.type T) := by
  have h : (tyTab.all fun p => match isiT p.2 with | some T => decide (bootBuiltins p.1 = some (.type T)) | none => false) = true := by decide +kernel
  intro p hp
  have q := List.all_eq_true.mp h p hp
  split at q
  · exact ⟨_, by assumption, of_decide_eq_true q⟩
  · cases q
theorem lookup_mem {α : Type} {l : List (Str × α)} {y : Str} {b : α} (h : l.lookup y = some b) : (y, b) ∈ l := PySem.mem_of_lookup h
theorem snd_bi (G : Gd X cx call k) (hs : X.env.scope = sc) (ih : ∀ (e : Expr) (n : Nat), PE X e (rdE X.K call n (f e))) {b : Bi} {p : Pos} (hx : (x, args.length, b) ∈ biTab) (ho : odd x = false) (hg : isGl sc x = true) (hf : x ∈ cx.free) (hp : plainA args = true) (n : Nat) :
    PE X (.Call (.Name x p) args [] pos) (rdE X.K call (n + 1) (.bi b (args.map f))) := by
  obtain ⟨q1, q2, q3⟩ := bi_fact _ hx
  obtain ⟨o1, o2, o3⟩ := odd_no ho
  have q1 : bootBuiltins x = some (biV b) := q1
  have q2 : biV b ≠ .none := q2
  cases args with
  | nil => exact absurd rfl q3
  | cons a es =>
    obtain ⟨h1, h2⟩ := plainA_cons hp
    have pa := sa_all ih n hp
    cases hb : biV b with
    | builtin id => exact s_bi G.calm (G.rm.mono (by omega)) hb (gl_of hs hg) (G.free x hf) (by rw [q1, hb]) pa o3 o1 (star_cons h1) (plain_any h2)
    | type T => exact s_biT G.calm (G.rm.mono (by omega)) hb (gl_of hs hg) (G.free x hf) (by rw [q1, hb]) pa o3 o1 (star_cons h1) (plain_any h2)
    | _ => cases b <;> cases hb <;> exact absurd rfl q2
theorem sk_all {g : Expr → E} (ih : ∀ (e : Expr) (n : Nat), PE X e (rdE X.K call n (g e))) (n : Nat) : ∀ (kws : List Keyword), PK X kws (rdL X.K call n (kws.map fun k => g k.value))
  | [] => sk_nil
  | ⟨nm, v, p⟩ :: r => sk_cons (ih v n) (sk_all ih n r)
theorem kw_facts {env : Env} : ∀ {kws : List Keyword} {ks : List Str}, ks.map some = kws.map (·.arg) → (backToKw pos (keywordEach kws env)).all (·.1.isSome) = true ∧ (backToKw pos (keywordEach kws env)).filterMap (·.1) = ks ∧ (backToKw pos (keywordEach kws env)).any (·.1.isNone) = false
  | [], ks, h => by
    cases ks with
    | nil => exact ⟨rfl, rfl, rfl⟩
    | cons _ _ => cases h
  | ⟨nm, v, p⟩ :: r, ks, h => by
    cases ks with
    | nil => cases h
    | cons y ys =>
      have h' : some y = nm ∧ ys.map some = r.map (·.arg) := by simpa using h
      obtain ⟨rfl, h2⟩ := h'
      obtain ⟨g1, g2, g3⟩ := kw_facts (env := env) h2
      refine ⟨?_, ?_, ?_⟩
      · show (true && (backToKw pos (keywordEach r env)).all (·.1.isSome)) = true
        rw [g1]
        rfl
      · show y :: (backToKw pos (keywordEach r env)).filterMap (·.1) = _
        rw [g2]
      · show (false || (backToKw pos (keywordEach r env)).any (·.1.isNone)) = false
        rw [g3]
        rfl
theorem snd_call (G : Gd X cx call k) (hs : X.env.scope = sc) (ih : ∀ (e : Expr) (n : Nat), PE X e (rdE X.K call n (f e))) {kws : List Keyword} {p : Pos} (n : Nat) : PE X (.Call (.Name x p) args kws pos) (rdE X.K call n (cCall cx f sc x args kws)) := by
  cases n with
  | zero => exact s_0
  | succ n =>
    unfold cCall
    split
    · exact s_bad
    rename_i hc
    simp only [Bool.not_eq_true, Bool.or_eq_false_iff, Bool.not_eq_false'] at hc
    obtain ⟨⟨ho, hg⟩, hp⟩ := hc
    obtain ⟨o1, o2, o3⟩ := odd_no ho
    split
    · -- no keywords
      split
      · rename_i q hq
        split
        · rename_i hf
          have hm := List.mem_of_find?_eq_some hq
          have hv := List.find?_some hq
          simp only [Bool.and_eq_true, decide_eq_true_eq] at hv
          obtain ⟨qx, qn, qb⟩ := q
          obtain ⟨rfl, rfl⟩ := hv
          exact snd_bi G hs ih hm ho hg (of_decide_eq_true hf) hp n
        · exact s_bad
      · split
        · rename_i i hi
          obtain ⟨fa, fd, ps, np, h1, h2, h3, h4, h5, _⟩ := G.fn i x (slotOf_get hi)
          cases args with
          | nil => exact s_call0 h4 h5 (G.rm.mono (by omega)) (gl_of hs hg) h1 h2 h3 o1
          | cons a es =>
            obtain ⟨g1, g2⟩ := plainA_cons hp
            exact s_call h4 h5 (G.rm.mono (by omega)) (gl_of hs hg) h1 h2 h3 (sa_all ih n hp) o1 (star_cons g1) (plain_any g2)
        · split
          · rename_i a y py _
            split
            · rename_i hc
              obtain ⟨rfl, f1, f2, g2, o4⟩ := hc
              obtain ⟨p1, p2, p3⟩ := odd_no o4
              split
              · rename_i b hb
                obtain ⟨T, t1, t2⟩ := ty_fact _ (lookup_mem hb)
                exact s_isi t1 (gl_of hs hg) (G.free _ f1) (gl_of hs g2) (G.free _ f2) t2 p3 p1 (ih a n) (star_cons (plainA_cons hp).1)
              · exact s_bad
            · exact s_bad
          · exact s_bad
    · -- keywords alone
      split
      · rename_i i hi
        split
        · rename_i q hq
          have hm := List.mem_of_find?_eq_some hq
          have hv := List.find?_some hq
          simp only [Bool.and_eq_true, decide_eq_true_eq] at hv
          obtain ⟨v1, v2⟩ := hv
          obtain ⟨fa, fd, ps, np, h1, h2, h3, h4, h5, h6⟩ := G.fn i x (slotOf_get hi)
          obtain ⟨g1, g2, g3⟩ := kw_facts (env := X.env) (pos := pos) v2
          refine s_callk (ks := q.2.1) h4 h5 (G.rm.mono (by omega)) (gl_of hs hg) h1 h2 (h6 q hm v1) (sk_all ih n kws) o1 ?_ g1 g2 ?_
          · have := congrArg List.length v2
            simp only [List.length_map] at this ⊢
            exact this.symm
          · rw [g3]
            rfl
        · exact s_bad
      · exact s_bad
/-! ### methods -/
theorem base_ok {env : Env} {m : Str} (h : isBare e = false) : attributeBase e m env (eval e env) = eval e env := by
  cases e <;> first | rfl | skip
  rename_i g args kws p
  cases g <;> first | rfl | skip
  cases args <;> first | rfl | skip
  cases kws <;> first | rfl | cases h
theorem snd_meth (ih : ∀ (e : Expr) (n : Nat), PE X e (rdE X.K call n (f e))) {m : Str} {ap : Pos} (n : Nat) : PE X (.Call (.Attribute e m ap) args [] pos) (rdE X.K call n (cMeth f e m ap pos args)) := by
  cases n with
  | zero => exact s_0
  | succ n =>
    unfold cMeth
    split
    · exact s_bad
    rename_i hc
    simp only [Bool.not_eq_true, Bool.or_eq_false_iff, Bool.not_eq_false'] at hc
    obtain ⟨⟨hb, hl⟩, hp⟩ := hc
    split
    · rename_i q hq
      have hm := List.mem_of_find?_eq_some hq
      have hv := List.find?_some hq
      simp only [Bool.and_eq_true, decide_eq_true_eq] at hv
      obtain ⟨qx, qn, qm⟩ := q
      obtain ⟨rfl, hn⟩ := hv
      have hn : qn = args.length := hn
      have few : ∀ {b : Expr} {es : List Expr}, args = b :: es → args.length = 1 → ((backTo pos (starEach (b :: es) X.env)).all (fun x => !x.1) && (backToKw pos (keywordEach [] X.env)).all (fun x => x.1.isSome) && decide ((b :: es).length + ([] : List Keyword).length + (if ([] : List Keyword).isEmpty then 0 else 1) < 30)) = true := fun {b es} e1 e2 => by
        rw [← e1, plain_all hp]
        have : (backToKw pos (keywordEach [] X.env)).all (fun x => x.1.isSome) = true := rfl
        rw [this]
        simp [e2]
      have one : args.length = 1 → ∃ b, args = [b] := fun h => by
        match args, h with
        | [b], _ => exact ⟨b, rfl⟩
      have zero : args.length = 0 → args = [] := List.length_eq_zero_iff.mp
      simp only [mtTab, List.mem_cons, Prod.mk.injEq, List.not_mem_nil, or_false] at hm
      rcases hm with ⟨rfl, h1, rfl⟩ | ⟨rfl, h1, rfl⟩ | ⟨rfl, h1, rfl⟩ | ⟨rfl, h1, rfl⟩ | ⟨rfl, h1, rfl⟩
      · obtain ⟨b, rfl⟩ := one (by omega)
        exact s_mt (f := .append) (fun z => nomatch z) PySem.F.slot_list_append PySem.F.type_list_append (ih e n) (sa_all ih n hp) (base_ok hb) (few rfl rfl) hl (star_cons (plainA_cons hp).1) rfl
      · obtain rfl := zero (by omega)
        exact s_mt0 (f := .pop) (fun z => nomatch z) PySem.F.slot_list_pop PySem.F.type_list_pop (ih e n) (base_ok hb) hl
      · obtain ⟨b, rfl⟩ := one (by omega)
        exact s_mt (f := .popAt) (fun z => nomatch z) PySem.F.slot_list_pop PySem.F.type_list_pop (ih e n) (sa_all ih n hp) (base_ok hb) (few rfl rfl) hl (star_cons (plainA_cons hp).1) rfl
      · obtain ⟨b, rfl⟩ := one (by omega)
        exact s_mt (f := .index) (fun z => nomatch z) PySem.F.slot_list_index PySem.F.type_list_index (ih e n) (sa_all ih n hp) (base_ok hb) (few rfl rfl) hl (star_cons (plainA_cons hp).1) rfl
      · obtain rfl := zero (by omega)
        exact s_bits (ih e n) (base_ok hb) hl
    · exact s_bad
end
end EV

set_option Elab.async false
set_option linter.all false
set_option maxRecDepth 100000
set_option autoImplicit false
namespace EV
open PySem PySem.Spec PyProof.Rows L2
section
variable {X : Cx} {cx : CC} {call : Nat → List D → Mm → R D} {k n : Nat} {sc : Scope} {fc : Str → Bool} {f : Expr → E} {e a b : Expr} {es args : List Expr} {pos : Pos} {x : Str}
/-! ### targets -/
theorem assign_cons {env : Env} (h : isStar e = false) : (assignEach (e :: es) env).map (·.2) = assign e env :: (assignEach es env).map (·.2) ∧ (assignEach (e :: es) env).length = (assignEach es env).length + 1 ∧ (assignEach (e :: es) env).findIdx? (·.1) = ((assignEach es env).findIdx? (·.1)).map (· + 1) := by
  have h2 : assignEach (e :: es) env = (false, assign e env) :: assignEach es env := by cases e <;> first | rfl | cases h
  rw [h2]
  refine ⟨rfl, rfl, ?_⟩
  rw [List.findIdx?_cons]
  rfl
theorem tg_ok (hN : X.N = cx.N) (nd : X.N.Nodup) (hc : X.calm = true) (hs : X.env.scope = sc) (hf : X.fn = fc) : ∀ (m : Nat), (∀ (e : Expr) (t : Tg), cTg cx.N sc fc m e = some t → PG X e (rdT X.K t)) ∧
    (∀ (es : List Expr) (ts : List Tg), plainA es = true → cTg.many cx.N sc fc es m = some ts → PGs X es (rdTs X.K ts) ∧ (assignEach es X.env).length = ts.length ∧ (assignEach es X.env).findIdx? (·.1) = none)
  | 0 => by
    refine ⟨fun e t h => (by (unfold cTg at h; cases h)), fun es => ?_⟩
    cases es with
    | nil =>
      intro ts _ h
      unfold cTg.many at h
      cases h
      exact ⟨ts_nil, rfl, rfl⟩
    | cons e es =>
      intro ts _ h
      unfold cTg.many at h
      have e0 : cTg cx.N sc fc 0 e = none := by unfold cTg; rfl
      rw [e0] at h
      cases h
  | m + 1 => by
    obtain ⟨ih1, ih2⟩ := tg_ok hN nd hc hs hf m
    have one : ∀ (e : Expr) (t : Tg), cTg cx.N sc fc (m + 1) e = some t → PG X e (rdT X.K t) := fun e t h => by
      unfold cTg at h
      split at h
      · split at h
        · rename_i hl
          obtain ⟨l1, l2⟩ := loc_of hs hf hl
          cases q : slotOf _ cx.N with
          | none => rw [q] at h; cases h
          | some i =>
            rw [q] at h
            cases h
            exact t_name nd (by rw [hN]; exact slotOf_get q) l1 l2
        · cases h
      · split at h
        · rename_i hp
          cases q : cTg.many cx.N sc fc _ m with
          | none => rw [q] at h; cases h
          | some ts =>
            rw [q] at h
            cases h
            obtain ⟨g1, g2, g3⟩ := ih2 _ ts hp q
            exact t_tup hc g1 g2 g3
        · cases h
      · cases h
    refine ⟨one, fun es => ?_⟩
    induction es with
    | nil =>
      intro ts _ h
      unfold cTg.many at h
      cases h
      exact ⟨ts_nil, rfl, rfl⟩
    | cons e es ih =>
      intro ts hp h
      obtain ⟨p1, p2⟩ := plainA_cons hp
      unfold cTg.many at h
      split at h
      · rename_i t ts' h1 h2
        cases h
        obtain ⟨g1, g2, g3⟩ := ih _ p2 h2
        obtain ⟨a1, a2, a3⟩ := assign_cons (es := es) (env := X.env) p1
        refine ⟨ts_cons (one e t h1) g1 a1, ?_, ?_⟩
        · rw [a2, g2]; rfl
        · rw [a3, g3]; rfl
      · cases h
theorem many_of {m : Nat} (hN : X.N = cx.N) (nd : X.N.Nodup) (hc : X.calm = true) (hs : X.env.scope = sc) (hf : X.fn = fc) {e : Expr} {t : Tg} (h : cTg cx.N sc fc m e = some t) : PG X e (rdT X.K t) := (tg_ok hN nd hc hs hf m).1 e t h
/-! ### what is walked -/
theorem fold_ok {env : Env} (h : isSet e = false) : ∀ x, foldedSetIterable e env x = pure x := by
  intro x
  cases e <;> first | rfl | cases h
theorem isTup_of (h : isTup e = true) : ∃ es j p, e = .Tuple es j p := by
  cases e <;> first | exact ⟨_, _, _, rfl⟩ | cases h
theorem iter_ok (G : Gd X cx call k) (hs : X.env.scope = sc) (ih : ∀ (e : Expr) (n : Nat), PE X e (rdE X.K call n (f e))) {tg it : Expr} {ik : Ik} {es : List E} (h : cIter cx f sc tg it = some (ik, es)) (n : Nat) : PI X tg it (rdI X.K call n ik es) ∧ ∀ x, foldedSetIterable it X.env x = pure x := by
  unfold cIter at h
  split at h
  · cases h
  rename_i hset
  have hset : isSet it = false := by simpa using hset
  refine ⟨?_, fold_ok hset⟩
  have seq : ∀ {ik : Ik} {es : List E}, some (Ik.seq, [f it]) = some (ik, es) → PI X tg it (rdI X.K call n ik es) := fun e => by
    cases e
    exact i_seq (ih it n)
  split at h
  · rename_i x px args pc
    split at h
    · rename_i hc
      simp only [Bool.and_eq_true, decide_eq_true_eq] at hc
      obtain ⟨⟨hf, hg⟩, hp⟩ := hc
      have gl := gl_of hs hg
      have fr := G.free _ hf
      split at h
      · obtain ⟨p1, p2⟩ := plainA_cons hp
        split at h
        · rename_i e; subst e
          cases h
          exact i_rng1 gl fr (sa_all ih n hp) (star_cons p1)
        · split at h
          · rename_i e; subst e
            split at h
            · rename_i ht
              obtain ⟨ts, j, p, rfl⟩ := isTup_of ht
              cases h
              exact i_enum gl fr (sa_all ih n hp) (star_cons p1)
            · cases h
          · exact seq h
      · obtain ⟨p1, p2⟩ := plainA_cons hp
        obtain ⟨p3, p4⟩ := plainA_cons p2
        split at h
        · rename_i e; subst e
          cases h
          exact i_rng2 gl fr (sa_all ih n hp) (by rw [star_cons p1, star_cons p3]; rfl) (star_cons p3)
        · split at h
          · rename_i e; subst e
            split at h
            · rename_i ht
              obtain ⟨ts, j, p, rfl⟩ := isTup_of ht
              cases h
              exact i_zip gl fr (sa_all ih n hp) (star_cons p1) (plain_any p2)
            · cases h
          · exact seq h
      · exact seq h
    · exact seq h
  · exact seq h
/-! ### comprehensions -/
theorem Gd.blk (G : Gd X cx call k) (s : Shared) (H : Hp) (scope : Scope) (env : Env) (fp : List Addr) : Gd (X.blk s H scope env fp) cx call k := ⟨G.N, G.nd, G.calm, G.rm, G.fn, G.free, G.gi, G.gs⟩
theorem comp_ok {f : Scope → (Str → Bool) → Expr → E} (S : Snd cx call k f) (G : Gd X cx call k) (hs : X.env.scope = sc) (hf : X.fn = fc) {elt tg it : Expr} {ifs : List Expr} {scope : Scope} (n : Nat) :
    cComp cx f sc fc elt tg it ifs scope = .bad ∨ ∃ ie t ik ies ci own, cComp cx f sc fc elt tg it ifs scope = .comp ie t ik ies ci (own.map (·.2)) ∧ (∀ j, j ∈ t.slots → j ∈ own.map (·.2)) ∧ PI X tg it (rdI X.K call n ik ies) ∧ BlkOk X.N X.env.scope scope own ∧
      (∀ (s : Shared) (H : Hp) (C : Addr) (cl : List (Str × Addr)) (fp : List Addr), PG (X.blk s H scope (compEnvC scope cl C X.env) fp) tg (rdT X.K t)) ∧ (∀ (s : Shared) (H : Hp) (C : Addr) (cl : List (Str × Addr)) (fp : List Addr), PTs (X.blk s H scope (compEnvC scope cl C X.env) fp) ifs (rdC X.K call n ci)) ∧
      (∀ (s : Shared) (H : Hp) (C : Addr) (cl : List (Str × Addr)) (fp : List Addr), PE (X.blk s H scope (compEnvC scope cl C X.env) fp) elt (rdE X.K call n ie)) ∧ ∀ x, foldedSetIterable it X.env x = pure x := by
  unfold cComp
  split
  · rename_i hb
    have blk := blkOk_by hb
    split
    · rename_i t ik ies ht hi
      split
      · rename_i hsl
        have hsl : ∀ j, j ∈ t.slots → j ∈ (ownOf cx.N scope).map (·.2) := fun j hj => of_decide_eq_true (List.all_eq_true.mp hsl j hj)
        obtain ⟨i1, i2⟩ := iter_ok G hs (fun e n => (S X sc fc G hs hf e n).1) hi n
        have blk : BlkOk X.N X.env.scope scope (ownOf cx.N scope) := by rw [G.N, hs]; exact blk
        have env : ∀ (cl : List (Str × Addr)) (C : Addr), (compEnvC scope cl C X.env).scope = relS scope sc := fun cl C => by
          rw [← hs]
          rfl
        have gt : ∀ (s : Shared) (H : Hp) (C : Addr) (cl : List (Str × Addr)) (fp : List Addr), PG (X.blk s H scope (compEnvC scope cl C X.env) fp) tg (rdT X.K t) := fun s H C cl fp =>
          many_of (X := X.blk s H scope (compEnvC scope cl C X.env) fp) (cx := cx) G.N G.nd G.calm (env cl C) rfl ht
        have ge : ∀ (e : Expr) (s : Shared) (H : Hp) (C : Addr) (cl : List (Str × Addr)) (fp : List Addr), PE (X.blk s H scope (compEnvC scope cl C X.env) fp) e (rdE X.K call n (f (relS scope sc) (fcOf scope) e)) ∧ PT (X.blk s H scope (compEnvC scope cl C X.env) fp) e (rdB X.K call n (f (relS scope sc) (fcOf scope) e)) := fun e s H C cl fp =>
          S (X.blk s H scope (compEnvC scope cl C X.env) fp) _ _ (G.blk ..) (env cl C) rfl e n
        split
        · exact .inr ⟨_, t, ik, ies, none, _, rfl, hsl, i1, blk, gt, fun s H C cl fp => c_of (X := X.blk s H scope (compEnvC scope cl C X.env) fp) .no, fun s H C cl fp => (ge elt s H C cl fp).1, i2⟩
        · rename_i c
          exact .inr ⟨_, t, ik, ies, some _, _, rfl, hsl, i1, blk, gt, fun s H C cl fp => c_of (X := X.blk s H scope (compEnvC scope cl C X.env) fp) (.one (ge c s H C cl fp).2), fun s H C cl fp => (ge elt s H C cl fp).1, i2⟩
        · exact .inl rfl
      · exact .inl rfl
    · exact .inl rfl
  · exact .inl rfl
theorem snd_comp {f : Scope → (Str → Bool) → Expr → E} (S : Snd cx call k f) (G : Gd X cx call k) (hs : X.env.scope = sc) (hf : X.fn = fc) {elt tg it : Expr} {ifs : List Expr} {scope : Scope} (n : Nat) :
    PE X (.ListComp elt [⟨tg, it, ifs, 0⟩] scope pos) (rdE X.K call n (cComp cx f sc fc elt tg it ifs scope)) ∧ PE X (.ListComp elt [⟨tg, it, ifs, 0⟩] scope pos) (rdF X.K call n (cComp cx f sc fc elt tg it ifs scope)) := by
  cases n with
  | zero => exact ⟨s_0, f_0⟩
  | succ n =>
    rcases comp_ok S G hs hf (elt := elt) (tg := tg) (it := it) (ifs := ifs) (scope := scope) n with e | ⟨ie, t, ik, ies, ci, own, e, hsl, h1, h2, h3, h4, h5, h6⟩
    · rw [e]
      exact ⟨s_bad, f_bad⟩
    · rw [e]
      have h := pe_lc (pos := pos) G.calm G.nd h1 h2 h3 h4 h5 h6
      have F : PE X (.ListComp elt [⟨tg, it, ifs, 0⟩] scope pos) (rdF X.K call (n + 1) (.comp ie t ik ies ci (own.map (·.2)))) := h.mono fun σ H Q q => lc_rd hsl q
      exact ⟨F.mono fun σ H Q q => rdE_of_F (fun ρ m d m' e => comp_lst e) q, F⟩
/-! ### all expressions -/
theorem marks_ok {o : CmpOp} (h : isSet e = false) : behindInMarks o e = false := by
  cases e <;> first | rfl | cases h
theorem plain_ix (h : isSlice e = false) : PlainIx e := by
  intro o i
  cases e <;> first | rfl | cases h
theorem spec_ok {f : Expr → E} {t : E} {px p : Pos} (G : Gd X cx call k) (hs : X.env.scope = sc) (ih : ∀ (e : Expr) (n : Nat), PE X e (rdE X.K call n (f e))) (h : cSpec cx f sc x args = some t) (n : Nat) :
    PE X (.Call (.Name x px) args [] p) (rdE X.K call (n + 1) t) := by
  unfold cSpec at h
  split at h
  · rename_i y py as q
    split at h
    · rename_i hc
      simp only [Bool.and_eq_true, decide_eq_true_eq] at hc
      obtain ⟨⟨⟨⟨f1, f2⟩, g1⟩, g2⟩, hp⟩ := hc
      have l1 := gl_of hs g1
      have l2 := gl_of hs g2
      have n1 := G.free _ f1
      have n2 := G.free _ f2
      split at h
      · rename_i a
        split at h
        · rename_i e
          obtain ⟨rfl, rfl⟩ := e
          cases h
          exact s_sset G.calm l1 n1 l2 n2 (ih a n) (star_cons (plainA_cons hp).1)
        · cases h
      · rename_i a b
        obtain ⟨p1, p2⟩ := plainA_cons hp
        split at h
        · rename_i e
          obtain ⟨rfl, rfl⟩ := e
          cases h
          exact s_lrng G.calm l1 n1 l2 n2 (ih a n) (ih b n) (star_cons p1) (star_cons (plainA_cons p2).1) (plain_any p2)
        · cases h
      · cases h
    · cases h
  · cases h
theorem snd_step {f : Scope → (Str → Bool) → Expr → E} (S : Snd cx call k f) : Snd cx call k (cStep cx f) := by
  intro X sc fc G hs hf e n
  have ih : ∀ (e : Expr) (n : Nat), PE X e (rdE X.K call n (f sc fc e)) ∧ PT X e (rdB X.K call n (f sc fc e)) := S X sc fc G hs hf
  have ihE : ∀ (e : Expr) (n : Nat), PE X e (rdE X.K call n (f sc fc e)) := fun e n => (ih e n).1
  have bad : PE X e (rdE X.K call n .bad) ∧ PT X e (rdB X.K call n .bad) := ⟨s_bad, b_bad⟩
  cases n with
  | zero => exact ⟨s_0, b_0⟩
  | succ n =>
  cases e with
  | Constant c j p => exact ⟨snd_const _, b_truth (snd_const _) fun _ => rfl⟩
  | Name x p => exact ⟨snd_name G hs _, b_truth (snd_name G hs _) fun _ => rfl⟩
  | Tuple es j p =>
    rw [show cStep cx f sc fc (.Tuple es j p) = if plainA es && decide (es.length ≤ 1000) then .tup (es.map (f sc fc)) else .bad from rfl]
    split
    · rename_i hc
      rw [Bool.and_eq_true, decide_eq_true_eq] at hc
      have h := s_tup (k := j) (pos := p) (sa_all ihE n hc.1) (by rw [List.length_map]; exact hc.2)
      exact ⟨h, b_truth h fun _ => rfl⟩
    · exact bad
  | List es p =>
    rw [show cStep cx f sc fc (.List es p) = if plainA es && decide (es.length ≤ 1000) then .lst (es.map (f sc fc)) else .bad from rfl]
    split
    · rename_i hc
      rw [Bool.and_eq_true, decide_eq_true_eq] at hc
      have F := f_lst (pos := p) (sa_all ihE n hc.1) (by rw [List.length_map]; exact hc.2)
      have h : PE X (.List es p) (rdE X.K call (n + 1) (.lst (es.map (f sc fc)))) := F.mono fun σ H Q q => rdE_of_F (fun ρ m d m' e => by
        have e : (evEs (fun e m => evE call n e ρ m) (es.map (f sc fc)) m).bind (fun ds m1 => R.ok (D.lst ds) m1) = .ok d m' := e
        cases q2 : evEs (fun e m => evE call n e ρ m) (es.map (f sc fc)) m with
        | bad => rw [q2] at e; cases e
        | ok ds m1 => rw [q2] at e; cases e; exact ⟨_, rfl⟩) q
      exact ⟨h, b_truth h fun _ => rfl⟩
    · exact bad
  | BinOp a op b p =>
    rw [show cStep cx f sc fc (.BinOp a op b p) = (match bopC op with
      | some o => .bin o (f sc fc a) (f sc fc b)
      | none => .bad) from rfl]
    split
    · rename_i o ho
      rw [bopC_ok ho]
      have h := s_bin (o := o) (pos := p) (ihE a n) (ihE b n)
      exact ⟨h, b_truth h fun _ => rfl⟩
    · exact bad
  | UnaryOp op a p =>
    cases op with
    | USub =>
      have h := s_neg (pos := p) (ihE a n)
      exact ⟨h, b_truth h fun _ => rfl⟩
    | Not => exact ⟨s_not (ihE a n), b_not (ih a n).2⟩
    | _ => exact bad
  | BoolOp op es p =>
    have h := snd_bools (pos := p) ih op es (n + 1)
    exact ⟨h.1, h.2.pt⟩
  | Compare a ops bs p =>
    match ops, bs with
    | [o], [b] =>
      rw [show cStep cx f sc fc (.Compare a [o] [b] p) = if isSet b then .bad else (match copC o with | some o => .cmp o (f sc fc a) (f sc fc b) | none => .bad) from rfl]
      split
      · exact bad
      · rename_i hb
        have hb : isSet b = false := by simpa using hb
        split
        · rename_i o' ho
          rw [copC_ok ho]
          exact ⟨s_cmp G.hu (ihE a n) (ihE b n) (marks_ok hb), b_cmp G.hu (ihE a n) (ihE b n) (marks_ok hb)⟩
        · exact bad
    | [o, q], [b, c] =>
      rw [show cStep cx f sc fc (.Compare a [o, q] [b, c] p) = if isSet c then .bad else (match copC o, copC q with | some o, some p => .chain o p (f sc fc a) (f sc fc b) (f sc fc c) | _, _ => .bad) from rfl]
      split
      · exact bad
      · rename_i hb
        have hb : isSet c = false := by simpa using hb
        split
        · rename_i o' q' ho hq
          rw [copC_ok ho, copC_ok hq]
          have hm : lastMarks [copOf o', copOf q'] [b, c] = false := by
            show behindInMarks (copOf q') c = false
            exact marks_ok hb
          exact ⟨s_chain G.hu (ihE a n) (ihE b n) (ihE c n) hm, b_chain G.hu (ihE a n) (ihE b n) (ihE c n) hm⟩
        · exact bad
    | [], _ => exact bad
    | [_], [] => exact bad
    | [_], _ :: _ :: _ => exact bad
    | [_, _], [] => exact bad
    | [_, _], [_] => exact bad
    | [_, _], _ :: _ :: _ :: _ => exact bad
    | _ :: _ :: _ :: _, _ => exact bad
  | IfExp c a b p => exact ⟨s_ife (ih c n).2 (ihE a n) (ihE b n), b_ife (ih c n).2 (ih a n).2 (ih b n).2⟩
  | Subscript a b p =>
    have ix : isSlice b = false → PE X (.Subscript a b p) (rdE X.K call (n + 1) (.idx (f sc fc a) (f sc fc b))) := fun h => s_idx (ihE a n) (ihE b n) (plain_ix h)
    cases b with
    | Slice lo hi st p2 =>
      cases st with
      | none =>
        have po : ∀ o : Option Expr, PO X o (rdO X.K call n (o.map (f sc fc))) := fun o => by
          cases o with
          | none => exact so_none
          | some e => exact so_some (ihE e n)
        have h := s_cut (pos := p) (p2 := p2) (ihE a n) (po lo) (po hi)
        exact ⟨h, b_truth h fun _ => rfl⟩
      | some s => exact bad
    | _ => exact ⟨ix rfl, b_truth (ix rfl) fun _ => rfl⟩
  | Call g args kws p =>
    cases g with
    | Name x px =>
      have h : PE X (.Call (.Name x px) args kws p) (rdE X.K call (n + 1) (cCallS cx (f sc fc) sc x args kws)) := by
        unfold cCallS
        split
        · split
          · rename_i t ht
            exact spec_ok G hs ihE ht n
          · exact snd_call (pos := p) (p := px) (args := args) (kws := []) (x := x) G hs ihE (n + 1)
        · exact snd_call (pos := p) (p := px) (args := args) (x := x) G hs ihE (n + 1)
      exact ⟨h, b_truth h fun _ => rfl⟩
    | Attribute o m ap =>
      cases kws with
      | nil =>
        have h := snd_meth (e := o) (args := args) (pos := p) (m := m) (ap := ap) ihE (n + 1)
        exact ⟨h, b_truth h fun _ => rfl⟩
      | cons _ _ => exact bad
    | _ => exact bad
  | ListComp elt gs scope p =>
    match gs with
    | [] => exact bad
    | [⟨tg, it, ifs, as⟩] =>
      rw [show cStep cx f sc fc (.ListComp elt [⟨tg, it, ifs, as⟩] scope p) = if as = 0 then cComp cx f sc fc elt tg it ifs scope else .bad from rfl]
      split
      · rename_i h0
        subst h0
        have h := snd_comp (pos := p) (elt := elt) (tg := tg) (it := it) (ifs := ifs) (scope := scope) S G hs hf (n + 1)
        exact ⟨h.1, b_truth h.1 fun _ => rfl⟩
      · exact bad
    | ⟨_, _, _, _⟩ :: _ :: _ => exact bad
  | _ => exact bad
theorem snd_all : ∀ m : Nat, Snd cx call k (cE cx m)
  | 0 => fun X sc fc G hs hf e n => ⟨s_bad, b_bad⟩
  | m + 1 => snd_step (snd_all m)
end
end EV

set_option Elab.async false
set_option linter.all false
set_option maxRecDepth 100000
set_option autoImplicit false
namespace EV
open PySem PySem.Spec PyProof.Rows L2
/-! ### statements -/
def isCl : Expr → Bool
  | .Call _ _ _ _ => true
  | _ => false
theorem spec_no {cx : CC} {f : Expr → E} {sc : Scope} {x : Str} {a : Expr} (h : isCl a = false) : cSpec cx f sc x [a] = none := by
  cases a <;> first | rfl | cases h
def isFresh (cx : CC) : Expr → Bool
  | .List _ _ => true
  | .ListComp _ [⟨_, _, _, a⟩] _ _ => decide (a = 0)
  | .Call (.Name x _) [a] [] _ => decide (x = "list") && decide (("list" : Str) ∈ cx.free) && !isCl a
  | _ => false
def cVal (cx : CC) (f : Expr → E) (chg : Bool) (e : Expr) : E := if chg && isFresh cx e then .newc (f e) else f e
def swLine (sc : Scope) (y : Str) (py : Pos) (v : Expr) : Bool := match v with
  | .ListComp _ _ scope vp => (sc.names.lookup y == some .local) && (py.line == vp.line) && !(scope.names.any fun (n, k) => n == y && (k == .local || k == .cell))
  | _ => false
def locP (sc : Scope) (x : Str) : Bool := match sc.names.lookup x with
  | some .local => true
  | _ => false
def lc0 : Expr → Bool
  | .ListComp _ [⟨_, _, _, a⟩] _ _ => decide (a = 0)
  | _ => false
def cAssign (cx : CC) (f : Expr → E) (sc : Scope) (fc : Str → Bool) (t v : Expr) : S :=
  match t with
  | .Name y _ => if isLoc sc fc y && (!isComp v || lc0 v) then
      (match slotOf y cx.N with
      | some i => .set (.v i) (cVal cx f (decide (i ∈ cx.chg)) v)
      | none => .bad) else .bad
  | .Subscript o i _ => if isSlice i || isComp v then .bad else .put (f o) (f i) (f v)
  | .Tuple ts _ _ => if isComp v then .bad else (match v with
    | .Tuple vs _ _ =>
      if plainA vs then
        (if !(ts.length == 2 || ts.length == 3) || vs.length != ts.length then (match cTg cx.N sc fc 4 t with | some tg => .set tg (f v) | none => .bad) else
        match ts, vs with
        | [.Name x px, .Name y py], [a, b] => if locP sc x && locP sc y && (py.line == px.line) && decide (x ≠ y) then
            (if vs.all (foldedForSure 8) then (match cTg cx.N sc fc 4 t with | some tg => .set tg (f v) | none => .bad) else if vs.all (constantsAlone 8) then .bad else
              match slotOf x cx.N, slotOf y cx.N with
              | some i, some j => .par [i, j] [f a, f b]
              | _, _ => .bad) else .bad
        | [.Name x px, .Name y py, .Name z pz], [a, b, c] => if locP sc x && locP sc y && locP sc z && (py.line == px.line) && (pz.line == px.line) && decide (x ≠ y) && decide (x ≠ z) && decide (y ≠ z) then
            (if vs.all (foldedForSure 8) then (match cTg cx.N sc fc 4 t with | some tg => .set tg (f v) | none => .bad) else if vs.all (constantsAlone 8) then .bad else
              match slotOf x cx.N, slotOf y cx.N, slotOf z cx.N with
              | some i, some j, some l => .par [i, j, l] [f a, f b, f c]
              | _, _, _ => .bad) else .bad
        | _, _ => .bad)
      else .bad
    | v => match cTg cx.N sc fc 4 t with
      | some tg => .set tg (f v)
      | none => .bad)
  | _ => .bad
def sStep (cx : CC) (f : Expr → E) (sc : Scope) (fc : Str → Bool) (g : Stmt → S) : Stmt → S
  | .Pass _ => .pass
  | .Break _ => .brk
  | .Continue _ => .cont
  | .Return v _ => match v with
    | some e => .ret (cVal cx f cx.keep e)
    | none => .retN
  | .Expr e _ => if isComp e then .bad else .ex (f e)
  | .If c a b _ => .ife (f c) (a.map g) (b.map g)
  | .For t it body orelse _ => match orelse with
    | [] => (match cTg cx.N sc fc 4 t, cIter cx f sc t it with
      | some tg, some (k, es) => .for tg k es (body.map g)
      | _, _ => .bad)
    | _ => .bad
  | .While c body orelse _ => match orelse with
    | [] => .whl (f c) (body.map g)
    | _ => .bad
  | .Assign ts v _ => match ts with
    | [t] => cAssign cx f sc fc t v
    | _ => .bad
  | _ => .bad
def cS (cx : CC) (m : Nat) (sc : Scope) (fc : Str → Bool) : Nat → Stmt → S
  | 0, _ => .bad
  | n + 1, s => sStep cx (cE cx (m + 1) sc fc) sc fc (cS cx m sc fc n) s

section
variable {X : Cx} {cx : CC} {call : Nat → List D → Mm → R D} {k n wf m : Nat} {sc : Scope} {fc : Str → Bool} {e a b : Expr} {es args : List Expr} {pos : Pos} {x : Str}
theorem fresh_ok (G : Gd X cx call k) (hs : X.env.scope = sc) (hf : X.fn = fc) (h : isFresh cx e = true) (n : Nat) : PE X e (rdF X.K call n (cE cx (m + 1) sc fc e)) := by
  have S : Snd cx call k (cE cx m) := snd_all m
  have ihE : ∀ (e : Expr) (n : Nat), PE X e (rdE X.K call n (cE cx m sc fc e)) := fun e n => (S X sc fc G hs hf e n).1
  cases n with
  | zero => exact f_0
  | succ n =>
  unfold isFresh at h
  split at h
  · rename_i es p
    show PE X (.List es p) (rdF X.K call (n + 1) (if plainA es && decide (es.length ≤ 1000) then .lst (es.map (cE cx m sc fc)) else .bad))
    split
    · rename_i hc
      rw [Bool.and_eq_true, decide_eq_true_eq] at hc
      exact f_lst (sa_all ihE n hc.1) (by rw [List.length_map]; exact hc.2)
    · exact f_bad
  · rename_i elt tg it ifs a scope p
    have h0 : a = 0 := of_decide_eq_true h
    subst h0
    exact (snd_comp (pos := p) S G hs hf (n + 1)).2
  · rename_i x px a p
    rw [Bool.and_eq_true, Bool.and_eq_true, decide_eq_true_eq, decide_eq_true_eq] at h
    obtain ⟨⟨rfl, hl⟩, hcl⟩ := h
    show PE X (.Call (.Name "list" px) [a] [] p) (rdF X.K call (n + 1) (cCallS cx (cE cx m sc fc) sc "list" [a] []))
    unfold cCallS
    rw [spec_no (by simpa using hcl)]
    dsimp only
    unfold cCall
    split
    · exact f_bad
    · rename_i hc
      simp only [Bool.not_eq_true, Bool.or_eq_false_iff, Bool.not_eq_false'] at hc
      obtain ⟨⟨ho, hg⟩, hp⟩ := hc
      have e1 : (biTab.find? fun p => decide (p.1 = ("list" : Str)) && decide (p.2.1 = [a].length)) = some (("list" : Str), 1, Bi.toList) := by
        show (biTab.find? fun p => decide (p.1 = ("list" : Str)) && decide (p.2.1 = 1)) = some (("list" : Str), 1, Bi.toList)
        rfl
      dsimp only
      rw [e1]
      dsimp only
      rw [if_pos (decide_eq_true hl)]
      exact f_list (gl_of hs hg) (G.free _ hl) (sa_all ihE n hp) (star_cons (plainA_cons hp).1)
  · cases h
theorem val_ok (G : Gd X cx call k) (hs : X.env.scope = sc) (hf : X.fn = fc) (c : Bool) (e : Expr) (n : Nat) : PE X e (rdE X.K call n (cVal cx (cE cx (m + 1) sc fc) c e)) := by
  unfold cVal
  split
  · rename_i h
    rw [Bool.and_eq_true] at h
    cases n with
    | zero => exact s_0
    | succ n => exact s_newc (fresh_ok G hs hf h.2 n)
  · exact (snd_all (m + 1) X sc fc G hs hf e n).1
theorem sw_plain {env : Env} {t : Option Expr} {l : Nat} {v : Expr} (h : isComp v = false) : swapsWith v t l env = pure false := by
  cases v <;> first | rfl | cases h
theorem set_0 {t : Tg} {ea : E} {st : Stmt} : PS X st (rdS X.K call wf 1 (.set t ea)) := ⟨fun _ _ _ _ _ _ ⟨_, _, _, _, _, _, h⟩ => False.elim h⟩
theorem set_bad {t : Tg} {st : Stmt} : PS X st (rdS X.K call wf n (.set t .bad)) := by
  cases n with
  | zero => exact z_0
  | succ n => exact ⟨fun _ _ _ _ _ _ h => (rdE_bad (rd_set h)).elim⟩
theorem set_nbad {t : Tg} {st : Stmt} : PS X st (rdS X.K call wf n (.set t (.newc .bad))) := by
  cases n with
  | zero => exact z_0
  | succ n => cases n with
    | zero => exact set_0
    | succ n => exact ⟨fun _ _ _ _ _ _ h => by
        obtain ⟨as, hd, ρ, m, ok, env, h⟩ := newc_F (rd_set h)
        cases n <;> exact False.elim h⟩
/-- name = value -/
theorem asg_name (G : Gd X cx call k) (hs : X.env.scope = sc) (hf : X.fn = fc) (hk : sc.kind = .function) {y : Str} {py : Pos} {v : Expr} {i : Nat} (hl : isLoc sc fc y = true) (hv : isComp v = false ∨ ∃ elt tg it ifs scope p, v = .ListComp elt [⟨tg, it, ifs, 0⟩] scope p) (hi : slotOf y cx.N = some i) (c : Bool) (n : Nat) :
    PS X (.Assign [.Name y py] v pos) (rdS X.K call wf n (.set (.v i) (cVal cx (cE cx (m + 1) sc fc) c v))) := by
  have hN : X.N[i]? = some y := by rw [G.N]; exact slotOf_get hi
  obtain ⟨l1, l2⟩ := loc_of hs hf hl
  cases n with
  | zero => exact z_0
  | succ n =>
  have plain : swapsWith v (some (.Name y py)) pos.line X.env = pure false → PS X (.Assign [.Name y py] v pos) (rdS X.K call wf (n + 1) (.set (.v i) (cVal cx (cE cx (m + 1) sc fc) c v))) := fun hsw =>
    z_set (val_ok G hs hf c v n) (t_name G.nd hN l1 l2) hsw (by cases v <;> rfl) rfl
  rcases hv with hv | ⟨elt, tg, it, ifs, scope, p, rfl⟩
  · exact plain (sw_plain hv)
  · cases hsw : swLine sc y py (.ListComp elt [⟨tg, it, ifs, 0⟩] scope p) with
    | false =>
      refine plain ?_
      have hsw : ((sc.names.lookup y == some .local) && (py.line == p.line) && !(scope.names.any fun (n, k) => n == y && (k == .local || k == .cell))) = false := hsw
      show (pure (X.env.blockKind == .function && X.env.kindOf y == some .local && py.line == p.line && !(scope.names.any fun (n, k) => n == y && (k == .local || k == .cell))) : Sem Bool) = pure false
      have e1 : X.env.kindOf y = sc.names.lookup y := by rw [← hs]; rfl
      rw [bk_fun (by rw [hs]; exact hk), e1]
      have e2 : (ScopeKind.function == ScopeKind.function) = true := rfl
      rw [e2, Bool.true_and]
      rw [hsw]
    | true =>
      have hsw : ((sc.names.lookup y == some .local) && (py.line == p.line) && !(scope.names.any fun (n, k) => n == y && (k == .local || k == .cell))) = true := hsw
      simp only [Bool.and_eq_true, beq_iff_eq, Bool.not_eq_true'] at hsw
      obtain ⟨⟨s1, s2⟩, s3⟩ := hsw
      have S : Snd cx call k (cE cx m) := snd_all m
      have ec : cE cx (m + 1) sc fc (.ListComp elt [⟨tg, it, ifs, 0⟩] scope p) = cComp cx (cE cx m) sc fc elt tg it ifs scope := rfl
      have lk : X.env.scope.names.lookup y = some .local := by rw [hs]; exact s1
      have sw := sw_true (elt := elt) (gs := [⟨tg, it, ifs, 0⟩]) (scope := scope) (pos := p) (py := py) (y := y) (l := pos.line) (env := X.env) (by rw [hs]; exact hk) lk (by rw [s2]; exact beq_self_eq_true _) s3
      unfold cVal
      rw [ec]
      have main : ∀ n, cComp cx (cE cx m) sc fc elt tg it ifs scope = .bad ∨ ∃ ie t ik ies ci, ∃ own : List (Str × Nat), cComp cx (cE cx m) sc fc elt tg it ifs scope = .comp ie t ik ies ci (own.map (·.2)) ∧ (∀ j, j ∈ t.slots → j ∈ own.map (·.2)) ∧
          PS X (.Assign [.Name y py] (.ListComp elt [⟨tg, it, ifs, 0⟩] scope p) pos) (tAsg (tLc (rdI X.K call n ik ies) (rdT X.K t) (rdC X.K call n ci) (rdE X.K call n ie) (own.map (·.2))) (gName i)) := fun n => by
        rcases comp_ok S G hs hf (elt := elt) (tg := tg) (it := it) (ifs := ifs) (scope := scope) n with e | ⟨ie, t, ik, ies, ci, own, e, hsl, h1, h2, h3, h4, h5, h6⟩
        · exact .inl e
        · exact .inr ⟨ie, t, ik, ies, ci, own, e, hsl, ps_setLc G.calm G.nd hN lk sw h1 h2 h3 h4 h5 h6⟩
      split
      · match n with
        | 0 => exact set_0
        | 1 => 
          exact ⟨fun _ _ _ _ _ _ h => by
            obtain ⟨as, hd, ρ, m, ok, env, h⟩ := newc_F (rd_set h)
            exact False.elim h⟩
        | n + 2 =>
          rcases main n with e | ⟨ie, t, ik, ies, ci, own, e, hsl, hp⟩
          · rw [e]; exact set_nbad
          · rw [e]; exact z_setLcN (y := y) (py := py) (spos := pos) (elt := elt) (iter := it) (ifs := ifs) (scope := scope) hp hsl
      · match n with
        | 0 => exact set_0
        | n + 1 =>
          rcases main n with e | ⟨ie, t, ik, ies, ci, own, e, hsl, hp⟩
          · rw [e]; exact set_bad
          · rw [e]; exact z_setLc (y := y) (py := py) (spos := pos) (elt := elt) (iter := it) (ifs := ifs) (scope := scope) hp hsl
end
end EV

set_option Elab.async false
set_option linter.all false
set_option maxRecDepth 100000
set_option autoImplicit false
namespace EV
open PySem PySem.Spec PyProof.Rows L2
section
variable {X : Cx} {cx : CC} {call : Nat → List D → Mm → R D} {k n wf m : Nat} {sc : Scope} {fc : Str → Bool} {e a b : Expr} {es args : List Expr} {pos : Pos} {x : Str}
theorem sole_plain {env : Env} {t : Expr} {l : Nat} {v : Expr} (h : isComp v = false) : swapsWithSole [t] v l env = pure false := by
  cases v <;> first | rfl | cases h
theorem sole_tup {env : Env} {es : List Expr} {j : Nat} {p : Pos} {l : Nat} {v : Expr} (h : isComp v = false) : swapsWithSole [.Tuple es j p] v l env = pure false := by
  cases v <;> first | rfl | cases h
/-- a tuple of names takes a value that is no tuple in the text -/
theorem asg_any (G : Gd X cx call k) (hs : X.env.scope = sc) (hf : X.fn = fc) {ts : List Expr} {j : Nat} {pt : Pos} {v : Expr} (hv : isComp v = false) (hw : swappedStores [.Tuple ts j pt] v X.env = pure none) (n : Nat) :
    PS X (.Assign [.Tuple ts j pt] v pos) (rdS X.K call wf n (match cTg cx.N sc fc 4 (.Tuple ts j pt) with | some tg => .set tg (cE cx (m + 1) sc fc v) | none => .bad)) := by
  cases n with
  | zero => exact z_0
  | succ n =>
  split
  · rename_i tg ht
    exact z_set (snd_all (m + 1) X sc fc G hs hf v n).1 (many_of G.N G.nd G.calm hs hf ht) (sole_tup hv) hw rfl
  · exact z_bad
theorem loc_p (hs : X.env.scope = sc) (h : locP sc x = true) : X.env.scope.names.lookup x = some .local := by
  rw [hs]
  unfold locP at h
  split at h
  · assumption
  · cases h
theorem star_any {vs : List Expr} (h : plainA vs = true) : vs.any isStar = false := by
  unfold plainA at h
  induction vs with
  | nil => rfl
  | cons v vs ih =>
    rw [List.all_cons, Bool.and_eq_true] at h
    rw [List.any_cons, ih h.2]
    have := h.1
    cases q : isStar v with
    | false => rfl
    | true => rw [q] at this; cases this
theorem sw_no {ts vs : List Expr} {kt k2 : Nat} {pt pt2 : Pos} {env : Env} (h : vs.all (foldedForSure 8) = true) : swappedStores [.Tuple ts kt pt] (.Tuple vs k2 pt2) env = pure none := by
  rw [sw_eq]
  split
  · rfl
  · split
    · rfl
    · split
      · rfl
      · first | rfl | rw [if_pos h]
theorem sw_2 {x y : Str} {px py : Pos} {vs : List Expr} {kt k2 : Nat} {pt pt2 : Pos} {env : Env} (hk : env.scope.kind = .function) (hx : env.kindOf x = some .local) (hy : env.kindOf y = some .local) (hl : (py.line == px.line) = true) (hne : x ≠ y) (hlen : vs.length = 2)
    (hp : plainA vs = true) (h1 : vs.all (foldedForSure 8) = false) (h2 : vs.all (constantsAlone 8) = false) : swappedStores [.Tuple [.Name x px, .Name y py] kt pt] (.Tuple vs k2 pt2) env = pure (some [x, y]) := by
  rw [sw_eq]
  have e1 : nmOf env px.line (.Name x px) = some x := by
    show (if (env.kindOf x == some .local && px.line == px.line) = true then some x else none) = some x
    rw [hx, if_pos]
    rw [Bool.and_eq_true]
    exact ⟨rfl, beq_self_eq_true _⟩
  have e2 : nmOf env px.line (.Name y py) = some y := by
    show (if (env.kindOf y == some .local && py.line == px.line) = true then some y else none) = some y
    rw [hy, if_pos]
    rw [Bool.and_eq_true]
    exact ⟨rfl, hl⟩
  have e3 : [Expr.Name x px, .Name y py].filterMap (nmOf env (([Expr.Name x px, .Name y py].head?.map (·.pos.line)).getD 0)) = [x, y] := by
    show [Expr.Name x px, .Name y py].filterMap (nmOf env px.line) = [x, y]
    simp [List.filterMap, e1, e2]
  rw [e3, if_neg, if_neg, if_neg, if_neg, if_neg]
  · rw [h2]; decide
  · rw [h1]; decide
  · have : (y == x) = false := by simpa using fun e : y = x => hne e.symm
    simp [List.eraseDups, List.eraseDupsBy, List.eraseDupsBy.loop, this]
  · rw [star_any hp]; decide
  · rw [bk_fun hk, hlen]; exact Bool.false_ne_true
theorem sw_3 {x y z : Str} {px py pz : Pos} {vs : List Expr} {kt k2 : Nat} {pt pt2 : Pos} {env : Env} (hk : env.scope.kind = .function) (hx : env.kindOf x = some .local) (hy : env.kindOf y = some .local) (hz : env.kindOf z = some .local) (hl : (py.line == px.line) = true) (hl2 : (pz.line == px.line) = true) (hne : x ≠ y) (hne2 : x ≠ z) (hne3 : y ≠ z) (hlen : vs.length = 3)
    (hp : plainA vs = true) (h1 : vs.all (foldedForSure 8) = false) (h2 : vs.all (constantsAlone 8) = false) : swappedStores [.Tuple [.Name x px, .Name y py, .Name z pz] kt pt] (.Tuple vs k2 pt2) env = pure (some [x, y, z]) := by
  rw [sw_eq]
  have e1 : nmOf env px.line (.Name x px) = some x := by
    show (if (env.kindOf x == some .local && px.line == px.line) = true then some x else none) = some x
    rw [hx, if_pos]
    rw [Bool.and_eq_true]
    exact ⟨rfl, beq_self_eq_true _⟩
  have e2 : nmOf env px.line (.Name y py) = some y := by
    show (if (env.kindOf y == some .local && py.line == px.line) = true then some y else none) = some y
    rw [hy, if_pos]
    rw [Bool.and_eq_true]
    exact ⟨rfl, hl⟩
  have e4 : nmOf env px.line (.Name z pz) = some z := by
    show (if (env.kindOf z == some .local && pz.line == px.line) = true then some z else none) = some z
    rw [hz, if_pos]
    rw [Bool.and_eq_true]
    exact ⟨rfl, hl2⟩
  have e3 : [Expr.Name x px, .Name y py, .Name z pz].filterMap (nmOf env (([Expr.Name x px, .Name y py, .Name z pz].head?.map (·.pos.line)).getD 0)) = [x, y, z] := by
    show [Expr.Name x px, .Name y py, .Name z pz].filterMap (nmOf env px.line) = [x, y, z]
    simp [List.filterMap, e1, e2, e4]
  rw [e3, if_neg, if_neg, if_neg, if_neg, if_neg]
  · rw [h2]; decide
  · rw [h1]; decide
  · have t1 : (y == x) = false := by simpa using fun e : y = x => hne e.symm
    have t2 : (z == x) = false := by simpa using fun e : z = x => hne2 e.symm
    have t3 : (z == y) = false := by simpa using fun e : z = y => hne3 e.symm
    simp [List.eraseDups, List.eraseDupsBy, List.eraseDupsBy.loop, t1, t2, t3]
  · rw [star_any hp]; decide
  · rw [bk_fun hk, hlen]; exact Bool.false_ne_true
/-- target = value -/
theorem asg_ok (G : Gd X cx call k) (hs : X.env.scope = sc) (hf : X.fn = fc) (hk : sc.kind = .function) {t v : Expr} (n : Nat) :
    PS X (.Assign [t] v pos) (rdS X.K call wf n (cAssign cx (cE cx (m + 1) sc fc) sc fc t v)) := by
  have hk' : X.env.scope.kind = .function := by rw [hs]; exact hk
  have ihE : ∀ (e : Expr) (n : Nat), PE X e (rdE X.K call n (cE cx (m + 1) sc fc e)) := fun e n => (snd_all (m + 1) X sc fc G hs hf e n).1
  cases t with
  | Name y py =>
    unfold cAssign
    dsimp only
    split
    · rename_i hc
      rw [Bool.and_eq_true, Bool.or_eq_true] at hc
      obtain ⟨hl, hv⟩ := hc
      split
      · rename_i i hi
        refine asg_name G hs hf hk hl ?_ hi _ n
        rcases hv with hv | hv
        · exact .inl (by simpa using hv)
        · unfold lc0 at hv
          split at hv
          · rename_i elt tg it ifs a scope p
            have h0 : a = 0 := of_decide_eq_true hv
            subst h0
            exact .inr ⟨_, _, _, _, _, _, rfl⟩
          · cases hv
      · exact z_bad
    · exact z_bad
  | Subscript o i p =>
    unfold cAssign
    dsimp only
    split
    · exact z_bad
    · rename_i hc
      simp only [Bool.not_eq_true, Bool.or_eq_false_iff] at hc
      obtain ⟨h1, h2⟩ := hc
      cases n with
      | zero => exact z_0
      | succ n =>
      refine z_put (o := o) (i' := i) (e' := v) (tpos := p) (ps_asg (ihE v n) (pg_sub (ihE o n) (ihE i n) set_list ?_) (sole_plain h2) ?_ rfl)
      · intro w
        cases i <;> first | rfl | cases h1
      · cases v <;> rfl
  | Tuple ts j pt =>
    unfold cAssign
    dsimp only
    split
    · exact z_bad
    rename_i hv
    have hv : isComp v = false := by simpa using hv
    split
    · rename_i vs kt pv
      split
      · rename_i hp
        split
        · rename_i hc
          refine asg_any G hs hf hv ?_ n
          rw [sw_eq, if_pos]
          rw [Bool.or_eq_true]
          exact .inl hc
        · split
          · rename_i x px y py a b hc0
            split
            · rename_i hc
              simp only [Bool.and_eq_true, decide_eq_true_eq] at hc
              obtain ⟨⟨⟨hx, hy⟩, hl⟩, hne⟩ := hc
              split
              · rename_i hfd
                exact asg_any G hs hf hv (sw_no hfd) n
              · rename_i hfd
                split
                · exact z_bad
                · rename_i hca
                  split
                  · rename_i i' j' hi hj
                    cases n with
                    | zero => exact z_0
                    | succ n =>
                    have hi : X.N[i']? = some x := by rw [G.N]; exact slotOf_get hi
                    have hj : X.N[j']? = some y := by rw [G.N]; exact slotOf_get hj
                    refine z_par2 (ps_par G.calm G.nd hi hj ?_ (loc_p hs hx) (loc_p hs hy) (sa_all ihE n hp) (sw_2 hk' (loc_p hs hx) (loc_p hs hy) hl hne rfl hp ?_ ?_) (sole_tup hv))
                    · intro e
                      subst e
                      rw [hi] at hj
                      exact hne (Option.some.inj hj)
                    · simpa using hfd
                    · simpa using hca
                  · exact z_bad
            · exact z_bad
          · rename_i x px y py z pz a b c hc0
            split
            · rename_i hc
              simp only [Bool.and_eq_true, decide_eq_true_eq] at hc
              obtain ⟨⟨⟨⟨⟨⟨⟨hx, hy⟩, hz⟩, hl⟩, hl2⟩, hne⟩, hne2⟩, hne3⟩ := hc
              split
              · rename_i hfd
                exact asg_any G hs hf hv (sw_no hfd) n
              · rename_i hfd
                split
                · exact z_bad
                · rename_i hca
                  split
                  · rename_i i' j' l' hi hj hq
                    cases n with
                    | zero => exact z_0
                    | succ n =>
                    have hi : X.N[i']? = some x := by rw [G.N]; exact slotOf_get hi
                    have hj : X.N[j']? = some y := by rw [G.N]; exact slotOf_get hj
                    have hq : X.N[l']? = some z := by rw [G.N]; exact slotOf_get hq
                    refine z_par3 (ps_par3 G.calm G.nd hi hj hq ?_ ?_ ?_ (loc_p hs hx) (loc_p hs hy) (loc_p hs hz) (sa_all ihE n hp) (sw_3 hk' (loc_p hs hx) (loc_p hs hy) (loc_p hs hz) hl hl2 hne hne2 hne3 rfl hp ?_ ?_) (sole_tup hv))
                    · intro e
                      subst e
                      rw [hi] at hj
                      exact hne (Option.some.inj hj)
                    · intro e
                      subst e
                      rw [hi] at hq
                      exact hne2 (Option.some.inj hq)
                    · intro e
                      subst e
                      rw [hj] at hq
                      exact hne3 (Option.some.inj hq)
                    · simpa using hfd
                    · simpa using hca
                  · exact z_bad
            · exact z_bad
          · exact z_bad
      · exact z_bad
    · rename_i hnt
      refine asg_any G hs hf hv ?_ n
      cases v <;> first | rfl | exact absurd rfl (hnt _ _ _)
  | _ => exact z_bad
/-! ### all statements -/
theorem zs_map {g : Stmt → S} : ∀ {l : List Stmt}, (∀ st, PS X st (rdS X.K call wf n (g st))) → PSs X l (rdSs X.K call wf n (l.map g))
  | [], _ => zs_nil
  | st :: l, h => zs_cons (h st) (zs_map h)
theorem snd_S (G : Gd X cx call k) (hs : X.env.scope = sc) (hf : X.fn = fc) (hk : sc.kind = .function) (hp : PassesOwn (model X.prog X.w) X.A X.env X.xe) (m : Nat) : ∀ (d n : Nat) (st : Stmt), PS X st (rdS X.K call wf n (cS cx m sc fc d st))
  | 0, _, _ => z_bad
  | d + 1, n, st => by
    have ih : ∀ (n : Nat) (st : Stmt), PS X st (rdS X.K call wf n (cS cx m sc fc d st)) := fun n st => snd_S G hs hf hk hp m d n st
    have ihE : ∀ (e : Expr) (n : Nat), PE X e (rdE X.K call n (cE cx (m + 1) sc fc e)) ∧ PT X e (rdB X.K call n (cE cx (m + 1) sc fc e)) := fun e n => snd_all (m + 1) X sc fc G hs hf e n
    show PS X st (rdS X.K call wf n (sStep cx (cE cx (m + 1) sc fc) sc fc (cS cx m sc fc d) st))
    cases n with
    | zero => exact z_0
    | succ n =>
    cases st with
    | Pass p => exact z_pass
    | Break p => exact z_brk
    | Continue p => exact z_cont
    | Return v p =>
      cases v with
      | none => exact z_retN
      | some e => exact z_ret (val_ok G hs hf cx.keep e n)
    | Expr e p =>
      rw [show sStep cx (cE cx (m + 1) sc fc) sc fc (cS cx m sc fc d) (.Expr e p) = if isComp e then .bad else .ex (cE cx (m + 1) sc fc e) from rfl]
      split
      · exact z_bad
      · rename_i hc
        exact z_ex (ihE e n).1 (sw_plain (by simpa using hc))
    | If c a b p => exact z_ife (ihE c n).2 (zs_map (ih n)) (zs_map (ih n))
    | For t it body orelse p =>
      cases orelse with
      | cons _ _ => exact z_bad
      | nil =>
        rw [show sStep cx (cE cx (m + 1) sc fc) sc fc (cS cx m sc fc d) (.For t it body [] p) = (match cTg cx.N sc fc 4 t, cIter cx (cE cx (m + 1) sc fc) sc t it with
          | some tg, some (k, es) => .for tg k es (body.map (cS cx m sc fc d))
          | _, _ => .bad) from rfl]
        split
        · rename_i tg ik ies ht hi
          obtain ⟨i1, i2⟩ := iter_ok G hs (fun e n => (ihE e n).1) hi n
          exact z_for hp G.calm i1 (many_of G.N G.nd G.calm hs hf ht) (zs_map (ih n)) i2
        · exact z_bad
    | While c body orelse p =>
      cases orelse with
      | cons _ _ => exact z_bad
      | nil => exact z_whl hp (ihE c n).2 (zs_map (ih n))
    | Assign ts v p =>
      match ts with
      | [] => exact z_bad
      | [t] => exact asg_ok G hs hf hk (n + 1)
      | _ :: _ :: _ => exact z_bad
    | _ => exact z_bad
end
end EV

set_option Elab.async false
set_option linter.all false
set_option maxRecDepth 100000
set_option autoImplicit false
namespace EV
open PySem PySem.Spec PyProof.Rows L2
/-! ### an answer leaves a call -/
section
variable {K : PySem.W.Frag} {as hd as1 : List Addr} {H H1 : Hp}
mutual
theorem Rep.frz (pre : as <+: as1) (nd : as1.Nodup) {m1 : Mm} (ok : Ok K as1 hd H1 m1) : ∀ {d : D} {v : V}, Rep K as1 hd H1 d v → Rep K as hd H1 (D.frz as.length m1 d) v
  | _, _, .non => .non
  | _, _, .bl b => .bl b
  | _, _, .int i => .int i
  | _, _, .str x => .str x
  | _, _, .tup h1 h2 h3 h4 => .tup h1 (fun z => h2 (prefix_mem pre z)) h3 (Reps.frz pre nd ok h4)
  | _, _, .lst h1 h2 h3 h4 => .lst h1 (fun z => h2 (prefix_mem pre z)) h3 (Reps.frz pre nd ok h4)
  | _, _, .ro h1 h2 h3 h4 => .ro h1 (fun z => h2 (prefix_mem pre z)) h3 (Reps.frz pre nd ok h4)
  | _, _, .rok h1 h2 => .rok h1 (Reps.frz pre nd ok h2)
  | _, _, .obj (k := k) (a := a) h => by
    show Rep K as hd H1 (if k < as.length then .obj k else match m1[k]? with | some xs => .lst xs | none => .obj k) (.ref a)
    by_cases hk : k < as.length
    · rw [if_pos hk]
      obtain ⟨t, rfl⟩ := pre
      rw [List.getElem?_append_left hk] at h
      exact .obj h
    · rw [if_neg hk]
      obtain ⟨ds, xs, e1, e2, e3, e4⟩ := ok.cell k a h
      rw [e1]
      refine .lst e2 (fun z => ?_) (ok.dis a (List.mem_of_getElem? h)) (Reps.pures pre e3 e4)
      obtain ⟨j, hj⟩ := List.mem_iff_getElem?.mp z
      have := nd_ix nd h (prefix_get pre hj)
      subst this
      exact hk (List.getElem?_eq_some_iff.mp hj).1
theorem Reps.frz (pre : as <+: as1) (nd : as1.Nodup) {m1 : Mm} (ok : Ok K as1 hd H1 m1) : ∀ {ds : List D} {vs : List V}, Reps K as1 hd H1 ds vs → Reps K as hd H1 (D.frzL as.length m1 ds) vs
  | _, _, .nil => .nil
  | _, _, .cons h1 h2 => .cons (Rep.frz pre nd ok h1) (Reps.frz pre nd ok h2)
theorem Rep.pures (pre : as <+: as1) : ∀ {d : D} {v : V}, Rep K as1 hd H1 d v → d.pure = true → Rep K as hd H1 d v
  | _, _, .non, _ => .non
  | _, _, .bl b, _ => .bl b
  | _, _, .int i, _ => .int i
  | _, _, .str x, _ => .str x
  | _, _, .tup h1 h2 h3 h4, p => .tup h1 (fun z => h2 (prefix_mem pre z)) h3 (Reps.pures pre h4 p)
  | _, _, .lst h1 h2 h3 h4, p => .lst h1 (fun z => h2 (prefix_mem pre z)) h3 (Reps.pures pre h4 p)
  | _, _, .ro h1 h2 h3 h4, p => .ro h1 (fun z => h2 (prefix_mem pre z)) h3 (Reps.pures pre h4 p)
  | _, _, .rok h1 h2, p => .rok h1 (Reps.pures pre h2 p)
  | _, _, .obj h, p => nomatch p
theorem Reps.pures (pre : as <+: as1) : ∀ {ds : List D} {vs : List V}, Reps K as1 hd H1 ds vs → D.pureL ds = true → Reps K as hd H1 ds vs
  | _, _, .nil, _ => .nil
  | _, _, .cons h1 h2, p => .cons (Rep.pures pre h1 (Bool.and_eq_true_iff.mp p).1) (Reps.pures pre h2 (Bool.and_eq_true_iff.mp p).2)
end
theorem out_ok {m : Mm} (ok : Ok K as hd H m) {keep : Bool} {Q : VK} {o : O} (h : Post K (Rep K) as hd H Q (outD keep m o)) : PostS K as hd H { nx := fun _ H' => Q .non H', rt := Q } o := by
  have back : ∀ {as1 : List Addr} {H1 : Hp} {m1 : Mm}, Step as hd H as1 hd H1 → Ok K as1 hd H1 m1 → Step as hd H as hd H1 ∧ Ok K as hd H1 (m1.take m.length) := fun {as1 H1 m1} st ok1 => by
    refine ⟨⟨List.prefix_refl _, st.keep, fun a z => .inl z, fun a z => .inr (.inl z)⟩, ?_⟩
    have hl : as.length ≤ as1.length := st.pre.length_le
    have e1 := ok1.len
    have e0 := ok.len
    refine ⟨by rw [List.length_take]; omega, ok.nd, ok.dis, fun k a e => ?_, ok1.hdn⟩
    obtain ⟨ds, xs, h1, h2, h3, h4⟩ := ok1.cell k a (prefix_get st.pre e)
    have hk := (List.getElem?_eq_some_iff.mp e).1
    exact ⟨ds, xs, by rw [List.getElem?_take_of_lt (by omega)]; exact h1, h2, Reps.pures st.pre h3 h4, h4⟩
  cases o with
  | nx ρ m1 =>
    intro as1 H1 σ1 st ok1 env1
    cases keep with
    | true => exact h as1 H1 .non st ok1 .non
    | false =>
      obtain ⟨st', ok'⟩ := back st ok1
      exact h as H1 .non st' ok' .non
  | rt d m1 =>
    intro as1 H1 v st ok1 r
    cases keep with
    | true => exact h as1 H1 v st ok1 r
    | false =>
      obtain ⟨st', ok'⟩ := back st ok1
      have h : Post K (Rep K) as hd H Q (.ok (D.frz m.length m1 d) (m1.take m.length)) := h
      refine h as H1 v st' ok' ?_
      rw [← ok.len]
      exact r.frz st.pre ok1.nd ok1
  | bk ρ m1 => exact h.elim
  | ct ρ m1 => exact h.elim
  | bad => exact h.elim
theorem env_start {as hd : List Addr} {H : Hp} {ds : List D} {vs : List V} {N : List Str} (r : Reps K as hd H ds vs) : EnvR K as hd H (startD N.length ds) (L2.start N vs) := by
  refine ⟨?_, fun i d h => ?_⟩
  · unfold startD L2.start
    rw [List.length_append, List.length_append, List.length_map, List.length_map, List.length_replicate, List.length_replicate, r.length]
  · unfold startD at h
    by_cases hi : i < ds.length
    · rw [List.getElem?_append_left (by simpa using hi), List.getElem?_map] at h
      cases q : ds[i]? with
      | none => rw [q] at h; cases h
      | some d' =>
        rw [q] at h
        cases h
        obtain ⟨v, hv, rv⟩ := r.got q
        refine ⟨v, ?_, rv⟩
        unfold L2.start
        have hi2 : i < vs.length := by rw [← r.length]; exact hi
        rw [List.getElem?_append_left (by simpa using hi2), List.getElem?_map, hv]
        rfl
    · rw [List.getElem?_append_right (by simpa using hi), List.getElem?_replicate] at h
      split at h <;> cases h
end
/-! ### the defs of a row -/
structure Bs where
  fns : List Str
  free : List Str
  gi : List (Str × Int)
  gs : List (Str × Str)
  kws : List (Nat × List Str × List Nat)
structure Dec where
  d : He.DefD
  N : List Str
  ps : List Str
  chg : List Nat
  keep : Bool
def Dec.cx (B : Bs) (z : Dec) : CC := { N := z.N, fns := B.fns, free := B.free, gi := B.gi, gs := B.gs, kws := B.kws, chg := z.chg, keep := z.keep }
def Dec.fd (B : Bs) (z : Dec) : Fd := ⟨z.N.length, z.ps.length, z.d.body.map (cS (z.cx B) 40 z.d.scope (fun _ => true) 40), z.keep⟩
structure Fact (K : PySem.W.Frag) (mg : Str → Option Value) (B : Bs) (i : Nat) (z : Dec) (f : Addr) (fd : FuncData) : Prop where
  fn : FunD K z.d.name z.d.qual z.d.params z.d.body z.d.scope [] [] f fd
  glo : mg z.d.name = some (.ref f)
  binds : Binds K fd z.ps []
  kb : ∀ p, p ∈ B.kws → p.1 = i → KB K fd z.ps p.2.1 p.2.2
structure RowF (K : PySem.W.Frag) (mg : Str → Option Value) (B : Bs) (L : List Dec) : Prop where
  fact : ∀ (i : Nat) (z : Dec), L[i]? = some z → ∃ f fd, Fact K mg B i z f fd
  fns : ∀ (i : Nat) (x : Str), B.fns[i]? = some x → ∃ z : Dec, L[i]? = some z ∧ z.d.name = x
  sc : ∀ z : Dec, z ∈ L → FnScope z.N z.ps z.d.scope
  free : ∀ x, x ∈ B.free → mg x = none
  gi : ∀ x i, B.gi.lookup x = some i → ∃ t, mg x = some (.int i t)
  gs : ∀ x i, B.gs.lookup x = some i → ∃ t, mg x = some (.str i t)
theorem call_arity {L : List Dec} {B : Bs} {wf fuel k i : Nat} {z : Dec} (h : L[i]? = some z) : Arity (callN (L.map (Dec.fd B)) wf fuel k) i z.ps.length := by
  intro ds m hl
  cases k with
  | zero => rfl
  | succ k =>
    show (match (L.map (Dec.fd B))[i]? with
      | some g => if ds.length = g.params then outD g.keep m (evSs (fun s r m => evS (callN (L.map (Dec.fd B)) wf fuel k) wf fuel s r m) g.body (startD g.many ds) m) else .bad
      | none => .bad) = .bad
    rw [List.getElem?_map, h]
    exact if_neg hl
theorem fn_tab {P : Program} {w : World} {K : PySem.W.Frag} {mg : Str → Option Value} {base : Heap} {B : Bs} {L : List Dec} (T : RowF K mg B L) (wf fuel : Nat) :
    ∀ k i z f fd, L[i]? = some z → Fact K mg B i z f fd → FnG P w K mg base (2 * k) f fd z.ps (spV K (callN (L.map (Dec.fd B)) wf fuel k) i z.ps.length)
  | 0, i, z, f, fd, h, F => ⟨fun vs H Q q => q.1, fun A outer s H args us vs Q _ _ _ _ ⟨_, as, hd, ds, m, ok, r, q⟩ => False.elim q⟩
  | k + 1, i, z, f, fd, h, F => by
    have ih := fn_tab (P := P) (w := w) (base := base) T wf fuel k
    have S := T.sc z (List.mem_of_getElem? h)
    refine fng_of (k := 2 * k + 1) F.fn S (fun vs H Q q => q.1) fun cdv A outer s H vs Q hr hsp => ?_
    obtain ⟨hl, as, hd, ds, m, ok, r, q⟩ := hsp
    have q : Post K (Rep K) as hd H Q (match (L.map (Dec.fd B))[i]? with
      | some g => if ds.length = g.params then outD g.keep m (evSs (fun s r m => evS (callN (L.map (Dec.fd B)) wf fuel k) wf fuel s r m) g.body (startD g.many ds) m) else .bad
      | none => .bad) := q
    rw [List.getElem?_map, h] at q
    have q : Post K (Rep K) as hd H Q (if ds.length = z.ps.length then outD z.keep m (evSs (fun s r m => evS (callN (L.map (Dec.fd B)) wf fuel k) wf fuel s r m) (z.d.body.map (cS (z.cx B) 40 z.d.scope (fun _ => true) 40)) (startD z.N.length ds) m) else .bad) := q
    rw [if_pos (by rw [r.length]; exact hl)] at q
    have G : Gd (cxOf CX0 P w K mg base z.N z.d.qual z.d.scope f cdv A outer s H E0).nox (z.cx B) (callN (L.map (Dec.fd B)) wf fuel k) (2 * k) := by
      refine ⟨rfl, S.nd, rfl, hr, fun j x hj => ?_, T.free, T.gi, T.gs⟩
      obtain ⟨y, hy, e⟩ := T.fns j x hj
      obtain ⟨g, gd, FG⟩ := T.fact j y hy
      exact ⟨g, gd, y.ps, y.ps.length, by rw [← e]; exact FG.glo, FG.fn.kp, FG.binds, ih j y g gd hy FG, call_arity hy, FG.kb⟩
    exact ⟨_, zs_map fun st => snd_S G rfl rfl S.kind PassesOwn.never 40 40 fuel st, as, hd, _, m, ok, env_start r, out_ok ok q⟩
end EV

set_option Elab.async false
set_option linter.all false
set_option maxRecDepth 100000
set_option autoImplicit false
namespace EV
open PySem PySem.Spec PyProof.Rows L2
/-! ### the law's call -/
section
variable {P : Program} {w : World} {K : PySem.W.Frag} {mg mb : Str → Option Value} {s : Shared} {a : Addr}
/-- what stands behind the top, with at most the script tracked -/
structure Bed (K : PySem.W.Frag) (mg mb : Str → Option Value) (s : Shared) : Prop where
  kin : K.In s.heap
  glob : s.heap.Ns mainGlobals mg
  blt : s.heap.Ns builtinsNs mb
  boot : ∀ x : Str, x ≠ "__name__" → mb x = bootBuiltins x
  lim : s.heap.NoLimit
  gens : s.gens = #[]
theorem bed_env (D : Bed K mg mb s) {vs : Array Value} {H : Hp} (ha : s.heap.get? a = some { cls := .type "list", data := .seq vs }) (hok : HOk P w H s.heap) (one : ∀ b, H b ≠ none → b = a) (off : H a ≠ none → K.lookup a = none) :
    K.In (hidT s.heap H) ∧ (hidT s.heap H).Ns mainGlobals mg ∧ Env0 P w K mg (hidT s.heap H) callerA [] s H := by
  have free : ∀ {b : Addr}, b ≠ a → H b = none := fun {b} n => by
    cases q : H b with
    | none => rfl
    | some u => exact absurd (one b (by rw [q]; exact Option.some_ne_none _)) n
  have ns : ∀ {b : Addr} {m : Str → Option Value}, s.heap.Ns b m → (hidT s.heap H).Ns b m := fun {b m} ⟨o, es, ep, e, d, r⟩ => by
    refine ⟨o, es, ep, hidT_get e (free fun z => ?_), d, r⟩
    subst z
    rw [ha] at e
    cases e
    exact Data.noConfusion d
  have kin : K.In (hidT s.heap H) := fun b o e => hidT_get (D.kin b o e) (by
    by_cases z : b = a
    · subst z
      cases q : H b with
      | none => rfl
      | some u =>
        have := off (by rw [q]; exact Option.some_ne_none _)
        rw [e] at this
        cases this
    · exact free z)
  obtain ⟨mc, l1, l2⟩ := D.lim
  exact ⟨kin, ns D.glob, ⟨rfl, ⟨kin, ns D.glob, ⟨mb, ns D.blt, D.boot⟩, ⟨mc, ns l1, l2⟩⟩, fun b o e => of_hidT e, Nat.le_of_eq (hidT_size _ _), trivial, fun b z => absurd z List.not_mem_nil, hok, .of_eq D.gens⟩⟩
theorem shut_true {H : Hp} {s' : Shared} {u : Value} (hO : Only H) (hok : HOk P w H s.heap) (h : CE [] P w H s (fun v _ => v = .bl true) u s') : u = .bool true ∧ OldK s.heap s'.heap ∧ s'.os = s.os ∧ AllBare s'.gens := by
  obtain ⟨v, H', os, bare, un, hok', r, q⟩ := h
  have q : v = .bl true := q
  subst q
  refine ⟨r, OldK.of_keep fun b o e => ?_, os, bare⟩
  rcases hO b with z | ⟨o', xs, z⟩
  · exact un.keep b o e z List.not_mem_nil List.not_mem_nil
  · obtain ⟨e1, _⟩ := hok b _ z
    obtain ⟨e2, _⟩ := hok' b _ (un.frzs b o' _ z)
    rw [e] at e1
    cases e1
    exact e2
theorem law_g {k : Nat} {fa : Addr} {fd : FuncData} {x : Str} {sp : Prm} {vs : List Value} {ns : List Int} (D : Bed K mg mb s) (ha : s.heap.get? a = some { cls := .type "list", data := .seq vs.toArray }) (hi : IntsAre vs ns) (hl : ns.length ≤ sizeLine) (hr : Rm k callerA)
    (F : ∀ base : Heap, K.In base → base.Ns mainGlobals mg → FnG P w K mg base k fa fd [x] sp) (hb : BindsTo s fd ⟨[.ref a], []⟩ [(x, .ref a)]) (hsp : ∀ H : Hp, SqL K H a (ns.map V.int) → sp [.ref a] H fun v _ => v = .bl true) :
    codeAny (model P w) callerA (.call (.ref fa) ⟨[.ref a], []⟩) (fun r s' => r = .ok (.ret (.bool true)) ∧ OldK s.heap s'.heap ∧ s'.os = s.os ∧ AllBare s'.gens) s := by
  have go : ∀ H : Hp, Only H → HOk P w H s.heap → (∀ b, H b ≠ none → b = a) → (H a ≠ none → K.lookup a = none) → SqL K H a (ns.map V.int) →
      codeAny (model P w) callerA (.call (.ref fa) ⟨[.ref a], []⟩) (fun r s' => r = .ok (.ret (.bool true)) ∧ OldK s.heap s'.heap ∧ s'.os = s.os ∧ AllBare s'.gens) s := fun H hO hok one off hS => by
    obtain ⟨b1, b2, b3⟩ := bed_env D ha hok one off
    refine codeAny_mono ((F _ b1 b2).go callerA [] s H ⟨[.ref a], []⟩ [.ref a] [.ref a] _ hr b3 hb (.cons rfl .nil) (hsp H hS)) fun r s' q => ?_
    cases r with
    | error e => exact False.elim q
    | ok fl =>
      cases fl with
      | ret u =>
        obtain ⟨rfl, q2⟩ := shut_true hO hok q
        exact ⟨rfl, q2⟩
      | next => exact False.elim q
      | brk => exact False.elim q
      | cont => exact False.elim q
  cases hk : K.lookup a with
  | some o =>
    have e := (D.kin a o hk).symm.trans ha
    cases e
    have q : ∀ H' : Hp, SqL K H' a (ns.map V.int) := fun H' => .inr ⟨_, vs.toArray, _, hk, rfl, rfl, rfl, by rw [List.size_toArray, hi.length]; exact hl, by simpa using vals_ints hi⟩
    exact go (fun _ => none) (fun _ => .inl rfl) (fun b u z => nomatch z) (fun b z => absurd rfl z) (fun z => absurd rfl z) (q _)
  | none =>
    have at_a : (fun b => if b = a then some (HO.frz { cls := .type "list", data := .seq vs.toArray } (.lst (ns.map V.int))) else none : Hp) a = some (HO.frz { cls := .type "list", data := .seq vs.toArray } (.lst (ns.map V.int))) := if_pos rfl
    refine go (fun b => if b = a then some (.frz { cls := .type "list", data := .seq vs.toArray } (.lst (ns.map V.int))) else none) (fun b => ?_) (fun b u z => ?_) (fun b z => ?_) (fun _ => hk) (.inl (.inr ⟨_, at_a⟩))
    · by_cases e : b = a
      · exact .inr ⟨_, _, if_pos e⟩
      · exact .inl (if_neg e)
    · by_cases e : b = a
      · subst e
        cases at_a.symm.trans z
        exact ⟨ha, by rw [List.length_map]; exact hl, vs, _, vals_ints hi, ha⟩
      · exact absurd ((if_neg e).symm.trans z) (fun q => nomatch q)
    · by_cases e : b = a
      · exact e
      · exact absurd (if_neg e) z
end
theorem reps_ints {K : PySem.W.Frag} {as hd : List Addr} {H : Hp} : ∀ ns : List Int, Reps K as hd H (ns.map D.int) (ns.map V.int)
  | [] => .nil
  | n :: ns => .cons (.int n) (reps_ints ns)
theorem walk_g {l : PySem.W.OpenLaw} {n k : Nat} {q : Program} {loose : List Str} {XP : (Str → Option Value) → Heap → Prop} {YP : World → Heap → Prop} {d : DefRec} {x : Str} {B : Bs} {L : List Dec} {i : Nat} {z : Dec}
    (hn : l.most = some n) (hn2 : n ≤ sizeLine) (hdf : d.params.defaults = []) (hr : Rm (2 * k) callerA) (hz : L[i]? = some z) (hzn : z.d.name = d.name) (hzp : z.ps = [x])
    (hY : ∀ (w : World) (h : Heap) (mg : Str → Option Value), YP w h → h.Ns mainGlobals mg → ∃ K : PySem.W.Frag, K.In h ∧ RowF K mg B L)
    (go : ∀ ns : List Int, ns.length ≤ n → (∀ z ∈ ns, Builtin.Int.intBits z ≤ 1048576) → ∃ wf fuel m, callN (L.map (Dec.fd B)) wf fuel k i [.ro (ns.map .int)] [] = .ok (.bl true) m) :
    PySem.W.WalkO q loose XP YP l.row.toRowW d [] (fun f vs => PySem.call f vs) := by
  refine Att.attach_callB hn hdf fun w s₀ s₁ mg mb fa o pm cd doc a vs ns G Y ho hd hcd hmg hobj hints hlen hbits hg => ?_
  obtain ⟨K, KX, T⟩ := hY w _ mg Y G.T.g
  obtain ⟨f, fd, F⟩ := T.fact i z hz
  have e : f = fa := by
    have := F.glo
    rw [hzn, hmg] at this
    cases this
    rfl
  subst e
  obtain ⟨wf, fuel, m, hv⟩ := go ns hlen hbits
  have hb : BindsTo s₁ fd ⟨[.ref a], []⟩ [(x, .ref a)] := by
    have := F.binds s₁ [.ref a] KX (by rw [hzp]; rfl)
    rw [hzp] at this
    exact this
  refine law_g (x := x) ⟨KX, G.T.g, G.T.b, G.T.builtins, G.T.nolimit, hg⟩ hobj hints (Nat.le_trans hlen hn2) hr (fun base b1 b2 => ?_) hb (sp := spV K (callN (L.map (Dec.fd B)) wf fuel k) i z.ps.length) fun H hS => ?_
  · have := fn_tab (P := l.prog) (w := w) (base := base) T wf fuel k i z f fd hz F
    rw [hzp] at this ⊢
    exact this
  · refine ⟨by rw [hzp]; rfl, [], [], [.ro (ns.map .int)], [], ⟨rfl, List.nodup_nil, fun a z => absurd z List.not_mem_nil, fun k a e => ?_, fun a z => absurd z List.not_mem_nil⟩, .cons ?_ .nil, ?_⟩
    · cases e
    · rcases hS with q | q
      · exact .ro q List.not_mem_nil List.not_mem_nil (reps_ints ns)
      · exact .rok (fun H' => .inr q) (reps_ints ns)
    · rw [hv]
      intro as' H' b st ok r
      cases r
      rfl
end EV

set_option Elab.async false
set_option linter.all false
set_option maxRecDepth 100000
set_option autoImplicit false
namespace EV
open PySem PySem.Spec PyProof.Rows L2
/-! ### a row's facts, from the head's -/
def AllAt {α : Type} (P : Nat → α → Prop) : Nat → List α → Prop
  | _, [] => True
  | k, z :: r => P k z ∧ AllAt P (k + 1) r
theorem all_from {α : Type} {P : Nat → α → Prop} : ∀ {l : List α} {k : Nat}, AllAt P k l → ∀ i z, l[i]? = some z → P (k + i) z
  | [], _, _, i, z, h => nomatch h
  | y :: r, k, h, 0, z, e => by
    cases e
    exact h.1
  | y :: r, k, h, i + 1, z, e => by
    have := all_from h.2 i z (by simpa using e)
    rw [show k + (i + 1) = k + 1 + i by omega]
    exact this
theorem all_at {α : Type} {P : Nat → α → Prop} {l : List α} (h : AllAt P 0 l) (i : Nat) (z : α) (e : l[i]? = some z) : P i z := by
  have := all_from h i z e
  rwa [Nat.zero_add] at this
def AllL {α : Type} (P : α → Prop) : List α → Prop
  | [] => True
  | z :: r => P z ∧ AllL P r
theorem all_l {α : Type} {P : α → Prop} : ∀ {l : List α}, AllL P l → ∀ z, z ∈ l → P z
  | [], _, z, h => absurd h List.not_mem_nil
  | y :: r, h, z, m => by
    rcases List.mem_cons.mp m with rfl | m
    · exact h.1
    · exact all_l h.2 z m
abbrev KwB (z : Dec) (ks : List Str) (ix : List Nat) : Prop := ∀ (kV doc pm : Value) (an : Option Addr) (cdv ct : Value) (ws us : List Value), ws.length = ks.length → pick ix ws = some us →
  bindArgs (PySem.W.fnOf z.d.name z.d.qual z.d.params z.d.body z.d.scope .none kV doc pm an cdv ct) ⟨[], ks.zip ws⟩ = pure (z.ps.zip us)
theorem fact_of {K : PySem.W.Frag} {h : Heap} {mg : Str → Option Value} {fa : List He.Fa} {fn : List He.DefD} {B : Bs} {z : Dec} (X : K.In h) (G : h.Ns mainGlobals mg) (c : He.SaysD fa fn K) (i : Nat) (hi : fn[i]? = some z.d) (h1 : z.d.dfl = []) (h2 : z.d.kwd = []) (h3 : z.d.at_ = (z.d.name, none))
    (hg : mg z.d.name = some (.ref (He.ga K z.d.name))) (hb : ∀ (kV doc pm : Value) (an : Option Addr) (cdv ct : Value) (us : List Value), us.length = z.ps.length → bindArgs (PySem.W.fnOf z.d.name z.d.qual z.d.params z.d.body z.d.scope .none kV doc pm an cdv ct) ⟨us, []⟩ = pure (z.ps.zip us))
    (hk : ∀ p : Nat × List Str × List Nat, p ∈ B.kws → p.1 = i → KwB z p.2.1 p.2.2) : ∃ f fd, Fact K mg B i z f fd := by
  obtain ⟨fd, F⟩ := c.def_ i hi
  have e1 : z.d.dvs K = [] := by unfold He.DefD.dvs; rw [h1]; rfl
  have e2 : z.d.kws K = [] := by unfold He.DefD.kws; rw [h2]; rfl
  have e3 : He.fAd K z.d.at_ = He.ga K z.d.name := by rw [h3]; rfl
  rw [e1, e2, e3] at F
  refine ⟨_, fd, F, hg, fun s us hk hl => ?_, fun p hp hi s ws us hk' hl hpk => ?_⟩
  · rw [List.append_nil] at hl ⊢
    exact F.bindsA hb s us hl
  · obtain ⟨oc, od, dV, kV, doc, pm, an, cdv, ct, osl, rfl, lk, hcd, hD, hK⟩ := F.ex
    rcases hD with ⟨_, rfl⟩ | ⟨e, _⟩
    · exact .of_eq (hk p hp hi kV doc pm an cdv ct ws us hl hpk)
    · exact absurd rfl e
theorem kw_all {Q : Nat × List Str × List Nat → Prop} {l : List (Nat × List Str × List Nat)} (h : AllL Q l) : ∀ p, p ∈ l → Q p := all_l h
theorem fns_at {l : List Str} {L : List Dec} (h : l = L.map fun z => z.d.name) (i : Nat) (x : Str) (e : l[i]? = some x) : ∃ z : Dec, L[i]? = some z ∧ z.d.name = x := by
  rw [h, List.getElem?_map] at e
  cases q : L[i]? with
  | none => rw [q] at e; cases e
  | some z =>
    rw [q] at e
    cases e
    exact ⟨z, rfl, rfl⟩
theorem fact_in {fa : List He.Fa} {fn : List He.DefD} {K : PySem.W.Frag} (c : He.SaysD fa fn K) {n : Nat} {l : List He.Fa} (h : (fa.drop n).take l.length = l) {f : He.Fa} (hf : f ∈ l) : f.ok K = true := by
  rw [← h] at hf
  obtain ⟨i, hi⟩ := List.mem_iff_getElem?.mp (List.mem_of_mem_drop (List.mem_of_mem_take hf))
  exact c.fact i hi
theorem free_at {K : PySem.W.Frag} {h : Heap} {mg : Str → Option Value} {fa : List He.Fa} {fn : List He.DefD} {l : List Str} (X : K.In h) (G : h.Ns mainGlobals mg) (c : He.SaysD fa fn K) (n : Nat) (e : (fa.drop n).take (l.map He.Fa.free).length = l.map He.Fa.free) : ∀ x, x ∈ l → mg x = none := fun x hx =>
  He.free_ok X G (fact_in c e (List.mem_map_of_mem hx))
theorem look_mem {α : Type} {x : Str} {i : α} : ∀ {l : List (Str × α)}, l.lookup x = some i → (x, i) ∈ l
  | [], h => nomatch h
  | (y, j) :: r, h => by
    rw [List.lookup_cons] at h
    split at h
    · rename_i e
      cases h
      rw [LawfulBEq.eq_of_beq e]
      exact List.mem_cons_self
    · exact List.mem_cons_of_mem _ (look_mem h)
theorem gi_at {K : PySem.W.Frag} {h : Heap} {mg : Str → Option Value} {fa : List He.Fa} {fn : List He.DefD} {l : List (Str × Int)} (X : K.In h) (G : h.Ns mainGlobals mg) (c : He.SaysD fa fn K) (n : Nat) (e : (fa.drop n).take (l.map fun p => He.Fa.int p.1 p.2).length = l.map fun p => He.Fa.int p.1 p.2) :
    ∀ x i, l.lookup x = some i → ∃ t, mg x = some (.int i t) := fun x i hx => He.int_ok X G (fact_in c e (List.mem_map_of_mem (f := fun p : Str × Int => He.Fa.int p.1 p.2) (look_mem hx)))
theorem gs_at {K : PySem.W.Frag} {h : Heap} {mg : Str → Option Value} {fa : List He.Fa} {fn : List He.DefD} {l : List (Str × Str)} (X : K.In h) (G : h.Ns mainGlobals mg) (c : He.SaysD fa fn K) (n : Nat) (e : (fa.drop n).take (l.map fun p => He.Fa.str p.1 p.2).length = l.map fun p => He.Fa.str p.1 p.2) :
    ∀ x i, l.lookup x = some i → ∃ t, mg x = some (.str i t) := fun x i hx => He.str_ok X G (fact_in c e (List.mem_map_of_mem (f := fun p : Str × Str => He.Fa.str p.1 p.2) (look_mem hx)))
end EV

set_option Elab.async false
set_option linter.all false
set_option maxRecDepth 100000
set_option autoImplicit false
namespace EV
open PySem PySem.Spec PyProof.Rows L2
/-! ### the evaluator by simp -/
section
variable {α β : Type} {call : Nat → List D → Mm → R D} {wf n k : Nat} {a b c e : E} {es : List E} {r ρ : Rho} {m : Mm} {i j : Int} {x y : D} {p q : Prop} [Decidable p] [Decidable q]
def andK (x : D) (m : Mm) (f : Mm → R D) : R D := match x with
  | .bl true => f m
  | .bl false => .ok (.bl false) m
  | _ => .bad
def orK (x : D) (m : Mm) (f : Mm → R D) : R D := match x with
  | .bl false => f m
  | .bl true => .ok (.bl true) m
  | _ => .bad
def truK {γ : Type} (o : Option Bool) (t f z : γ) : γ := match o with
  | some true => t
  | some false => f
  | none => z
@[simp] theorem andK_bl (c : Bool) (f : Mm → R D) : andK (.bl c) m f = if c = true then f m else .ok (.bl false) m := by cases c <;> rfl
@[simp] theorem orK_bl (c : Bool) (f : Mm → R D) : orK (.bl c) m f = if c = true then .ok (.bl true) m else f m := by cases c <;> rfl
@[simp] theorem truK_some {γ : Type} (c : Bool) (t f z : γ) : truK (some c) t f z = if c = true then t else f := by cases c <;> rfl
@[simp] theorem truth_bl (c : Bool) : D.truth m (.bl c) = some c := id rfl
@[simp] theorem truth_non : D.truth m .non = some false := id rfl
@[simp] theorem truth_int : D.truth m (.int i) = some (i != 0) := id rfl
@[simp] theorem truth_lst {xs : List D} : D.truth m (.lst xs) = some (!xs.isEmpty) := id rfl
@[simp] theorem truth_tup {xs : List D} : D.truth m (.tup xs) = some (!xs.isEmpty) := id rfl
@[simp] theorem bind_ite {A B : R α} {f : α → Mm → R β} : (if p then A else B).bind f = if p then A.bind f else B.bind f := by split <;> rfl
@[simp] theorem stm_ite {A B : R α} {f : α → Mm → O} : (if p then A else B).stm f = if p then A.stm f else B.stm f := by split <;> rfl
@[simp] theorem stm_ok {a : α} {f : α → Mm → O} : (R.ok a m).stm f = f a m := id rfl
@[simp] theorem stm_bad {f : α → Mm → O} : (R.bad : R α).stm f = .bad := id rfl
@[simp] theorem obind_ite {A B : O} {f : Rho → Mm → O} : (if p then A else B).bind f = if p then A.bind f else B.bind f := by split <;> rfl
@[simp] theorem obind_nx {f : Rho → Mm → O} : (O.nx r m).bind f = f r m := id rfl
@[simp] theorem obind_rt {f : Rho → Mm → O} {d : D} : (O.rt d m).bind f = .rt d m := id rfl
@[simp] theorem obind_bk {f : Rho → Mm → O} : (O.bk r m).bind f = .bk r m := id rfl
@[simp] theorem obind_ct {f : Rho → Mm → O} : (O.ct r m).bind f = .ct r m := id rfl
@[simp] theorem obind_bad {f : Rho → Mm → O} : O.bad.bind f = .bad := id rfl
@[simp] theorem out_ite {kp : Bool} {A B : O} : outD kp m (if p then A else B) = if p then outD kp m A else outD kp m B := by split <;> rfl
@[simp] theorem out_rt {d : D} {m1 : Mm} : outD false m (.rt d m1) = .ok (D.frz m.length m1 d) (m1.take m.length) := id rfl
@[simp] theorem out_rt1 {d : D} {m1 : Mm} : outD true m (.rt d m1) = .ok d m1 := id rfl
@[simp] theorem out_nx {m1 : Mm} : outD false m (.nx r m1) = .ok .non (m1.take m.length) := id rfl
@[simp] theorem ok_and {c : Bool} : (if p then R.ok (D.bl c) m else .ok (D.bl false) m) = .ok (D.bl (decide p && c)) m := by by_cases h : p <;> simp [h]
@[simp] theorem ok_or {c : Bool} : (if p then R.ok (D.bl true) m else .ok (D.bl c) m) = .ok (D.bl (decide p || c)) m := by by_cases h : p <;> simp [h]
/-! expressions -/
@[simp] theorem eE_var {i : Nat} : evE call (n + 1) (.var i) ρ m = match ρ[i]? with
      | some (some d) => .ok d m
      | _ => .bad := id rfl
@[simp] theorem eE_non : evE call (n + 1) .non ρ m = .ok .non m := id rfl
@[simp] theorem eE_bl {b : Bool} : evE call (n + 1) (.bl b) ρ m = .ok (.bl b) m := id rfl
@[simp] theorem eE_int : evE call (n + 1) (.int i) ρ m = .ok (.int i) m := id rfl
@[simp] theorem eE_str {x : Str} : evE call (n + 1) (.str x) ρ m = .ok (.str x) m := id rfl
@[simp] theorem eE_tup : evE call (n + 1) (.tup es) ρ m = (evEs (fun e m => evE call n e ρ m) es m).bind fun ds m1 => .ok (.tup ds) m1 := id rfl
@[simp] theorem eE_lst : evE call (n + 1) (.lst es) ρ m = (evEs (fun e m => evE call n e ρ m) es m).bind fun ds m1 => .ok (.lst ds) m1 := id rfl
@[simp] theorem eE_bin {o : Bop} : evE call (n + 1) (.bin o a b) ρ m = (evE call n a ρ m).bind fun x m1 => (evE call n b ρ m1).bind fun y m2 => R.opt (binD m2 o x y) m2 := id rfl
@[simp] theorem eE_neg : evE call (n + 1) (.neg a) ρ m = (evE call n a ρ m).bind fun x m1 => match x with
      | .int i => .ok (.int (-i)) m1
      | _ => .bad := id rfl
@[simp] theorem eE_cmp {o : Cop} : evE call (n + 1) (.cmp o a b) ρ m = (evE call n a ρ m).bind fun x m1 => (evE call n b ρ m1).bind fun y m2 => R.opt ((cmpD m2 o x y).map .bl) m2 := id rfl
@[simp] theorem eE_and : evE call (n + 1) (.and a b) ρ m = (evE call n a ρ m).bind fun x m1 => andK x m1 fun m => evE call n b ρ m := id rfl
@[simp] theorem eE_or : evE call (n + 1) (.or a b) ρ m = (evE call n a ρ m).bind fun x m1 => orK x m1 fun m => evE call n b ρ m := id rfl
@[simp] theorem eE_not : evE call (n + 1) (.not a) ρ m = (evE call n a ρ m).bind fun x m1 => match x with
      | .bl b => .ok (.bl (!b)) m1
      | _ => .bad := id rfl
@[simp] theorem eE_ife : evE call (n + 1) (.ife c a b) ρ m = (evE call n c ρ m).bind fun x m1 => truK (x.truth m1) (evE call n a ρ m1) (evE call n b ρ m1) .bad := id rfl
@[simp] theorem eE_idx : evE call (n + 1) (.idx a b) ρ m = (evE call n a ρ m).bind fun x m1 => (evE call n b ρ m1).bind fun y m2 => R.opt (idxD m2 x y) m2 := id rfl
@[simp] theorem eE_cut {l h : Option E} : evE call (n + 1) (.cut a l h) ρ m = (evE call n a ρ m).bind fun x m1 => (evO (fun e m => evE call n e ρ m) l m1).bind fun y m2 => (evO (fun e m => evE call n e ρ m) h m2).bind fun z m3 => R.opt (cutD m3 y z x) m3 := id rfl
@[simp] theorem eE_call {f : Nat} : evE call (n + 1) (.call f es) ρ m = (evEs (fun e m => evE call n e ρ m) es m).bind fun ds m1 => call f ds m1 := id rfl
@[simp] theorem eE_callk {f : Nat} {ix : List Nat} : evE call (n + 1) (.callk f es ix) ρ m = (evEs (fun e m => evE call n e ρ m) es m).bind fun ds m1 => match pick ix ds with
      | some ds' => call f ds' m1
      | none => .bad := id rfl
@[simp] theorem eE_bi {f : Bi} : evE call (n + 1) (.bi f es) ρ m = (evEs (fun e m => evE call n e ρ m) es m).bind fun ds m1 => R.opt (biD m1 f ds) m1 := id rfl
@[simp] theorem eE_mt {f : Mt} : evE call (n + 1) (.mt f a es) ρ m = (evE call n a ρ m).bind fun x m1 => if mtOk f x then (evEs (fun e m => evE call n e ρ m) es m1).bind fun ds m2 => mtD m2 f x ds else .bad := id rfl
@[simp] theorem eE_chain {o o2 : Cop} : evE call (n + 1) (.chain o o2 a b c) ρ m = (evE call n a ρ m).bind fun x m1 => (evE call n b ρ m1).bind fun y m2 => truK (cmpD m2 o x y) ((evE call n c ρ m2).bind fun z m3 => R.opt ((cmpD m3 o2 y z).map .bl) m3) (.ok (.bl false) m2) .bad := id rfl
@[simp] theorem eEs_nil {f : E → Mm → R D} : evEs f [] m = .ok [] m := id rfl
@[simp] theorem eEs_cons {f : E → Mm → R D} : evEs f (e :: es) m = (f e m).bind fun d m1 => (evEs f es m1).bind fun ds m2 => .ok (d :: ds) m2 := id rfl
@[simp] theorem eE_newc : evE call (n + 1) (.newc e) ρ m = (evE call n e ρ m).bind fun d m1 => match d with
      | .lst ds => if D.pureL ds then .ok (.obj m1.length) (m1 ++ [ds]) else .bad
      | _ => .bad := id rfl
/-! statements -/
variable {s : S} {ss bd bd2 : List S} {t : Tg}
@[simp] theorem eS_set : evS call wf (n + 1) (.set t e) ρ m = (evE call n e ρ m).stm fun d m1 => match setT t d ρ with
      | some r1 => .nx r1 m1
      | none => .bad := id rfl
@[simp] theorem eS_par {is : List Nat} : evS call wf (n + 1) (.par is es) ρ m = (evEs (fun e m => evE call n e ρ m) es m).stm fun ds m1 => match setPar is ds ρ with
      | some r1 => .nx r1 m1
      | none => .bad := id rfl
@[simp] theorem eS_ret : evS call wf (n + 1) (.ret e) ρ m = (evE call n e ρ m).stm fun d m1 => .rt d m1 := id rfl
@[simp] theorem eS_ex : evS call wf (n + 1) (.ex e) ρ m = (evE call n e ρ m).stm fun _ m1 => .nx ρ m1 := id rfl
@[simp] theorem eS_bad : evS call wf (n + 1) .bad ρ m = .bad := id rfl
@[simp] theorem eS_ife : evS call wf (n + 1) (.ife c bd bd2) ρ m = (evE call n c ρ m).stm fun x m1 => truK (x.truth m1) (evSs (fun s r m => evS call wf n s r m) bd ρ m1) (evSs (fun s r m => evS call wf n s r m) bd2 ρ m1) .bad := id rfl
@[simp] theorem eS_put {o : E} : evS call wf (n + 1) (.put o a e) ρ m = (evE call n e ρ m).stm fun d m1 => (evE call n o ρ m1).stm fun x m2 => (evE call n a ρ m2).stm fun y m3 => match x, y with
      | .obj k, .int j => match m3[k]? with
        | some xs => match ixN xs.length j with
          | some p => if d.pure then .nx ρ (m3.set k (xs.set p d)) else .bad
          | none => .bad
        | none => .bad
      | _, _ => .bad := id rfl
/-- the turn of a loop -/
def blk (call : Nat → List D → Mm → R D) (wf n : Nat) (ss : List S) (r : Rho) (m : Mm) : O := evSs (fun s r m => evS call wf n s r m) ss r m
@[simp] theorem blk_app {ss : List S} {r : Rho} {m : Mm} : blk call wf n ss r m = evSs (fun s r m => evS call wf n s r m) ss r m := id rfl
@[simp] theorem eS_for {k : Ik} : evS call wf (n + 1) (.for t k es bd) ρ m = (evEs (fun e m => evE call n e ρ m) es m).stm fun ds m1 => match itD m1 k ds with
      | some (xs, ws) => evFor (blk call wf n bd) t m1 ws xs ρ m1
      | none => .bad := id rfl
/-- the turn of a comprehension -/
def ctn (call : Nat → List D → Mm → R D) (n : Nat) (elt : E) (t : Tg) (c : Option E) (r : Rho) (x : D) (m : Mm) : R (Option D) := match setT t x r with
  | some r1 => match c with
    | none => (evE call n elt r1 m).bind fun d m2 => .ok (some d) m2
    | some c => (evE call n c r1 m).bind fun b m2 => truK (b.truth m2) ((evE call n elt r1 m2).bind fun d m3 => .ok (some d) m3) (.ok none m2) .bad
  | none => .bad
@[simp] theorem ctn_none {elt : E} {x : D} {m : Mm} : ctn call n elt t none ρ x m = match setT t x ρ with
  | some r1 => (evE call n elt r1 m).bind fun d m2 => .ok (some d) m2
  | none => .bad := id rfl
@[simp] theorem ctn_some {elt c : E} {x : D} {m : Mm} : ctn call n elt t (some c) ρ x m = match setT t x ρ with
  | some r1 => (evE call n c r1 m).bind fun b m2 => truK (b.truth m2) ((evE call n elt r1 m2).bind fun d m3 => .ok (some d) m3) (.ok none m2) .bad
  | none => .bad := id rfl
@[simp] theorem eE_comp {elt : E} {k : Ik} {c : Option E} {own : List Nat} : evE call (n + 1) (.comp elt t k es c own) ρ m = (evEs (fun e m => evE call n e ρ m) es m).bind fun ds m1 => match itD m1 k ds with
      | some (xs, ws) => (evLc (ctn call n elt t c (wipeD ρ own)) m1 ws xs [] m1).bind fun ys m2 => .ok (.lst ys) m2
      | none => .bad := id rfl
@[simp] theorem eLc_nil {f : D → Mm → R (Option D)} {m0 m : Mm} {acc : List D} : evLc f m0 [] [] acc m = .ok acc m := id rfl
theorem eLc_cons {f : D → Mm → R (Option D)} {m0 m : Mm} {acc xs : List D} : evLc f m0 [] (x :: xs) acc m = if acc.length < sizeLine then (f x m).bind fun y m1 => evLc f m0 [] xs (match y with | some d => acc ++ [d] | none => acc) m1 else .bad := by
  show (if (true && decide (acc.length < sizeLine)) = true then _ else _) = _
  rw [Bool.true_and]
  by_cases h : acc.length < sizeLine
  · rw [if_pos h, if_pos (decide_eq_true h)] <;> rfl
  · rw [if_neg h, if_neg (by simpa using h)]
@[simp] theorem wipe_nil : wipeD ρ [] = ρ := id rfl
@[simp] theorem wipe_cons {v : Nat} {vs : List Nat} : wipeD ρ (v :: vs) = (wipeD ρ vs).set v none := id rfl
@[simp] theorem eSs_nil {f : S → Rho → Mm → O} : evSs f [] ρ m = .nx ρ m := id rfl
@[simp] theorem eSs_cons {f : S → Rho → Mm → O} : evSs f (s :: ss) ρ m = (f s ρ m).bind fun r1 m1 => evSs f ss r1 m1 := id rfl
/-! values -/
@[simp] theorem v_lt : cmpD m .lt (.int i) (.int j) = some (decide (i < j)) := id rfl
@[simp] theorem v_le : cmpD m .le (.int i) (.int j) = some (decide (i ≤ j)) := id rfl
@[simp] theorem v_gt : cmpD m .gt (.int i) (.int j) = some (decide (j < i)) := id rfl
@[simp] theorem v_ge : cmpD m .ge (.int i) (.int j) = some (decide (j ≤ i)) := id rfl
@[simp] theorem v_add : binD m .add (.int i) (.int j) = some (.int (i + j)) := id rfl
@[simp] theorem v_sub : binD m .sub (.int i) (.int j) = some (.int (i - j)) := id rfl
@[simp] theorem v_mod : binD m .mod (.int i) (.int j) = if 0 < j then some (.int (i % j)) else none := id rfl
@[simp] theorem v_div : binD m .div (.int i) (.int j) = if 0 < j ∧ j.natAbs.log2 < 9000 then some (.int (i / j)) else none := id rfl
@[simp] theorem v_mul : binD m .mul (.int i) (.int j) = if i.natAbs.log2 + j.natAbs.log2 < 1000000 then some (.int (i * j)) else none := id rfl
@[simp] theorem v_pow : binD m .pow (.int i) (.int j) = if 0 ≤ j ∧ (Builtin.Int.intBits i : Int) * j ≤ 2 ^ 27 then some (.int (i ^ j.toNat)) else none := id rfl
@[simp] theorem v_addL {xs ys : List D} : binD m .add (.lst xs) (.lst ys) = if xs.length + ys.length ≤ sizeLine then some (.lst (xs ++ ys)) else none := id rfl
@[simp] theorem v_addT {xs ys : List D} : binD m .add (.tup xs) (.tup ys) = if xs ≠ [] ∧ ys ≠ [] ∧ xs.length + ys.length ≤ sizeLine then some (.tup (xs ++ ys)) else none := id rfl
@[simp] theorem v_is : cmpD m .is x .non = some (match x with | .non => true | _ => false) := by cases x <;> rfl
@[simp] theorem v_isnot : cmpD m .isnot x .non = some (match x with | .non => false | _ => true) := by cases x <;> rfl
@[simp] theorem v_min2 : biD m .min2 [.int i, .int j] = some (.int (min i j)) := by
  show some (D.int (if j < i then j else i)) = _
  congr 2
  by_cases h : j < i
  · rw [if_pos h]; omega
  · rw [if_neg h]; omega
@[simp] theorem v_max2 : biD m .max2 [.int i, .int j] = some (.int (max i j)) := by
  show some (D.int (if j > i then j else i)) = _
  congr 2
  by_cases h : j > i
  · rw [if_pos h]; omega
  · rw [if_neg h]; omega
@[simp] theorem v_ixT {xs : List D} : idxD m (.tup xs) (.int i) = atI xs i := id rfl
@[simp] theorem v_ixL {xs : List D} : idxD m (.lst xs) (.int i) = atI xs i := id rfl
@[simp] theorem v_ixR {xs : List D} : idxD m (.ro xs) (.int i) = atI xs i := id rfl
@[simp] theorem v_ixO {k : Nat} : idxD m (.obj k) (.int i) = match m[k]? with
  | some xs => atI xs i
  | none => none := id rfl
@[simp] theorem v_isInt : biD m .isInt [x] = some (.bl (match x with | .int _ => true | .bl _ => true | _ => false)) := by cases x <;> rfl
@[simp] theorem v_isBool : biD m .isBool [x] = some (.bl (match x with | .bl _ => true | _ => false)) := by cases x <;> rfl
@[simp] theorem v_isTuple : biD m .isTuple [x] = some (.bl (match x with | .tup _ => true | _ => false)) := by cases x <;> rfl
@[simp] theorem v_toInt : biD m .toInt [.int i] = some (.int i) := id rfl
@[simp] theorem v_lenT {xs : List D} : biD m .len [.tup xs] = some (.int xs.length) := id rfl
@[simp] theorem v_lenL {xs : List D} : biD m .len [.lst xs] = some (.int xs.length) := id rfl
@[simp] theorem v_lenR {xs : List D} : biD m .len [.ro xs] = some (.int xs.length) := id rfl
theorem at_nat {α : Type} {xs : List α} {k : Nat} : atI xs (k : Int) = xs[k]? := by
  unfold atI ixN
  rw [if_pos (by omega)]
  by_cases h : (k : Int) < xs.length
  · rw [if_pos h]; rfl
  · rw [if_neg h, List.getElem?_eq_none (by omega)]; rfl
@[simp] theorem v_at0 {α : Type} {xs : List α} : atI xs 0 = xs[0]? := at_nat (k := 0)
@[simp] theorem v_at1 {α : Type} {xs : List α} : atI xs 1 = xs[1]? := at_nat (k := 1)
@[simp] theorem v_at2 {α : Type} {xs : List α} : atI xs 2 = xs[2]? := at_nat (k := 2)
@[simp] theorem v_at3 {α : Type} {xs : List α} : atI xs 3 = xs[3]? := at_nat (k := 3)
@[simp] theorem v_at4 {α : Type} {xs : List α} : atI xs 4 = xs[4]? := at_nat (k := 4)
@[simp] theorem setT_v {i : Nat} {d : D} : setT (.v i) d ρ = some (ρ.set i (some d)) := id rfl
@[simp] theorem setT_t2 {t1 t2 : Tg} {d1 d2 : D} : setT (.tup [t1, t2]) (.tup [d1, d2]) ρ = (setT t1 d1 ρ).bind fun r => setT t2 d2 r := by
  show ((setT t1 d1 ρ).bind fun r' => (setT t2 d2 r').bind fun r' => some r') = _
  cases setT t1 d1 ρ with
  | none => rfl
  | some r =>
    show ((setT t2 d2 r).bind fun r' => some r') = setT t2 d2 r
    cases setT t2 d2 r <;> rfl
@[simp] theorem setPar2 {i j : Nat} {d1 d2 : D} : setPar [i, j] [d1, d2] ρ = some ((ρ.set i (some d1)).set j (some d2)) := id rfl
@[simp] theorem setPar3 {i j k : Nat} {d1 d2 d3 : D} : setPar [i, j, k] [d1, d2, d3] ρ = some (((ρ.set i (some d1)).set j (some d2)).set k (some d3)) := id rfl
end
@[simp] theorem frz_non {n : Nat} {m : Mm} : D.frz n m .non = .non := id rfl
@[simp] theorem frz_bl {n : Nat} {m : Mm} {b : Bool} : D.frz n m (.bl b) = .bl b := id rfl
@[simp] theorem frz_int {n : Nat} {m : Mm} {i : Int} : D.frz n m (.int i) = .int i := id rfl
@[simp] theorem frz_str {n : Nat} {m : Mm} {x : Str} : D.frz n m (.str x) = .str x := id rfl
@[simp] theorem frz_tup {n : Nat} {m : Mm} {xs : List D} : D.frz n m (.tup xs) = .tup (D.frzL n m xs) := id rfl
@[simp] theorem frz_lst {n : Nat} {m : Mm} {xs : List D} : D.frz n m (.lst xs) = .lst (D.frzL n m xs) := id rfl
@[simp] theorem frz_nil {n : Nat} {m : Mm} : D.frzL n m [] = [] := id rfl
@[simp] theorem frz_cons {n : Nat} {m : Mm} {x : D} {xs : List D} : D.frzL n m (x :: xs) = D.frz n m x :: D.frzL n m xs := id rfl
/-- a number or None -/
def oD : Option Int → D
  | none => .non
  | some i => .int i
@[simp] theorem oD_none : oD none = .non := id rfl
@[simp] theorem oD_some {i : Int} : oD (some i) = .int i := id rfl
@[simp] theorem frz_oD {n : Nat} {m : Mm} {x : Option Int} : D.frz n m (oD x) = oD x := by cases x <;> rfl
mutual
theorem frz_pure (n : Nat) (m : Mm) : ∀ d : D, d.pure = true → D.frz n m d = d
  | .non, _ => rfl
  | .bl _, _ => rfl
  | .int _, _ => rfl
  | .str _, _ => rfl
  | .tup xs, h => congrArg D.tup (frz_pureL n m xs h)
  | .lst xs, h => congrArg D.lst (frz_pureL n m xs h)
  | .ro xs, h => congrArg D.ro (frz_pureL n m xs h)
  | .obj _, h => nomatch h
theorem frz_pureL (n : Nat) (m : Mm) : ∀ ds : List D, D.pureL ds = true → D.frzL n m ds = ds
  | [], _ => rfl
  | d :: ds, h => by
    have h := Bool.and_eq_true_iff.mp h
    show D.frz n m d :: D.frzL n m ds = d :: ds
    rw [frz_pure n m d h.1, frz_pureL n m ds h.2]
end
/-- the call of a def that is known by its core -/
theorem call_eq {G : List Fd} {wf fu k f : Nat} {ds : List D} {m : Mm} {g : Fd} (hg : G[f]? = some g) (hl : ds.length = g.params) :
    callN G wf fu (k + 1) f ds m = outD g.keep m (evSs (fun s r m => evS (callN G wf fu k) wf fu s r m) g.body (startD g.many ds) m) := by
  show (match G[f]? with
    | some g => if ds.length = g.params then outD g.keep m (evSs (fun s r m => evS (callN G wf fu k) wf fu s r m) g.body (startD g.many ds) m) else .bad
    | none => .bad) = _
  rw [hg]
  exact if_pos hl
end EV

set_option Elab.async false
set_option linter.all false
set_option maxRecDepth 100000
set_option autoImplicit false
namespace EV
open PySem PySem.Spec PyProof.Rows L2
/-! ### texts of data -/
theorem sok_of (s : String) : PyData.strOk (Str.ofString s) = true := by
  rw [Str.ofString_eq_toList]
  show (s.toList.map Char.toNat).toArray.all (fun c => decide (c < 0x110000)) = true
  rw [List.all_toArray, List.all_eq_true]
  · intro c hc
    obtain ⟨d, _, rfl⟩ := List.mem_map.mp hc
    have := d.valid
    rw [decide_eq_true_eq]
    show d.val.toNat < _
    rcases this with h | ⟨_, h⟩ <;> omega
theorem sok_app {x y : Str} (h1 : PyData.strOk x = true) (h2 : PyData.strOk y = true) : PyData.strOk (x ++ y) = true := by
  show (x.cps ++ y.cps).all (fun c => decide (c < 0x110000)) = true
  rw [Array.all_append, Bool.and_eq_true]
  exact ⟨h1, h2⟩
theorem sok_from : ∀ (ts : List Str) (k : Nat) (acc : Str), PyData.strOk acc = true → (∀ t, t ∈ ts → PyData.strOk t = true) → PyData.strOk (textFrom k acc ts) = true
  | [], _, _, h, _ => h
  | t :: ts, k, acc, h, g => by
    show PyData.strOk (textFrom (k + 1) (acc ++ (if k > 0 then ", " else "" : String) ++ t) ts) = true
    exact sok_from ts _ _ (sok_app (sok_app h (sok_of _)) (g t List.mem_cons_self)) fun u hu => g u (List.mem_cons_of_mem _ hu)
theorem sok_join : ∀ (ts : List Str), (∀ t, t ∈ ts → PyData.strOk t = true) → PyData.strOk (Str.join ", " ts) = true
  | [], _ => by decide +kernel
  | [x], g => g x List.mem_cons_self
  | x :: y :: r, g => by
    show PyData.strOk (x ++ ", " ++ Str.join ", " (y :: r)) = true
    exact sok_app (sok_app (g x List.mem_cons_self) (sok_of ", ")) (sok_join (y :: r) fun u hu => g u (List.mem_cons_of_mem _ hu))
mutual
/-- small enough to be shown -/
def D.fit : D → Prop
  | .non => True
  | .bl _ => True
  | .int i => i.natAbs < 2 ^ 400
  | .str _ => False
  | .tup xs => D.fitL xs
  | .lst xs => D.fitL xs
  | .ro xs => D.fitL xs
  | .obj _ => False
def D.fitL : List D → Prop
  | [] => True
  | x :: xs => D.fit x ∧ D.fitL xs
end
mutual
theorem fit_ok : ∀ d : D, d.fit → d.pure = true ∧ d.py.showable = true ∧ d.py.leavesShort 402 = true ∧ PyData.strOk d.py.shown = true
  | .non, _ => ⟨rfl, rfl, rfl, sok_of "None"⟩
  | .bl b, _ => ⟨rfl, rfl, rfl, by cases b <;> exact sok_of _⟩
  | .int i, h => by
    have h : i.natAbs < 2 ^ 400 := h
    refine ⟨rfl, ?_, ?_, sok_of _⟩
    · show decide (i.natAbs.log2 < 1920) = true
      rw [decide_eq_true_eq]
      by_cases h0 : i.natAbs = 0
      · rw [h0]; decide
      · have := (Nat.log2_lt h0).mpr h
        omega
    · show decide ((PyData.shown (.int i)).length ≤ 402) = true
      rw [decide_eq_true_eq]
      show (Str.ofString (toString i)).length ≤ 402
      have e : (Str.ofString (toString i)).length = (toString i).length := by
        rw [Str.ofString_eq_toList]
        show (List.toArray _).size = _
        rw [List.size_toArray, List.length_map, String.length_toList]
      rw [e]
      cases i with
      | ofNat n =>
        have := nat_repr_length_le (n := n) (k := 400) (by decide) h
        show (Nat.repr n).length ≤ 402
        omega
      | negSucc n =>
        have := nat_repr_length_le (n := n + 1) (k := 400) (by decide) h
        show ("-" ++ Nat.repr (n + 1)).length ≤ 402
        rw [String.length_append]
        have e1 : "-".length = 1 := rfl
        omega
  | .tup xs, h => by
    obtain ⟨h1, h2, h3, h4⟩ := fit_okL xs h
    refine ⟨h1, h2, h3, ?_⟩
    show PyData.strOk (("(" : Str) ++ Str.join ", " (PyData.shownAll (D.pyL xs)) ++ (if (PyData.shownAll (D.pyL xs)).length == 1 then ",)" else ")" : String)) = true
    exact sok_app (sok_app (sok_of "(") (sok_join _ h4)) (sok_of _)
  | .lst xs, h => by
    obtain ⟨h1, h2, h3, h4⟩ := fit_okL xs h
    exact ⟨h1, h2, h3, sok_app (sok_from _ _ _ (sok_of "[") h4) (sok_of "]")⟩
  | .ro xs, h => by
    obtain ⟨h1, h2, h3, h4⟩ := fit_okL xs h
    exact ⟨h1, h2, h3, sok_app (sok_from _ _ _ (sok_of "[") h4) (sok_of "]")⟩
  | .str _, h => h.elim
  | .obj _, h => h.elim
theorem fit_okL : ∀ ds : List D, D.fitL ds → D.pureL ds = true ∧ PyData.showableAll (D.pyL ds) = true ∧ PyData.leavesShortAll 402 (D.pyL ds) = true ∧ ∀ t, t ∈ PyData.shownAll (D.pyL ds) → PyData.strOk t = true
  | [], _ => ⟨rfl, rfl, rfl, fun t h => absurd h List.not_mem_nil⟩
  | d :: ds, h => by
    obtain ⟨h1, h2, h3, h4⟩ := fit_ok d h.1
    obtain ⟨g1, g2, g3, g4⟩ := fit_okL ds h.2
    refine ⟨Bool.and_eq_true_iff.mpr ⟨h1, g1⟩, Bool.and_eq_true_iff.mpr ⟨h2, g2⟩, Bool.and_eq_true_iff.mpr ⟨h3, g3⟩, fun t ht => ?_⟩
    rcases List.mem_cons.mp (show t ∈ PyData.shown d.py :: PyData.shownAll (D.pyL ds) from ht) with rfl | ht
    · exact h4
    · exact g4 t ht
end
/-- a text to be compared -/
def Txt (t : Str) : Prop := PyData.strOk t = true
theorem repr_fit {m : Mm} {d : D} (h : d.fit) (hd : d.py.depth ≤ 64) (hb : d.py.bulk ≤ 40000) : biD m .repr [d] = some (.str d.py.shown) ∧ Txt d.py.shown := by
  obtain ⟨h1, h2, h3, h4⟩ := fit_ok d h
  refine ⟨?_, h4⟩
  show reprD (D.frz 0 m d) = _
  rw [frz_pure 0 m d h1]
  have := PyData.shown_le_bulk 402 (by decide) d.py h3
  unfold reprD
  rw [if_pos]
  rw [h1, h2, decide_eq_true hd, Bool.true_and, Bool.true_and, Bool.true_and, decide_eq_true_eq]
  show d.py.shown.length ≤ 2 ^ 24
  omega
theorem eq_txt {m : Mm} {t : Str} (h : Txt t) : cmpD m .eq (.str t) (.str t) = some true := by
  show (if D.pure (.str t) && D.pure (.str t) && SeqAt.shaped (.str t) && SeqAt.shaped (.str t) then some (PyData.eqv (.str t) (.str t)) else none) = _
  have e : SeqAt.shaped (.str t) = true := by
    show (PyData.strOk t && decide (PyData.depth (.str t) ≤ 64)) = true
    rw [h]
    rfl
  rw [e]
  show some (t == t) = some true
  rw [beq_self_eq_true]
@[simp] theorem v_eqI {m : Mm} {i j : Int} : cmpD m .eq (.int i) (.int j) = some (decide (i = j)) := by
  show (if D.pure (.int i) && D.pure (.int j) && SeqAt.shaped (.int i) && SeqAt.shaped (.int j) then some (PyData.eqv (.int i) (.int j)) else none) = _
  have e : ∀ i : Int, SeqAt.shaped (.int i) = true := fun i => rfl
  rw [e, e]
  show some (i == j) = _
  rfl
@[simp] theorem v_neI {m : Mm} {i j : Int} : cmpD m .ne (.int i) (.int j) = some (!decide (i = j)) := by
  show (cmpD m .eq (.int i) (.int j)).map (!·) = _
  rw [v_eqI]
  rfl
end EV

set_option Elab.async false
set_option linter.all false
set_option maxRecDepth 100000
set_option maxHeartbeats 0
set_option autoImplicit false
namespace EV
open PySem PySem.Spec PyProof.Rows L2
/-! ### numbers drawn -/
def B2 (x : Int) (a : Nat) : Prop := x.natAbs < 2 ^ a
theorem B2.dec {x : Int} {a : Nat} (h : decide (x.natAbs < 2 ^ a) = true) : B2 x a := show x.natAbs < 2 ^ a from of_decide_eq_true h
theorem B2.mul {x y : Int} {a b : Nat} (h : B2 x a) (g : B2 y b) : B2 (x * y) (a + b) := by
  show (x * y).natAbs < 2 ^ (a + b)
  rw [Int.natAbs_mul, Nat.pow_add]
  exact Nat.mul_lt_mul'' h g
theorem B2.le {x : Int} {a b : Nat} (h : B2 x a) (g : a ≤ b) : B2 x b := Nat.lt_of_lt_of_le h (Nat.pow_le_pow_right (by decide) g)
theorem B2.add {x y : Int} {a : Nat} (h : B2 x a) (g : B2 y a) : B2 (x + y) (a + 1) := by
  show (x + y).natAbs < 2 ^ (a + 1)
  have := Int.natAbs_add_le x y
  rw [Nat.pow_succ]
  have h : x.natAbs < 2 ^ a := h
  have g : y.natAbs < 2 ^ a := g
  omega
theorem B2.lg {x : Int} {a : Nat} (h : B2 x a) : x.natAbs.log2 ≤ a := by
  by_cases h0 : x.natAbs = 0
  · rw [h0]; exact Nat.zero_le _
  · exact Nat.le_of_lt ((Nat.log2_lt h0).mpr h)
theorem mul_b {m : Mm} {x y : Int} {a b : Nat} (h : B2 x a) (g : B2 y b) (l : a + b < 1000000) : binD m .mul (.int x) (.int y) = some (.int (x * y)) := by
  rw [v_mul, if_pos]
  have := h.lg
  have := g.lg
  omega
def hashF : Fd := ⟨3, 2, [.set (.v 2) (.bin .mod (.bi .toInt [.bin .add (.bin .add (.bin .add (.bin .mul (.var 0) (.int 1140671)) (.bin .mul (.bin .mul (.int 27644437) (.var 1)) (.var 1))) (.bin .mul (.int 131) (.var 1))) (.int 19)]) (.int 2147483629)),
  .set (.v 2) (.bin .mod (.bi .toInt [.bin .add (.bin .add (.bin .mul (.var 2) (.var 2)) (.bin .mul (.int 62089) (.var 1))) (.int 32416187)]) (.int 2147483587)), .ret (.bin .mod (.bi .toInt [.bin .mul (.var 2) (.int 48271)]) (.int 2147483647))], false⟩
def rndF (h : Nat) : Fd := ⟨4, 2, [.ife (.cmp .gt (.idx (.var 0) (.int 0)) (.int 0)) [.set (.v 2) (.bin .mod (.bi .toInt [.idx (.var 0) (.int 0)]) (.var 1)), .put (.var 0) (.int 0) (.bin .div (.idx (.var 0) (.int 0)) (.var 1)), .ret (.var 2)] [],
  .set (.v 2) (.int 0), .for (.v 3) .rng1 [.bin .add (.int 1) (.bin .div (.mt .bitLen (.var 1) []) (.int 30))] [.put (.var 0) (.int 2) (.bin .add (.idx (.var 0) (.int 2)) (.int 1)), .set (.v 2) (.bin .add (.bin .mul (.var 2) (.int 2147483587)) (.call h [.idx (.var 0) (.int 1), .idx (.var 0) (.int 2)]))],
  .ret (.bin .mod (.bi .toInt [.var 2]) (.var 1))], false⟩
def cellF : Fd := ⟨2, 2, [.ife (.cmp .lt (.var 1) (.bi .len [.var 0])) [.ret (.idx (.var 0) (.var 1))] [], .ret (.bin .mod (.bi .sum [.cut (.var 0) none (some (.int 1))]) (.int 1000003))], false⟩
def genF (c : Nat) : Fd := ⟨3, 2, [.set (.v 2) (.call c [.var 0, .var 1]), .ret (.newc (.lst [.bin .mod (.bi .toInt [.bi .max2 [.bin .sub (.var 2) (.bin .pow (.int 10) (.int 18)), .int 0]]) (.bin .pow (.bin .pow (.int 10) (.int 60)) (.int 10)), .bin .mod (.bi .toInt [.var 2]) (.int 2147483647), .bin .mul (.int 1000) (.var 1)]))], true⟩
section
variable {G : List Fd} {wf k h r : Nat} {m : Mm}
theorem mod_pos {m : Mm} {i j : Int} (h : 0 < j) : binD m .mod (.int i) (.int j) = some (.int (i % j)) := by rw [v_mod, if_pos h]
theorem B2.of {x : Int} {a : Nat} (h : -(2 ^ a : Nat) < x) (g : x < (2 ^ a : Nat)) : B2 x a := by
  show x.natAbs < 2 ^ a
  omega
theorem hash_ok (hh : G[h]? = some hashF) {s c : Int} (s0 : 0 ≤ s) (s1 : s < 2147483647) (c0 : 0 ≤ c) (c1 : c ≤ 10 ^ 18) : ∃ v : Int, callN G wf 60 (k + 1) h [.int s, .int c] m = .ok (.int v) m ∧ 0 ≤ v ∧ v < 2147483647 := by
  have bs : B2 s 32 := .of (by omega) (by omega)
  have bc : B2 c 62 := .of (by omega) (by omega)
  have e1 : binD m .mul (.int s) (.int 1140671) = some (.int (s * 1140671)) := mul_b bs (b := 32) (.dec rfl) (by decide)
  have e2 : binD m .mul (.int 27644437) (.int c) = some (.int (27644437 * c)) := mul_b (a := 32) (.dec rfl) bc (by decide)
  have b2 : B2 (27644437 * c) (32 + 62) := B2.mul (.dec rfl) bc
  have e3 : binD m .mul (.int (27644437 * c)) (.int c) = some (.int (27644437 * c * c)) := mul_b b2 bc (by decide)
  have e4 : binD m .mul (.int 131) (.int c) = some (.int (131 * c)) := mul_b (a := 32) (.dec rfl) bc (by decide)
  have m1 : ∀ y : Int, binD m .mod (.int y) (.int 2147483629) = some (.int (y % 2147483629)) := fun y => mod_pos (by decide)
  have m2 : ∀ y : Int, binD m .mod (.int y) (.int 2147483587) = some (.int (y % 2147483587)) := fun y => mod_pos (by decide)
  have m3 : ∀ y : Int, binD m .mod (.int y) (.int 2147483647) = some (.int (y % 2147483647)) := fun y => mod_pos (by decide)
  have f1 : ∀ y : Int, binD m .mul (.int (y % 2147483629)) (.int (y % 2147483629)) = some (.int (y % 2147483629 * (y % 2147483629))) := fun y => by
    have b : B2 (y % 2147483629) 32 := .of (by omega) (by omega)
    exact mul_b b b (by decide)
  have f2 : binD m .mul (.int 62089) (.int c) = some (.int (62089 * c)) := mul_b (a := 32) (.dec rfl) bc (by decide)
  have f3 : ∀ y : Int, binD m .mul (.int (y % 2147483587)) (.int 48271) = some (.int (y % 2147483587 * 48271)) := fun y => by
    have b : B2 (y % 2147483587) 32 := .of (by omega) (by omega)
    exact mul_b b (b := 32) (.dec rfl) (by decide)
  refine ⟨?v, ?_, ?_⟩
  case v => exact ((((s * 1140671 + 27644437 * c * c + 131 * c + 19) % 2147483629) * ((s * 1140671 + 27644437 * c * c + 131 * c + 19) % 2147483629) + 62089 * c + 32416187) % 2147483587 * 48271) % 2147483647
  · rw [call_eq hh rfl]
    simp [hashF, startD, e1, e2, e3, e4, m1, m2, m3, f1, f2, f3, -v_mul, -v_mod]
  · constructor <;> omega
@[simp] theorem pure_int {i : Int} : (D.int i).pure = true := id rfl
@[simp] theorem take_set {α : Type} {m : List α} {g : Nat} {x : α} : (m.set g x).take m.length = m.set g x := by
  rw [List.take_of_length_le]
  rw [List.length_set]
  exact Nat.le_refl _
theorem set_self {α : Type} {m : List α} {g : Nat} {x : α} (h : m[g]? = some x) : m.set g x = m := by
  apply List.ext_getElem?
  intro i
  by_cases e : g = i
  · subst e
    rw [List.getElem?_set_self (List.getElem?_eq_some_iff.mp h).1, h]
  · rw [List.getElem?_set_ne e]
@[simp] theorem set_set {α : Type} {m : List α} {g : Nat} {x y : α} : (m.set g x).set g y = m.set g y := by
  apply List.ext_getElem?
  intro i
  by_cases e : g = i
  · subst e
    by_cases h : g < m.length
    · rw [List.getElem?_set_self (by rw [List.length_set]; exact h), List.getElem?_set_self h]
    · rw [List.getElem?_eq_none (by rw [List.length_set, List.length_set]; omega), List.getElem?_eq_none (by rw [List.length_set]; omega)]
  · rw [List.getElem?_set_ne e, List.getElem?_set_ne e, List.getElem?_set_ne e]
theorem get_set {α : Type} {m : List α} {g : Nat} {x y : α} (h : m[g]? = some y) : (m.set g x)[g]? = some x := List.getElem?_set_self (List.getElem?_eq_some_iff.mp h).1
@[simp] theorem ixN30 : ixN 3 0 = some 0 := id rfl
@[simp] theorem ixN31 : ixN 3 1 = some 1 := id rfl
@[simp] theorem ixN32 : ixN 3 2 = some 2 := id rfl
theorem bits_le {x : Int} {a : Nat} (h : B2 x a) : Builtin.Int.intBits x ≤ a := by
  unfold Builtin.Int.intBits
  split
  · omega
  · rename_i h0
    have : x.natAbs ≠ 0 := by
      intro e
      exact h0 (by simpa using e)
    have := (Nat.log2_lt this).mpr h
    omega
def forK (o : O) (f : Rho → Mm → O) : O := match o with
  | .nx r m => f r m
  | .ct r m => f r m
  | .bk r m => .nx r m
  | .rt d m => .rt d m
  | .bad => .bad
@[simp] theorem forK_nx {r : Rho} {m : Mm} {f : Rho → Mm → O} : forK (.nx r m) f = f r m := id rfl
@[simp] theorem forK_ct {r : Rho} {m : Mm} {f : Rho → Mm → O} : forK (.ct r m) f = f r m := id rfl
@[simp] theorem forK_bk {r : Rho} {m : Mm} {f : Rho → Mm → O} : forK (.bk r m) f = .nx r m := id rfl
@[simp] theorem forK_rt {d : D} {m : Mm} {f : Rho → Mm → O} : forK (.rt d m) f = .rt d m := id rfl
@[simp] theorem forK_bad {f : Rho → Mm → O} : forK .bad f = .bad := id rfl
@[simp] theorem forK_ite {p : Prop} [Decidable p] {a b : O} {f : Rho → Mm → O} : forK (if p then a else b) f = if p then forK a f else forK b f := by split <;> rfl
@[simp] theorem eFor_nil {f : Rho → Mm → O} {t : Tg} {m0 m : Mm} {r : Rho} : evFor f t m0 [] [] r m = .nx r m := id rfl
@[simp] theorem eFor_cons {f : Rho → Mm → O} {t : Tg} {m0 m : Mm} {r : Rho} {x : D} {xs : List D} : evFor f t m0 [] (x :: xs) r m = match setT t x r with
    | some r1 => forK (f r1 m) fun r m => evFor f t m0 [] xs r m
    | none => .bad := by
  show (if sameAt m0 m [] = true then _ else _) = _
  rw [if_pos (show sameAt m0 m [] = true from rfl)]
  cases setT t x r with
  | none => rfl
  | some r1 =>
    show (match f r1 m with
      | .nx r2 m2 => evFor f t m0 [] xs r2 m2
      | .ct r2 m2 => evFor f t m0 [] xs r2 m2
      | .bk r2 m2 => .nx r2 m2
      | .rt d m2 => .rt d m2
      | .bad => .bad) = forK (f r1 m) fun r m => evFor f t m0 [] xs r m
    cases f r1 m <;> rfl
/-- a drawing list -/
def GOk (m : Mm) (g : Nat) (N : Int) : Prop := ∃ a b c : Int, m[g]? = some [.int a, .int b, .int c] ∧ 0 ≤ a ∧ 0 ≤ b ∧ b < 2147483647 ∧ 0 ≤ c ∧ c ≤ N
theorem GOk.mono {g : Nat} {N N' : Int} (h : GOk m g N) (l : N ≤ N') : GOk m g N' := by
  obtain ⟨a, b, c, h1, h2, h4, h5, h6, h7⟩ := h
  exact ⟨a, b, c, h1, h2, h4, h5, h6, by omega⟩
theorem rnd_loop (hh : G[h]? = some hashF) {g : Nat} {a b B : Int} (b0 : 0 ≤ b) (b1 : b < 2147483647) (m0 : Mm) : ∀ (xs : List D) (j : Nat) (m : Mm) (dr c : Int) (t : Option D), m[g]? = some [.int a, .int b, .int c] → 0 ≤ dr → B2 dr (32 * j) → j + xs.length ≤ 1000 → 0 ≤ c → c + xs.length ≤ 10 ^ 18 →
    ∃ (dr' : Int) (t' : Option D), evFor (blk (callN G wf 60 (k + 1)) wf 59 [.put (.var 0) (.int 2) (.bin .add (.idx (.var 0) (.int 2)) (.int 1)), .set (.v 2) (.bin .add (.bin .mul (.var 2) (.int 2147483587)) (.call h [.idx (.var 0) (.int 1), .idx (.var 0) (.int 2)]))]) (.v 3) m0 [] xs [some (.obj g), some (.int B), some (.int dr), t] m =
      .nx [some (.obj g), some (.int B), some (.int dr'), t'] (m.set g [.int a, .int b, .int (c + xs.length)]) ∧ 0 ≤ dr'
  | [], j, m, dr, c, t, hm, d0, d1, hj, c0, c1 => ⟨dr, t, by simp [set_self hm], d0⟩
  | x :: xs, j, m, dr, c, t, hm, d0, d1, hj, c0, c1 => by
    have hl : ((x :: xs).length : Int) = xs.length + 1 := by simp
    rw [hl] at c1
    have hl2 : (x :: xs).length = xs.length + 1 := rfl
    rw [hl2] at hj
    obtain ⟨v, e, v0, v1⟩ := hash_ok (wf := wf) (k := k) (m := m.set g [.int a, .int b, .int (c + 1)]) hh (s := b) (c := c + 1) b0 b1 (by omega) (by omega)
    have hm2 : (m.set g [D.int a, D.int b, D.int (c + 1)])[g]? = some [.int a, .int b, .int (c + 1)] := get_set hm
    have em : binD (m.set g [D.int a, D.int b, D.int (c + 1)]) .mul (.int dr) (.int 2147483587) = some (.int (dr * 2147483587)) := mul_b d1 (b := 31) (.dec rfl) (by omega)
    have bd : B2 (dr * 2147483587 + v) (32 * (j + 1)) := ((B2.mul d1 (b := 31) (.dec rfl)).add (B2.le (a := 31) (B2.of (by omega) (by omega)) (by omega))).le (by omega)
    obtain ⟨dr', t', ih, ih0⟩ := rnd_loop hh b0 b1 m0 xs (j + 1) (m.set g [.int a, .int b, .int (c + 1)]) (dr * 2147483587 + v) (c + 1) (some x) hm2 (by omega) bd (by omega) (by omega) (by omega)
    refine ⟨dr', t', ?_, ih0⟩
    rw [eFor_cons]
    simp only [setT_v, List.set_cons_succ, List.set_cons_zero]
    have step : blk (callN G wf 60 (k + 1)) wf 59 [.put (.var 0) (.int 2) (.bin .add (.idx (.var 0) (.int 2)) (.int 1)), .set (.v 2) (.bin .add (.bin .mul (.var 2) (.int 2147483587)) (.call h [.idx (.var 0) (.int 1), .idx (.var 0) (.int 2)]))] [some (.obj g), some (.int B), some (.int dr), some x] m =
        .nx [some (.obj g), some (.int B), some (.int (dr * 2147483587 + v)), some x] (m.set g [.int a, .int b, .int (c + 1)]) := by
      simp [hm, hm2, em, e, -v_mul]
    rw [step, forK_nx, ih]
    have e2 : c + 1 + (xs.length : Int) = c + ((x :: xs).length : Int) := by rw [hl]; omega
    rw [set_set, e2]
theorem rngD_len : ∀ (n : Nat) (lo : Int), (rngD lo n).length = n
  | 0, _ => rfl
  | n + 1, lo => congrArg Nat.succ (rngD_len n (lo + 1))
@[simp] theorem it_rng1 {m : Mm} {j : Int} (h0 : 0 ≤ j) (h1 : j ≤ 100000) : itD m .rng1 [.int j] = some (rngD 0 j.toNat, []) := by
  show (if -(2 ^ 62) ≤ j ∧ j < 2 ^ 62 then some (rngD 0 j.toNat, ([] : List Nat)) else none) = _
  rw [if_pos ⟨by omega, by omega⟩]
@[simp] theorem it_lst {m : Mm} {xs : List D} : itD m .seq [.lst xs] = some (xs, []) := id rfl
@[simp] theorem it_tup {m : Mm} {xs : List D} : itD m .seq [.tup xs] = some (xs, []) := id rfl
@[simp] theorem mt_bits {m : Mm} {i : Int} : mtD m .bitLen (.int i) [] = .ok (.int (Builtin.Int.intBits i)) m := id rfl
@[simp] theorem mtOk_bits {i : Int} : mtOk .bitLen (.int i) = true := id rfl
theorem rnd_ok (hh : G[h]? = some hashF) (hr : G[r]? = some (rndF h)) {g : Nat} {N B : Int} (hg : GOk m g N) (hN : N ≤ 10 ^ 17) (b0 : 0 < B) (bB : B2 B 3000) :
    ∃ (v : Int) (s : List D), callN G wf 60 (k + 2) r [.obj g, .int B] m = .ok (.int v) (m.set g s) ∧ 0 ≤ v ∧ v < B ∧ GOk (m.set g s) g (N + 101) := by
  obtain ⟨a, b, c, hm, a0, b1, b2, c0, c1⟩ := hg
  have dv : ∀ m : Mm, ∀ y : Int, binD m .div (.int y) (.int B) = some (.int (y / B)) := fun m y => by
    rw [v_div, if_pos ⟨b0, by have := bB.lg; omega⟩]
  have md : ∀ m : Mm, ∀ y : Int, binD m .mod (.int y) (.int B) = some (.int (y % B)) := fun m y => mod_pos b0
  by_cases ha : 0 < a
  · refine ⟨a % B, [.int (a / B), .int b, .int c], ?_, Int.emod_nonneg _ (by omega), Int.emod_lt_of_pos _ b0, ?_⟩
    · rw [call_eq hr rfl]
      simp [rndF, startD, hm, ha, dv, md, -v_mod, -v_div]
    · exact ⟨a / B, b, c, get_set hm, Int.ediv_nonneg a0 (by omega), b1, b2, c0, by omega⟩
  · have T1 : Builtin.Int.intBits B ≤ 3000 := bits_le bB
    have d30 : ∀ m : Mm, ∀ y : Int, binD m .div (.int y) (.int 30) = some (.int (y / 30)) := fun m y => by
      rw [v_div, if_pos ⟨by decide, by decide⟩]
    have hT0 : 0 ≤ 1 + (Builtin.Int.intBits B : Int) / 30 := by omega
    have hT1 : 1 + (Builtin.Int.intBits B : Int) / 30 ≤ 101 := by omega
    obtain ⟨xs, hx, hl⟩ : ∃ xs : List D, itD m .rng1 [.int (1 + (Builtin.Int.intBits B : Int) / 30)] = some (xs, []) ∧ xs.length ≤ 101 :=
      ⟨_, it_rng1 hT0 (by omega), by rw [rngD_len]; omega⟩
    obtain ⟨dr, t', e, d0⟩ := rnd_loop (G := G) (wf := wf) (k := k) hh b1 b2 (B := B) m xs 0 m 0 c none hm (Int.le_refl _) (.dec rfl) (by omega) c0 (by omega)
    refine ⟨dr % B, _, ?_, Int.emod_nonneg _ (by omega), Int.emod_lt_of_pos _ b0, a, b, c + (xs.length : Int), get_set hm, a0, b1, b2, ?_, ?_⟩
    · rw [call_eq hr rfl]
      simp [rndF, startD, hm, ha, d30, hx, e, md, -v_mod, -v_div, -it_rng1]
    · omega
    · omega
end
end EV

set_option Elab.async false
set_option linter.all false
set_option maxRecDepth 100000
set_option maxHeartbeats 0
set_option autoImplicit false
namespace EV
open PySem PySem.Spec PyProof.Rows L2
section
variable {G : List Fd} {wf k c : Nat} {m : Mm}
theorem pow_c {m : Mm} {i j z : Int} (h : (decide (0 ≤ j ∧ (Builtin.Int.intBits i : Int) * j ≤ 2 ^ 27) && decide (i ^ j.toNat = z)) = true) : binD m .pow (.int i) (.int j) = some (.int z) := by
  rw [Bool.and_eq_true, decide_eq_true_eq, decide_eq_true_eq] at h
  rw [v_pow, if_pos h.1, h.2]
def ten60 : Int := 10 ^ 60
def ten600 : Int := ten60 ^ 10
theorem p18 {m : Mm} : binD m .pow (.int 10) (.int 18) = some (.int 1000000000000000000) := pow_c (by decide +kernel)
theorem p60 {m : Mm} : binD m .pow (.int 10) (.int 60) = some (.int ten60) := pow_c (by decide +kernel)
theorem p600 {m : Mm} : binD m .pow (.int ten60) (.int 10) = some (.int ten600) := pow_c (by decide +kernel)
theorem ten600_pos : 0 < ten600 := by decide +kernel
theorem ints_of : ∀ ns : List Int, intsD (ns.map D.int) = some ns
  | [] => rfl
  | n :: ns => by
    show (intsD (ns.map D.int)).map (n :: ·) = _
    rw [ints_of ns]
    rfl
theorem cut_map {α β : Type} {f : α → β} {xs : List α} {lo hi : Option Int} : cutL (xs.map f) lo hi = (cutL xs lo hi).map f := by
  unfold cutL
  rw [List.length_map, List.map_drop.symm, List.map_take.symm]
@[simp] theorem v_sumL {xs : List D} : biD m .sum [.lst xs] = (intsD xs).map fun ns => .int ns.sum := id rfl
@[simp] theorem v_cutR {xs : List D} {l h : Option Int} : cutD m l h (.ro xs) = some (.lst (cutL xs l h)) := id rfl
@[simp] theorem v_cutL {xs : List D} {l h : Option Int} : cutD m l h (.lst xs) = some (.lst (cutL xs l h)) := id rfl
@[simp] theorem eO_none {f : E → Mm → R D} : evO f none m = .ok none m := id rfl
@[simp] theorem eO_some {f : E → Mm → R D} {e : E} : evO f (some e) m = (f e m).bind fun d m1 => match d with
    | .int i => .ok (some i) m1
    | _ => .bad := id rfl
theorem cell_ok (hc : G[c]? = some cellF) (ns : List Int) {i : Int} (i0 : 0 ≤ i) : ∃ v : Int, callN G wf 60 (k + 1) c [.ro (ns.map .int), .int i] m = .ok (.int v) m := by
  rw [call_eq hc rfl]
  by_cases h : i < ns.length
  · obtain ⟨j, rfl⟩ := Int.eq_ofNat_of_zero_le i0
    have hj : j < ns.length := by omega
    exact ⟨ns[j], by simp [cellF, startD, at_nat, hj]⟩
  · have md : ∀ y : Int, binD m .mod (.int y) (.int 1000003) = some (.int (y % 1000003)) := fun y => mod_pos (by decide)
    exact ⟨(cutL ns none (some 1)).sum % 1000003, by simp [cellF, startD, h, md, cut_map, ints_of, -v_mod]⟩
theorem get_end {α : Type} {m : List α} {x : α} : (m ++ [x])[m.length]? = some x := by simp
theorem gen_ok (hc : G[c]? = some cellF) {q : Nat} (hq : G[q]? = some (genF c)) (ns : List Int) {i : Int} (i0 : 0 ≤ i) (i1 : i ≤ 1000) :
    ∃ s : List D, callN G wf 60 (k + 2) q [.ro (ns.map .int), .int i] m = .ok (.obj m.length) (m ++ [s]) ∧ GOk (m ++ [s]) m.length (1000 * i) := by
  obtain ⟨v, e⟩ := cell_ok (G := G) (wf := wf) (k := k) (m := m) hc ns i0
  have md : ∀ y : Int, binD m .mod (.int y) (.int ten600) = some (.int (y % ten600)) := fun y => mod_pos ten600_pos
  have md2 : ∀ y : Int, binD m .mod (.int y) (.int 2147483647) = some (.int (y % 2147483647)) := fun y => mod_pos (by decide)
  have ml : binD m .mul (.int 1000) (.int i) = some (.int (1000 * i)) := mul_b (a := 32) (b := 32) (.dec rfl) (.of (by omega) (by omega)) (by decide)
  refine ⟨[.int (max (v - 1000000000000000000) 0 % ten600), .int (v % 2147483647), .int (1000 * i)], ?_, _, _, _, get_end, Int.emod_nonneg _ (by have := ten600_pos; omega), Int.emod_nonneg _ (by decide), Int.emod_lt_of_pos _ (by decide), by omega, Int.le_refl _⟩
  rw [call_eq hq rfl]
  have pl : D.pureL [.int (max (v - 1000000000000000000) 0 % ten600), .int (v % 2147483647), .int (1000 * i)] = true := rfl
  simp [genF, startD, e, p18, p60, p600, md, md2, ml, pl, -v_mod, -v_mul, -v_pow]
end
end EV

set_option Elab.async false
set_option linter.all false
set_option maxRecDepth 100000
set_option maxHeartbeats 0
set_option autoImplicit false
namespace EV
open PySem PySem.Spec PyProof.Rows L2
/-! ### the row: names, defs, core terms (printed by gen.py) -/
namespace Row
abbrev Rw := PySem.Challenge.rw_stillranges_k15_ranges_moved_turned_less
def tp (i : Nat) : Stmt := PySem.Challenge.pw_stillranges_k15_ranges_moved_turned_less.main.body.getD i (.Pass ⟨0, 0, 0, 0⟩)
abbrev mkD (x : Str) (i : Nat) : He.DefD := ⟨(x, none), x, x, defArgs (tp i), defBody (tp i), defScope (tp i), [], []⟩
def d0 : Dec := ⟨mkD "is_whole" 5, ["value"], ["value"], [], false⟩
def d1 : Dec := ⟨mkD "is_end" 6, ["value"], ["value"], [], false⟩
def d2 : Dec := ⟨mkD "is_range" 7, ["value"], ["value"], [], false⟩
def d3 : Dec := ⟨mkD "lower" 9, ["one", "other"], ["one", "other"], [], false⟩
def d4 : Dec := ⟨mkD "upper" 10, ["one", "other"], ["one", "other"], [], false⟩
def d5 : Dec := ⟨mkD "raised" 11, ["one", "other"], ["one", "other"], [], false⟩
def d6 : Dec := ⟨mkD "capped" 12, ["one", "other"], ["one", "other"], [], false⟩
def d7 : Dec := ⟨mkD "moved_end" 13, ["end", "number"], ["end", "number"], [], false⟩
def d8 : Dec := ⟨mkD "turned_end" 14, ["end", "number"], ["end", "number"], [], false⟩
def d9 : Dec := ⟨mkD "move_span" 15, ["span", "number"], ["span", "number"], [], false⟩
def d10 : Dec := ⟨mkD "turn_span" 16, ["span", "number"], ["span", "number"], [], false⟩
def d11 : Dec := ⟨mkD "least_spans" 17, ["span", "other"], ["span", "other"], [], false⟩
def d12 : Dec := ⟨mkD "greatest_spans" 18, ["span", "other"], ["span", "other"], [], false⟩
def d13 : Dec := ⟨mkD "check_spans" 19, ["span", "other", "value"], ["span", "other"], [], false⟩
def d14 : Dec := ⟨mkD "check_span_number" 20, ["span", "number"], ["span", "number"], [], false⟩
def d15 : Dec := ⟨mkD "span_plus" 21, ["span", "number"], ["span", "number"], [], false⟩
def d16 : Dec := ⟨mkD "span_turned" 22, ["span", "number"], ["span", "number"], [], false⟩
def d17 : Dec := ⟨mkD "span_least" 23, ["span", "other"], ["span", "other"], [], false⟩
def d18 : Dec := ⟨mkD "span_greatest" 24, ["span", "other"], ["span", "other"], [], false⟩
def d19 : Dec := ⟨mkD "_law_hash" 26, ["seed", "index", "mixed"], ["seed", "index"], [], false⟩
def d20 : Dec := ⟨mkD "_law_random" 27, ["generator", "bound", "drawn", "turn"], ["generator", "bound"], [], false⟩
def d21 : Dec := ⟨mkD "_law_cell" 28, ["script", "index"], ["script", "index"], [], false⟩
def d22 : Dec := ⟨mkD "_law_generator" 29, ["script", "index", "seed"], ["script", "index"], [], true⟩
def d23 : Dec := ⟨mkD "_law_number" 30, ["generator", "most"], ["generator", "most"], [], false⟩
def d24 : Dec := ⟨mkD "_law_range" 31, ["generator", "most", "low", "high", "way"], ["generator", "most"], [], false⟩
def d25 : Dec := ⟨mkD "_law_pairs" 32, ["row", "low", "high"], ["row"], [], false⟩
def d26 : Dec := ⟨mkD "_law_end" 33, ["low", "high"], ["low", "high"], [], false⟩
def d27 : Dec := ⟨mkD "_law_all" 34, ["span"], ["span"], [], false⟩
def d28 : Dec := ⟨mkD "_law_by_pairs" 35, ["one", "two", "number", "moved", "turned", "item", "lesser", "greater", "other", "found"], ["one", "two", "number"], [], false⟩
def d29 : Dec := ⟨mkD "_law_right" 36, ["generator", "most", "one", "two", "number", "pairs", "low", "high", "down", "up", "due", "told", "span", "again", "back"], ["generator"], [], false⟩
def d30 : Dec := ⟨mkD "law" 37, ["script", "index", "far", "told"], ["script"], [], false⟩
def dL : List Dec := [d0, d1, d2, d3, d4, d5, d6, d7, d8, d9, d10, d11, d12, d13, d14, d15, d16, d17, d18, d19, d20, d21, d22, d23, d24, d25, d26, d27, d28, d29, d30]
def bs : Bs where
  fns := ["is_whole", "is_end", "is_range", "lower", "upper", "raised", "capped", "moved_end", "turned_end", "move_span", "turn_span", "least_spans", "greatest_spans", "check_spans", "check_span_number", "span_plus", "span_turned", "span_least", "span_greatest", "_law_hash", "_law_random", "_law_cell", "_law_generator", "_law_number", "_law_range", "_law_pairs", "_law_end", "_law_all", "_law_by_pairs", "_law_right", "law"]
  free := ["bool", "int", "isinstance", "len", "list", "max", "min", "range", "repr", "set", "sorted", "sum", "tuple"]
  gi := []
  gs := []
  kws := [(15, ["number", "span"], [1, 0]), (16, ["number", "span"], [1, 0]), (17, ["other", "span"], [1, 0]), (18, ["other", "span"], [1, 0])]
def g0 : Fd := ⟨1, 1, [.ret (.and (.bi .isInt [.var 0]) (.not (.bi .isBool [.var 0])))], false⟩
def g1 : Fd := ⟨1, 1, [.ret (.or (.cmp .is (.var 0) (.non)) (.call 0 [.var 0]))], false⟩
def g2 : Fd := ⟨1, 1, [.ife (.or (.not (.bi .isTuple [.var 0])) (.or (.cmp .ne (.bi .len [.var 0]) (.int 2)) (.or (.not (.call 1 [.idx (.var 0) (.int 0)])) (.not (.call 1 [.idx (.var 0) (.int 1)]))))) [.ret (.bl false)] [], .ret (.or (.cmp .is (.idx (.var 0) (.int 0)) (.non)) (.or (.cmp .is (.idx (.var 0) (.int 1)) (.non)) (.cmp .le (.idx (.var 0) (.int 0)) (.idx (.var 0) (.int 1)))))], false⟩
def g3 : Fd := ⟨2, 2, [.ret (.ife (.or (.cmp .is (.var 0) (.non)) (.cmp .is (.var 1) (.non))) (.non) (.bi .min2 [.var 0, .var 1]))], false⟩
def g4 : Fd := ⟨2, 2, [.ret (.ife (.or (.cmp .is (.var 0) (.non)) (.cmp .is (.var 1) (.non))) (.non) (.bi .max2 [.var 0, .var 1]))], false⟩
def g5 : Fd := ⟨2, 2, [.ife (.cmp .is (.var 0) (.non)) [.ret (.var 1)] [], .ret (.ife (.cmp .is (.var 1) (.non)) (.var 0) (.bi .max2 [.var 0, .var 1]))], false⟩
def g6 : Fd := ⟨2, 2, [.ife (.cmp .is (.var 0) (.non)) [.ret (.var 1)] [], .ret (.ife (.cmp .is (.var 1) (.non)) (.var 0) (.bi .min2 [.var 0, .var 1]))], false⟩
def g7 : Fd := ⟨2, 2, [.ret (.ife (.cmp .is (.var 0) (.non)) (.non) (.bin .add (.var 0) (.var 1)))], false⟩
def g8 : Fd := ⟨2, 2, [.ret (.ife (.cmp .is (.var 0) (.non)) (.non) (.bin .sub (.var 1) (.var 0)))], false⟩
def g9 : Fd := ⟨2, 2, [.ret (.tup [.call 7 [.idx (.var 0) (.int 0), .var 1], .call 7 [.idx (.var 0) (.int 1), .var 1]])], false⟩
def g10 : Fd := ⟨2, 2, [.ret (.tup [.call 8 [.idx (.var 0) (.int 1), .var 1], .call 8 [.idx (.var 0) (.int 0), .var 1]])], false⟩
def g11 : Fd := ⟨2, 2, [.ret (.tup [.call 3 [.idx (.var 0) (.int 0), .idx (.var 1) (.int 0)], .call 6 [.idx (.var 0) (.int 1), .idx (.var 1) (.int 1)]])], false⟩
def g12 : Fd := ⟨2, 2, [.ret (.tup [.call 5 [.idx (.var 0) (.int 0), .idx (.var 1) (.int 0)], .call 4 [.idx (.var 0) (.int 1), .idx (.var 1) (.int 1)]])], false⟩
def g13 : Fd := ⟨3, 2, [.for (.v 2) .seq [.lst [.var 0, .var 1]] [.ife (.not (.call 2 [.var 2])) [.bad] []]], false⟩
def g14 : Fd := ⟨2, 2, [.ife (.not (.call 2 [.var 0])) [.bad] [], .ife (.not (.call 0 [.var 1])) [.bad] []], false⟩
def g15 : Fd := ⟨2, 2, [.ex (.call 14 [.var 0, .var 1]), .ret (.call 9 [.var 0, .var 1])], false⟩
def g16 : Fd := ⟨2, 2, [.ex (.call 14 [.var 0, .var 1]), .ret (.call 10 [.var 0, .var 1])], false⟩
def g17 : Fd := ⟨2, 2, [.ex (.call 13 [.var 0, .var 1]), .ret (.call 11 [.var 0, .var 1])], false⟩
def g18 : Fd := ⟨2, 2, [.ex (.call 13 [.var 0, .var 1]), .ret (.call 12 [.var 0, .var 1])], false⟩
def g19 : Fd := ⟨3, 2, [.set (.v 2) (.bin .mod (.bi .toInt [.bin .add (.bin .add (.bin .add (.bin .mul (.var 0) (.int 1140671)) (.bin .mul (.bin .mul (.int 27644437) (.var 1)) (.var 1))) (.bin .mul (.int 131) (.var 1))) (.int 19)]) (.int 2147483629)), .set (.v 2) (.bin .mod (.bi .toInt [.bin .add (.bin .add (.bin .mul (.var 2) (.var 2)) (.bin .mul (.int 62089) (.var 1))) (.int 32416187)]) (.int 2147483587)), .ret (.bin .mod (.bi .toInt [.bin .mul (.var 2) (.int 48271)]) (.int 2147483647))], false⟩
def g20 : Fd := ⟨4, 2, [.ife (.cmp .gt (.idx (.var 0) (.int 0)) (.int 0)) [.set (.v 2) (.bin .mod (.bi .toInt [.idx (.var 0) (.int 0)]) (.var 1)), .put (.var 0) (.int 0) (.bin .div (.idx (.var 0) (.int 0)) (.var 1)), .ret (.var 2)] [], .set (.v 2) (.int 0), .for (.v 3) .rng1 [.bin .add (.int 1) (.bin .div (.mt .bitLen (.var 1) []) (.int 30))] [.put (.var 0) (.int 2) (.bin .add (.idx (.var 0) (.int 2)) (.int 1)), .set (.v 2) (.bin .add (.bin .mul (.var 2) (.int 2147483587)) (.call 19 [.idx (.var 0) (.int 1), .idx (.var 0) (.int 2)]))], .ret (.bin .mod (.bi .toInt [.var 2]) (.var 1))], false⟩
def g21 : Fd := ⟨2, 2, [.ife (.cmp .lt (.var 1) (.bi .len [.var 0])) [.ret (.idx (.var 0) (.var 1))] [], .ret (.bin .mod (.bi .sum [.cut (.var 0) none (some (.int 1))]) (.int 1000003))], false⟩
def g22 : Fd := ⟨3, 2, [.set (.v 2) (.call 21 [.var 0, .var 1]), .ret (.newc (.lst [.bin .mod (.bi .toInt [.bi .max2 [.bin .sub (.var 2) (.bin .pow (.int 10) (.int 18)), .int 0]]) (.bin .pow (.bin .pow (.int 10) (.int 60)) (.int 10)), .bin .mod (.bi .toInt [.var 2]) (.int 2147483647), .bin .mul (.int 1000) (.var 1)]))], true⟩
def g23 : Fd := ⟨2, 2, [.ret (.bin .sub (.call 20 [.var 0, .bin .add (.bin .mul (.int 2) (.var 1)) (.int 1)]) (.var 1))], false⟩
def g24 : Fd := ⟨5, 2, [.set (.v 2) (.call 23 [.var 0, .var 1]), .par [3, 4] [.bi .min2 [.bin .add (.var 2) (.call 20 [.var 0, .bin .add (.var 1) (.int 1)]), .var 1], .call 20 [.var 0, .int 8]], .ret (.tup [.ife (.cmp .isin (.var 4) (.lst [.int 0, .int 2])) (.non) (.var 2), .ife (.cmp .isin (.var 4) (.lst [.int 1, .int 2])) (.non) (.var 3)])], false⟩
def g25 : Fd := ⟨3, 1, [.ret (.comp (.tup [.ife (.cmp .is (.var 1) (.non)) (.neg (.bin .pow (.int 10) (.int 60))) (.var 1), .ife (.cmp .is (.var 2) (.non)) (.bin .pow (.int 10) (.int 60)) (.var 2)]) (.tup [.v 1, .v 2]) .seq [.var 0] none [1, 2])], false⟩
def g26 : Fd := ⟨2, 2, [.ret (.tup [.ife (.cmp .lt (.var 0) (.neg (.bin .pow (.int 10) (.int 59)))) (.non) (.var 0), .ife (.cmp .gt (.var 1) (.bin .pow (.int 10) (.int 59))) (.non) (.var 1)])], false⟩
def g27 : Fd := ⟨1, 1, [.ret (.lrng (.idx (.var 0) (.int 0)) (.bin .add (.idx (.var 0) (.int 1)) (.int 1)))], false⟩
def g28 : Fd := ⟨10, 3, [.par [3, 4] [.comp (.bin .add (.var 5) (.var 2)) (.v 5) .seq [.call 27 [.var 0]] none [5], .comp (.bin .sub (.var 2) (.var 5)) (.v 5) .seq [.call 27 [.var 0]] none [5]], .par [6, 7] [.lst [], .lst []], .for (.v 5) .seq [.call 27 [.var 0]] [.set (.v 6) (.bin .add (.var 6) (.comp (.bi .min2 [.var 5, .var 8]) (.v 8) .seq [.call 27 [.var 1]] none [8])), .set (.v 7) (.bin .add (.var 7) (.comp (.bi .max2 [.var 5, .var 8]) (.v 8) .seq [.call 27 [.var 1]] none [8]))], .ret (.comp (.sset (.var 9)) (.v 9) .seq [.lst [.var 3, .var 4, .var 6, .var 7]] none [9])], false⟩
def g29_0 : S := .set (.v 1) (.idx (.lst [.int 6, .int 6, .int 6, .bin .sub (.bin .pow (.int 10) (.int 30)) (.int 1)]) (.call 20 [.var 0, .int 4]))
def g29_1 : S := .par [2, 3, 4] [.call 24 [.var 0, .var 1], .call 24 [.var 0, .var 1], .call 23 [.var 0, .var 1]]
def g29_2 : S := .set (.v 5) (.call 25 [.lst [.var 2, .var 3]])
def g29_3 : S := .set (.tup [.v 6, .v 7]) (.idx (.var 5) (.int 0))
def g29_4 : S := .set (.tup [.v 8, .v 9]) (.idx (.var 5) (.int 1))
def g29_5 : S := .set (.v 10) (.lst [.call 26 [.bin .add (.var 6) (.var 4), .bin .add (.var 7) (.var 4)], .call 26 [.bin .sub (.var 4) (.var 7), .bin .sub (.var 4) (.var 6)]])
def g29_6 : S := .set (.v 10) (.bin .add (.var 10) (.lst [.call 26 [.bi .min2 [.var 6, .var 8], .bi .min2 [.var 7, .var 9]], .call 26 [.bi .max2 [.var 6, .var 8], .bi .max2 [.var 7, .var 9]]]))
def g29_7 : S := .set (.v 11) (.lst [.call 15 [.var 2, .var 4], .call 16 [.var 2, .var 4], .call 17 [.var 2, .var 3], .call 18 [.var 2, .var 3]])
def g29_8 : S := .ife (.cmp .ne (.bi .repr [.var 11]) (.bi .repr [.var 10])) [.ret (.bl false)] []
def g29_9 : S := .ife (.and (.cmp .eq (.var 1) (.int 6)) (.and (.cmp .notin (.non) (.var 2)) (.cmp .notin (.non) (.var 3)))) [.ife (.cmp .ne (.bi .repr [.comp (.call 27 [.var 12]) (.v 12) .seq [.var 11] none [12]]) (.bi .repr [.call 28 [.var 2, .var 3, .var 4]])) [.ret (.bl false)] []] []
def g29_10 : S := .set (.v 13) (.lst [.callk 15 [.var 4, .var 2] [1, 0], .callk 16 [.var 4, .var 2] [1, 0], .callk 17 [.var 2, .var 3] [1, 0], .callk 18 [.var 2, .var 3] [1, 0]])
def g29_11 : S := .set (.v 14) (.lst [.call 15 [.idx (.var 11) (.int 0), .bin .sub (.int 0) (.var 4)], .call 16 [.idx (.var 11) (.int 1), .var 4]])
def g29_12 : S := .ret (.and (.cmp .eq (.bi .repr [.var 13]) (.bi .repr [.var 10])) (.cmp .eq (.bi .repr [.var 14]) (.bi .repr [.lst [.var 2, .var 2]])))
def g29 : Fd := ⟨15, 1, [g29_0, g29_1, g29_2, g29_3, g29_4, g29_5, g29_6, g29_7, g29_8, g29_9, g29_10, g29_11, g29_12], false⟩
def g30 : Fd := ⟨4, 1, [.for (.v 1) .rng1 [.int 5] [.ife (.not (.call 29 [.call 22 [.var 0, .var 1]])) [.ret (.bl false)] []], .set (.v 2) (.bin .sub (.bin .pow (.int 10) (.int 30)) (.int 1)), .set (.v 3) (.lst [.call 15 [.tup [.int 0, .var 2], .var 2], .call 16 [.tup [.neg (.var 2), .non], .var 2]]), .set (.v 3) (.bin .add (.var 3) (.lst [.call 15 [.tup [.non, .int 4], .neg (.int 4)], .call 16 [.tup [.non, .int 4], .int 0], .call 16 [.tup [.int 3, .int 9], .int 10], .call 17 [.tup [.non, .int 4], .tup [.int 9, .non]], .call 18 [.tup [.non, .int 4], .tup [.int 9, .non]]])), .ret (.cmp .eq (.bi .repr [.var 3]) (.bi .repr [.lst [.tup [.var 2, .bin .mul (.int 2) (.var 2)], .tup [.non, .bin .mul (.int 2) (.var 2)], .tup [.non, .int 0], .tup [.neg (.int 4), .non], .tup [.int 1, .int 7], .tup [.non, .int 4], .tup [.int 9, .non]]]))], false⟩
def G : List Fd := [g0, g1, g2, g3, g4, g5, g6, g7, g8, g9, g10, g11, g12, g13, g14, g15, g16, g17, g18, g19, g20, g21, g22, g23, g24, g25, g26, g27, g28, g29, g30]
def fa : List He.Fa := [.glo "is_whole", .glo "is_end", .glo "is_range", .glo "lower", .glo "upper", .glo "raised", .glo "capped", .glo "moved_end", .glo "turned_end", .glo "move_span", .glo "turn_span", .glo "least_spans", .glo "greatest_spans", .glo "check_spans", .glo "check_span_number", .glo "span_plus", .glo "span_turned", .glo "span_least", .glo "span_greatest", .glo "_law_hash", .glo "_law_random", .glo "_law_cell", .glo "_law_generator", .glo "_law_number", .glo "_law_range", .glo "_law_pairs", .glo "_law_end", .glo "_law_all", .glo "_law_by_pairs", .glo "_law_right", .glo "law", .free "bool", .free "int", .free "isinstance", .free "len", .free "list", .free "max", .free "min", .free "range", .free "repr", .free "set", .free "sorted", .free "sum", .free "tuple"]
def fn : List He.DefD := [d0.d, d1.d, d2.d, d3.d, d4.d, d5.d, d6.d, d7.d, d8.d, d9.d, d10.d, d11.d, d12.d, d13.d, d14.d, d15.d, d16.d, d17.d, d18.d, d19.d, d20.d, d21.d, d22.d, d23.d, d24.d, d25.d, d26.d, d27.d, d28.d, d29.d, d30.d]
theorem g0_eq : d0.fd bs = g0 := by kernel_rfl
theorem g1_eq : d1.fd bs = g1 := by kernel_rfl
theorem g2_eq : d2.fd bs = g2 := by kernel_rfl
theorem g3_eq : d3.fd bs = g3 := by kernel_rfl
theorem g4_eq : d4.fd bs = g4 := by kernel_rfl
theorem g5_eq : d5.fd bs = g5 := by kernel_rfl
theorem g6_eq : d6.fd bs = g6 := by kernel_rfl
theorem g7_eq : d7.fd bs = g7 := by kernel_rfl
theorem g8_eq : d8.fd bs = g8 := by kernel_rfl
theorem g9_eq : d9.fd bs = g9 := by kernel_rfl
theorem g10_eq : d10.fd bs = g10 := by kernel_rfl
theorem g11_eq : d11.fd bs = g11 := by kernel_rfl
theorem g12_eq : d12.fd bs = g12 := by kernel_rfl
theorem g13_eq : d13.fd bs = g13 := by kernel_rfl
theorem g14_eq : d14.fd bs = g14 := by kernel_rfl
theorem g15_eq : d15.fd bs = g15 := by kernel_rfl
theorem g16_eq : d16.fd bs = g16 := by kernel_rfl
theorem g17_eq : d17.fd bs = g17 := by kernel_rfl
theorem g18_eq : d18.fd bs = g18 := by kernel_rfl
theorem g19_eq : d19.fd bs = g19 := by kernel_rfl
theorem g20_eq : d20.fd bs = g20 := by kernel_rfl
theorem g21_eq : d21.fd bs = g21 := by kernel_rfl
theorem g22_eq : d22.fd bs = g22 := by kernel_rfl
theorem g23_eq : d23.fd bs = g23 := by kernel_rfl
theorem g24_eq : d24.fd bs = g24 := by kernel_rfl
theorem g25_eq : d25.fd bs = g25 := by kernel_rfl
theorem g26_eq : d26.fd bs = g26 := by kernel_rfl
theorem g27_eq : d27.fd bs = g27 := by kernel_rfl
theorem g28_eq : d28.fd bs = g28 := by kernel_rfl
theorem g29_eq : d29.fd bs = g29 := by kernel_rfl
theorem g30_eq : d30.fd bs = g30 := by kernel_rfl
theorem G_eq : dL.map (Dec.fd bs) = G := by
  show [d0.fd bs, d1.fd bs, d2.fd bs, d3.fd bs, d4.fd bs, d5.fd bs, d6.fd bs, d7.fd bs, d8.fd bs, d9.fd bs, d10.fd bs, d11.fd bs, d12.fd bs, d13.fd bs, d14.fd bs, d15.fd bs, d16.fd bs, d17.fd bs, d18.fd bs, d19.fd bs, d20.fd bs, d21.fd bs, d22.fd bs, d23.fd bs, d24.fd bs, d25.fd bs, d26.fd bs, d27.fd bs, d28.fd bs, d29.fd bs, d30.fd bs] = [g0, g1, g2, g3, g4, g5, g6, g7, g8, g9, g10, g11, g12, g13, g14, g15, g16, g17, g18, g19, g20, g21, g22, g23, g24, g25, g26, g27, g28, g29, g30]
  rw [g0_eq, g1_eq, g2_eq, g3_eq, g4_eq, g5_eq, g6_eq, g7_eq, g8_eq, g9_eq, g10_eq, g11_eq, g12_eq, g13_eq, g14_eq, g15_eq, g16_eq, g17_eq, g18_eq, g19_eq, g20_eq, g21_eq, g22_eq, g23_eq, g24_eq, g25_eq, g26_eq, g27_eq, g28_eq, g29_eq, g30_eq]
theorem bd0 (kV doc pm : Value) (an : Option Addr) (cdv ct : Value) (us : List Value) (hl : us.length = d0.ps.length) : bindArgs (PySem.W.fnOf d0.d.name d0.d.qual d0.d.params d0.d.body d0.d.scope .none kV doc pm an cdv ct) ⟨us, []⟩ = pure (d0.ps.zip us) := match us, hl with | [_], _ => rfl
theorem sc0 : FnScope d0.N d0.ps d0.d.scope := ⟨rfl, rfl, rfl, by decide +kernel, rfl, by decide +kernel, by decide +kernel⟩
theorem bd1 (kV doc pm : Value) (an : Option Addr) (cdv ct : Value) (us : List Value) (hl : us.length = d1.ps.length) : bindArgs (PySem.W.fnOf d1.d.name d1.d.qual d1.d.params d1.d.body d1.d.scope .none kV doc pm an cdv ct) ⟨us, []⟩ = pure (d1.ps.zip us) := match us, hl with | [_], _ => rfl
theorem sc1 : FnScope d1.N d1.ps d1.d.scope := ⟨rfl, rfl, rfl, by decide +kernel, rfl, by decide +kernel, by decide +kernel⟩
theorem bd2 (kV doc pm : Value) (an : Option Addr) (cdv ct : Value) (us : List Value) (hl : us.length = d2.ps.length) : bindArgs (PySem.W.fnOf d2.d.name d2.d.qual d2.d.params d2.d.body d2.d.scope .none kV doc pm an cdv ct) ⟨us, []⟩ = pure (d2.ps.zip us) := match us, hl with | [_], _ => rfl
theorem sc2 : FnScope d2.N d2.ps d2.d.scope := ⟨rfl, rfl, rfl, by decide +kernel, rfl, by decide +kernel, by decide +kernel⟩
theorem bd3 (kV doc pm : Value) (an : Option Addr) (cdv ct : Value) (us : List Value) (hl : us.length = d3.ps.length) : bindArgs (PySem.W.fnOf d3.d.name d3.d.qual d3.d.params d3.d.body d3.d.scope .none kV doc pm an cdv ct) ⟨us, []⟩ = pure (d3.ps.zip us) := match us, hl with | [_, _], _ => rfl
theorem sc3 : FnScope d3.N d3.ps d3.d.scope := ⟨rfl, rfl, rfl, by decide +kernel, rfl, by decide +kernel, by decide +kernel⟩
theorem bd4 (kV doc pm : Value) (an : Option Addr) (cdv ct : Value) (us : List Value) (hl : us.length = d4.ps.length) : bindArgs (PySem.W.fnOf d4.d.name d4.d.qual d4.d.params d4.d.body d4.d.scope .none kV doc pm an cdv ct) ⟨us, []⟩ = pure (d4.ps.zip us) := match us, hl with | [_, _], _ => rfl
theorem sc4 : FnScope d4.N d4.ps d4.d.scope := ⟨rfl, rfl, rfl, by decide +kernel, rfl, by decide +kernel, by decide +kernel⟩
theorem bd5 (kV doc pm : Value) (an : Option Addr) (cdv ct : Value) (us : List Value) (hl : us.length = d5.ps.length) : bindArgs (PySem.W.fnOf d5.d.name d5.d.qual d5.d.params d5.d.body d5.d.scope .none kV doc pm an cdv ct) ⟨us, []⟩ = pure (d5.ps.zip us) := match us, hl with | [_, _], _ => rfl
theorem sc5 : FnScope d5.N d5.ps d5.d.scope := ⟨rfl, rfl, rfl, by decide +kernel, rfl, by decide +kernel, by decide +kernel⟩
theorem bd6 (kV doc pm : Value) (an : Option Addr) (cdv ct : Value) (us : List Value) (hl : us.length = d6.ps.length) : bindArgs (PySem.W.fnOf d6.d.name d6.d.qual d6.d.params d6.d.body d6.d.scope .none kV doc pm an cdv ct) ⟨us, []⟩ = pure (d6.ps.zip us) := match us, hl with | [_, _], _ => rfl
theorem sc6 : FnScope d6.N d6.ps d6.d.scope := ⟨rfl, rfl, rfl, by decide +kernel, rfl, by decide +kernel, by decide +kernel⟩
theorem bd7 (kV doc pm : Value) (an : Option Addr) (cdv ct : Value) (us : List Value) (hl : us.length = d7.ps.length) : bindArgs (PySem.W.fnOf d7.d.name d7.d.qual d7.d.params d7.d.body d7.d.scope .none kV doc pm an cdv ct) ⟨us, []⟩ = pure (d7.ps.zip us) := match us, hl with | [_, _], _ => rfl
theorem sc7 : FnScope d7.N d7.ps d7.d.scope := ⟨rfl, rfl, rfl, by decide +kernel, rfl, by decide +kernel, by decide +kernel⟩
theorem bd8 (kV doc pm : Value) (an : Option Addr) (cdv ct : Value) (us : List Value) (hl : us.length = d8.ps.length) : bindArgs (PySem.W.fnOf d8.d.name d8.d.qual d8.d.params d8.d.body d8.d.scope .none kV doc pm an cdv ct) ⟨us, []⟩ = pure (d8.ps.zip us) := match us, hl with | [_, _], _ => rfl
theorem sc8 : FnScope d8.N d8.ps d8.d.scope := ⟨rfl, rfl, rfl, by decide +kernel, rfl, by decide +kernel, by decide +kernel⟩
theorem bd9 (kV doc pm : Value) (an : Option Addr) (cdv ct : Value) (us : List Value) (hl : us.length = d9.ps.length) : bindArgs (PySem.W.fnOf d9.d.name d9.d.qual d9.d.params d9.d.body d9.d.scope .none kV doc pm an cdv ct) ⟨us, []⟩ = pure (d9.ps.zip us) := match us, hl with | [_, _], _ => rfl
theorem sc9 : FnScope d9.N d9.ps d9.d.scope := ⟨rfl, rfl, rfl, by decide +kernel, rfl, by decide +kernel, by decide +kernel⟩
theorem bd10 (kV doc pm : Value) (an : Option Addr) (cdv ct : Value) (us : List Value) (hl : us.length = d10.ps.length) : bindArgs (PySem.W.fnOf d10.d.name d10.d.qual d10.d.params d10.d.body d10.d.scope .none kV doc pm an cdv ct) ⟨us, []⟩ = pure (d10.ps.zip us) := match us, hl with | [_, _], _ => rfl
theorem sc10 : FnScope d10.N d10.ps d10.d.scope := ⟨rfl, rfl, rfl, by decide +kernel, rfl, by decide +kernel, by decide +kernel⟩
theorem bd11 (kV doc pm : Value) (an : Option Addr) (cdv ct : Value) (us : List Value) (hl : us.length = d11.ps.length) : bindArgs (PySem.W.fnOf d11.d.name d11.d.qual d11.d.params d11.d.body d11.d.scope .none kV doc pm an cdv ct) ⟨us, []⟩ = pure (d11.ps.zip us) := match us, hl with | [_, _], _ => rfl
theorem sc11 : FnScope d11.N d11.ps d11.d.scope := ⟨rfl, rfl, rfl, by decide +kernel, rfl, by decide +kernel, by decide +kernel⟩
theorem bd12 (kV doc pm : Value) (an : Option Addr) (cdv ct : Value) (us : List Value) (hl : us.length = d12.ps.length) : bindArgs (PySem.W.fnOf d12.d.name d12.d.qual d12.d.params d12.d.body d12.d.scope .none kV doc pm an cdv ct) ⟨us, []⟩ = pure (d12.ps.zip us) := match us, hl with | [_, _], _ => rfl
theorem sc12 : FnScope d12.N d12.ps d12.d.scope := ⟨rfl, rfl, rfl, by decide +kernel, rfl, by decide +kernel, by decide +kernel⟩
theorem bd13 (kV doc pm : Value) (an : Option Addr) (cdv ct : Value) (us : List Value) (hl : us.length = d13.ps.length) : bindArgs (PySem.W.fnOf d13.d.name d13.d.qual d13.d.params d13.d.body d13.d.scope .none kV doc pm an cdv ct) ⟨us, []⟩ = pure (d13.ps.zip us) := match us, hl with | [_, _], _ => rfl
theorem sc13 : FnScope d13.N d13.ps d13.d.scope := ⟨rfl, rfl, rfl, by decide +kernel, rfl, by decide +kernel, by decide +kernel⟩
theorem bd14 (kV doc pm : Value) (an : Option Addr) (cdv ct : Value) (us : List Value) (hl : us.length = d14.ps.length) : bindArgs (PySem.W.fnOf d14.d.name d14.d.qual d14.d.params d14.d.body d14.d.scope .none kV doc pm an cdv ct) ⟨us, []⟩ = pure (d14.ps.zip us) := match us, hl with | [_, _], _ => rfl
theorem sc14 : FnScope d14.N d14.ps d14.d.scope := ⟨rfl, rfl, rfl, by decide +kernel, rfl, by decide +kernel, by decide +kernel⟩
theorem bd15 (kV doc pm : Value) (an : Option Addr) (cdv ct : Value) (us : List Value) (hl : us.length = d15.ps.length) : bindArgs (PySem.W.fnOf d15.d.name d15.d.qual d15.d.params d15.d.body d15.d.scope .none kV doc pm an cdv ct) ⟨us, []⟩ = pure (d15.ps.zip us) := match us, hl with | [_, _], _ => rfl
theorem sc15 : FnScope d15.N d15.ps d15.d.scope := ⟨rfl, rfl, rfl, by decide +kernel, rfl, by decide +kernel, by decide +kernel⟩
theorem bd16 (kV doc pm : Value) (an : Option Addr) (cdv ct : Value) (us : List Value) (hl : us.length = d16.ps.length) : bindArgs (PySem.W.fnOf d16.d.name d16.d.qual d16.d.params d16.d.body d16.d.scope .none kV doc pm an cdv ct) ⟨us, []⟩ = pure (d16.ps.zip us) := match us, hl with | [_, _], _ => rfl
theorem sc16 : FnScope d16.N d16.ps d16.d.scope := ⟨rfl, rfl, rfl, by decide +kernel, rfl, by decide +kernel, by decide +kernel⟩
theorem bd17 (kV doc pm : Value) (an : Option Addr) (cdv ct : Value) (us : List Value) (hl : us.length = d17.ps.length) : bindArgs (PySem.W.fnOf d17.d.name d17.d.qual d17.d.params d17.d.body d17.d.scope .none kV doc pm an cdv ct) ⟨us, []⟩ = pure (d17.ps.zip us) := match us, hl with | [_, _], _ => rfl
theorem sc17 : FnScope d17.N d17.ps d17.d.scope := ⟨rfl, rfl, rfl, by decide +kernel, rfl, by decide +kernel, by decide +kernel⟩
theorem bd18 (kV doc pm : Value) (an : Option Addr) (cdv ct : Value) (us : List Value) (hl : us.length = d18.ps.length) : bindArgs (PySem.W.fnOf d18.d.name d18.d.qual d18.d.params d18.d.body d18.d.scope .none kV doc pm an cdv ct) ⟨us, []⟩ = pure (d18.ps.zip us) := match us, hl with | [_, _], _ => rfl
theorem sc18 : FnScope d18.N d18.ps d18.d.scope := ⟨rfl, rfl, rfl, by decide +kernel, rfl, by decide +kernel, by decide +kernel⟩
theorem bd19 (kV doc pm : Value) (an : Option Addr) (cdv ct : Value) (us : List Value) (hl : us.length = d19.ps.length) : bindArgs (PySem.W.fnOf d19.d.name d19.d.qual d19.d.params d19.d.body d19.d.scope .none kV doc pm an cdv ct) ⟨us, []⟩ = pure (d19.ps.zip us) := match us, hl with | [_, _], _ => rfl
theorem sc19 : FnScope d19.N d19.ps d19.d.scope := ⟨rfl, rfl, rfl, by decide +kernel, rfl, by decide +kernel, by decide +kernel⟩
theorem bd20 (kV doc pm : Value) (an : Option Addr) (cdv ct : Value) (us : List Value) (hl : us.length = d20.ps.length) : bindArgs (PySem.W.fnOf d20.d.name d20.d.qual d20.d.params d20.d.body d20.d.scope .none kV doc pm an cdv ct) ⟨us, []⟩ = pure (d20.ps.zip us) := match us, hl with | [_, _], _ => rfl
theorem sc20 : FnScope d20.N d20.ps d20.d.scope := ⟨rfl, rfl, rfl, by decide +kernel, rfl, by decide +kernel, by decide +kernel⟩
theorem bd21 (kV doc pm : Value) (an : Option Addr) (cdv ct : Value) (us : List Value) (hl : us.length = d21.ps.length) : bindArgs (PySem.W.fnOf d21.d.name d21.d.qual d21.d.params d21.d.body d21.d.scope .none kV doc pm an cdv ct) ⟨us, []⟩ = pure (d21.ps.zip us) := match us, hl with | [_, _], _ => rfl
theorem sc21 : FnScope d21.N d21.ps d21.d.scope := ⟨rfl, rfl, rfl, by decide +kernel, rfl, by decide +kernel, by decide +kernel⟩
theorem bd22 (kV doc pm : Value) (an : Option Addr) (cdv ct : Value) (us : List Value) (hl : us.length = d22.ps.length) : bindArgs (PySem.W.fnOf d22.d.name d22.d.qual d22.d.params d22.d.body d22.d.scope .none kV doc pm an cdv ct) ⟨us, []⟩ = pure (d22.ps.zip us) := match us, hl with | [_, _], _ => rfl
theorem sc22 : FnScope d22.N d22.ps d22.d.scope := ⟨rfl, rfl, rfl, by decide +kernel, rfl, by decide +kernel, by decide +kernel⟩
theorem bd23 (kV doc pm : Value) (an : Option Addr) (cdv ct : Value) (us : List Value) (hl : us.length = d23.ps.length) : bindArgs (PySem.W.fnOf d23.d.name d23.d.qual d23.d.params d23.d.body d23.d.scope .none kV doc pm an cdv ct) ⟨us, []⟩ = pure (d23.ps.zip us) := match us, hl with | [_, _], _ => rfl
theorem sc23 : FnScope d23.N d23.ps d23.d.scope := ⟨rfl, rfl, rfl, by decide +kernel, rfl, by decide +kernel, by decide +kernel⟩
theorem bd24 (kV doc pm : Value) (an : Option Addr) (cdv ct : Value) (us : List Value) (hl : us.length = d24.ps.length) : bindArgs (PySem.W.fnOf d24.d.name d24.d.qual d24.d.params d24.d.body d24.d.scope .none kV doc pm an cdv ct) ⟨us, []⟩ = pure (d24.ps.zip us) := match us, hl with | [_, _], _ => rfl
theorem sc24 : FnScope d24.N d24.ps d24.d.scope := ⟨rfl, rfl, rfl, by decide +kernel, rfl, by decide +kernel, by decide +kernel⟩
theorem bd25 (kV doc pm : Value) (an : Option Addr) (cdv ct : Value) (us : List Value) (hl : us.length = d25.ps.length) : bindArgs (PySem.W.fnOf d25.d.name d25.d.qual d25.d.params d25.d.body d25.d.scope .none kV doc pm an cdv ct) ⟨us, []⟩ = pure (d25.ps.zip us) := match us, hl with | [_], _ => rfl
theorem sc25 : FnScope d25.N d25.ps d25.d.scope := ⟨rfl, rfl, rfl, by decide +kernel, rfl, by decide +kernel, by decide +kernel⟩
theorem bd26 (kV doc pm : Value) (an : Option Addr) (cdv ct : Value) (us : List Value) (hl : us.length = d26.ps.length) : bindArgs (PySem.W.fnOf d26.d.name d26.d.qual d26.d.params d26.d.body d26.d.scope .none kV doc pm an cdv ct) ⟨us, []⟩ = pure (d26.ps.zip us) := match us, hl with | [_, _], _ => rfl
theorem sc26 : FnScope d26.N d26.ps d26.d.scope := ⟨rfl, rfl, rfl, by decide +kernel, rfl, by decide +kernel, by decide +kernel⟩
theorem bd27 (kV doc pm : Value) (an : Option Addr) (cdv ct : Value) (us : List Value) (hl : us.length = d27.ps.length) : bindArgs (PySem.W.fnOf d27.d.name d27.d.qual d27.d.params d27.d.body d27.d.scope .none kV doc pm an cdv ct) ⟨us, []⟩ = pure (d27.ps.zip us) := match us, hl with | [_], _ => rfl
theorem sc27 : FnScope d27.N d27.ps d27.d.scope := ⟨rfl, rfl, rfl, by decide +kernel, rfl, by decide +kernel, by decide +kernel⟩
theorem bd28 (kV doc pm : Value) (an : Option Addr) (cdv ct : Value) (us : List Value) (hl : us.length = d28.ps.length) : bindArgs (PySem.W.fnOf d28.d.name d28.d.qual d28.d.params d28.d.body d28.d.scope .none kV doc pm an cdv ct) ⟨us, []⟩ = pure (d28.ps.zip us) := match us, hl with | [_, _, _], _ => rfl
theorem sc28 : FnScope d28.N d28.ps d28.d.scope := ⟨rfl, rfl, rfl, by decide +kernel, rfl, by decide +kernel, by decide +kernel⟩
theorem bd29 (kV doc pm : Value) (an : Option Addr) (cdv ct : Value) (us : List Value) (hl : us.length = d29.ps.length) : bindArgs (PySem.W.fnOf d29.d.name d29.d.qual d29.d.params d29.d.body d29.d.scope .none kV doc pm an cdv ct) ⟨us, []⟩ = pure (d29.ps.zip us) := match us, hl with | [_], _ => rfl
theorem sc29 : FnScope d29.N d29.ps d29.d.scope := ⟨rfl, rfl, rfl, by decide +kernel, rfl, by decide +kernel, by decide +kernel⟩
theorem bd30 (kV doc pm : Value) (an : Option Addr) (cdv ct : Value) (us : List Value) (hl : us.length = d30.ps.length) : bindArgs (PySem.W.fnOf d30.d.name d30.d.qual d30.d.params d30.d.body d30.d.scope .none kV doc pm an cdv ct) ⟨us, []⟩ = pure (d30.ps.zip us) := match us, hl with | [_], _ => rfl
theorem sc30 : FnScope d30.N d30.ps d30.d.scope := ⟨rfl, rfl, rfl, by decide +kernel, rfl, by decide +kernel, by decide +kernel⟩
theorem kw0 (kV doc pm : Value) (an : Option Addr) (cdv ct : Value) (ws us : List Value) (hl : ws.length = 2) (h : pick [1, 0] ws = some us) : bindArgs (PySem.W.fnOf d15.d.name d15.d.qual d15.d.params d15.d.body d15.d.scope .none kV doc pm an cdv ct) ⟨[], (["number", "span"] : List Str).zip ws⟩ = pure (d15.ps.zip us) := match ws, hl, h with | [_, _], _, rfl => rfl
theorem kw1 (kV doc pm : Value) (an : Option Addr) (cdv ct : Value) (ws us : List Value) (hl : ws.length = 2) (h : pick [1, 0] ws = some us) : bindArgs (PySem.W.fnOf d16.d.name d16.d.qual d16.d.params d16.d.body d16.d.scope .none kV doc pm an cdv ct) ⟨[], (["number", "span"] : List Str).zip ws⟩ = pure (d16.ps.zip us) := match ws, hl, h with | [_, _], _, rfl => rfl
theorem kw2 (kV doc pm : Value) (an : Option Addr) (cdv ct : Value) (ws us : List Value) (hl : ws.length = 2) (h : pick [1, 0] ws = some us) : bindArgs (PySem.W.fnOf d17.d.name d17.d.qual d17.d.params d17.d.body d17.d.scope .none kV doc pm an cdv ct) ⟨[], (["other", "span"] : List Str).zip ws⟩ = pure (d17.ps.zip us) := match ws, hl, h with | [_, _], _, rfl => rfl
theorem kw3 (kV doc pm : Value) (an : Option Addr) (cdv ct : Value) (ws us : List Value) (hl : ws.length = 2) (h : pick [1, 0] ws = some us) : bindArgs (PySem.W.fnOf d18.d.name d18.d.qual d18.d.params d18.d.body d18.d.scope .none kV doc pm an cdv ct) ⟨[], (["other", "span"] : List Str).zip ws⟩ = pure (d18.ps.zip us) := match ws, hl, h with | [_, _], _, rfl => rfl
theorem row {K : PySem.W.Frag} {h : Heap} {mg : Str → Option Value} (X : K.In h) (Gm : h.Ns mainGlobals mg) (c : He.SaysD fa fn K) : RowF K mg bs dL := by
  refine ⟨?_, ?_, ?_, ?_, ?_, ?_⟩
  · refine all_at ?_
    refine ⟨?_, ?_, ?_, ?_, ?_, ?_, ?_, ?_, ?_, ?_, ?_, ?_, ?_, ?_, ?_, ?_, ?_, ?_, ?_, ?_, ?_, ?_, ?_, ?_, ?_, ?_, ?_, ?_, ?_, ?_, ?_, trivial⟩
    · refine fact_of X Gm c 0 rfl rfl rfl rfl (He.glo_ok X Gm (c.fact 0 (f := .glo "is_whole") rfl)) bd0 ?_
      refine kw_all ?_
      exact ⟨fun e => absurd e (by decide), fun e => absurd e (by decide), fun e => absurd e (by decide), fun e => absurd e (by decide), trivial⟩
    · refine fact_of X Gm c 1 rfl rfl rfl rfl (He.glo_ok X Gm (c.fact 1 (f := .glo "is_end") rfl)) bd1 ?_
      refine kw_all ?_
      exact ⟨fun e => absurd e (by decide), fun e => absurd e (by decide), fun e => absurd e (by decide), fun e => absurd e (by decide), trivial⟩
    · refine fact_of X Gm c 2 rfl rfl rfl rfl (He.glo_ok X Gm (c.fact 2 (f := .glo "is_range") rfl)) bd2 ?_
      refine kw_all ?_
      exact ⟨fun e => absurd e (by decide), fun e => absurd e (by decide), fun e => absurd e (by decide), fun e => absurd e (by decide), trivial⟩
    · refine fact_of X Gm c 3 rfl rfl rfl rfl (He.glo_ok X Gm (c.fact 3 (f := .glo "lower") rfl)) bd3 ?_
      refine kw_all ?_
      exact ⟨fun e => absurd e (by decide), fun e => absurd e (by decide), fun e => absurd e (by decide), fun e => absurd e (by decide), trivial⟩
    · refine fact_of X Gm c 4 rfl rfl rfl rfl (He.glo_ok X Gm (c.fact 4 (f := .glo "upper") rfl)) bd4 ?_
      refine kw_all ?_
      exact ⟨fun e => absurd e (by decide), fun e => absurd e (by decide), fun e => absurd e (by decide), fun e => absurd e (by decide), trivial⟩
    · refine fact_of X Gm c 5 rfl rfl rfl rfl (He.glo_ok X Gm (c.fact 5 (f := .glo "raised") rfl)) bd5 ?_
      refine kw_all ?_
      exact ⟨fun e => absurd e (by decide), fun e => absurd e (by decide), fun e => absurd e (by decide), fun e => absurd e (by decide), trivial⟩
    · refine fact_of X Gm c 6 rfl rfl rfl rfl (He.glo_ok X Gm (c.fact 6 (f := .glo "capped") rfl)) bd6 ?_
      refine kw_all ?_
      exact ⟨fun e => absurd e (by decide), fun e => absurd e (by decide), fun e => absurd e (by decide), fun e => absurd e (by decide), trivial⟩
    · refine fact_of X Gm c 7 rfl rfl rfl rfl (He.glo_ok X Gm (c.fact 7 (f := .glo "moved_end") rfl)) bd7 ?_
      refine kw_all ?_
      exact ⟨fun e => absurd e (by decide), fun e => absurd e (by decide), fun e => absurd e (by decide), fun e => absurd e (by decide), trivial⟩
    · refine fact_of X Gm c 8 rfl rfl rfl rfl (He.glo_ok X Gm (c.fact 8 (f := .glo "turned_end") rfl)) bd8 ?_
      refine kw_all ?_
      exact ⟨fun e => absurd e (by decide), fun e => absurd e (by decide), fun e => absurd e (by decide), fun e => absurd e (by decide), trivial⟩
    · refine fact_of X Gm c 9 rfl rfl rfl rfl (He.glo_ok X Gm (c.fact 9 (f := .glo "move_span") rfl)) bd9 ?_
      refine kw_all ?_
      exact ⟨fun e => absurd e (by decide), fun e => absurd e (by decide), fun e => absurd e (by decide), fun e => absurd e (by decide), trivial⟩
    · refine fact_of X Gm c 10 rfl rfl rfl rfl (He.glo_ok X Gm (c.fact 10 (f := .glo "turn_span") rfl)) bd10 ?_
      refine kw_all ?_
      exact ⟨fun e => absurd e (by decide), fun e => absurd e (by decide), fun e => absurd e (by decide), fun e => absurd e (by decide), trivial⟩
    · refine fact_of X Gm c 11 rfl rfl rfl rfl (He.glo_ok X Gm (c.fact 11 (f := .glo "least_spans") rfl)) bd11 ?_
      refine kw_all ?_
      exact ⟨fun e => absurd e (by decide), fun e => absurd e (by decide), fun e => absurd e (by decide), fun e => absurd e (by decide), trivial⟩
    · refine fact_of X Gm c 12 rfl rfl rfl rfl (He.glo_ok X Gm (c.fact 12 (f := .glo "greatest_spans") rfl)) bd12 ?_
      refine kw_all ?_
      exact ⟨fun e => absurd e (by decide), fun e => absurd e (by decide), fun e => absurd e (by decide), fun e => absurd e (by decide), trivial⟩
    · refine fact_of X Gm c 13 rfl rfl rfl rfl (He.glo_ok X Gm (c.fact 13 (f := .glo "check_spans") rfl)) bd13 ?_
      refine kw_all ?_
      exact ⟨fun e => absurd e (by decide), fun e => absurd e (by decide), fun e => absurd e (by decide), fun e => absurd e (by decide), trivial⟩
    · refine fact_of X Gm c 14 rfl rfl rfl rfl (He.glo_ok X Gm (c.fact 14 (f := .glo "check_span_number") rfl)) bd14 ?_
      refine kw_all ?_
      exact ⟨fun e => absurd e (by decide), fun e => absurd e (by decide), fun e => absurd e (by decide), fun e => absurd e (by decide), trivial⟩
    · refine fact_of X Gm c 15 rfl rfl rfl rfl (He.glo_ok X Gm (c.fact 15 (f := .glo "span_plus") rfl)) bd15 ?_
      refine kw_all ?_
      exact ⟨fun _ => kw0, fun e => absurd e (by decide), fun e => absurd e (by decide), fun e => absurd e (by decide), trivial⟩
    · refine fact_of X Gm c 16 rfl rfl rfl rfl (He.glo_ok X Gm (c.fact 16 (f := .glo "span_turned") rfl)) bd16 ?_
      refine kw_all ?_
      exact ⟨fun e => absurd e (by decide), fun _ => kw1, fun e => absurd e (by decide), fun e => absurd e (by decide), trivial⟩
    · refine fact_of X Gm c 17 rfl rfl rfl rfl (He.glo_ok X Gm (c.fact 17 (f := .glo "span_least") rfl)) bd17 ?_
      refine kw_all ?_
      exact ⟨fun e => absurd e (by decide), fun e => absurd e (by decide), fun _ => kw2, fun e => absurd e (by decide), trivial⟩
    · refine fact_of X Gm c 18 rfl rfl rfl rfl (He.glo_ok X Gm (c.fact 18 (f := .glo "span_greatest") rfl)) bd18 ?_
      refine kw_all ?_
      exact ⟨fun e => absurd e (by decide), fun e => absurd e (by decide), fun e => absurd e (by decide), fun _ => kw3, trivial⟩
    · refine fact_of X Gm c 19 rfl rfl rfl rfl (He.glo_ok X Gm (c.fact 19 (f := .glo "_law_hash") rfl)) bd19 ?_
      refine kw_all ?_
      exact ⟨fun e => absurd e (by decide), fun e => absurd e (by decide), fun e => absurd e (by decide), fun e => absurd e (by decide), trivial⟩
    · refine fact_of X Gm c 20 rfl rfl rfl rfl (He.glo_ok X Gm (c.fact 20 (f := .glo "_law_random") rfl)) bd20 ?_
      refine kw_all ?_
      exact ⟨fun e => absurd e (by decide), fun e => absurd e (by decide), fun e => absurd e (by decide), fun e => absurd e (by decide), trivial⟩
    · refine fact_of X Gm c 21 rfl rfl rfl rfl (He.glo_ok X Gm (c.fact 21 (f := .glo "_law_cell") rfl)) bd21 ?_
      refine kw_all ?_
      exact ⟨fun e => absurd e (by decide), fun e => absurd e (by decide), fun e => absurd e (by decide), fun e => absurd e (by decide), trivial⟩
    · refine fact_of X Gm c 22 rfl rfl rfl rfl (He.glo_ok X Gm (c.fact 22 (f := .glo "_law_generator") rfl)) bd22 ?_
      refine kw_all ?_
      exact ⟨fun e => absurd e (by decide), fun e => absurd e (by decide), fun e => absurd e (by decide), fun e => absurd e (by decide), trivial⟩
    · refine fact_of X Gm c 23 rfl rfl rfl rfl (He.glo_ok X Gm (c.fact 23 (f := .glo "_law_number") rfl)) bd23 ?_
      refine kw_all ?_
      exact ⟨fun e => absurd e (by decide), fun e => absurd e (by decide), fun e => absurd e (by decide), fun e => absurd e (by decide), trivial⟩
    · refine fact_of X Gm c 24 rfl rfl rfl rfl (He.glo_ok X Gm (c.fact 24 (f := .glo "_law_range") rfl)) bd24 ?_
      refine kw_all ?_
      exact ⟨fun e => absurd e (by decide), fun e => absurd e (by decide), fun e => absurd e (by decide), fun e => absurd e (by decide), trivial⟩
    · refine fact_of X Gm c 25 rfl rfl rfl rfl (He.glo_ok X Gm (c.fact 25 (f := .glo "_law_pairs") rfl)) bd25 ?_
      refine kw_all ?_
      exact ⟨fun e => absurd e (by decide), fun e => absurd e (by decide), fun e => absurd e (by decide), fun e => absurd e (by decide), trivial⟩
    · refine fact_of X Gm c 26 rfl rfl rfl rfl (He.glo_ok X Gm (c.fact 26 (f := .glo "_law_end") rfl)) bd26 ?_
      refine kw_all ?_
      exact ⟨fun e => absurd e (by decide), fun e => absurd e (by decide), fun e => absurd e (by decide), fun e => absurd e (by decide), trivial⟩
    · refine fact_of X Gm c 27 rfl rfl rfl rfl (He.glo_ok X Gm (c.fact 27 (f := .glo "_law_all") rfl)) bd27 ?_
      refine kw_all ?_
      exact ⟨fun e => absurd e (by decide), fun e => absurd e (by decide), fun e => absurd e (by decide), fun e => absurd e (by decide), trivial⟩
    · refine fact_of X Gm c 28 rfl rfl rfl rfl (He.glo_ok X Gm (c.fact 28 (f := .glo "_law_by_pairs") rfl)) bd28 ?_
      refine kw_all ?_
      exact ⟨fun e => absurd e (by decide), fun e => absurd e (by decide), fun e => absurd e (by decide), fun e => absurd e (by decide), trivial⟩
    · refine fact_of X Gm c 29 rfl rfl rfl rfl (He.glo_ok X Gm (c.fact 29 (f := .glo "_law_right") rfl)) bd29 ?_
      refine kw_all ?_
      exact ⟨fun e => absurd e (by decide), fun e => absurd e (by decide), fun e => absurd e (by decide), fun e => absurd e (by decide), trivial⟩
    · refine fact_of X Gm c 30 rfl rfl rfl rfl (He.glo_ok X Gm (c.fact 30 (f := .glo "law") rfl)) bd30 ?_
      refine kw_all ?_
      exact ⟨fun e => absurd e (by decide), fun e => absurd e (by decide), fun e => absurd e (by decide), fun e => absurd e (by decide), trivial⟩
  · refine fns_at rfl
  · intro z hz
    have hz : z ∈ [d0, d1, d2, d3, d4, d5, d6, d7, d8, d9, d10, d11, d12, d13, d14, d15, d16, d17, d18, d19, d20, d21, d22, d23, d24, d25, d26, d27, d28, d29, d30] := hz
    simp only [List.mem_cons, List.not_mem_nil, or_false] at hz
    rcases hz with rfl | rfl | rfl | rfl | rfl | rfl | rfl | rfl | rfl | rfl | rfl | rfl | rfl | rfl | rfl | rfl | rfl | rfl | rfl | rfl | rfl | rfl | rfl | rfl | rfl | rfl | rfl | rfl | rfl | rfl | rfl
    · exact sc0
    · exact sc1
    · exact sc2
    · exact sc3
    · exact sc4
    · exact sc5
    · exact sc6
    · exact sc7
    · exact sc8
    · exact sc9
    · exact sc10
    · exact sc11
    · exact sc12
    · exact sc13
    · exact sc14
    · exact sc15
    · exact sc16
    · exact sc17
    · exact sc18
    · exact sc19
    · exact sc20
    · exact sc21
    · exact sc22
    · exact sc23
    · exact sc24
    · exact sc25
    · exact sc26
    · exact sc27
    · exact sc28
    · exact sc29
    · exact sc30
  · exact free_at X Gm c 31 rfl
  · exact gi_at X Gm c 44 rfl
  · exact gs_at X Gm c 44 rfl
/-! ### the head -/
abbrev Ro : PySem.W.OpenRow := PySem.W.OpenLaw.row Rw
abbrev hk : PySem.W.Hook := He.hookD 4 fa fn
def ob (s : PySem.W.SharedT) : He.AlD := He.obsDG 4 fa fn (HandSHeadRun.getT s)
theorem ob_eq (s : PySem.W.SharedT) : ob s = hk.obs s.abs := He.obsDG_eq (HandSHeadRun.getT_eq s)
abbrev loose0 : List Str := ["BoundError", "InvalidNumber", "InvalidRange", "is_whole", "is_end", "is_range", "lower", "upper", "raised", "capped", "moved_end", "turned_end", "move_span", "turn_span", "least_spans", "greatest_spans", "check_spans", "check_span_number", "span_plus", "span_turned", "span_least", "span_greatest", "_law_hash", "_law_random", "_law_cell", "_law_generator", "_law_number", "_law_range", "_law_pairs", "_law_end"]
abbrev loose1 : List Str := ["_law_all", "_law_by_pairs", "_law_right"]
abbrev loose : List Str := loose0 ++ loose1
theorem run (w : World) : HandSHeadRun.RunEq Ro (PySem.W.view Ro.prog [37]) hk ob 40000 loose w := by
  intro os
  kernel_rfl
open PySem.W PySem.Calls in
theorem holds_of (go : ∀ ns : List Int, ns.length ≤ 63 → (∀ z ∈ ns, Builtin.Int.intBits z ≤ 1048576) → ∃ wf fuel m, callN G wf fuel 60 30 [.ro (ns.map .int)] [] = .ok (.bl true) m) : Rw.Holds := by
  w_on; o_law
  refine HandSHeadRun.head_any (r := Ro) (q := view Ro.prog [37]) (H := hk) (ob := ob) (M := 40000) (loose := loose) (d := HandSHeadRun.topDef Ro.prog 37) (kwd := []) ob_eq
    (by kernel_rfl) (fun s => by kernel_rfl) run (by kernel_rfl) (by kernel_rfl) (by kernel_rfl) (by rfl) (by first | assumption | decide +kernel) (by decide +kernel) ⟨rfl, rfl, rfl, rfl, rfl, by decide +kernel⟩ ?hw ?hc
  case hw => w_witness2
  case hc =>
    refine walk_g (l := Rw) (n := 63) (k := 60) (x := "script") (B := bs) (L := dL) (i := 30) (z := d30) rfl (by decide) (by kernel_rfl) ⟨⟨rfl, by decide, by decide⟩, rfl⟩ rfl (by kernel_rfl) rfl ?F ?go
    case go =>
      intro ns h1 h2
      rw [G_eq]
      exact go ns h1 h2
    case F =>
      rintro w h mg ⟨K, KX, c⟩ Gm
      exact ⟨K, KX, row KX Gm c⟩
end Row
end EV

set_option Elab.async false
set_option linter.all false
set_option maxRecDepth 100000
set_option maxHeartbeats 0
set_option autoImplicit false
namespace EV
open PySem PySem.Spec PyProof.Rows L2
namespace Row
variable {wf k : Nat} {m : Mm}
def lowerM : Option Int → Option Int → Option Int
  | some a, some b => some (min a b)
  | _, _ => none
def upperM : Option Int → Option Int → Option Int
  | some a, some b => some (max a b)
  | _, _ => none
def raisedM : Option Int → Option Int → Option Int
  | none, b => b
  | a, none => a
  | some a, some b => some (max a b)
def cappedM : Option Int → Option Int → Option Int
  | none, b => b
  | a, none => a
  | some a, some b => some (min a b)
theorem c_whole {i : Int} : callN G wf 60 (k + 1) 0 [.int i] m = .ok (.bl true) m := by
  rw [call_eq (g := g0) rfl rfl]
  simp [g0, startD]
theorem c_end {a : Option Int} : callN G wf 60 (k + 2) 1 [oD a] m = .ok (.bl true) m := by
  rw [call_eq (g := g1) rfl rfl]
  cases a <;> simp [g1, startD, c_whole]
theorem c_lower {a b : Option Int} : callN G wf 60 (k + 1) 3 [oD a, oD b] m = .ok (oD (lowerM a b)) m := by
  rw [call_eq (g := g3) rfl rfl]
  cases a <;> cases b <;> simp [g3, startD, lowerM]
theorem c_upper {a b : Option Int} : callN G wf 60 (k + 1) 4 [oD a, oD b] m = .ok (oD (upperM a b)) m := by
  rw [call_eq (g := g4) rfl rfl]
  cases a <;> cases b <;> simp [g4, startD, upperM]
theorem c_raised {a b : Option Int} : callN G wf 60 (k + 1) 5 [oD a, oD b] m = .ok (oD (raisedM a b)) m := by
  rw [call_eq (g := g5) rfl rfl]
  cases a <;> cases b <;> simp [g5, startD, raisedM]
theorem c_capped {a b : Option Int} : callN G wf 60 (k + 1) 6 [oD a, oD b] m = .ok (oD (cappedM a b)) m := by
  rw [call_eq (g := g6) rfl rfl]
  cases a <;> cases b <;> simp [g6, startD, cappedM]
/-- a range -/
abbrev Sp := Option Int × Option Int
def sD (s : Sp) : D := .tup [oD s.1, oD s.2]
def Sp.ok : Sp → Prop
  | (some a, some b) => a ≤ b
  | _ => True
theorem c_endN : callN G wf 60 (k + 2) 1 [.non] m = .ok (.bl true) m := c_end (a := none)
theorem c_endI {i : Int} : callN G wf 60 (k + 2) 1 [.int i] m = .ok (.bl true) m := c_end (a := some i)
theorem c_range {s : Sp} (h : s.ok) : callN G wf 60 (k + 3) 2 [sD s] m = .ok (.bl true) m := by
  rw [call_eq (g := g2) rfl rfl]
  obtain ⟨a, b⟩ := s
  cases a <;> cases b <;> simp [g2, startD, sD, c_endN, c_endI]
  exact h

def movedM (n : Int) (a : Option Int) : Option Int := a.map (· + n)
def turnedM (n : Int) (a : Option Int) : Option Int := a.map (n - ·)
theorem c_moved {a : Option Int} {n : Int} : callN G wf 60 (k + 1) 7 [oD a, .int n] m = .ok (oD (movedM n a)) m := by
  rw [call_eq (g := g7) rfl rfl]
  cases a <;> simp [g7, startD, movedM]
theorem c_turned {a : Option Int} {n : Int} : callN G wf 60 (k + 1) 8 [oD a, .int n] m = .ok (oD (turnedM n a)) m := by
  rw [call_eq (g := g8) rfl rfl]
  cases a <;> simp [g8, startD, turnedM]
theorem c_move {s : Sp} {n : Int} : callN G wf 60 (k + 2) 9 [sD s, .int n] m = .ok (sD (movedM n s.1, movedM n s.2)) m := by
  rw [call_eq (g := g9) rfl rfl]
  simp [g9, startD, sD, c_moved]
theorem c_turn {s : Sp} {n : Int} : callN G wf 60 (k + 2) 10 [sD s, .int n] m = .ok (sD (turnedM n s.2, turnedM n s.1)) m := by
  rw [call_eq (g := g10) rfl rfl]
  simp [g10, startD, sD, c_turned]
theorem c_least {s t : Sp} : callN G wf 60 (k + 2) 11 [sD s, sD t] m = .ok (sD (lowerM s.1 t.1, cappedM s.2 t.2)) m := by
  rw [call_eq (g := g11) rfl rfl]
  simp [g11, startD, sD, c_lower, c_capped]
theorem c_great {s t : Sp} : callN G wf 60 (k + 2) 12 [sD s, sD t] m = .ok (sD (raisedM s.1 t.1, upperM s.2 t.2)) m := by
  rw [call_eq (g := g12) rfl rfl]
  simp [g12, startD, sD, c_raised, c_upper]
theorem c_check {s t : Sp} (h : s.ok) (h2 : t.ok) : callN G wf 60 (k + 4) 13 [sD s, sD t] m = .ok .non m := by
  rw [call_eq (g := g13) rfl rfl]
  simp [g13, startD, c_range h, c_range h2]
theorem c_checkN {s : Sp} {n : Int} (h : s.ok) : callN G wf 60 (k + 4) 14 [sD s, .int n] m = .ok .non m := by
  rw [call_eq (g := g14) rfl rfl]
  simp [g14, startD, c_range h, c_whole]
theorem frz_sD {n : Nat} {s : Sp} : D.frz n m (sD s) = sD s := by simp [sD]
theorem p_plus {s : Sp} {n : Int} (h : s.ok) : callN G wf 60 (k + 5) 15 [sD s, .int n] m = .ok (sD (movedM n s.1, movedM n s.2)) m := by
  rw [call_eq (g := g15) rfl rfl]
  simp [g15, startD, c_checkN h, c_move, frz_sD]
theorem p_turn {s : Sp} {n : Int} (h : s.ok) : callN G wf 60 (k + 5) 16 [sD s, .int n] m = .ok (sD (turnedM n s.2, turnedM n s.1)) m := by
  rw [call_eq (g := g16) rfl rfl]
  simp [g16, startD, c_checkN h, c_turn, frz_sD]
theorem p_least {s t : Sp} (h : s.ok) (h2 : t.ok) : callN G wf 60 (k + 5) 17 [sD s, sD t] m = .ok (sD (lowerM s.1 t.1, cappedM s.2 t.2)) m := by
  rw [call_eq (g := g17) rfl rfl]
  simp [g17, startD, c_check h h2, c_least, frz_sD]
theorem p_great {s t : Sp} (h : s.ok) (h2 : t.ok) : callN G wf 60 (k + 5) 18 [sD s, sD t] m = .ok (sD (raisedM s.1 t.1, upperM s.2 t.2)) m := by
  rw [call_eq (g := g18) rfl rfl]
  simp [g18, startD, c_check h h2, c_great, frz_sD]
theorem hashG : G[19]? = some hashF := rfl
theorem rndG : G[20]? = some (rndF 19) := rfl
theorem cellG : G[21]? = some cellF := rfl
theorem genG : G[22]? = some (genF 21) := rfl
theorem num_ok {g : Nat} {N M : Int} (hg : GOk m g N) (hN : N ≤ 10 ^ 17) (M0 : 0 ≤ M) (M1 : M ≤ 10 ^ 31) : ∃ (v : Int) (s : List D), callN G wf 60 (k + 3) 23 [.obj g, .int M] m = .ok (.int v) (m.set g s) ∧ -M ≤ v ∧ v ≤ M ∧ GOk (m.set g s) g (N + 101) := by
  have ml : binD m .mul (.int 2) (.int M) = some (.int (2 * M)) := mul_b (a := 3) (b := 120) (.dec rfl) (.of (by omega) (by omega)) (by decide)
  obtain ⟨v, s, e, v0, v1, h⟩ := rnd_ok (wf := wf) (k := k) (r := 20) hashG rndG hg hN (B := 2 * M + 1) (by omega) ((B2.of (a := 120) (by omega) (by omega)).le (by decide))
  refine ⟨v - M, s, ?_, by omega, by omega, h⟩
  rw [call_eq (g := g23) rfl rfl]
  simp [g23, startD, ml, e, -v_mul]
/-- a range with small ends -/
structure Sp.good (s : Sp) (M : Int) : Prop where
  ok : s.ok
  lo : ∀ a, s.1 = some a → -M ≤ a ∧ a ≤ M
  hi : ∀ a, s.2 = some a → -M ≤ a ∧ a ≤ M
theorem Sp.good.mono {s : Sp} {M M' : Int} (h : s.good M) (l : M ≤ M') : s.good M' :=
  ⟨h.ok, fun a e => by have := h.lo a e; omega, fun a e => by have := h.hi a e; omega⟩
@[simp] theorem v_in2 {m : Mm} {w p q : Int} : cmpD m .isin (.int w) (.lst [.int p, .int q]) = some (decide (p = w) || decide (q = w)) := by
  show some ((p == w) || ((q == w) || false)) = _
  rw [Bool.or_false]
  rfl
theorem range_ok {g : Nat} {N M : Int} (hg : GOk m g N) (hN : N + 1000 ≤ 10 ^ 17) (M0 : 0 ≤ M) (M1 : M ≤ 10 ^ 31) : ∃ (v : Sp) (s : List D), callN G wf 60 (k + 4) 24 [.obj g, .int M] m = .ok (sD v) (m.set g s) ∧ v.good M ∧ GOk (m.set g s) g (N + 303) := by
  obtain ⟨low, s1, e1, l0, l1, h1⟩ := num_ok (wf := wf) (k := k) hg (by omega) M0 M1
  obtain ⟨r, s2, e2, r0, r1, h2⟩ := rnd_ok (wf := wf) (k := k + 1) (r := 20) hashG rndG h1 (by omega) (B := M + 1) (by omega) ((B2.of (a := 120) (by omega) (by omega)).le (by decide))
  rw [set_set] at e2 h2
  obtain ⟨w, s3, e3, w0, w1, h3⟩ := rnd_ok (wf := wf) (k := k + 1) (r := 20) hashG rndG h2 (by omega) (B := 8) (by omega) ((B2.dec (a := 4) rfl).le (by decide))
  rw [set_set] at e3 h3
  refine ⟨(if w = 0 ∨ w = 2 then none else some low, if w = 1 ∨ w = 2 then none else some (min (low + r) M)), s3, ?_, ⟨?_, ?_, ?_⟩, h3.mono (by omega)⟩
  · rw [call_eq (g := g24) rfl rfl]
    by_cases q0 : w = 0
    · subst q0; simp [g24, startD, e1, e2, e3, sD]
    by_cases q1 : w = 1
    · subst q1; simp [g24, startD, e1, e2, e3, sD]
    by_cases q2 : w = 2
    · subst q2; simp [g24, startD, e1, e2, e3, sD]
    have q0' : ¬ 0 = w := fun e => q0 e.symm
    have q1' : ¬ 1 = w := fun e => q1 e.symm
    have q2' : ¬ 2 = w := fun e => q2 e.symm
    simp [g24, startD, e1, e2, e3, sD, q0, q1, q2, q0', q1', q2']
  · by_cases q : w = 0 ∨ w = 2
    · rw [if_pos q]; cases (if w = 1 ∨ w = 2 then none else some (min (low + r) M)) <;> trivial
    · by_cases q' : w = 1 ∨ w = 2
      · rw [if_pos q', if_neg q]; trivial
      · rw [if_neg q', if_neg q]; show low ≤ min (low + r) M; omega
  · intro a e
    have e : (if w = 0 ∨ w = 2 then none else some low) = some a := e
    split at e
    · cases e
    · cases e; omega
  · intro a e
    have e : (if w = 1 ∨ w = 2 then none else some (min (low + r) M)) = some a := e
    split at e
    · cases e
    · cases e; omega
def ten59 : Int := 10 ^ 59
theorem p59 {m : Mm} : binD m .pow (.int 10) (.int 59) = some (.int ten59) := pow_c (by decide +kernel)
def loM (s : Sp) : Int := s.1.getD (-ten60)
def hiM (s : Sp) : Int := s.2.getD ten60
def endM (lo hi : Int) : Sp := (if lo < -ten59 then none else some lo, if ten59 < hi then none else some hi)
theorem pairs_ok {s t : Sp} : callN G wf 60 (k + 1) 25 [.lst [sD s, sD t]] m = .ok (.lst [.tup [.int (loM s), .int (hiM s)], .tup [.int (loM t), .int (hiM t)]]) m := by
  rw [call_eq (g := g25) rfl rfl]
  obtain ⟨a, b⟩ := s
  obtain ⟨c, d⟩ := t
  cases a <;> cases b <;> cases c <;> cases d <;> simp [g25, startD, sD, eLc_cons, sizeLine, p60, loM, hiM, -v_pow]
theorem end_ok {lo hi : Int} : callN G wf 60 (k + 1) 26 [.int lo, .int hi] m = .ok (sD (endM lo hi)) m := by
  rw [call_eq (g := g26) rfl rfl]
  by_cases h : lo < -ten59 <;> by_cases h2 : ten59 < hi <;> simp [g26, startD, sD, p59, endM, h, h2, -v_pow]
end Row
end EV

set_option Elab.async false
set_option linter.all false
set_option maxRecDepth 100000
set_option maxHeartbeats 0
set_option autoImplicit false
namespace EV
open PySem PySem.Spec PyProof.Rows L2
/-! ### ranges written out -/
theorem rng_ints (lo : Int) : ∀ n : Nat, rngD lo n = ((List.range n).map fun k => lo + (k : Nat)).map D.int := fun n => by
  rw [rngD_map, List.map_map]
  rfl
/-- the numbers lo .. hi -/
def upto (lo hi : Int) : List Int := (List.range (hi + 1 - lo).toNat).map fun k => lo + (k : Nat)
theorem mem_upto {lo hi k : Int} : k ∈ upto lo hi ↔ lo ≤ k ∧ k ≤ hi := by
  unfold upto
  rw [List.mem_map]
  constructor
  · rintro ⟨j, hj, rfl⟩
    have := List.mem_range.mp hj
    omega
  · rintro ⟨h1, h2⟩
    exact ⟨(k - lo).toNat, List.mem_range.mpr (by omega), by omega⟩
theorem upto_lt (lo hi : Int) : (upto lo hi).Pairwise (· < ·) := by
  unfold upto
  rw [List.pairwise_map]
  exact List.pairwise_lt_range.imp fun h => by omega
theorem upto_len (lo hi : Int) : (upto lo hi).length = (hi + 1 - lo).toNat := by
  unfold upto
  rw [List.length_map, List.length_range]
/-- what sorted(set(..)) gives, by its members -/
theorem sset_upto {m : Mm} {ns : List Int} {lo hi : Int} (h : ∀ k, k ∈ ns ↔ lo ≤ k ∧ k ≤ hi) (hl : ns.length ≤ 4000) (hs : hi - lo < 60) : ssetD m (.lst (ns.map .int)) = some (.lst ((upto lo hi).map .int)) := by
  have e : sortI (dedI ns) = upto lo hi := lt_uniq (sort_lt (nd_ded ns)) (upto_lt lo hi) fun k => by rw [mem_sort, mem_ded, h, mem_upto]
  have l2 : (dedI ns).length = (upto lo hi).length := by rw [← e]; exact ((sortI_perm _).length_eq).symm
  have l3 : (dedI ns).length < 64 := by rw [l2, upto_len]; omega
  show ((some (ns.map D.int)).bind intsD).bind (fun ns => if ns.length ≤ 4000 ∧ (dedI ns).length < 64 then some (D.lst ((sortI (dedI ns)).map .int)) else none) = _
  rw [Option.bind_some, ints_of, Option.bind_some, if_pos ⟨hl, l3⟩, e]
namespace Row
variable {wf k : Nat} {m : Mm}
theorem all_ok {lo hi : Int} (h0 : -(10 ^ 6) ≤ lo) (h1 : hi ≤ 10 ^ 6) (h2 : lo ≤ 10 ^ 6) (h3 : -(10 ^ 6) ≤ hi) : callN G wf 60 (k + 1) 27 [.tup [.int lo, .int hi]] m = .ok (.lst ((upto lo hi).map .int)) m := by
  have e : lrngD (.int lo) (.int (hi + 1)) = some (.lst ((upto lo hi).map .int)) := by
    show (if -(2 ^ 62) ≤ lo ∧ lo < 2 ^ 62 ∧ -(2 ^ 62) ≤ hi + 1 ∧ hi + 1 < 2 ^ 62 ∧ (hi + 1 - lo).toNat ≤ 2 ^ 24 then some (D.lst (rngD lo (hi + 1 - lo).toNat)) else none) = _
    rw [if_pos ⟨by omega, by omega, by omega, by omega, by omega⟩, rng_ints]
    rfl
  have p : D.pureL ((upto lo hi).map D.int) = true := by
    induction upto lo hi with
    | nil => rfl
    | cons a l ih => exact ih
  rw [call_eq (g := g27) rfl rfl]
  have l1 : evE (callN G wf 60 k) 59 (.lrng (.idx (.var 0) (.int 0)) (.bin .add (.idx (.var 0) (.int 1)) (.int 1))) [some (.tup [.int lo, .int hi])] m = .ok (.lst ((upto lo hi).map .int)) m := by
    show ((evE (callN G wf 60 k) 58 (.idx (.var 0) (.int 0)) [some (.tup [.int lo, .int hi])] m).bind fun x m1 => (evE (callN G wf 60 k) 58 (.bin .add (.idx (.var 0) (.int 1)) (.int 1)) [some (.tup [.int lo, .int hi])] m1).bind fun y m2 => R.opt (lrngD x y) m2) = _
    simp [e]
  show outD false m (evSs (fun s r m => evS (callN G wf 60 k) wf 60 s r m) [.ret (.lrng (.idx (.var 0) (.int 0)) (.bin .add (.idx (.var 0) (.int 1)) (.int 1)))] [some (.tup [.int lo, .int hi])] m) = _
  rw [eSs_cons, eS_ret, l1, stm_ok, obind_rt, out_rt, frz_lst, frz_pureL _ _ _ p, List.take_length]
end Row
end EV

set_option Elab.async false
set_option linter.all false
set_option maxRecDepth 100000
set_option maxHeartbeats 0
set_option autoImplicit false
namespace EV
open PySem PySem.Spec PyProof.Rows L2
namespace Row
variable {wf k : Nat} {m : Mm}
/-! ### the plain law -/
abbrev Big : Int := 10 ^ 30
theorem ten60_v : ten60 = 1000000000000000000000000000000000000000000000000000000000000 := by decide +kernel
theorem ten59_v : ten59 = 100000000000000000000000000000000000000000000000000000000000 := by decide +kernel
theorem big_v : Big = 1000000000000000000000000000000 := by decide +kernel
theorem e_moved {s : Sp} (g : s.good Big) {n : Int} (h0 : -Big ≤ n) (h1 : n ≤ Big) : endM (loM s + n) (hiM s + n) = (movedM n s.1, movedM n s.2) := by
  have h60 := ten60_v
  have h59 := ten59_v
  have hb := big_v
  obtain ⟨a, b⟩ := s
  have i1 := g.lo
  have i2 := g.hi
  clear g
  unfold endM
  refine Prod.ext ?_ ?_
  · show (if a.getD (-ten60) + n < -ten59 then none else some (a.getD (-ten60) + n)) = movedM n a
    cases a <;> simp [movedM] at * <;> omega
  · show (if ten59 < b.getD ten60 + n then none else some (b.getD ten60 + n)) = movedM n b
    cases b <;> simp [movedM] at * <;> omega
theorem e_turned {s : Sp} (g : s.good Big) {n : Int} (h0 : -Big ≤ n) (h1 : n ≤ Big) : endM (n - hiM s) (n - loM s) = (turnedM n s.2, turnedM n s.1) := by
  have h60 := ten60_v
  have h59 := ten59_v
  have hb := big_v
  obtain ⟨a, b⟩ := s
  have i1 := g.lo
  have i2 := g.hi
  clear g
  unfold endM
  refine Prod.ext ?_ ?_
  · show (if n - b.getD ten60 < -ten59 then none else some (n - b.getD ten60)) = turnedM n b
    cases b <;> simp [turnedM] at * <;> omega
  · show (if ten59 < n - a.getD (-ten60) then none else some (n - a.getD (-ten60))) = turnedM n a
    cases a <;> simp [turnedM] at * <;> omega
theorem e_least {s t : Sp} (g : s.good Big) (g2 : t.good Big) : endM (min (loM s) (loM t)) (min (hiM s) (hiM t)) = (lowerM s.1 t.1, cappedM s.2 t.2) := by
  have h60 := ten60_v
  have h59 := ten59_v
  have hb := big_v
  obtain ⟨a, b⟩ := s
  obtain ⟨c, d⟩ := t
  have i1 := g.lo
  have i2 := g.hi
  have i3 := g2.lo
  have i4 := g2.hi
  clear g g2
  unfold endM
  refine Prod.ext ?_ ?_
  · show (if min (a.getD (-ten60)) (c.getD (-ten60)) < -ten59 then none else some (min (a.getD (-ten60)) (c.getD (-ten60)))) = lowerM a c
    cases a <;> cases c <;> simp [lowerM] at * <;> omega
  · show (if ten59 < min (b.getD ten60) (d.getD ten60) then none else some (min (b.getD ten60) (d.getD ten60))) = cappedM b d
    cases b <;> cases d <;> simp [cappedM] at * <;> omega
theorem e_great {s t : Sp} (g : s.good Big) (g2 : t.good Big) : endM (max (loM s) (loM t)) (max (hiM s) (hiM t)) = (raisedM s.1 t.1, upperM s.2 t.2) := by
  have h60 := ten60_v
  have h59 := ten59_v
  have hb := big_v
  obtain ⟨a, b⟩ := s
  obtain ⟨c, d⟩ := t
  have i1 := g.lo
  have i2 := g.hi
  have i3 := g2.lo
  have i4 := g2.hi
  clear g g2
  unfold endM
  refine Prod.ext ?_ ?_
  · show (if max (a.getD (-ten60)) (c.getD (-ten60)) < -ten59 then none else some (max (a.getD (-ten60)) (c.getD (-ten60)))) = raisedM a c
    cases a <;> cases c <;> simp [raisedM] at * <;> omega
  · show (if ten59 < max (b.getD ten60) (d.getD ten60) then none else some (max (b.getD ten60) (d.getD ten60))) = upperM b d
    cases b <;> cases d <;> simp [upperM] at * <;> omega
end Row
end EV

set_option Elab.async false
set_option linter.all false
set_option maxRecDepth 100000
set_option maxHeartbeats 0
set_option autoImplicit false
namespace EV
open PySem PySem.Spec PyProof.Rows L2
/-- [f(x) for x in numbers] -/
theorem map_ok {C : Nat → List D → Mm → R D} {n i : Nat} {elt : E} {φ : Int → Int} {ρ : Rho} {m0 m : Mm} (h : ∀ x : Int, evE C n elt (ρ.set i (some (.int x))) m = .ok (.int (φ x)) m) : ∀ (xs acc : List Int), acc.length + xs.length < sizeLine →
    evLc (ctn C n elt (.v i) none ρ) m0 [] (xs.map .int) (acc.map .int) m = .ok ((acc ++ xs.map φ).map .int) m
  | [], acc, _ => by simp
  | x :: xs, acc, hl => by
    have hl : acc.length + (xs.length + 1) < sizeLine := hl
    have h1 : (acc.map D.int).length < sizeLine := by rw [List.length_map]; omega
    have ih := map_ok (m0 := m0) h xs (acc ++ [φ x]) (by rw [List.length_append]; simp; omega)
    rw [List.map_cons, eLc_cons, if_pos h1, ctn_none]
    simp only [setT_v]
    rw [h x, R.bind_ok, R.bind_ok]
    simpa using ih
theorem map_at {C : Nat → List D → Mm → R D} {n i : Nat} {elt : E} {φ : Int → Int} {ρ : Rho} {m0 m : Mm} (h : ∀ x : Int, evE C n elt (ρ.set i (some (.int x))) m = .ok (.int (φ x)) m) (xs : List Int) (hl : xs.length < sizeLine) :
    evLc (ctn C n elt (.v i) none ρ) m0 [] (xs.map .int) [] m = .ok ((xs.map φ).map .int) m := by
  have := map_ok (m0 := m0) h xs [] (by simpa using hl)
  simpa using this
theorem eE_sset {C : Nat → List D → Mm → R D} {n : Nat} {a : E} {ρ : Rho} {m : Mm} : evE C (n + 1) (.sset a) ρ m = (evE C n a ρ m).bind fun x m1 => R.opt (ssetD m1 x) m1 := id rfl
theorem bind_nx {A : O} {f : Rho → Mm → O} {r : Rho} {m : Mm} (h : A = .nx r m) : A.bind f = f r m := by rw [h, obind_nx]
namespace Row
variable {wf k : Nat} {m : Mm}
/-- the pairs' numbers -/
def prs (f : Int → Int → Int) (xs ys : List Int) : List Int := xs.flatMap fun x => ys.map (f x)
theorem mem_prs {f : Int → Int → Int} {xs ys : List Int} {z : Int} : z ∈ prs f xs ys ↔ ∃ x ∈ xs, ∃ y ∈ ys, f x y = z := by
  unfold prs
  simp [List.mem_flatMap, List.mem_map]
theorem len_prs {f : Int → Int → Int} {xs ys : List Int} : (prs f xs ys).length = xs.length * ys.length := by
  unfold prs
  induction xs with
  | nil => simp
  | cons x xs ih => rw [List.flatMap_cons, List.length_append, ih, List.length_map, List.length_cons, Nat.succ_mul]; omega
abbrev body28 : List S := [.set (.v 6) (.bin .add (.var 6) (.comp (.bi .min2 [.var 5, .var 8]) (.v 8) .seq [.call 27 [.var 1]] none [8])), .set (.v 7) (.bin .add (.var 7) (.comp (.bi .max2 [.var 5, .var 8]) (.v 8) .seq [.call 27 [.var 1]] none [8]))]
theorem turn28 {one : D} {c d n : Int} {P Q : D} {A B ys : List Int} {x : Int} (hy : ∀ m, callN G wf 60 (k + 1) 27 [.tup [.int c, .int d]] m = .ok (.lst (ys.map .int)) m) (ly : ys.length < 1000) (la : A.length < 100000) (lb : B.length < 100000) :
    blk (callN G wf 60 (k + 1)) wf 59 body28 [some one, some (.tup [.int c, .int d]), some (.int n), some P, some Q, some (.int x), some (.lst (A.map .int)), some (.lst (B.map .int)), none, none] m =
    .nx [some one, some (.tup [.int c, .int d]), some (.int n), some P, some Q, some (.int x), some (.lst ((A ++ ys.map (min x)).map .int)), some (.lst ((B ++ ys.map (max x)).map .int)), none, none] m := by
  have f1 := map_at (C := callN G wf 60 (k + 1)) (n := 56) (i := 8) (elt := .bi .min2 [.var 5, .var 8]) (φ := min x) (ρ := [some one, some (.tup [.int c, .int d]), some (.int n), some P, some Q, some (.int x), some (.lst (A.map .int)), some (.lst (B.map .int)), none, none]) (m0 := m) (m := m) (fun y => by simp) ys (by unfold sizeLine; omega)
  have f2 := map_at (C := callN G wf 60 (k + 1)) (n := 56) (i := 8) (elt := .bi .max2 [.var 5, .var 8]) (φ := max x) (ρ := [some one, some (.tup [.int c, .int d]), some (.int n), some P, some Q, some (.int x), some (.lst ((A ++ ys.map (min x)).map .int)), some (.lst (B.map .int)), none, none]) (m0 := m) (m := m) (fun y => by simp) ys (by unfold sizeLine; omega)
  have l1 : (A.map D.int).length + ((ys.map (min x)).map D.int).length ≤ sizeLine := by rw [List.length_map, List.length_map, List.length_map]; unfold sizeLine; omega
  have l2 : (B.map D.int).length + ((ys.map (max x)).map D.int).length ≤ sizeLine := by rw [List.length_map, List.length_map, List.length_map]; unfold sizeLine; omega
  rw [blk_app, eSs_cons, bind_nx (r := [some one, some (.tup [.int c, .int d]), some (.int n), some P, some Q, some (.int x), some (.lst ((A ++ ys.map (min x)).map .int)), some (.lst (B.map .int)), none, none]) (m := m) ?_, eSs_cons, bind_nx (r := [some one, some (.tup [.int c, .int d]), some (.int n), some P, some Q, some (.int x), some (.lst ((A ++ ys.map (min x)).map .int)), some (.lst ((B ++ ys.map (max x)).map .int)), none, none]) (m := m) ?_, eSs_nil]
  · generalize A ++ List.map (min x) ys = A2 at f2 ⊢
    rw [eS_set, eE_bin]
    simp only [eE_var, List.getElem?_cons_succ, List.getElem?_cons_zero, R.bind_ok, eE_comp, eEs_cons, eEs_nil, eE_call, hy, it_lst, wipe_cons, wipe_nil, List.set_cons_succ, List.set_cons_zero, f2, v_addL, if_pos l2, R.opt_some, stm_ok, setT_v, List.map_append]
  · rw [eS_set, eE_bin]
    simp only [eE_var, List.getElem?_cons_succ, List.getElem?_cons_zero, R.bind_ok, eE_comp, eEs_cons, eEs_nil, eE_call, hy, it_lst, wipe_cons, wipe_nil, List.set_cons_succ, List.set_cons_zero, f1, v_addL, if_pos l1, R.opt_some, stm_ok, setT_v, List.map_append]
end Row
end EV

set_option Elab.async false
set_option linter.all false
set_option maxRecDepth 100000
set_option maxHeartbeats 0
set_option autoImplicit false
namespace EV
open PySem PySem.Spec PyProof.Rows L2
namespace Row
variable {wf k : Nat} {m : Mm}
theorem loop28 {one : D} {c d n : Int} {P Q : D} {ys : List Int} {m0 : Mm} (hy : ∀ m, callN G wf 60 (k + 1) 27 [.tup [.int c, .int d]] m = .ok (.lst (ys.map .int)) m) (ly : ys.length < 100) : ∀ (xs A B : List Int) (t : Option D), A.length + 100 * xs.length < 100000 → B.length + 100 * xs.length < 100000 →
    ∃ t' : Option D, evFor (blk (callN G wf 60 (k + 1)) wf 59 body28) (.v 5) m0 [] (xs.map .int) [some one, some (.tup [.int c, .int d]), some (.int n), some P, some Q, t, some (.lst (A.map .int)), some (.lst (B.map .int)), none, none] m =
    .nx [some one, some (.tup [.int c, .int d]), some (.int n), some P, some Q, t', some (.lst ((A ++ prs min xs ys).map .int)), some (.lst ((B ++ prs max xs ys).map .int)), none, none] m
  | [], A, B, t, _, _ => ⟨t, by simp [prs]⟩
  | x :: xs, A, B, t, ha, hb => by
    have e1 : (x :: xs).length = xs.length + 1 := rfl
    rw [e1] at ha hb
    obtain ⟨t', ih⟩ := loop28 (one := one) (n := n) (P := P) (Q := Q) (m0 := m0) hy ly xs (A ++ ys.map (min x)) (B ++ ys.map (max x)) (some (.int x)) (by rw [List.length_append, List.length_map]; omega) (by rw [List.length_append, List.length_map]; omega)
    refine ⟨t', ?_⟩
    rw [List.map_cons, eFor_cons, setT_v]
    simp only [List.set_cons_succ, List.set_cons_zero]
    rw [turn28 hy (by omega) (by omega) (by omega), forK_nx, ih]
    simp [prs, List.flatMap_cons, List.append_assoc]
end Row
end EV

set_option Elab.async false
set_option linter.all false
set_option maxRecDepth 100000
set_option maxHeartbeats 0
set_option autoImplicit false
namespace EV
open PySem PySem.Spec PyProof.Rows L2
namespace Row
variable {wf k : Nat} {m : Mm}
/-- all numbers of lo .. hi, as a list -/
def uD (lo hi : Int) : D := .lst ((upto lo hi).map .int)
theorem by_pairs {a b c d n : Int} (ab : a ≤ b) (cd : c ≤ d) (a0 : -6 ≤ a) (b1 : b ≤ 6) (c0 : -6 ≤ c) (d1 : d ≤ 6) (n0 : -6 ≤ n) (n1 : n ≤ 6) :
    callN G wf 60 (k + 2) 28 [.tup [.int a, .int b], .tup [.int c, .int d], .int n] m = .ok (.lst [uD (a + n) (b + n), uD (n - b) (n - a), uD (min a c) (min b d), uD (max a c) (max b d)]) m := by
  have hx : ∀ m, callN G wf 60 (k + 1) 27 [.tup [.int a, .int b]] m = .ok (.lst ((upto a b).map .int)) m := fun m => all_ok (by omega) (by omega) (by omega) (by omega)
  have hy : ∀ m, callN G wf 60 (k + 1) 27 [.tup [.int c, .int d]] m = .ok (.lst ((upto c d).map .int)) m := fun m => all_ok (by omega) (by omega) (by omega) (by omega)
  have lx : (upto a b).length ≤ 13 := by rw [upto_len]; omega
  have ly : (upto c d).length ≤ 13 := by rw [upto_len]; omega
  have f1 := map_at (C := callN G wf 60 (k + 1)) (n := 58) (i := 5) (elt := .bin .add (.var 5) (.var 2)) (φ := fun x => x + n) (ρ := [some (.tup [.int a, .int b]), some (.tup [.int c, .int d]), some (.int n), none, none, none, none, none, none, none]) (m0 := m) (m := m) (fun y => by simp) (upto a b) (by unfold sizeLine; omega)
  have f2 := map_at (C := callN G wf 60 (k + 1)) (n := 58) (i := 5) (elt := .bin .sub (.var 2) (.var 5)) (φ := fun x => n - x) (ρ := [some (.tup [.int a, .int b]), some (.tup [.int c, .int d]), some (.int n), none, none, none, none, none, none, none]) (m0 := m) (m := m) (fun y => by simp) (upto a b) (by unfold sizeLine; omega)
  have s1 : ssetD m (.lst (((upto a b).map fun x => x + n).map .int)) = some (uD (a + n) (b + n)) := sset_upto (fun z => by
    rw [List.mem_map]
    constructor
    · rintro ⟨x, hx, rfl⟩; have := mem_upto.mp hx; omega
    · intro h; exact ⟨z - n, mem_upto.mpr (by omega), by omega⟩) (by rw [List.length_map]; omega) (by omega)
  have s2 : ssetD m (.lst (((upto a b).map fun x => n - x).map .int)) = some (uD (n - b) (n - a)) := sset_upto (fun z => by
    rw [List.mem_map]
    constructor
    · rintro ⟨x, hx, rfl⟩; have := mem_upto.mp hx; omega
    · intro h; exact ⟨n - z, mem_upto.mpr (by omega), by omega⟩) (by rw [List.length_map]; omega) (by omega)
  have lp : ∀ f : Int → Int → Int, (prs f (upto a b) (upto c d)).length ≤ 4000 := fun f => by
    rw [len_prs]
    have := Nat.mul_le_mul lx ly
    omega
  have s3 : ssetD m (.lst ((prs min (upto a b) (upto c d)).map .int)) = some (uD (min a c) (min b d)) := sset_upto (fun z => by
    rw [mem_prs]
    constructor
    · rintro ⟨x, hx, y, hy, rfl⟩; have := mem_upto.mp hx; have := mem_upto.mp hy; omega
    · intro h
      by_cases q : a ≤ z ∧ z ≤ b
      · exact ⟨z, mem_upto.mpr (by omega), d, mem_upto.mpr (by omega), by omega⟩
      · exact ⟨b, mem_upto.mpr (by omega), z, mem_upto.mpr (by omega), by omega⟩) (lp _) (by omega)
  have s4 : ssetD m (.lst ((prs max (upto a b) (upto c d)).map .int)) = some (uD (max a c) (max b d)) := sset_upto (fun z => by
    rw [mem_prs]
    constructor
    · rintro ⟨x, hx, y, hy, rfl⟩; have := mem_upto.mp hx; have := mem_upto.mp hy; omega
    · intro h
      by_cases q : a ≤ z ∧ z ≤ b
      · exact ⟨z, mem_upto.mpr (by omega), c, mem_upto.mpr (by omega), by omega⟩
      · exact ⟨a, mem_upto.mpr (by omega), z, mem_upto.mpr (by omega), by omega⟩) (lp _) (by omega)
  obtain ⟨t', lo⟩ := loop28 (wf := wf) (k := k) (m := m) (m0 := m) (one := .tup [.int a, .int b]) (n := n) (P := .lst (((upto a b).map fun x => x + n).map .int)) (Q := .lst (((upto a b).map fun x => n - x).map .int)) hy (by omega) (upto a b) [] [] none (by simp; omega) (by simp; omega)
  rw [List.nil_append, List.nil_append, List.map_nil] at lo
  rw [call_eq (g := g28) rfl rfl]
  have st0 : evS (callN G wf 60 (k + 1)) wf 60 (.par [3, 4] [.comp (.bin .add (.var 5) (.var 2)) (.v 5) .seq [.call 27 [.var 0]] none [5], .comp (.bin .sub (.var 2) (.var 5)) (.v 5) .seq [.call 27 [.var 0]] none [5]]) [some (.tup [.int a, .int b]), some (.tup [.int c, .int d]), some (.int n), none, none, none, none, none, none, none] m =
      .nx [some (.tup [.int a, .int b]), some (.tup [.int c, .int d]), some (.int n), some (.lst (((upto a b).map fun x => x + n).map .int)), some (.lst (((upto a b).map fun x => n - x).map .int)), none, none, none, none, none] m := by
    simp only [eS_par, eEs_cons, eEs_nil, eE_comp, eE_call, eE_var, List.getElem?_cons_succ, List.getElem?_cons_zero, R.bind_ok, hx, it_lst, wipe_cons, wipe_nil, List.set_cons_succ, List.set_cons_zero, f1, f2, stm_ok, setPar2]
  have st1 : evS (callN G wf 60 (k + 1)) wf 60 (.par [6, 7] [.lst [], .lst []]) [some (.tup [.int a, .int b]), some (.tup [.int c, .int d]), some (.int n), some (.lst (((upto a b).map fun x => x + n).map .int)), some (.lst (((upto a b).map fun x => n - x).map .int)), none, none, none, none, none] m =
      .nx [some (.tup [.int a, .int b]), some (.tup [.int c, .int d]), some (.int n), some (.lst (((upto a b).map fun x => x + n).map .int)), some (.lst (((upto a b).map fun x => n - x).map .int)), none, some (.lst []), some (.lst []), none, none] m := by
    simp only [eS_par, eEs_cons, eEs_nil, eE_lst, R.bind_ok, stm_ok, setPar2, List.set_cons_succ, List.set_cons_zero]
  have st2 : evS (callN G wf 60 (k + 1)) wf 60 (.for (.v 5) .seq [.call 27 [.var 0]] body28) [some (.tup [.int a, .int b]), some (.tup [.int c, .int d]), some (.int n), some (.lst (((upto a b).map fun x => x + n).map .int)), some (.lst (((upto a b).map fun x => n - x).map .int)), none, some (.lst []), some (.lst []), none, none] m =
      .nx [some (.tup [.int a, .int b]), some (.tup [.int c, .int d]), some (.int n), some (.lst (((upto a b).map fun x => x + n).map .int)), some (.lst (((upto a b).map fun x => n - x).map .int)), t', some (.lst ((prs min (upto a b) (upto c d)).map .int)), some (.lst ((prs max (upto a b) (upto c d)).map .int)), none, none] m := by
    simp only [eS_for, eEs_cons, eEs_nil, eE_call, eE_var, List.getElem?_cons_succ, List.getElem?_cons_zero, R.bind_ok, hx, it_lst, stm_ok]
    exact lo
  have pu : ∀ l h : Int, D.pureL ((upto l h).map D.int) = true := fun l h => by
    induction upto l h with
    | nil => rfl
    | cons x l ih => exact ih
  have fz : ∀ l h : Int, D.frz m.length m (uD l h) = uD l h := fun l h => frz_pure _ _ _ (pu l h)
  show outD false m (evSs (fun s r m => evS (callN G wf 60 (k + 1)) wf 60 s r m) g28.body [some (.tup [.int a, .int b]), some (.tup [.int c, .int d]), some (.int n), none, none, none, none, none, none, none] m) = _
  unfold g28
  rw [eSs_cons, bind_nx st0, eSs_cons, bind_nx st1, eSs_cons, bind_nx st2]
  simp only [eSs_cons, eS_ret, eE_comp, eEs_cons, eEs_nil, eE_lst, eE_var, List.getElem?_cons_succ, List.getElem?_cons_zero, R.bind_ok, it_lst, wipe_cons, wipe_nil, List.set_cons_succ, List.set_cons_zero]
  simp [eLc_cons, sizeLine, eE_sset, s1, s2, s3, s4, out_rt, fz, -List.map_map]
end Row
end EV

set_option Elab.async false
set_option linter.all false
set_option maxRecDepth 100000
set_option maxHeartbeats 0
set_option autoImplicit false
namespace EV
open PySem PySem.Spec PyProof.Rows L2
namespace Row
variable {wf k : Nat} {m : Mm}
theorem p30 {m : Mm} : binD m .pow (.int 10) (.int 30) = some (.int 1000000000000000000000000000000) := pow_c (by decide +kernel)
abbrev F29 (wf k : Nat) : S → Rho → Mm → O := fun s r m => evS (callN G wf 60 (k + 6)) wf 60 s r m
theorem draws_ok {g : Nat} {N : Int} (hg : GOk m g N) (hN : N ≤ 10 ^ 6) : ∃ (M n : Int) (one two : Sp) (s : List D), (M = 6 ∨ 6 < M) ∧ M ≤ Big ∧ one.good M ∧ two.good M ∧ -M ≤ n ∧ n ≤ M ∧
    evSs (F29 wf k) g29.body (startD g29.many [.obj g]) m = evSs (F29 wf k) (g29.body.drop 2) [some (.obj g), some (.int M), some (sD one), some (sD two), some (.int n), none, none, none, none, none, none, none, none, none, none] (m.set g s) := by
  have hB : Big = 10 ^ 30 := rfl
  obtain ⟨r0, s0, e0, a0, b0, h0⟩ := rnd_ok (wf := wf) (k := k + 4) (r := 20) hashG rndG hg (by omega) (B := 4) (by omega) ((B2.dec (a := 4) rfl).le (by decide))
  obtain ⟨M, hM, M0, M1⟩ : ∃ M : Int, atI [D.int 6, .int 6, .int 6, .int 999999999999999999999999999999] r0 = some (.int M) ∧ (M = 6 ∨ 6 < M) ∧ M ≤ 10 ^ 30 := by
    have : r0 = 0 ∨ r0 = 1 ∨ r0 = 2 ∨ r0 = 3 := by omega
    rcases this with rfl | rfl | rfl | rfl
    · exact ⟨6, rfl, .inl rfl, by decide⟩
    · exact ⟨6, rfl, .inl rfl, by decide⟩
    · exact ⟨6, rfl, .inl rfl, by decide⟩
    · exact ⟨999999999999999999999999999999, rfl, .inr (by decide), by decide⟩
  obtain ⟨one, s1, e1, g1, h1⟩ := range_ok (wf := wf) (k := k + 2) (M := M) h0 (by omega) (by omega) (by omega)
  obtain ⟨two, s2, e2, g2, h2⟩ := range_ok (wf := wf) (k := k + 2) (M := M) h1 (by omega) (by omega) (by omega)
  obtain ⟨n, s3, e3, n0, n1, h3⟩ := num_ok (wf := wf) (k := k + 3) (M := M) h2 (by omega) (by omega) (by omega)
  simp only [set_set] at e1 e2 e3
  refine ⟨M, n, one, two, s3, M0, by omega, g1, g2, n0, n1, ?_⟩
  have st0 : evS (callN G wf 60 (k + 6)) wf 60 g29_0 (startD g29.many [.obj g]) m = .nx [some (.obj g), some (.int M), none, none, none, none, none, none, none, none, none, none, none, none, none] (m.set g s0) := by
    simp [g29_0, g29, startD, e0, p30, hM, -v_pow]
  have st1 : evS (callN G wf 60 (k + 6)) wf 60 g29_1 [some (.obj g), some (.int M), none, none, none, none, none, none, none, none, none, none, none, none, none] (m.set g s0) = .nx [some (.obj g), some (.int M), some (sD one), some (sD two), some (.int n), none, none, none, none, none, none, none, none, none, none] (m.set g s3) := by
    simp [g29_1, e1, e2, e3]
  show evSs (F29 wf k) [g29_0, g29_1, g29_2, g29_3, g29_4, g29_5, g29_6, g29_7, g29_8, g29_9, g29_10, g29_11, g29_12] (startD g29.many [.obj g]) m = evSs (F29 wf k) [g29_2, g29_3, g29_4, g29_5, g29_6, g29_7, g29_8, g29_9, g29_10, g29_11, g29_12] _ _
  rw [eSs_cons, bind_nx st0, eSs_cons, bind_nx st1]
end Row
end EV

set_option Elab.async false
set_option linter.all false
set_option maxRecDepth 100000
set_option maxHeartbeats 0
set_option autoImplicit false
namespace EV
open PySem PySem.Spec PyProof.Rows L2
namespace Row
variable {wf k : Nat} {m : Mm}
/-- what is due -/
def dueL (s t : Sp) (n : Int) : List D := [sD (movedM n s.1, movedM n s.2), sD (turnedM n s.2, turnedM n s.1), sD (lowerM s.1 t.1, cappedM s.2 t.2), sD (raisedM s.1 t.1, upperM s.2 t.2)]
theorem due_ok {M n : Int} {s t : Sp} {g : Nat} (g1 : s.good Big) (g2 : t.good Big) (h0 : -Big ≤ n) (h1 : n ≤ Big) : ∃ v5 v6 v7 v8 v9 : D,
    evSs (F29 wf k) (g29.body.drop 2) [some (.obj g), some (.int M), some (sD s), some (sD t), some (.int n), none, none, none, none, none, none, none, none, none, none] m =
    evSs (F29 wf k) (g29.body.drop 8) [some (.obj g), some (.int M), some (sD s), some (sD t), some (.int n), some v5, some v6, some v7, some v8, some v9, some (.lst (dueL s t n)), some (.lst (dueL s t n)), none, none, none] m := by
  refine ⟨.lst [.tup [.int (loM s), .int (hiM s)], .tup [.int (loM t), .int (hiM t)]], .int (loM s), .int (hiM s), .int (loM t), .int (hiM t), ?_⟩
  have st2 : evS (callN G wf 60 (k + 6)) wf 60 g29_2 [some (.obj g), some (.int M), some (sD s), some (sD t), some (.int n), none, none, none, none, none, none, none, none, none, none] m =
      .nx [some (.obj g), some (.int M), some (sD s), some (sD t), some (.int n), some (.lst [.tup [.int (loM s), .int (hiM s)], .tup [.int (loM t), .int (hiM t)]]), none, none, none, none, none, none, none, none, none] m := by
    simp [g29_2, pairs_ok]
  have st3 : evS (callN G wf 60 (k + 6)) wf 60 g29_3 [some (.obj g), some (.int M), some (sD s), some (sD t), some (.int n), some (.lst [.tup [.int (loM s), .int (hiM s)], .tup [.int (loM t), .int (hiM t)]]), none, none, none, none, none, none, none, none, none] m =
      .nx [some (.obj g), some (.int M), some (sD s), some (sD t), some (.int n), some (.lst [.tup [.int (loM s), .int (hiM s)], .tup [.int (loM t), .int (hiM t)]]), some (.int (loM s)), some (.int (hiM s)), none, none, none, none, none, none, none] m := by
    simp [g29_3]
  have st4 : evS (callN G wf 60 (k + 6)) wf 60 g29_4 [some (.obj g), some (.int M), some (sD s), some (sD t), some (.int n), some (.lst [.tup [.int (loM s), .int (hiM s)], .tup [.int (loM t), .int (hiM t)]]), some (.int (loM s)), some (.int (hiM s)), none, none, none, none, none, none, none] m =
      .nx [some (.obj g), some (.int M), some (sD s), some (sD t), some (.int n), some (.lst [.tup [.int (loM s), .int (hiM s)], .tup [.int (loM t), .int (hiM t)]]), some (.int (loM s)), some (.int (hiM s)), some (.int (loM t)), some (.int (hiM t)), none, none, none, none, none] m := by
    simp [g29_4]
  generalize D.lst [.tup [.int (loM s), .int (hiM s)], .tup [.int (loM t), .int (hiM t)]] = v5 at st2 st3 st4 ⊢
  have st5 : evS (callN G wf 60 (k + 6)) wf 60 g29_5 [some (.obj g), some (.int M), some (sD s), some (sD t), some (.int n), some v5, some (.int (loM s)), some (.int (hiM s)), some (.int (loM t)), some (.int (hiM t)), none, none, none, none, none] m =
      .nx [some (.obj g), some (.int M), some (sD s), some (sD t), some (.int n), some v5, some (.int (loM s)), some (.int (hiM s)), some (.int (loM t)), some (.int (hiM t)), some (.lst [sD (movedM n s.1, movedM n s.2), sD (turnedM n s.2, turnedM n s.1)]), none, none, none, none] m := by
    simp [g29_5, end_ok, e_moved g1 h0 h1, e_turned g1 h0 h1]
  have hl : ∀ a b c d : D, [a, b].length + [c, d].length ≤ sizeLine := fun _ _ _ _ => by simp [sizeLine]
  have st6 : evS (callN G wf 60 (k + 6)) wf 60 g29_6 [some (.obj g), some (.int M), some (sD s), some (sD t), some (.int n), some v5, some (.int (loM s)), some (.int (hiM s)), some (.int (loM t)), some (.int (hiM t)), some (.lst [sD (movedM n s.1, movedM n s.2), sD (turnedM n s.2, turnedM n s.1)]), none, none, none, none] m =
      .nx [some (.obj g), some (.int M), some (sD s), some (sD t), some (.int n), some v5, some (.int (loM s)), some (.int (hiM s)), some (.int (loM t)), some (.int (hiM t)), some (.lst (dueL s t n)), none, none, none, none] m := by
    simp [g29_6, end_ok, e_least g1 g2, e_great g1 g2, sizeLine, dueL]
  have a1 := p_plus (wf := wf) (k := k + 1) (m := m) (n := n) g1.ok
  have a2 := p_turn (wf := wf) (k := k + 1) (m := m) (n := n) g1.ok
  have a3 := p_least (wf := wf) (k := k + 1) (m := m) g1.ok g2.ok
  have a4 := p_great (wf := wf) (k := k + 1) (m := m) g1.ok g2.ok
  have st7 : evS (callN G wf 60 (k + 6)) wf 60 g29_7 [some (.obj g), some (.int M), some (sD s), some (sD t), some (.int n), some v5, some (.int (loM s)), some (.int (hiM s)), some (.int (loM t)), some (.int (hiM t)), some (.lst (dueL s t n)), none, none, none, none] m =
      .nx [some (.obj g), some (.int M), some (sD s), some (sD t), some (.int n), some v5, some (.int (loM s)), some (.int (hiM s)), some (.int (loM t)), some (.int (hiM t)), some (.lst (dueL s t n)), some (.lst (dueL s t n)), none, none, none] m := by
    simp only [g29_7, eS_set, eE_lst, eE_call, eEs_cons, eEs_nil, eE_var, List.getElem?_cons_succ, List.getElem?_cons_zero, R.bind_ok, a1, a2, a3, a4, stm_ok, setT_v, List.set_cons_succ, List.set_cons_zero, dueL]
  show evSs (F29 wf k) [g29_2, g29_3, g29_4, g29_5, g29_6, g29_7, g29_8, g29_9, g29_10, g29_11, g29_12] _ m = evSs (F29 wf k) [g29_8, g29_9, g29_10, g29_11, g29_12] _ _
  rw [eSs_cons, bind_nx st2, eSs_cons, bind_nx st3, eSs_cons, bind_nx st4, eSs_cons, bind_nx st5, eSs_cons, bind_nx st6, eSs_cons, bind_nx st7]
end Row
end EV

set_option Elab.async false
set_option linter.all false
set_option maxRecDepth 100000
set_option maxHeartbeats 0
set_option autoImplicit false
namespace EV
open PySem PySem.Spec PyProof.Rows L2
@[simp] theorem pick1 {α : Type} {a : α} : pick [0] [a] = some [a] := id rfl
@[simp] theorem pick2 {α : Type} {a b : α} : pick [1, 0] [a, b] = some [b, a] := id rfl
theorem ne_txt {m : Mm} {t : Str} (h : Txt t) : cmpD m .ne (.str t) (.str t) = some false := by
  show (cmpD m .eq (.str t) (.str t)).map (!·) = _
  rw [eq_txt h]
  rfl
namespace Row
variable {wf k : Nat} {m : Mm}
/-! texts -/
theorem fit_o {x : Option Int} (h : ∀ a, x = some a → -(10 ^ 60) ≤ a ∧ a ≤ 10 ^ 60) : (oD x).fit := by
  cases x with
  | none => trivial
  | some a =>
    have := h a rfl
    show a.natAbs < 2 ^ 400
    refine Nat.lt_of_le_of_lt (m := 10 ^ 60) (by omega) (by decide +kernel)
theorem dep_o {x : Option Int} : (oD x).py.depth = 0 := by cases x <;> rfl
theorem blk_o {x : Option Int} : (oD x).py.bulk = 0 := by cases x <;> rfl
theorem dep_s {s : Sp} : (sD s).py.depth ≤ 1 := by
  show max (oD s.1).py.depth (max (oD s.2).py.depth 0) + 1 ≤ 1
  rw [dep_o, dep_o]
  decide
theorem blk_s {s : Sp} : (sD s).py.bulk = 2 := by
  show (oD s.1).py.bulk + 1 + ((oD s.2).py.bulk + 1 + 0) = 2
  rw [blk_o, blk_o]
theorem fit_s {s : Sp} (h1 : ∀ a, s.1 = some a → -(10 ^ 60) ≤ a ∧ a ≤ 10 ^ 60) (h2 : ∀ a, s.2 = some a → -(10 ^ 60) ≤ a ∧ a ≤ 10 ^ 60) : (sD s).fit := ⟨fit_o h1, fit_o h2, trivial⟩
theorem due_txt {s t : Sp} {n : Int} (g1 : s.good Big) (g2 : t.good Big) (h0 : -Big ≤ n) (h1 : n ≤ Big) : ∃ x : Str, (∀ m : Mm, biD m .repr [.lst (dueL s t n)] = some (.str x)) ∧ Txt x := by
  have hb := big_v
  obtain ⟨i1, i2, i3⟩ := g1
  obtain ⟨j1, j2, j3⟩ := g2
  obtain ⟨a, b⟩ := s
  obtain ⟨c, d⟩ := t
  have f1 : (sD (movedM n a, movedM n b)).fit := fit_s (fun z e => by cases a <;> simp [movedM] at * <;> omega) (fun z e => by cases b <;> simp [movedM] at * <;> omega)
  have f2 : (sD (turnedM n b, turnedM n a)).fit := fit_s (fun z e => by cases b <;> simp [turnedM] at * <;> omega) (fun z e => by cases a <;> simp [turnedM] at * <;> omega)
  have f3 : (sD (lowerM a c, cappedM b d)).fit := fit_s (fun z e => by cases a <;> cases c <;> simp [lowerM] at * <;> omega) (fun z e => by cases b <;> cases d <;> simp [cappedM] at * <;> omega)
  have f4 : (sD (raisedM a c, upperM b d)).fit := fit_s (fun z e => by cases a <;> cases c <;> simp [raisedM] at * <;> omega) (fun z e => by cases b <;> cases d <;> simp [upperM] at * <;> omega)
  have hf : (D.lst (dueL (a, b) (c, d) n)).fit := ⟨f1, f2, f3, f4, trivial⟩
  have hd : (D.lst (dueL (a, b) (c, d) n)).py.depth ≤ 64 := by
    show max (sD (movedM n a, movedM n b)).py.depth (max (sD (turnedM n b, turnedM n a)).py.depth (max (sD (lowerM a c, cappedM b d)).py.depth (max (sD (raisedM a c, upperM b d)).py.depth 0))) + 1 ≤ 64
    have := dep_s (s := (movedM n a, movedM n b))
    have := dep_s (s := (turnedM n b, turnedM n a))
    have := dep_s (s := (lowerM a c, cappedM b d))
    have := dep_s (s := (raisedM a c, upperM b d))
    omega
  have hk : (D.lst (dueL (a, b) (c, d) n)).py.bulk ≤ 40000 := by
    show (sD (movedM n a, movedM n b)).py.bulk + 1 + ((sD (turnedM n b, turnedM n a)).py.bulk + 1 + ((sD (lowerM a c, cappedM b d)).py.bulk + 1 + ((sD (raisedM a c, upperM b d)).py.bulk + 1 + 0))) ≤ 40000
    rw [blk_s, blk_s, blk_s, blk_s]
    decide
  exact ⟨_, fun m => (repr_fit hf hd hk).1, (repr_fit (m := []) hf hd hk).2⟩
end Row
end EV

set_option Elab.async false
set_option linter.all false
set_option maxRecDepth 100000
set_option maxHeartbeats 0
set_option autoImplicit false
namespace EV
open PySem PySem.Spec PyProof.Rows L2
theorem fit_ints : ∀ {l : List Int}, (∀ x, x ∈ l → -1000 ≤ x ∧ x ≤ 1000) → D.fitL (l.map .int)
  | [], _ => trivial
  | x :: l, h => by
    refine ⟨?_, fit_ints fun y hy => h y (List.mem_cons_of_mem _ hy)⟩
    have := h x List.mem_cons_self
    show x.natAbs < 2 ^ 400
    exact Nat.lt_of_le_of_lt (m := 1000) (by omega) (by decide +kernel)
theorem dep_ints : ∀ l : List Int, PyData.depthAll (D.pyL (l.map .int)) = 0
  | [] => rfl
  | x :: l => by
    show max 0 (PyData.depthAll (D.pyL (l.map .int))) = 0
    rw [dep_ints l]
    rfl
theorem blk_ints : ∀ l : List Int, PyData.bulkAll (D.pyL (l.map .int)) = l.length
  | [] => rfl
  | x :: l => by
    show 0 + 1 + PyData.bulkAll (D.pyL (l.map .int)) = l.length + 1
    rw [blk_ints l]
    omega
namespace Row
variable {wf k : Nat} {m : Mm}
theorem uD_fit {l h : Int} (h0 : -1000 ≤ l) (h1 : h ≤ 1000) : (uD l h).fit := fit_ints fun x hx => by
  have := mem_upto.mp hx
  omega
theorem uD_dep {l h : Int} : (uD l h).py.depth = 1 := by
  show PyData.depthAll (D.pyL ((upto l h).map .int)) + 1 = 1
  rw [dep_ints]
theorem uD_blk {l h : Int} : (uD l h).py.bulk = (h + 1 - l).toNat := by
  show PyData.bulkAll (D.pyL ((upto l h).map .int)) = _
  rw [blk_ints, upto_len]
theorem pairs_txt {a b c d e f g h : Int} (a0 : -1000 ≤ a) (b0 : b ≤ 1000) (c0 : -1000 ≤ c) (d0 : d ≤ 1000) (e0 : -1000 ≤ e) (f0 : f ≤ 1000) (g0 : -1000 ≤ g) (h0 : h ≤ 1000) :
    ∃ x : Str, (∀ m : Mm, biD m .repr [.lst [uD a b, uD c d, uD e f, uD g h]] = some (.str x)) ∧ Txt x := by
  have hf : (D.lst [uD a b, uD c d, uD e f, uD g h]).fit := ⟨uD_fit a0 b0, uD_fit c0 d0, uD_fit e0 f0, uD_fit g0 h0, trivial⟩
  have hd : (D.lst [uD a b, uD c d, uD e f, uD g h]).py.depth ≤ 64 := by
    show max (uD a b).py.depth (max (uD c d).py.depth (max (uD e f).py.depth (max (uD g h).py.depth 0))) + 1 ≤ 64
    rw [uD_dep, uD_dep, uD_dep, uD_dep]
    decide
  have hk : (D.lst [uD a b, uD c d, uD e f, uD g h]).py.bulk ≤ 40000 := by
    show (uD a b).py.bulk + 1 + ((uD c d).py.bulk + 1 + ((uD e f).py.bulk + 1 + ((uD g h).py.bulk + 1 + 0))) ≤ 40000
    rw [uD_blk, uD_blk, uD_blk, uD_blk]
    omega
  exact ⟨_, fun m => (repr_fit hf hd hk).1, (repr_fit (m := []) hf hd hk).2⟩
end Row
end EV

set_option Elab.async false
set_option linter.all false
set_option maxRecDepth 100000
set_option maxHeartbeats 0
set_option autoImplicit false
namespace EV
open PySem PySem.Spec PyProof.Rows L2
namespace Row
variable {wf k : Nat} {m : Mm}
theorem notin_s {s : Sp} : cmpD m .notin .non (sD s) = some (decide (s.1 ≠ none ∧ s.2 ≠ none)) := by
  obtain ⟨a, b⟩ := s
  cases a <;> cases b <;> rfl
/-- the test by all pairs -/
theorem st9_ok {M n : Int} {s t : Sp} {v5 v6 v7 v8 v9 : D} {g : Nat} (hM : M = 6 ∨ 6 < M) (g1 : s.good M) (g2 : t.good M) (h0 : -M ≤ n) (h1 : n ≤ M) :
    evS (callN G wf 60 (k + 6)) wf 60 g29_9 [some (.obj g), some (.int M), some (sD s), some (sD t), some (.int n), some v5, some v6, some v7, some v8, some v9, some (.lst (dueL s t n)), some (.lst (dueL s t n)), none, none, none] m =
    .nx [some (.obj g), some (.int M), some (sD s), some (sD t), some (.int n), some v5, some v6, some v7, some v8, some v9, some (.lst (dueL s t n)), some (.lst (dueL s t n)), none, none, none] m := by
  by_cases c : M = 6 ∧ (s.1 ≠ none ∧ s.2 ≠ none) ∧ (t.1 ≠ none ∧ t.2 ≠ none)
  · obtain ⟨rfl, ⟨n1, n2⟩, n3, n4⟩ := c
    obtain ⟨a, b⟩ := s
    obtain ⟨c, d⟩ := t
    cases a with
    | none => exact absurd rfl n1
    | some a =>
    cases b with
    | none => exact absurd rfl n2
    | some b =>
    cases c with
    | none => exact absurd rfl n3
    | some c =>
    cases d with
    | none => exact absurd rfl n4
    | some d =>
    have ab : a ≤ b := g1.ok
    have cd : c ≤ d := g2.ok
    have i1 := g1.lo a rfl
    have i2 := g1.hi b rfl
    have i3 := g2.lo c rfl
    have i4 := g2.hi d rfl
    have bp := by_pairs (wf := wf) (k := k + 4) (m := m) ab cd i1.1 i2.2 i3.1 i4.2 h0 h1
    obtain ⟨x, r1, r2⟩ := pairs_txt (a := a + n) (b := b + n) (c := n - b) (d := n - a) (e := min a c) (f := min b d) (g := max a c) (h := max b d) (by omega) (by omega) (by omega) (by omega) (by omega) (by omega) (by omega) (by omega)
    have u1 : callN G wf 60 (k + 6) 27 [.tup [.int (a + n), .int (b + n)]] m = .ok (uD (a + n) (b + n)) m := all_ok (by omega) (by omega) (by omega) (by omega)
    have u2 : callN G wf 60 (k + 6) 27 [.tup [.int (n - b), .int (n - a)]] m = .ok (uD (n - b) (n - a)) m := all_ok (by omega) (by omega) (by omega) (by omega)
    have u3 : callN G wf 60 (k + 6) 27 [.tup [.int (min a c), .int (min b d)]] m = .ok (uD (min a c) (min b d)) m := all_ok (by omega) (by omega) (by omega) (by omega)
    have u4 : callN G wf 60 (k + 6) 27 [.tup [.int (max a c), .int (max b d)]] m = .ok (uD (max a c) (max b d)) m := all_ok (by omega) (by omega) (by omega) (by omega)
    have nx := ne_txt (m := m) r2
    have r1 := r1 m
    have nn : ∀ p q : Int, cmpD m .notin .non (.tup [.int p, .int q]) = some true := fun p q => rfl
    simp [g29_9, sD, nn, dueL, movedM, turnedM, lowerM, cappedM, raisedM, upperM, eLc_cons, sizeLine, u1, u2, u3, u4, bp, r1, nx]
  · have e : evE (callN G wf 60 (k + 6)) 59 (.and (.cmp .eq (.var 1) (.int 6)) (.and (.cmp .notin (.non) (.var 2)) (.cmp .notin (.non) (.var 3)))) [some (.obj g), some (.int M), some (sD s), some (sD t), some (.int n), some v5, some v6, some v7, some v8, some v9, some (.lst (dueL s t n)), some (.lst (dueL s t n)), none, none, none] m = .ok (.bl false) m := by
      generalize dueL s t n = dl
      simp only [eE_and, eE_cmp, eE_var, eE_int, eE_non, List.getElem?_cons_succ, List.getElem?_cons_zero, R.bind_ok, v_eqI, notin_s, Option.map_some, R.opt_some, andK_bl, ok_and, decide_eq_true_eq]
      congr 2
      rw [Bool.and_eq_false_imp]
      intro q
      have q : M = 6 := by simpa using q
      by_cases q2 : s.1 ≠ none ∧ s.2 ≠ none
      · have : ¬ (t.1 ≠ none ∧ t.2 ≠ none) := fun z => c ⟨q, q2, z⟩
        simp [this]
      · simp [q2]
    generalize dueL s t n = dl at e ⊢
    unfold g29_9
    rw [eS_ife, e, stm_ok, truth_bl, truK_some, if_neg Bool.false_ne_true, eSs_nil]
end Row
end EV

set_option Elab.async false
set_option linter.all false
set_option maxRecDepth 100000
set_option maxHeartbeats 0
set_option autoImplicit false
namespace EV
open PySem PySem.Spec PyProof.Rows L2
namespace Row
variable {wf k : Nat} {m : Mm}
theorem lower_comm (a b : Option Int) : lowerM a b = lowerM b a := by cases a <;> cases b <;> simp [lowerM, Int.min_comm]
theorem upper_comm (a b : Option Int) : upperM a b = upperM b a := by cases a <;> cases b <;> simp [upperM, Int.max_comm]
theorem raised_comm (a b : Option Int) : raisedM a b = raisedM b a := by cases a <;> cases b <;> simp [raisedM, Int.max_comm]
theorem capped_comm (a b : Option Int) : cappedM a b = cappedM b a := by cases a <;> cases b <;> simp [cappedM, Int.min_comm]
theorem moved_back (n : Int) (a : Option Int) : movedM (0 - n) (movedM n a) = a := by
  cases a with
  | none => rfl
  | some a =>
    show some (a + n + (0 - n)) = some a
    congr 1
    omega
theorem turned_back (n : Int) (a : Option Int) : turnedM n (turnedM n a) = a := by
  cases a with
  | none => rfl
  | some a =>
    show some (n - (n - a)) = some a
    congr 1
    omega
theorem ok_moved {s : Sp} (h : s.ok) (n : Int) : Sp.ok (movedM n s.1, movedM n s.2) := by
  obtain ⟨a, b⟩ := s
  cases a <;> cases b <;> first | trivial | skip
  rename_i a b
  have h : a ≤ b := h
  show a + n ≤ b + n
  omega
theorem ok_turned {s : Sp} (h : s.ok) (n : Int) : Sp.ok (turnedM n s.2, turnedM n s.1) := by
  obtain ⟨a, b⟩ := s
  cases a <;> cases b <;> first | trivial | skip
  rename_i a b
  have h : a ≤ b := h
  show n - b ≤ n - a
  omega
theorem back_txt {s : Sp} (g1 : s.good Big) : ∃ x : Str, (∀ m : Mm, biD m .repr [.lst [sD s, sD s]] = some (.str x)) ∧ Txt x := by
  have hb := big_v
  have f : (sD s).fit := fit_s (fun z e => by have := g1.lo z e; omega) (fun z e => by have := g1.hi z e; omega)
  have hf : (D.lst [sD s, sD s]).fit := ⟨f, f, trivial⟩
  have hd : (D.lst [sD s, sD s]).py.depth ≤ 64 := by
    show max (sD s).py.depth (max (sD s).py.depth 0) + 1 ≤ 64
    have := dep_s (s := s)
    omega
  have hk : (D.lst [sD s, sD s]).py.bulk ≤ 40000 := by
    show (sD s).py.bulk + 1 + ((sD s).py.bulk + 1 + 0) ≤ 40000
    rw [blk_s]
    decide
  exact ⟨_, fun m => (repr_fit hf hd hk).1, (repr_fit (m := []) hf hd hk).2⟩
theorem end29 {M n : Int} {s t : Sp} {v5 v6 v7 v8 v9 : D} {g : Nat} (hM : M = 6 ∨ 6 < M) (hB : M ≤ Big) (g1 : s.good M) (g2 : t.good M) (h0 : -M ≤ n) (h1 : n ≤ M) :
    evSs (F29 wf k) (g29.body.drop 8) [some (.obj g), some (.int M), some (sD s), some (sD t), some (.int n), some v5, some v6, some v7, some v8, some v9, some (.lst (dueL s t n)), some (.lst (dueL s t n)), none, none, none] m = .rt (.bl true) m := by
  obtain ⟨x, r1, r2⟩ := due_txt (n := n) (g1.mono hB) (g2.mono hB) (by omega) (by omega)
  obtain ⟨y, r3, r4⟩ := back_txt (g1.mono hB)
  have r1 := r1 m
  have r3 := r3 m
  have st8 : evS (callN G wf 60 (k + 6)) wf 60 g29_8 [some (.obj g), some (.int M), some (sD s), some (sD t), some (.int n), some v5, some v6, some v7, some v8, some v9, some (.lst (dueL s t n)), some (.lst (dueL s t n)), none, none, none] m =
      .nx [some (.obj g), some (.int M), some (sD s), some (sD t), some (.int n), some v5, some v6, some v7, some v8, some v9, some (.lst (dueL s t n)), some (.lst (dueL s t n)), none, none, none] m := by
    simp only [g29_8, eS_ife, eE_cmp, eE_bi, eEs_cons, eEs_nil, eE_var, List.getElem?_cons_succ, List.getElem?_cons_zero, R.bind_ok, r1, R.opt_some, ne_txt r2, Option.map_some, stm_ok, truth_bl, truK_some, Bool.false_eq_true, if_false, eSs_nil]
  have st9 := st9_ok (wf := wf) (k := k) (m := m) (v5 := v5) (v6 := v6) (v7 := v7) (v8 := v8) (v9 := v9) (g := g) hM g1 g2 h0 h1
  have a1 := p_plus (wf := wf) (k := k + 1) (m := m) (n := n) g1.ok
  have a2 := p_turn (wf := wf) (k := k + 1) (m := m) (n := n) g1.ok
  have a3 := p_least (wf := wf) (k := k + 1) (m := m) g2.ok g1.ok
  have a4 := p_great (wf := wf) (k := k + 1) (m := m) g2.ok g1.ok
  rw [lower_comm, capped_comm] at a3
  rw [raised_comm, upper_comm] at a4
  have b1 := p_plus (wf := wf) (k := k + 1) (m := m) (n := 0 - n) (ok_moved g1.ok n)
  have b2 := p_turn (wf := wf) (k := k + 1) (m := m) (n := n) (ok_turned g1.ok n)
  simp only [moved_back] at b1
  simp only [turned_back] at b2
  have st10 : evS (callN G wf 60 (k + 6)) wf 60 g29_10 [some (.obj g), some (.int M), some (sD s), some (sD t), some (.int n), some v5, some v6, some v7, some v8, some v9, some (.lst (dueL s t n)), some (.lst (dueL s t n)), none, none, none] m =
      .nx [some (.obj g), some (.int M), some (sD s), some (sD t), some (.int n), some v5, some v6, some v7, some v8, some v9, some (.lst (dueL s t n)), some (.lst (dueL s t n)), none, some (.lst (dueL s t n)), none] m := by
    generalize hd : dueL s t n = dl
    simp only [g29_10, eS_set, eE_lst, eE_callk, eEs_cons, eEs_nil, eE_var, List.getElem?_cons_succ, List.getElem?_cons_zero, R.bind_ok, pick2, a1, a2, a3, a4, stm_ok, setT_v, List.set_cons_succ, List.set_cons_zero]
    rw [← hd]
    rfl
  have st11 : evS (callN G wf 60 (k + 6)) wf 60 g29_11 [some (.obj g), some (.int M), some (sD s), some (sD t), some (.int n), some v5, some v6, some v7, some v8, some v9, some (.lst (dueL s t n)), some (.lst (dueL s t n)), none, some (.lst (dueL s t n)), none] m =
      .nx [some (.obj g), some (.int M), some (sD s), some (sD t), some (.int n), some v5, some v6, some v7, some v8, some v9, some (.lst (dueL s t n)), some (.lst (dueL s t n)), none, some (.lst (dueL s t n)), some (.lst [sD s, sD s])] m := by
    have q0 : atI (dueL s t n) 0 = some (sD (movedM n s.1, movedM n s.2)) := rfl
    have q1 : atI (dueL s t n) 1 = some (sD (turnedM n s.2, turnedM n s.1)) := rfl
    generalize dueL s t n = dl at q0 q1 ⊢
    simp only [g29_11, eS_set, eE_lst, eE_call, eE_idx, eE_bin, eE_int, eEs_cons, eEs_nil, eE_var, List.getElem?_cons_succ, List.getElem?_cons_zero, R.bind_ok, v_ixL, q0, q1, R.opt_some, v_sub, b1, b2, stm_ok, setT_v, List.set_cons_succ, List.set_cons_zero]
  have st12 : evS (callN G wf 60 (k + 6)) wf 60 g29_12 [some (.obj g), some (.int M), some (sD s), some (sD t), some (.int n), some v5, some v6, some v7, some v8, some v9, some (.lst (dueL s t n)), some (.lst (dueL s t n)), none, some (.lst (dueL s t n)), some (.lst [sD s, sD s])] m = .rt (.bl true) m := by
    simp only [g29_12, eS_ret, eE_and, eE_cmp, eE_bi, eE_lst, eEs_cons, eEs_nil, eE_var, List.getElem?_cons_succ, List.getElem?_cons_zero, R.bind_ok, r1, r3, R.opt_some, eq_txt r2, eq_txt r4, Option.map_some, andK_bl, if_true, stm_ok]
  show evSs (F29 wf k) [g29_8, g29_9, g29_10, g29_11, g29_12] _ m = _
  rw [eSs_cons, bind_nx st8, eSs_cons, bind_nx st9, eSs_cons, bind_nx st10, eSs_cons, bind_nx st11, eSs_cons]
  show (evS (callN G wf 60 (k + 6)) wf 60 g29_12 _ m).bind _ = _
  rw [st12, obind_rt]
theorem right_ok {g : Nat} {N : Int} (hg : GOk m g N) (hN : N ≤ 10 ^ 6) : ∃ s : List D, callN G wf 60 (k + 7) 29 [.obj g] m = .ok (.bl true) (m.set g s) := by
  obtain ⟨M, n, one, two, s, hM, hB, g1, g2, n0, n1, e⟩ := draws_ok (wf := wf) (k := k) hg hN
  obtain ⟨v5, v6, v7, v8, v9, e2⟩ := due_ok (wf := wf) (k := k) (m := m.set g s) (M := M) (n := n) (g := g) (g1.mono hB) (g2.mono hB) (by omega) (by omega)
  have e3 := end29 (wf := wf) (k := k) (m := m.set g s) (v5 := v5) (v6 := v6) (v7 := v7) (v8 := v8) (v9 := v9) (g := g) hM hB g1 g2 n0 n1
  refine ⟨s, ?_⟩
  rw [call_eq (g := g29) rfl rfl]
  have all := e.trans (e2.trans e3)
  show outD false m (evSs (F29 wf k) g29.body (startD g29.many [.obj g]) m) = _
  rw [all, out_rt, frz_bl, take_set]
end Row
end EV

set_option Elab.async false
set_option linter.all false
set_option maxRecDepth 100000
set_option maxHeartbeats 0
set_option autoImplicit false
namespace EV
open PySem PySem.Spec PyProof.Rows L2
namespace Row
variable {wf k : Nat} {m : Mm}
theorem turns_ok (ns : List Int) (m0 : Mm) : ∀ (xs : List Int) (m : Mm) (t : Option D), (∀ x, x ∈ xs → 0 ≤ x ∧ x ≤ 1000) → ∃ (t' : Option D) (m' : Mm),
    evFor (blk (callN G wf 60 (k + 7)) wf 59 [.ife (.not (.call 29 [.call 22 [.var 0, .var 1]])) [.ret (.bl false)] []]) (.v 1) m0 [] (xs.map .int) [some (.ro (ns.map .int)), t, none, none] m = .nx [some (.ro (ns.map .int)), t', none, none] m'
  | [], m, t, _ => ⟨t, m, by simp⟩
  | x :: xs, m, t, h => by
    obtain ⟨x0, x1⟩ := h x List.mem_cons_self
    obtain ⟨s, e1, g⟩ := gen_ok (wf := wf) (k := k + 5) (m := m) cellG genG ns x0 x1
    obtain ⟨s2, e2⟩ := right_ok (wf := wf) (k := k) g (by omega)
    obtain ⟨t', m', ih⟩ := turns_ok ns m0 xs ((m ++ [s]).set m.length s2) (some (.int x)) fun y hy => h y (List.mem_cons_of_mem _ hy)
    refine ⟨t', m', ?_⟩
    rw [List.map_cons, eFor_cons, setT_v]
    have st : blk (callN G wf 60 (k + 7)) wf 59 [.ife (.not (.call 29 [.call 22 [.var 0, .var 1]])) [.ret (.bl false)] []] [some (.ro (ns.map .int)), some (.int x), none, none] m = .nx [some (.ro (ns.map .int)), some (.int x), none, none] ((m ++ [s]).set m.length s2) := by
      rw [blk_app]
      simp only [eSs_cons, eSs_nil, eS_ife, eE_not, eE_call, eEs_cons, eEs_nil, eE_var, List.getElem?_cons_succ, List.getElem?_cons_zero, R.bind_ok, e1, e2, stm_ok, truth_bl, truK_some, Bool.not_true, Bool.false_eq_true, if_false, obind_nx]
    simp only [List.set_cons_succ, List.set_cons_zero]
    rw [st, forK_nx]
    exact ih
abbrev far : Int := 999999999999999999999999999999
abbrev far2 : Int := 1999999999999999999999999999998
def endL : List D := [.tup [.int far, .int far2], .tup [.non, .int far2], .tup [.non, .int 0], .tup [.int (-4), .non], .tup [.int 1, .int 7], .tup [.non, .int 4], .tup [.int 9, .non]]
theorem end_txt : ∃ x : Str, (∀ m : Mm, biD m .repr [.lst endL] = some (.str x)) ∧ Txt x := by
  have f : ∀ i : Int, decide (i.natAbs < 2 ^ 400) = true → (D.int i).fit := fun i h => show i.natAbs < 2 ^ 400 from of_decide_eq_true h
  have hf : (D.lst endL).fit := ⟨⟨f _ (by decide +kernel), f _ (by decide +kernel), trivial⟩, ⟨trivial, f _ (by decide +kernel), trivial⟩, ⟨trivial, f _ (by decide +kernel), trivial⟩, ⟨f _ (by decide +kernel), trivial, trivial⟩, ⟨f _ (by decide +kernel), f _ (by decide +kernel), trivial⟩, ⟨trivial, f _ (by decide +kernel), trivial⟩, ⟨f _ (by decide +kernel), trivial, trivial⟩, trivial⟩
  have hd : (D.lst endL).py.depth ≤ 64 := by decide +kernel
  have hk : (D.lst endL).py.bulk ≤ 40000 := by decide +kernel
  exact ⟨_, fun m => (repr_fit hf hd hk).1, (repr_fit (m := []) hf hd hk).2⟩
theorem law_ok (ns : List Int) : ∃ m' : Mm, callN G wf 60 (k + 8) 30 [.ro (ns.map .int)] [] = .ok (.bl true) m' := by
  obtain ⟨t', m', e⟩ := turns_ok (wf := wf) (k := k) ns [] [0, 1, 2, 3, 4] [] none (by decide)
  refine ⟨m'.take 0, ?_⟩
  rw [call_eq (g := g30) rfl rfl]
  have s0 : ∀ f : Rho → Mm → O, (evS (callN G wf 60 (k + 7)) wf 60 (.for (.v 1) .rng1 [.int 5] [.ife (.not (.call 29 [.call 22 [.var 0, .var 1]])) [.ret (.bl false)] []]) [some (.ro (ns.map .int)), none, none, none] []).bind f = f [some (.ro (ns.map .int)), t', none, none] m' := fun f => by
    apply bind_nx
    rw [eS_for]
    simp only [eEs_cons, eEs_nil, eE_int, R.bind_ok, stm_ok]
    rw [it_rng1 (by decide) (by decide)]
    exact e
  have a1 : callN G wf 60 (k + 7) 15 [.tup [.int 0, .int far], .int far] m' = .ok (.tup [.int far, .int far2]) m' := by
    have := p_plus (wf := wf) (k := k + 2) (m := m') (s := (some 0, some far)) (n := far) (show (0 : Int) ≤ far by decide)
    have q : far + far = far2 := by decide +kernel
    simpa [sD, movedM, q] using this
  have a2 : callN G wf 60 (k + 7) 16 [.tup [.int (-far), .non], .int far] m' = .ok (.tup [.non, .int far2]) m' := by
    have := p_turn (wf := wf) (k := k + 2) (m := m') (s := (some (-far), none)) (n := far) trivial
    have q : far + far = far2 := by decide +kernel
    simpa [sD, turnedM, q] using this
  have a3 : callN G wf 60 (k + 7) 15 [.tup [.non, .int 4], .int (-4)] m' = .ok (.tup [.non, .int 0]) m' := by
    have := p_plus (wf := wf) (k := k + 2) (m := m') (s := (none, some 4)) (n := -4) trivial
    simpa [sD, movedM] using this
  have a4 : callN G wf 60 (k + 7) 16 [.tup [.non, .int 4], .int 0] m' = .ok (.tup [.int (-4), .non]) m' := by
    have := p_turn (wf := wf) (k := k + 2) (m := m') (s := (none, some 4)) (n := 0) trivial
    simpa [sD, turnedM] using this
  have a5 : callN G wf 60 (k + 7) 16 [.tup [.int 3, .int 9], .int 10] m' = .ok (.tup [.int 1, .int 7]) m' := by
    have := p_turn (wf := wf) (k := k + 2) (m := m') (s := (some 3, some 9)) (n := 10) (show (3 : Int) ≤ 9 by decide)
    simpa [sD, turnedM] using this
  have a6 : callN G wf 60 (k + 7) 17 [.tup [.non, .int 4], .tup [.int 9, .non]] m' = .ok (.tup [.non, .int 4]) m' := by
    have := p_least (wf := wf) (k := k + 2) (m := m') (s := (none, some 4)) (t := (some 9, none)) trivial trivial
    simpa [sD, lowerM, cappedM] using this
  have a7 : callN G wf 60 (k + 7) 18 [.tup [.non, .int 4], .tup [.int 9, .non]] m' = .ok (.tup [.int 9, .non]) m' := by
    have := p_great (wf := wf) (k := k + 2) (m := m') (s := (none, some 4)) (t := (some 9, none)) trivial trivial
    simpa [sD, raisedM, upperM] using this
  have ml : binD m' .mul (.int 2) (.int far) = some (.int far2) := by
    rw [mul_b (a := 400) (b := 400) (.dec (by decide +kernel)) (.dec (by decide +kernel)) (by decide)]
    rfl
  have hl : ∀ a b c d f g h : D, [a, b].length + [c, d, f, g, h].length ≤ sizeLine := fun _ _ _ _ _ _ _ => by simp [sizeLine]
  obtain ⟨x, r1, r2⟩ := end_txt
  have r1 := r1 m'
  unfold endL at r1
  show outD false [] (evSs (fun s r m => evS (callN G wf 60 (k + 7)) wf 60 s r m) g30.body [some (.ro (ns.map .int)), none, none, none] []) = _
  unfold g30
  rw [eSs_cons, s0]
  have e2 : (1000000000000000000000000000000 : Int) - 1 = far := by decide +kernel
  simp only [eSs_cons, eSs_nil, eS_set, eS_ret, eE_lst, eE_tup, eE_call, eE_bin, eE_neg, eE_bi, eE_cmp, eE_int, eE_non, eE_bl, eEs_cons, eEs_nil, eE_var, List.getElem?_cons_succ, List.getElem?_cons_zero, R.bind_ok, p30, v_sub, e2, a1, a2, a3, a4, a5, a6, a7, R.opt_some, stm_ok, setT_v, List.set_cons_succ, List.set_cons_zero, obind_nx, v_addL, if_pos (hl _ _ _ _ _ _ _), List.cons_append, List.nil_append, ml, r1, eq_txt r2, Option.map_some, obind_rt, out_rt, frz_bl, List.length_nil]
end Row
theorem k15_fin : Row.Rw.Holds := Row.holds_of fun ns _ _ => by
  obtain ⟨m, e⟩ := Row.law_ok (wf := 0) (k := 52) ns
  exact ⟨0, 60, m, e⟩
end EV

theorem PySem.Challenge.cw_stillranges_k15_ranges_moved_turned_less_holds : PySem.Challenge.rw_stillranges_k15_ranges_moved_turned_less.Holds :=
  EV.k15_fin
