import PyProof.Rows.All
import Wide.All
import OpenK.AllK
import Wide.FinOn
import HandS.ForMost
import HandS.Wide
import HandS.Deep
import HandS.Flow
import HandS.TupAny
import HandS.TupMul
import HandS.Gcd
import HandS.IsInst
import HandS.Exc
import HandS.ExcOwn
import HandS.CallSlots
import HandS.Iter
import HandS.Comp
import HandS.WordsExc
import HandS.EndBits
import PySem.Challenge.RW_leastwait_k02_fraction_and_compare_fract
set_option Elab.async false
set_option linter.all false
set_option maxRecDepth 100000
/-! DA: data, syntax and denotation. -/
namespace DV
open PySem

/-- immutable data -/
inductive T where
  | non | bl (b : Bool) | int (i : Int) | str (s : Str) | tup (xs : List T)
/-- trees -/
inductive D where
  | t (x : T)
  | sh (d : D)
  | lst (xs : List D)
  | scr (ns : List Int)
  deriving Inhabited
abbrev Ev := List (Option D)
/-- an exception: its class, its fields -/
structure Exn where
  cls : Nat
  fs : List (Nat × T)
inductive R (α : Type) where
  | ok (a : α) (δ : Ev)
  | ex (x : Exn) (δ : Ev)
abbrev M (α : Type) := Option (R α)
def bnd {α β : Type} (m : M α) (f : α → Ev → M β) : M β :=
  match m with
  | none => none
  | some (.ex x δ) => some (.ex x δ)
  | some (.ok a δ) => f a δ
abbrev Vr := D × Option Nat

def D.free : D → Bool
  | .t _ => true
  | .sh _ => true
  | .scr _ => true
  | .lst _ => false
def D.frz : D → D
  | .t x => .t x
  | .sh d => .sh d
  | .scr ns => .scr ns
  | .lst xs => .sh (.lst xs)
mutual
def D.noSh : D → Bool
  | .t _ => true
  | .sh _ => false
  | .scr _ => false
  | .lst xs => D.noShs xs
def D.noShs : List D → Bool
  | [] => true
  | x :: xs => D.noSh x && D.noShs xs
end
/-- all items are T -/
def D.ts? : List D → Option (List T)
  | [] => some []
  | .t x :: r => (D.ts? r).map (x :: ·)
  | _ :: _ => none
def D.allFree : List D → Bool
  | [] => true
  | x :: r => x.free && D.allFree r

mutual
def D.noScr : D → Bool
  | .t _ => true
  | .sh d => D.noScr d
  | .scr _ => false
  | .lst xs => D.noScrs xs
def D.noScrs : List D → Bool
  | [] => true
  | x :: r => D.noScr x && D.noScrs r
end
/-! ### as data -/
mutual
def T.py : T → PyData
  | .non => .none
  | .bl b => .bool b
  | .int i => .int i
  | .str s => .str s
  | .tup xs => .tuple (T.pys xs)
def T.pys : List T → List PyData
  | [] => []
  | x :: r => T.py x :: T.pys r
end
mutual
def D.py : D → PyData
  | .t x => x.py
  | .sh d => d.py
  | .scr _ => .none
  | .lst xs => .list (D.pys xs)
def D.pys : List D → List PyData
  | [] => []
  | x :: r => D.py x :: D.pys r
end

/-! ### syntax -/
inductive Ty where
  | int | bool | str | tup | lst
  deriving DecidableEq
inductive Bi where
  | len | abs | int | gcd | list | tuple | max2 | min2 | sum | maxl | minl | all | any | str | divmod | repr | sorted
  deriving DecidableEq
inductive Mt where
  | append | pop | popAt | extend | insert | index | join | split
  deriving DecidableEq
mutual
inductive E where
  | v (i : Nat) | mv (i : Nat) | fz (i : Nat) | k (i : Nat) | c (x : T)
  | bin (op : Operator) (a b : E)
  | neg (a : E)
  | cmp (op : CmpOp) (a b : E)
  | chn (op op' : CmpOp) (a b c : E)
  | and (a b : E) | or (a b : E) | not (a : E)
  | ite (c a b : E)
  | tup (es : Es) | lst (es : Es)
  | ix (a b : E)
  | sl (a lo hi : E) | no
  | call (f : Nat) (es : Es)
  | bi (b : Bi) (es : Es)
  | isi (a : E) (ty : Ty)
  | mth (m : Mt) (a : E) (es : Es)
  | mut (m : Mt) (a : E) (es : Es)
  | lc (elt : E) (tg : Tg) (it : It) (cs : Es) (own : List Nat)
inductive Es where
  | nil | cons (e : E) (es : Es)
inductive It where
  | seq (e : E) | rng (es : Es)
inductive Tg where
  | n (i : Nat) | tp (ts : Tgs)
inductive Tgs where
  | nil | cons (t : Tg) (ts : Tgs)
end
mutual
inductive S where
  | asg (tg : Tg) (e : E)
  | par (i j : Nat) (a b : E)
  | six (a i e : E)
  | aug (i : Nat) (op : Operator) (e : E)
  | ex (e : E)
  | ret (e : E) | retn
  | iff (c : E) (a b : Ss)
  | wh (fuel : Nat) (c : E) (b : Ss)
  | for (tg : Tg) (it : It) (b : Ss)
  | brk | cont | pass
inductive Ss where
  | nil | cons (s : S) (ss : Ss)
end

/-! ### what may be changed -/
/-- the mask of a function's changed parameters -/
abbrev Masks := Nat → List Bool
def E.root : E → Option Nat
  | .v i => some i
  | .ix a _ => a.root
  | _ => none
mutual
def E.muts (mk : Masks) : E → List Nat
  | .v _ => [] | .mv i => [i] | .fz i => [i] | .k _ => [] | .c _ => []
  | .bin _ a b => a.muts mk ++ b.muts mk
  | .neg a => a.muts mk
  | .cmp _ a b => a.muts mk ++ b.muts mk
  | .chn _ _ a b c => a.muts mk ++ (b.muts mk ++ c.muts mk)
  | .and a b => a.muts mk ++ b.muts mk
  | .or a b => a.muts mk ++ b.muts mk
  | .not a => a.muts mk
  | .ite c a b => c.muts mk ++ (a.muts mk ++ b.muts mk)
  | .tup es => es.muts mk
  | .lst es => es.muts mk
  | .ix a b => a.muts mk ++ b.muts mk
  | .sl a lo hi => a.muts mk ++ (lo.muts mk ++ hi.muts mk)
  | .no => []
  | .call f es => es.muts mk ++ es.lent (mk f)
  | .bi _ es => es.muts mk
  | .isi a _ => a.muts mk
  | .mth _ a es => a.muts mk ++ es.muts mk
  | .mut _ a es => a.muts mk ++ (es.muts mk ++ a.root.toList)
  | .lc elt _ it cs own => it.muts mk ++ (elt.muts mk ++ cs.muts mk)
def Es.muts (mk : Masks) : Es → List Nat
  | .nil => []
  | .cons e es => e.muts mk ++ es.muts mk
def Es.lent : Es → List Bool → List Nat
  | .cons e es, true :: m => e.root.toList ++ es.lent m
  | .cons _ es, _ :: m => es.lent m
  | _, _ => []
def It.muts (mk : Masks) : It → List Nat
  | .seq e => e.muts mk
  | .rng es => es.muts mk
end
mutual
def Tg.slots : Tg → List Nat
  | .n i => [i]
  | .tp ts => ts.slots
def Tgs.slots : Tgs → List Nat
  | .nil => []
  | .cons t ts => t.slots ++ ts.slots
end
mutual
def S.muts (mk : Masks) : S → List Nat
  | .asg tg e => e.muts mk ++ tg.slots
  | .par i j a b => a.muts mk ++ (b.muts mk ++ [i, j])
  | .six a i e => e.muts mk ++ (a.muts mk ++ (i.muts mk ++ a.root.toList))
  | .aug i _ e => e.muts mk ++ [i]
  | .ex e => e.muts mk
  | .ret e => e.muts mk
  | .retn => []
  | .iff c a b => c.muts mk ++ (a.muts mk ++ b.muts mk)
  | .wh _ c b => c.muts mk ++ b.muts mk
  | .for tg it b => it.muts mk ++ (tg.slots ++ b.muts mk)
  | .brk => [] | .cont => [] | .pass => []
def Ss.muts (mk : Masks) : Ss → List Nat
  | .nil => []
  | .cons s ss => s.muts mk ++ ss.muts mk
end
mutual
/-- the slots that are stored -/
def S.asgs : S → List Nat
  | .asg tg _ => tg.slots
  | .par i j _ _ => [i, j]
  | .aug i _ _ => [i]
  | .iff _ a b => a.asgs ++ b.asgs
  | .wh _ _ b => b.asgs
  | .for tg _ b => tg.slots ++ b.asgs
  | .six _ _ _ => [] | .ex _ => [] | .ret _ => [] | .retn => [] | .brk => [] | .cont => [] | .pass => []
def Ss.asgs : Ss → List Nat
  | .nil => []
  | .cons s ss => s.asgs ++ ss.asgs
end
def okPeek (κ : Option Nat) (ms : List Nat) : Bool :=
  match κ with
  | none => true
  | some r => !ms.contains r

/-! ### operations -/
def binI (op : Operator) (i j : Int) : Option Int :=
  match op with
  | .Add => some (i + j)
  | .Sub => some (i - j)
  | .Mult => if i.natAbs.log2 + j.natAbs.log2 < 1000000 then some (i * j) else none
  | .FloorDiv => if j ≠ 0 ∧ j.natAbs.log2 < 9000 then some (i.fdiv j) else none
  | .Mod => if j ≠ 0 then some (i.fmod j) else none
  | .Pow => if 0 ≤ j ∧ j ≤ 1000000 ∧ i.natAbs < 2 ^ 64 then some (i ^ j.toNat) else none
  | _ => none
def augI (op : Operator) (i j : Int) : Option Int :=
  match op with
  | .Add => some (i + j)
  | .Sub => some (i - j)
  | .Mult => if (-(2 ^ 64) < i ∧ i < 2 ^ 64) ∨ (-(2 ^ 64) < j ∧ j < 2 ^ 64) then some (i * j) else none
  | .FloorDiv => if 0 < j ∧ j < 1073741824 then some (i / j) else none
  | .Mod => if 0 < j then some (i % j) else none
  | _ => none
def augD (op : Operator) (a b : D) : Option Int :=
  match a, b with
  | .t (.int i), .t (.int j) => augI op i j
  | _, _ => none
/-- the items of a list that may be read -/
def D.items : D → Option (List D)
  | .lst xs => some xs
  | .sh (.lst xs) => some (xs.map D.frz)
  | _ => none
def binD (op : Operator) (a b : D) : Option D :=
  match a, b with
  | .t (.int i), .t (.int j) => (binI op i j).map fun k => .t (.int k)
  | .t (.str x), .t (.str y) => match op with
    | .Add => if x.length + y.length ≤ sizeLine then some (.t (.str (x ++ y))) else none
    | _ => none
  | .t (.tup xs), .t (.tup ys) => match op with
    | .Add => if xs.length + ys.length ≤ sizeLine then some (.t (.tup (xs ++ ys))) else none
    | _ => none
  | .t (.tup xs), .t (.int k) => match op with
    | .Mult => if xs ≠ [] ∧ 2 ≤ k ∧ k ≤ 1000 ∧ xs.length ≤ 1000 then some (.t (.tup (List.replicate k.toNat xs).flatten)) else none
    | _ => none
  | a, b => match a.items, op, b.items, b with
    | some xs, .Add, some ys, _ => if D.allFree xs && D.allFree ys && decide (xs.length + ys.length ≤ sizeLine) then some (.lst (xs ++ ys)) else none
    | some xs, .Mult, _, .t (.int k) => if D.allFree xs && decide (-(2 ^ 63) ≤ k ∧ k < 2 ^ 63 ∧ xs.length * k.toNat ≤ sizeLine) then some (.lst (List.replicate k.toNat xs).flatten) else none
    | _, _, _, _ => none
def T.scal : T → T → Bool
  | .non, .non => true | .non, .int _ => true | .int _, .non => true | .non, .bl _ => true | .bl _, .non => true | .non, .str _ => true | .str _, .non => true
  | .int _, .int _ => true | .bl _, .bl _ => true | .str _, .str _ => true
  | .int _, .str _ => true | .str _, .int _ => true | .bl _, .str _ => true | .str _, .bl _ => true
  | _, _ => false
def T.seq : T → T → Bool
  | .non, .non => true
  | .int i, .int j => decide (i = j)
  | .bl i, .bl j => decide (i = j)
  | .str i, .str j => decide (i = j)
  | _, _ => false
/-- a == b -/
def eqD (a b : D) : Option Bool :=
  match a, b with
  | .t x, .t y => if T.scal x y then some (T.seq x y) else if SeqAt.shaped x.py && SeqAt.shaped y.py then some (PyData.eqv x.py y.py) else none
  | a, b => if a.noScr && b.noScr && SeqAt.shaped a.py && SeqAt.shaped b.py then some (PyData.eqv a.py b.py) else none
def T.flat : T → Bool
  | .tup _ => false
  | _ => true
def T.allFlat : List T → Bool
  | [] => true
  | x :: r => x.flat && T.allFlat r
/-- what `in` looks at -/
def D.parts : D → Option (List PyData)
  | .lst xs => some (D.pys xs)
  | .sh (.lst xs) => some (D.pys xs)
  | _ => none
def inD (a b : D) : Option Bool :=
  match a, b with
  | .t (.str x), .t (.str y) => some (!(Builtin.Str.occurrences y x 0 y.length 1).isEmpty)
  | .t x, .t (.tup ys) => if x.flat && T.allFlat ys then some (ys.any fun y => PyData.eqv y.py x.py) else none
  | a, b => match b.parts with
    | some ds => if a.noScr && b.noScr && SeqAt.shaped a.py && SeqAt.shaped (.list ds) then some (ds.any fun z => PyData.eqv z a.py) else none
    | none => none
def cmpI (op : CmpOp) (i j : Int) : Option Bool :=
  match op with
  | .Lt => some (decide (i < j))
  | .LtE => some (decide (i ≤ j))
  | .Gt => some (decide (j < i))
  | .GtE => some (decide (j ≤ i))
  | _ => none
def cmpD (op : CmpOp) (a b : D) : Option Bool :=
  match op with
  | .Eq => eqD a b
  | .NotEq => (eqD a b).map (!·)
  | .In => inD a b
  | .NotIn => (inD a b).map (!·)
  | .Is => match a, b with
    | .t x, .t .non => some (match x with | .non => true | _ => false)
    | .sh (.lst _), .t .non => some false
    | .lst _, .t .non => some false
    | _, _ => none
  | .IsNot => match a, b with
    | .t x, .t .non => some (match x with | .non => false | _ => true)
    | .sh (.lst _), .t .non => some true
    | .lst _, .t .non => some true
    | _, _ => none
  | op => match a, b with
    | .t (.int i), .t (.int j) => cmpI op i j
    | _, _ => none
def truth : D → Option Bool
  | .t .non => some false
  | .t (.bl b) => some b
  | .t (.int i) => some (i != 0)
  | .t (.str s) => if s.length ≤ sizeLine then some ((s.length : Int) != 0) else none
  | .t (.tup xs) => some (!xs.isEmpty)
  | .lst xs => some (!xs.isEmpty)
  | .sh (.lst xs) => some (!xs.isEmpty)
  | _ => none
def isiT (x : T) (ty : Ty) : Bool :=
  match x, ty with
  | .int _, .int => true | .bl _, .int => true | .bl _, .bool => true | .str _, .str => true | .tup _, .tup => true
  | _, _ => false
def isiD (d : D) (ty : Ty) : Option Bool :=
  match d with
  | .t x => some (isiT x ty)
  | .lst _ => some (ty == .lst)
  | .sh (.lst _) => some (ty == .lst)
  | _ => none
/-- a[i] -/
def ixD (a i : D) : Option D :=
  match a, i with
  | .t (.tup xs), .t (.int k) => (L2.atI xs k).map .t
  | .t (.str s), .t (.int k) => if s.length ≤ sizeLine then (L2.atI s.cps.toList k).map fun c => .t (.str ⟨#[c]⟩) else none
  | .lst xs, .t (.int k) => L2.atI xs k
  | .sh (.lst xs), .t (.int k) => (L2.atI xs k).map D.frz
  | _, _ => none
def cutL {α : Type} (xs : List α) (lo hi : Option Int) : List α := (xs.drop (HT.sIx xs.length 0 lo)).take (HT.sIx xs.length xs.length hi - HT.sIx xs.length 0 lo)
def slD (a : D) (lo hi : Option Int) : Option D :=
  match a with
  | .t (.tup xs) => some (.t (.tup (cutL xs lo hi)))
  | .lst xs => if D.allFree xs then some (.lst (cutL xs lo hi)) else none
  | .sh (.lst xs) => some (.lst (cutL (xs.map D.frz) lo hi))
  | _ => none
def ints? : List D → Option (List Int)
  | [] => some []
  | .t (.int i) :: r => (ints? r).map (i :: ·)
  | _ :: _ => none
def bools? : List D → Option (List Bool)
  | [] => some []
  | .t (.bl i) :: r => (bools? r).map (i :: ·)
  | _ :: _ => none
def maxI : Int → List Int → Int
  | m, [] => m
  | m, x :: r => maxI (if x > m then x else m) r
def minI : Int → List Int → Int
  | m, [] => m
  | m, x :: r => minI (if x < m then x else m) r
def lenD : D → Option Nat
  | .t (.str s) => if s.length ≤ sizeLine then some s.length else none
  | .t (.tup xs) => some xs.length
  | .lst xs => some xs.length
  | .sh (.lst xs) => some xs.length
  | .scr ns => some ns.length
  | _ => none
def biD (b : Bi) (ds : List D) : Option D :=
  match b, ds with
  | .len, [d] => (lenD d).map fun (n : Nat) => D.t (.int (n : Int))
  | .abs, [.t (.int i)] => some (.t (.int (if i < 0 then -i else i)))
  | .int, [.t (.int i)] => some (.t (.int i))
  | .int, [.t (.bl b)] => some (.t (.int (if b then 1 else 0)))
  | .gcd, [.t (.int i), .t (.int j)] => some (.t (.int (Nat.gcd i.natAbs j.natAbs : Nat)))
  | .list, [.scr ns] => some (.lst (ns.map fun i => .t (.int i)))
  | .list, [.t (.tup xs)] => some (.lst (xs.map .t))
  | .list, [d] => match d.items with
    | some xs => if D.allFree xs then some (.lst xs) else none
    | none => none
  | .tuple, [.t (.tup xs)] => some (.t (.tup xs))
  | .tuple, [d] => match d.items with
    | some xs => (D.ts? xs).map fun ts => .t (.tup ts)
    | none => none
  | .max2, [.t (.int i), .t (.int j)] => some (.t (.int (if j > i then j else i)))
  | .min2, [.t (.int i), .t (.int j)] => some (.t (.int (if j < i then j else i)))
  | .sum, [d] => match d.items with
    | some xs => (ints? xs).map fun ns => .t (.int ns.sum)
    | none => none
  | .maxl, [d] => match d.items with
    | some xs => match ints? xs with
      | some (n :: ns) => some (.t (.int (maxI n ns)))
      | _ => none
    | none => none
  | .minl, [d] => match d.items with
    | some xs => match ints? xs with
      | some (n :: ns) => some (.t (.int (minI n ns)))
      | _ => none
    | none => none
  | .all, [d] => match d.items with
    | some xs => (bools? xs).map fun bs => .t (.bl (bs.all id))
    | none => none
  | .any, [d] => match d.items with
    | some xs => (bools? xs).map fun bs => .t (.bl (bs.any id))
    | none => none
  | .str, [.t (.int i)] => if i.natAbs.log2 < 1920 then some (.t (.str (toString i))) else none
  | _, _ => none
/-- o.m(..) that changes o: the answer, o's items behind it -/
def mutD (m : Mt) (xs : List D) (ds : List D) : Option (D × List D) :=
  match m, ds with
  | .append, [d] => if xs.length < sizeLine then some (.t .non, xs ++ [d]) else none
  | .pop, [] => match xs[xs.length - 1]? with
    | some d => some (d, xs.dropLast)
    | none => none
  | .extend, [d] => match d with
    | .lst ys => if D.allFree ys && decide (xs.length + ys.length ≤ sizeLine) then some (.t .non, xs ++ ys) else none
    | .sh (.lst ys) => if decide (xs.length + ys.length ≤ sizeLine) then some (.t .non, xs ++ ys.map D.frz) else none
    | _ => none
  | _, _ => none
/-! ### places -/
def getP : D → List Nat → Option D
  | d, [] => some d
  | .lst xs, k :: p => match xs[k]? with
    | some d => getP d p
    | none => none
  | _, _ :: _ => none
def setP : D → List Nat → D → Option D
  | _, [], y => some y
  | .lst xs, k :: p, y => match xs[k]? with
    | some d => (setP d p y).map fun d' => .lst (xs.set k d')
    | none => none
  | _, _ :: _, _ => none

/-- a list stands at the place -/
def atP (rp : Nat × List Nat) (δ : Ev) : Bool :=
  match δ.getD rp.1 none with
  | some d => match getP d rp.2 with
    | some (.lst _) => true
    | _ => false
  | none => false
/-! ### a program's functions, as denoted -/
inductive Rf where
  | ok (r : D) (ms : List D)
  | ex (x : Exn) (ms : List D)
abbrev Fns := Nat → List D → Option Rf
inductive Fl where
  | nx | bk | ct
  | rt (d : D) (κ : Option Nat)
structure GCtx where
  mu : Masks
  ks : List T
  fn : Fns

def wipeE (δ : Ev) : List Nat → Ev
  | [] => δ
  | v :: vs => (wipeE δ vs).set v none
def restE (δ δ0 : Ev) : List Nat → Ev
  | [] => δ
  | v :: vs => (restE δ δ0 vs).set v (δ0.getD v none)
def lcLoop (f : D → Ev → M (Option D)) : List D → List D → Ev → M (List D)
  | [], acc, δ => some (.ok acc δ)
  | x :: xs, acc, δ => bnd (f x δ) fun y δ1 => match y with
    | some y => if acc.length < sizeLine then lcLoop f xs (acc ++ [y]) δ1 else none
    | none => lcLoop f xs acc δ1
def forLoop (f : D → Ev → M Fl) : List D → Ev → M Fl
  | [], δ => some (.ok .nx δ)
  | x :: xs, δ => bnd (f x δ) fun fl δ1 => match fl with
    | .nx => forLoop f xs δ1
    | .ct => forLoop f xs δ1
    | .bk => some (.ok .nx δ1)
    | .rt d κ => some (.ok (.rt d κ) δ1)
def whLoop (c : Ev → M Bool) (f : Ev → M Fl) : Nat → Ev → M Fl
  | 0, _ => none
  | n + 1, δ => bnd (c δ) fun b δ1 => if b then bnd (f δ1) fun fl δ2 => match fl with
      | .nx => whLoop c f n δ2
      | .ct => whLoop c f n δ2
      | .bk => some (.ok .nx δ2)
      | .rt d κ => some (.ok (.rt d κ) δ2)
    else some (.ok .nx δ1)
def rngL (i : Int) (n : Nat) (c : Int) : List D := (List.range n).map fun (k : Nat) => .t (.int (i + k * c))
def rngD (ds : List D) : Option (List D) :=
  match ds with
  | [.t (.int j)] => if -(2 ^ 62) ≤ j ∧ j < 2 ^ 62 then some (rngL 0 j.toNat 1) else none
  | [.t (.int i), .t (.int j)] => if -(2 ^ 62) ≤ i ∧ i < 2 ^ 62 ∧ -(2 ^ 62) ≤ j ∧ j < 2 ^ 62 then some (rngL i (j - i).toNat 1) else none
  | _ => none
/-- what a walk over a value gives; κ: whose part it is -/
def walkD (d : D) (κ : Option Nat) : Option (List D) :=
  match d with
  | .t (.tup xs) => some (xs.map .t)
  | .t (.str s) => some (s.cps.toList.map fun c => .t (.str ⟨#[c]⟩))
  | .lst xs => match κ with
    | none => some (xs.map D.frz)
    | some _ => if D.allFree xs then some xs else none
  | .sh (.lst xs) => match κ with
    | none => some (xs.map D.frz)
    | some _ => none
  | _ => none
def kap (d : D) (κ : Option Nat) : Option Nat := if d.free then none else κ
/-- the arguments for a callee; the slots that are lent, each with its parameter; the slots that it may look at -/
def lend (δ : Ev) : Nat → List Bool → List Vr → Option (List D × List (Nat × Nat) × List Nat)
  | _, [], [] => some ([], [], [])
  | k, true :: m, (_, some r) :: vs => match δ.getD r none with
    | some d => (lend δ (k + 1) m vs).map fun (ds, ls, ps) => (d :: ds, (r, k) :: ls, ps)
    | none => none
  | k, false :: m, (d, κ) :: vs => (lend δ (k + 1) m vs).map fun (ds, ls, ps) => (d.frz :: ds, ls, κ.toList ++ ps)
  | _, _, _ => none
def lentIx : Nat → List Bool → List Nat
  | _, [] => []
  | k, true :: m => k :: lentIx (k + 1) m
  | k, false :: m => lentIx (k + 1) m
def setMs (δ : Ev) : List Nat → List D → Ev
  | i :: is, d :: ds => (setMs δ is ds).set i (some d)
  | _, _ => δ
def nodupB : List Nat → Bool
  | [] => true
  | x :: r => !r.contains x && nodupB r
def isV : E → Bool
  | .v _ => true
  | _ => false
def Es.okLent : Es → List Bool → Bool
  | .cons e es, b :: m => (!b || isV e) && es.okLent m
  | .nil, [] => true
  | _, _ => false
mutual
def bindT : Tg → D → Ev → Option Ev
  | .n i, d, δ => if i < δ.length then some (δ.set i (some d)) else none
  | .tp ts, .t (.tup xs), δ => bindTs ts xs δ
  | .tp _, _, _ => none
def bindTs : Tgs → List T → Ev → Option Ev
  | .nil, [], δ => some δ
  | .cons t ts, x :: xs, δ => match bindT t (.t x) δ with
    | some δ1 => bindTs ts xs δ1
    | none => none
  | _, _, _ => none
end
def E.isNo : E → Bool
  | .no => true
  | _ => false
def intR (v : Vr) (δ : Ev) : M (Option Int) :=
  match v.1 with
  | .t (.int i) => some (.ok (some i) δ)
  | _ => none
def truR (v : Vr) (δ : Ev) : M Bool :=
  match truth v.1 with
  | some k => some (.ok k δ)
  | none => none
def asInt? : D → Option Int
  | .t (.int i) => some i
  | _ => none
variable (G : GCtx)
mutual
def denE : E → Ev → M Vr
  | .v i, δ => match δ.getD i none with
    | some d => some (.ok (d, kap d (some i)) δ)
    | none => none
  | .mv i, δ => match δ.getD i none with
    | some d => some (.ok (d, none) (δ.set i none))
    | none => none
  | .fz i, δ => match δ.getD i none with
    | some d => some (.ok (d.frz, none) (δ.set i (some d.frz)))
    | none => none
  | .k i, δ => match G.ks[i]? with
    | some x => some (.ok (.t x, none) δ)
    | none => none
  | .c x, δ => some (.ok (.t x, none) δ)
  | .bin op a b, δ => bnd (denE a δ) fun va δ1 => bnd (denE b δ1) fun vb δ2 =>
      if okPeek va.2 (b.muts G.mu) then match binD op va.1 vb.1 with
        | some d => some (.ok (d, none) δ2)
        | none => none
      else none
  | .neg a, δ => bnd (denE a δ) fun va δ1 => match va.1 with
      | .t (.int i) => some (.ok (.t (.int (-i)), none) δ1)
      | _ => none
  | .cmp op a b, δ => bnd (denE a δ) fun va δ1 => bnd (denE b δ1) fun vb δ2 =>
      if okPeek va.2 (b.muts G.mu) then match cmpD op va.1 vb.1 with
        | some k => some (.ok (.t (.bl k), none) δ2)
        | none => none
      else none
  | .chn op op' a b c, δ => bnd (denE a δ) fun va δ1 => bnd (denE b δ1) fun vb δ2 =>
      if okPeek va.2 (b.muts G.mu) && okPeek vb.2 (c.muts G.mu) then match cmpD op va.1 vb.1 with
        | some true => bnd (denE c δ2) fun vc δ3 => match cmpD op' vb.1 vc.1 with
          | some k => some (.ok (.t (.bl k), none) δ3)
          | none => none
        | some false => some (.ok (.t (.bl false), none) δ2)
        | none => none
      else none
  | .and a b, δ => bnd (denE a δ) fun va δ1 => match truth va.1 with
      | some true => denE b δ1
      | some false => some (.ok va δ1)
      | none => none
  | .or a b, δ => bnd (denE a δ) fun va δ1 => match truth va.1 with
      | some true => some (.ok va δ1)
      | some false => denE b δ1
      | none => none
  | .not a, δ => bnd (denE a δ) fun va δ1 => match truth va.1 with
      | some k => some (.ok (.t (.bl (!k)), none) δ1)
      | none => none
  | .ite c a b, δ => bnd (denE c δ) fun vc δ1 => match truth vc.1 with
      | some true => denE a δ1
      | some false => denE b δ1
      | none => none
  | .tup es, δ => bnd (denEs es δ) fun vs δ1 => match D.ts? (vs.map (·.1)) with
      | some ts => if ts.length ≤ sizeLine then some (.ok (.t (.tup ts), none) δ1) else none
      | none => none
  | .lst es, δ => bnd (denEs es δ) fun vs δ1 =>
      if vs.all (fun v => v.2.isNone) && decide (vs.length ≤ sizeLine) then some (.ok (.lst (vs.map (·.1)), none) δ1) else none
  | .ix a b, δ => bnd (denE a δ) fun va δ1 => bnd (denE b δ1) fun vb δ2 =>
      if okPeek va.2 (b.muts G.mu) then match ixD va.1 vb.1 with
        | some d => some (.ok (d, kap d va.2) δ2)
        | none => none
      else none
  | .sl a lo hi, δ => bnd (denE a δ) fun va δ1 => bnd (if lo.isNo then some (.ok none δ1) else bnd (denE lo δ1) intR) fun l δ2 => bnd (if hi.isNo then some (.ok none δ2) else bnd (denE hi δ2) intR) fun h δ3 =>
      if okPeek va.2 (lo.muts G.mu ++ hi.muts G.mu) then match slD va.1 l h with
        | some d => some (.ok (d, none) δ3)
        | none => none
      else none
  | .no, _ => none
  | .call f es, δ => bnd (denEs es δ) fun vs δ1 =>
      if es.okLent (G.mu f) then match lend δ1 0 (G.mu f) vs with
        | some (ds, ls, ps) =>
          if nodupB (ls.map (·.1)) && ps.all (fun r => !(ls.map (·.1)).contains r) then match G.fn f ds with
            | some (.ok r ms) => if decide (ms.length = ls.length) && (ps.isEmpty || (r.noSh && D.noShs ms)) then some (.ok (r, none) (setMs δ1 (ls.map (·.1)) ms)) else none
            | some (.ex x ms) => if decide (ms.length = ls.length) && (ps.isEmpty || D.noShs ms) then some (.ex x (setMs δ1 (ls.map (·.1)) ms)) else none
            | none => none
          else none
        | none => none
      else none
  | .bi b es, δ => bnd (denEs es δ) fun vs δ1 => match biD b (vs.map (·.1)) with
      | some d => some (.ok (d, none) δ1)
      | none => none
  | .isi a ty, δ => bnd (denE a δ) fun va δ1 => match isiD va.1 ty with
      | some k => some (.ok (.t (.bl k), none) δ1)
      | none => none
  | .mth _ _ _, _ => none
  | .mut m a es, δ => bnd (denP a δ) fun rp δ1 => if atP rp δ1 then bnd (denEs es δ1) fun vs δ2 =>
      if okPeek (some rp.1) (es.muts G.mu) then match δ2.getD rp.1 none with
        | some d => match getP d rp.2 with
          | some (.lst xs) => if vs.all (fun v => v.2.isNone) then match mutD m xs (vs.map (·.1)) with
              | some (r, ys) => match setP d rp.2 (.lst ys) with
                | some d' => some (.ok (r, none) (δ2.set rp.1 (some d')))
                | none => none
              | none => none
            else none
          | _ => none
        | none => none
      else none
    else none
  | .lc elt tg it cs own, δ => bnd (denI it δ) fun w δ1 =>
      if okPeek w.2 (own ++ (elt.muts G.mu ++ cs.muts G.mu)) && own.all (fun i => !(elt.muts G.mu ++ cs.muts G.mu).contains i) then
        match lcLoop (fun x δ => match bindT tg x (wipeE δ own) with
          | some δ2 => bnd (denC cs δ2) fun k δ3 => if k then bnd (denE elt δ3) fun v δ4 => if v.2.isNone then some (.ok (some v.1) δ4) else none else some (.ok none δ3)
          | none => none) w.1 [] δ1 with
        | some (.ok acc δ5) => some (.ok (.lst acc, none) (restE δ5 δ1 own))
        | _ => none
      else none
termination_by structural e => e
def denEs : Es → Ev → M (List Vr)
  | .nil, δ => some (.ok [] δ)
  | .cons e es, δ => bnd (denE e δ) fun v δ1 => bnd (denEs es δ1) fun vs δ2 => if okPeek v.2 (es.muts G.mu) then some (.ok (v :: vs) δ2) else none
termination_by structural e => e
def denC : Es → Ev → M Bool
  | .nil, δ => some (.ok true δ)
  | .cons e .nil, δ => bnd (denE e δ) truR
  | .cons _ (.cons _ _), _ => none
termination_by structural e => e
/-- a place: its slot and the way within -/
def denP : E → Ev → M (Nat × List Nat)
  | .v i, δ => match δ.getD i none with
    | some (.lst _) => some (.ok (i, []) δ)
    | _ => none
  | .ix a b, δ => bnd (denP a δ) fun rp δ1 => bnd (denE b δ1) fun vb δ2 =>
      if okPeek (some rp.1) (b.muts G.mu) then match δ2.getD rp.1 none, vb.1 with
        | some d, .t (.int k) => match getP d rp.2 with
          | some (.lst xs) => match L2.ixN xs.length k with
            | some j => some (.ok (rp.1, rp.2 ++ [j]) δ2)
            | none => none
          | _ => none
        | _, _ => none
      else none
  | _, _ => none
termination_by structural e => e
def denI : It → Ev → M (List D × Option Nat)
  | .seq e, δ => bnd (denE e δ) fun v δ1 => match walkD v.1 v.2 with
      | some xs => some (.ok (xs, v.2) δ1)
      | none => none
  | .rng es, δ => bnd (denEs es δ) fun vs δ1 => match rngD (vs.map (·.1)) with
      | some xs => some (.ok (xs, none) δ1)
      | none => none
termination_by structural e => e
end
/-- a test -/
def denT (e : E) (δ : Ev) : M Bool := bnd (denE G e δ) truR
mutual
def denS : S → Ev → M Fl
  | .asg tg e, δ => bnd (denE G e δ) fun v δ1 => if v.2.isNone then match bindT tg v.1 δ1 with
      | some δ2 => some (.ok .nx δ2)
      | none => none
    else none
  | .par i j a b, δ => bnd (denE G a δ) fun va δ1 => bnd (denE G b δ1) fun vb δ2 =>
      if va.2.isNone && vb.2.isNone && decide (i < δ2.length) && decide (j < δ2.length) then some (.ok .nx ((δ2.set i (some va.1)).set j (some vb.1))) else none
  | .six a i e, δ => bnd (denE G e δ) fun v δ1 => bnd (denP G a δ1) fun rp δ2 => bnd (denE G i δ2) fun vi δ3 =>
      if v.2.isNone && okPeek (some rp.1) (i.muts G.mu) then match δ3.getD rp.1 none, vi.1 with
        | some d, .t (.int k) => match getP d rp.2 with
          | some (.lst xs) => match L2.ixN xs.length k with
            | some j => match setP d rp.2 (.lst (xs.set j v.1)) with
              | some d' => some (.ok .nx (δ3.set rp.1 (some d')))
              | none => none
            | none => none
          | _ => none
        | _, _ => none
      else none
  | .aug i op e, δ => match δ.getD i none with
      | some d => bnd (denE G e δ) fun v δ1 => match augD op d v.1 with
        | some k => some (.ok .nx (δ1.set i (some (.t (.int k)))))
        | none => none
      | none => none
  | .ex e, δ => bnd (denE G e δ) fun _ δ1 => some (.ok .nx δ1)
  | .ret e, δ => bnd (denE G e δ) fun v δ1 => some (.ok (.rt v.1 v.2) δ1)
  | .retn, δ => some (.ok (.rt (.t .non) none) δ)
  | .iff c a b, δ => bnd (denT G c δ) fun k δ1 => if k then denSs a δ1 else denSs b δ1
  | .wh n c b, δ => whLoop (denT G c) (denSs b) n δ
  | .for tg it b, δ => bnd (denI G it δ) fun w δ1 =>
      if okPeek w.2 (tg.slots ++ b.muts G.mu) then
        forLoop (fun x δ => match bindT tg x δ with
          | some δ2 => denSs b δ2
          | none => none) w.1 δ1
      else none
  | .brk, δ => some (.ok .bk δ)
  | .cont, δ => some (.ok .ct δ)
  | .pass, δ => some (.ok .nx δ)
termination_by structural s => s
def denSs : Ss → Ev → M Fl
  | .nil, δ => some (.ok .nx δ)
  | .cons s ss, δ => bnd (denS s δ) fun fl δ1 => match fl with
      | .nx => denSs ss δ1
      | fl => some (.ok fl δ1)
termination_by structural s => s
end
end DV


set_option Elab.async false
set_option linter.all false
set_option maxRecDepth 100000
set_option maxHeartbeats 2000000
/-! DB: what stands for data on the heap. -/
namespace DV
open PySem L2

/-- a list of the written part -/
def KLst (K : PySem.W.Frag) (a : Addr) (xs : List V) : Prop :=
  ∃ (o : Obj) (its : Array Value) (n : Nat), K.lookup a = some o ∧ o.cls = .type "list" ∧ o.dict = none ∧ o.data = .seq its n ∧ its.size ≤ sizeLine ∧ Vals xs its.toList
section
variable (K : PySem.W.Frag)
mutual
def RepT (H : Hp) : V → T → Prop
  | v, .non => v = .non
  | v, .bl b => v = .bl b
  | v, .int i => v = .int i
  | v, .str s => v = .str s
  | v, .tup xs => ∃ a vs, v = .ref a ∧ SqT K H a vs ∧ RepTs H vs xs
def RepTs (H : Hp) : List V → List T → Prop
  | vs, [] => vs = []
  | vs, x :: xs => ∃ v r, vs = v :: r ∧ RepT H v x ∧ RepTs H r xs
end
mutual
/-- v stands for d; F: the lists that it owns; Z: what nobody writes any more -/
def RepF (Z : Addr → Prop) (H : Hp) : V → D → List Addr → Prop
  | v, .t x, F => F = [] ∧ RepT K H v x
  | v, .scr ns, F => F = [] ∧ ∃ a, v = .ref a ∧ ((Rd H a (.lst (ns.map V.int)) ∧ (Mut (H a) → Z a)) ∨ KLst K a (ns.map V.int))
  | v, .sh d, F => F = [] ∧ ∃ F0, (∀ a, a ∈ F0 → Z a) ∧ RepF Z H v d F0
  | v, .lst xs, F => ∃ a vs Fs, v = .ref a ∧ H a = some (.lst vs) ∧ F = a :: Fs ∧ RepFs Z H vs xs Fs
def RepFs (Z : Addr → Prop) (H : Hp) : List V → List D → List Addr → Prop
  | vs, [], F => vs = [] ∧ F = []
  | vs, x :: xs, F => ∃ v r F1 F2, vs = v :: r ∧ F = F1 ++ F2 ∧ RepF Z H v x F1 ∧ RepFs Z H r xs F2
end
/-- the heap goes from H to H', but for what stands at B; Z grows to Z' -/
structure Go (B : Addr → Prop) (Z : Addr → Prop) (H : Hp) (Z' : Addr → Prop) (H' : Hp) : Prop where
  z : ∀ a, Z a → Z' a
  k : ∀ a o, H a = some o → ¬ B a → H' a = some o
  b : ∀ a, B a → Mut (H a) ∧ ¬ Z a
end
section
variable {K : PySem.W.Frag} {B : Addr → Prop} {Z Z' : Addr → Prop} {H H' : Hp}
theorem Go.rd (g : Go B Z H Z' H') {a : Addr} {xs : List V} (h : Rd H a (.tup xs)) : Rd H' a (.tup xs) := by
  rcases h with h | ⟨o, h⟩
  · exact .inl (g.k a _ h fun b => by have := (g.b a b).1; rw [h] at this; exact this)
  · exact .inr ⟨o, g.k a _ h fun b => by have := (g.b a b).1; rw [h] at this; exact this⟩
theorem Go.sqT (g : Go B Z H Z' H') {a : Addr} {xs : List V} (h : SqT K H a xs) : SqT K H' a xs := by
  rcases h with h | h
  · exact .inl (g.rd h)
  · exact .inr h
mutual
theorem RepT.go (g : Go B Z H Z' H') : ∀ (v : V) (x : T), RepT K H v x → RepT K H' v x
  | v, .non, h => h
  | v, .bl b, h => h
  | v, .int i, h => h
  | v, .str s, h => h
  | v, .tup xs, h => by
    unfold RepT at h ⊢
    obtain ⟨a, vs, e, h1, h2⟩ := h
    exact ⟨a, vs, e, g.sqT h1, RepTs.go g vs xs h2⟩
theorem RepTs.go (g : Go B Z H Z' H') : ∀ (vs : List V) (xs : List T), RepTs K H vs xs → RepTs K H' vs xs
  | vs, [], h => h
  | vs, x :: xs, h => by
    unfold RepTs at h ⊢
    obtain ⟨v, r, e, h1, h2⟩ := h
    exact ⟨v, r, e, RepT.go g v x h1, RepTs.go g r xs h2⟩
end
mutual
theorem RepF.go (g : Go B Z H Z' H') : ∀ (v : V) (d : D) (F : List Addr), RepF K Z H v d F → (∀ a, a ∈ F → ¬ B a) → RepF K Z' H' v d F
  | v, .t x, F, h, hf => by
    unfold RepF at h ⊢
    exact ⟨h.1, RepT.go g v x h.2⟩
  | v, .scr ns, F, h, hf => by
    unfold RepF at h ⊢
    obtain ⟨h1, a, e, h2⟩ := h
    refine ⟨h1, a, e, ?_⟩
    rcases h2 with ⟨h2, h3⟩ | h2
    · refine .inl ?_
      have nb : ¬ B a := fun b => (g.b a b).2 (h3 (g.b a b).1)
      rcases h2 with h2 | ⟨o, h2⟩
      · have q := g.k a _ h2 nb
        exact ⟨.inl q, fun _ => g.z a (h3 (by rw [h2]; trivial))⟩
      · have q := g.k a _ h2 nb
        exact ⟨.inr ⟨o, q⟩, fun m => by rw [q] at m; exact m.elim⟩
    · exact .inr h2
  | v, .sh d, F, h, hf => by
    unfold RepF at h ⊢
    obtain ⟨h1, F0, h2, h3⟩ := h
    exact ⟨h1, F0, fun a ha => g.z a (h2 a ha), RepF.go g v d F0 h3 fun a ha b => (g.b a b).2 (h2 a ha)⟩
  | v, .lst xs, F, h, hf => by
    unfold RepF at h ⊢
    obtain ⟨a, vs, Fs, e, h1, h2, h3⟩ := h
    subst h2
    exact ⟨a, vs, Fs, e, g.k a _ h1 (hf a List.mem_cons_self), rfl, RepFs.go g vs xs Fs h3 fun b hb => hf b (List.mem_cons_of_mem _ hb)⟩
theorem RepFs.go (g : Go B Z H Z' H') : ∀ (vs : List V) (ds : List D) (F : List Addr), RepFs K Z H vs ds F → (∀ a, a ∈ F → ¬ B a) → RepFs K Z' H' vs ds F
  | vs, [], F, h, hf => by
    unfold RepFs at h ⊢
    exact h
  | vs, x :: xs, F, h, hf => by
    unfold RepFs at h ⊢
    obtain ⟨v, r, F1, F2, e, h1, h2, h3⟩ := h
    subst h1
    exact ⟨v, r, F1, F2, e, rfl, RepF.go g v x F1 h2 fun a ha => hf a (List.mem_append_left _ ha), RepFs.go g r xs F2 h3 fun a ha => hf a (List.mem_append_right _ ha)⟩
end
theorem Go.trans {B1 B2 : Addr → Prop} {Z1 Z2 Z3 : Addr → Prop} {H1 H2 H3 : Hp} (g : Go B1 Z1 H1 Z2 H2) (g2 : Go B2 Z2 H2 Z3 H3) (hb : ∀ a, B2 a → B a ∨ H1 a = none) (hb1 : ∀ a, B1 a → B a) (hm : ∀ a, B a → Mut (H1 a) ∧ ¬ Z1 a) : Go B Z1 H1 Z3 H3 :=
  ⟨fun a h => g2.z a (g.z a h), fun a o h n => g2.k a o (g.k a o h fun b => n (hb1 a b)) fun b => (hb a b).elim n fun q => by (rw [q] at h; cases h), hm⟩
/-- nothing is written -/
theorem Go.new (k : ∀ a o, H a = some o → H' a = some o) (z : ∀ a, Z a → Z' a) : Go (fun _ => False) Z H Z' H' := ⟨z, fun a o h _ => k a o h, fun _ h => h.elim⟩
theorem Go.upd {p : Addr} {o : HO} (n : H p = none) : Go (fun _ => False) Z H Z (upd H p o) := Go.new (fun a u h => by rw [upd_ne (ne_of_none h n)]; exact h) fun _ h => h
theorem RepTs.length : ∀ {vs : List V} {xs : List T}, RepTs K H vs xs → vs.length = xs.length
  | vs, [], h => by unfold RepTs at h; rw [h]; rfl
  | vs, x :: xs, h => by
    unfold RepTs at h
    obtain ⟨v, r, e, h1, h2⟩ := h
    rw [e, List.length_cons, List.length_cons, RepTs.length h2]
theorem RepFs.length : ∀ {vs : List V} {xs : List D} {F : List Addr}, RepFs K Z H vs xs F → vs.length = xs.length
  | vs, [], F, h => by unfold RepFs at h; rw [h.1]; rfl
  | vs, x :: xs, F, h => by
    unfold RepFs at h
    obtain ⟨v, r, F1, F2, e, _, h1, h2⟩ := h
    rw [e, List.length_cons, List.length_cons, RepFs.length h2]
theorem RepTs.get : ∀ {vs : List V} {xs : List T} {i : Nat} {x : T}, RepTs K H vs xs → xs[i]? = some x → ∃ v, vs[i]? = some v ∧ RepT K H v x
  | vs, [], i, x, h, e => by simp at e
  | vs, y :: xs, 0, x, h, e => by
    unfold RepTs at h
    obtain ⟨v, r, e1, h1, h2⟩ := h
    simp at e
    subst e e1
    exact ⟨v, rfl, h1⟩
  | vs, y :: xs, i + 1, x, h, e => by
    unfold RepTs at h
    obtain ⟨v, r, e1, h1, h2⟩ := h
    subst e1
    obtain ⟨u, q, z⟩ := RepTs.get (i := i) h2 (by simpa using e)
    exact ⟨u, by simpa using q, z⟩
theorem RepFs.get : ∀ {vs : List V} {xs : List D} {F : List Addr} {i : Nat} {x : D}, RepFs K Z H vs xs F → xs[i]? = some x → ∃ v F1, vs[i]? = some v ∧ RepF K Z H v x F1 ∧ F1.Sublist F
  | vs, [], F, i, x, h, e => by simp at e
  | vs, y :: xs, F, 0, x, h, e => by
    unfold RepFs at h
    obtain ⟨v, r, F1, F2, e1, e2, h1, h2⟩ := h
    simp at e
    subst e e1 e2
    exact ⟨v, F1, rfl, h1, List.sublist_append_left _ _⟩
  | vs, y :: xs, F, i + 1, x, h, e => by
    unfold RepFs at h
    obtain ⟨v, r, F1, F2, e1, e2, h1, h2⟩ := h
    subst e1 e2
    obtain ⟨u, F3, q, z, w⟩ := RepFs.get (i := i) h2 (by simpa using e)
    exact ⟨u, F3, by simpa using q, z, w.trans (List.sublist_append_right _ _)⟩
theorem RepTs.append : ∀ {vs : List V} {xs : List T} {us : List V} {ys : List T}, RepTs K H vs xs → RepTs K H us ys → RepTs K H (vs ++ us) (xs ++ ys)
  | vs, [], us, ys, h, h' => by unfold RepTs at h; rw [h]; exact h'
  | vs, x :: xs, us, ys, h, h' => by
    unfold RepTs at h
    obtain ⟨v, r, e, h1, h2⟩ := h
    subst e
    show RepTs K H (v :: (r ++ us)) (x :: (xs ++ ys))
    unfold RepTs
    exact ⟨v, r ++ us, rfl, h1, RepTs.append h2 h'⟩
theorem RepFs.append : ∀ {vs : List V} {xs : List D} {F : List Addr} {us : List V} {ys : List D} {F' : List Addr}, RepFs K Z H vs xs F → RepFs K Z H us ys F' → RepFs K Z H (vs ++ us) (xs ++ ys) (F ++ F')
  | vs, [], F, us, ys, F', h, h' => by unfold RepFs at h; rw [h.1, h.2]; exact h'
  | vs, x :: xs, F, us, ys, F', h, h' => by
    unfold RepFs at h
    obtain ⟨v, r, F1, F2, e, e2, h1, h2⟩ := h
    subst e e2
    show RepFs K Z H (v :: (r ++ us)) (x :: (xs ++ ys)) _
    unfold RepFs
    exact ⟨v, r ++ us, F1, F2 ++ F', rfl, by rw [List.append_assoc], h1, RepFs.append h2 h'⟩
/-- T's as D's -/
theorem RepFs.ofT : ∀ {vs : List V} {xs : List T}, RepTs K H vs xs → RepFs K Z H vs (xs.map .t) []
  | vs, [], h => by unfold RepTs at h; exact ⟨h, rfl⟩
  | vs, x :: xs, h => by
    unfold RepTs at h
    obtain ⟨v, r, e, h1, h2⟩ := h
    show RepFs K Z H vs (.t x :: xs.map .t) []
    unfold RepFs
    exact ⟨v, r, [], [], e, rfl, by unfold RepF; exact ⟨rfl, h1⟩, RepFs.ofT h2⟩
theorem RepFs.ts : ∀ {vs : List V} {ds : List D} {F : List Addr} {xs : List T}, RepFs K Z H vs ds F → D.ts? ds = some xs → F = [] ∧ RepTs K H vs xs ∧ ds = xs.map .t
  | vs, [], F, xs, h, e => by
    unfold RepFs at h
    simp only [D.ts?, Option.some.injEq] at e
    subst e
    exact ⟨h.2, h.1, rfl⟩
  | vs, .t x :: ds, F, xs, h, e => by
    unfold RepFs at h
    obtain ⟨v, r, F1, F2, e1, e2, h1, h2⟩ := h
    simp only [D.ts?, Option.map_eq_some_iff] at e
    obtain ⟨ys, e3, e4⟩ := e
    subst e4
    obtain ⟨z1, z2, z3⟩ := RepFs.ts h2 e3
    unfold RepF at h1
    refine ⟨by rw [e2, h1.1, z1]; rfl, ?_, by rw [z3]; rfl⟩
    unfold RepTs
    exact ⟨v, r, e1, h1.2, z2⟩
  | vs, .sh x :: ds, F, xs, h, e => by simp [D.ts?] at e
  | vs, .lst x :: ds, F, xs, h, e => by simp [D.ts?] at e
  | vs, .scr x :: ds, F, xs, h, e => by simp [D.ts?] at e
theorem RepF.free {v : V} {d : D} {F : List Addr} (h : RepF K Z H v d F) (e : d.free = true) : F = [] := by
  cases d with
  | t x => unfold RepF at h; exact h.1
  | sh x => unfold RepF at h; exact h.1
  | scr x => unfold RepF at h; exact h.1
  | lst x => simp [D.free] at e
theorem RepFs.allFree : ∀ {vs : List V} {ds : List D} {F : List Addr}, RepFs K Z H vs ds F → D.allFree ds = true → F = []
  | vs, [], F, h, e => by unfold RepFs at h; exact h.2
  | vs, x :: ds, F, h, e => by
    unfold RepFs at h
    obtain ⟨v, r, F1, F2, e1, e2, h1, h2⟩ := h
    simp only [D.allFree, Bool.and_eq_true] at e
    rw [e2, h1.free e.1, RepFs.allFree h2 e.2]; rfl
/-- frozen -/
theorem RepF.frz {v : V} {d : D} {F : List Addr} (h : RepF K Z H v d F) (hz : ∀ a, a ∈ F → Z a) : RepF K Z H v d.frz [] := by
  cases d with
  | t x => have := h.free rfl; subst this; exact h
  | sh x => have := h.free rfl; subst this; exact h
  | scr x => have := h.free rfl; subst this; exact h
  | lst x =>
    show RepF K Z H v (.sh (.lst x)) []
    unfold RepF
    exact ⟨rfl, F, hz, h⟩
theorem RepFs.frz : ∀ {vs : List V} {ds : List D} {F : List Addr}, RepFs K Z H vs ds F → (∀ a, a ∈ F → Z a) → RepFs K Z H vs (ds.map D.frz) []
  | vs, [], F, h, hz => by unfold RepFs at h; exact ⟨h.1, rfl⟩
  | vs, x :: ds, F, h, hz => by
    unfold RepFs at h
    obtain ⟨v, r, F1, F2, e1, e2, h1, h2⟩ := h
    subst e2
    show RepFs K Z H vs (x.frz :: ds.map D.frz) []
    unfold RepFs
    exact ⟨v, r, [], [], e1, rfl, h1.frz fun a ha => hz a (List.mem_append_left _ ha), RepFs.frz h2 fun a ha => hz a (List.mem_append_right _ ha)⟩
/-- what may be read of a list -/
theorem RepF.items {v : V} {d : D} {F : List Addr} {xs : List D} (h : RepF K Z H v d F) (e : d.items = some xs) : ∃ a vs Fs, v = .ref a ∧ H a = some (.lst vs) ∧ RepFs K Z H vs xs Fs ∧ (∀ b, b ∈ Fs → b ∈ F) ∧ (D.allFree xs = true → Fs = []) := by
  cases d with
  | t x => simp [D.items] at e
  | scr x => simp [D.items] at e
  | lst x =>
    simp only [D.items, Option.some.injEq] at e
    subst e
    unfold RepF at h
    obtain ⟨a, vs, Fs, e, h1, h2, h3⟩ := h
    subst h2
    exact ⟨a, vs, Fs, e, h1, h3, fun b hb => List.mem_cons_of_mem _ hb, fun f => h3.allFree f⟩
  | sh x =>
    cases x with
    | lst x =>
      simp only [D.items, Option.some.injEq] at e
      subst e
      unfold RepF at h
      obtain ⟨hF, F0, hz, h⟩ := h
      unfold RepF at h
      obtain ⟨a, vs, Fs, e, h1, h2, h3⟩ := h
      subst h2
      exact ⟨a, vs, [], e, h1, h3.frz fun b hb => hz b (List.mem_cons_of_mem _ hb), fun b hb => by simp at hb, fun _ => rfl⟩
    | t _ => simp [D.items] at e
    | sh _ => simp [D.items] at e
    | scr _ => simp [D.items] at e
end
end DV


set_option Elab.async false
set_option linter.all false
set_option maxRecDepth 100000
set_option maxHeartbeats 2000000
/-! DC: the states, and how they go. -/
namespace DV
open PySem L2

abbrev Fp := Nat → List Addr
/-- slot by slot: the values stand for the data; what the slots own is apart -/
structure SR (K : PySem.W.Frag) (Z : Addr → Prop) (δ : Ev) (Fs : Fp) (σ : St) (H : Hp) : Prop where
  len : δ.length = σ.length
  rep : ∀ i d, δ.getD i none = some d → ∃ v, σ[i]? = some (some v) ∧ RepF K Z H v d (Fs i)
  no : ∀ i, δ.getD i none = none → Fs i = []
  nd : ∀ i, (Fs i).Nodup
  dj : ∀ i j a, a ∈ Fs i → a ∈ Fs j → i = j
  mu : ∀ i a, a ∈ Fs i → Mut (H a) ∧ ¬ Z a
  zd : ∀ a, Z a → H a ≠ none
/-- what the slots M own -/
def At (M : List Nat) (Fs : Fp) (a : Addr) : Prop := ∃ i, i ∈ M ∧ a ∈ Fs i
structure Tr (M : List Nat) (Z : Addr → Prop) (δ : Ev) (Fs : Fp) (H : Hp) (Z' : Addr → Prop) (δ' : Ev) (Fs' : Fp) (H' : Hp) : Prop where
  z : ∀ a, Z a → Z' a
  zf : ∀ a, Z' a → Z a ∨ H a = none ∨ At M Fs a
  k : ∀ a o, H a = some o → ¬ At M Fs a → H' a = some o
  ff : ∀ i a, a ∈ Fs' i → H a = none ∨ a ∈ Fs i ∨ At M Fs a
  same : ∀ i, i ∉ M → Fs' i = Fs i ∧ δ'.getD i none = δ.getD i none
  len : δ'.length = δ.length
/-- what is owned by a value that no slot holds -/
structure OwnA (M : List Nat) (Fs : Fp) (H : Hp) (Z' : Addr → Prop) (Fs' : Fp) (H' : Hp) (A : List Addr) : Prop where
  nd : A.Nodup
  mu : ∀ a, a ∈ A → Mut (H' a) ∧ ¬ Z' a
  ni : ∀ a, a ∈ A → ∀ i, a ∉ Fs' i
  org : ∀ a, a ∈ A → H a = none ∨ At M Fs a
def Own (M : List Nat) (Fs : Fp) (H : Hp) (Z' : Addr → Prop) (Fs' : Fp) (H' : Hp) : Option Nat → List Addr → Prop
  | none, F => OwnA M Fs H Z' Fs' H' F
  | some r, F => ∀ a, a ∈ F → a ∈ Fs' r
section
variable {K : PySem.W.Frag} {M M1 M2 : List Nat} {Z Z1 Z2 : Addr → Prop} {δ δ1 δ2 : Ev} {Fs Fs1 Fs2 : Fp} {σ : St} {H H1 H2 : Hp}
theorem At.left {a : Addr} (h : At M1 Fs a) : At (M1 ++ M2) Fs a := let ⟨i, hi, ha⟩ := h; ⟨i, List.mem_append_left _ hi, ha⟩
theorem At.right {a : Addr} (h : At M2 Fs a) : At (M1 ++ M2) Fs a := let ⟨i, hi, ha⟩ := h; ⟨i, List.mem_append_right _ hi, ha⟩
theorem mut_some {o : Option HO} (h : Mut o) : ∃ u, o = some u := by
  cases o with
  | none => exact h.elim
  | some u => exact ⟨u, rfl⟩
theorem SR.go (S : SR K Z δ Fs σ H) (t : Tr M Z δ Fs H Z1 δ1 Fs1 H1) : Go (At M Fs) Z H Z1 H1 :=
  ⟨t.z, t.k, fun a ⟨i, _, ha⟩ => S.mu i a ha⟩
theorem Tr.refl : Tr [] Z δ Fs H Z δ Fs H :=
  ⟨fun _ h => h, fun _ h => .inl h, fun _ _ h _ => h, fun _ _ h => .inr (.inl h), fun _ _ => ⟨rfl, rfl⟩, rfl⟩
theorem Tr.mono (t : Tr M Z δ Fs H Z1 δ1 Fs1 H1) (h : ∀ i, i ∈ M → i ∈ M2) : Tr M2 Z δ Fs H Z1 δ1 Fs1 H1 := by
  have up : ∀ {a}, At M Fs a → At M2 Fs a := fun ⟨i, hi, ha⟩ => ⟨i, h i hi, ha⟩
  exact ⟨t.z, fun a z => (t.zf a z).imp id (Or.imp id up), fun a o e n => t.k a o e fun q => n (up q), fun i a q => (t.ff i a q).imp id (Or.imp id up), fun i hi => t.same i fun q => hi (h i q), t.len⟩
/-- what was not there ahead of a step -/
theorem Tr.back (t : Tr M Z δ Fs H Z1 δ1 Fs1 H1) {a : Addr} (h : H1 a = none) : H a = none ∨ At M Fs a := by
  by_cases b : At M Fs a
  · exact .inr b
  · cases q : H a with
    | none => exact .inl rfl
    | some o => rw [t.k a o q b] at h; cases h
theorem Tr.backAt (t : Tr M1 Z δ Fs H Z1 δ1 Fs1 H1) {a : Addr} (h : At M2 Fs1 a) : H a = none ∨ At (M1 ++ M2) Fs a := by
  obtain ⟨i, hi, ha⟩ := h
  rcases t.ff i a ha with q | q | q
  · exact .inl q
  · exact .inr ⟨i, List.mem_append_right _ hi, q⟩
  · exact .inr q.left
theorem Tr.backO (t : Tr M1 Z δ Fs H Z1 δ1 Fs1 H1) {a : Addr} (h : H1 a = none ∨ At M2 Fs1 a) : H a = none ∨ At (M1 ++ M2) Fs a := by
  rcases h with h | h
  · exact (t.back h).imp id At.left
  · exact t.backAt h
theorem Tr.trans (t : Tr M1 Z δ Fs H Z1 δ1 Fs1 H1) (u : Tr M2 Z1 δ1 Fs1 H1 Z2 δ2 Fs2 H2) : Tr (M1 ++ M2) Z δ Fs H Z2 δ2 Fs2 H2 := by
  refine ⟨fun a h => u.z a (t.z a h), fun a h => ?_, fun a o e n => ?_, fun i a h => ?_, fun i hi => ?_, u.len.trans t.len⟩
  · rcases u.zf a h with q | q
    · exact (t.zf a q).imp id (Or.imp id At.left)
    · exact .inr (t.backO q)
  · refine u.k a o (t.k a o e fun q => n q.left) fun q => ?_
    rcases t.backAt q with z | z
    · rw [z] at e; cases e
    · exact n z
  · rcases u.ff i a h with q | q | q
    · exact (t.back q).elim .inl fun z => .inr (.inr z.left)
    · rcases t.ff i a q with z | z | z
      · exact .inl z
      · exact .inr (.inl z)
      · exact .inr (.inr z.left)
    · exact (t.backAt q).elim .inl fun z => .inr (.inr z)
  · have h1 := t.same i fun q => hi (List.mem_append_left _ q)
    have h2 := u.same i fun q => hi (List.mem_append_right _ q)
    exact ⟨h2.1.trans h1.1, h2.2.trans h1.2⟩
/-- a value that no slot holds stays -/
theorem OwnA.step {A : List Addr} (S1 : SR K Z1 δ1 Fs1 σ H1) (o : OwnA M1 Fs H Z1 Fs1 H1 A) (u : Tr M2 Z1 δ1 Fs1 H1 Z2 δ2 Fs2 H2) : OwnA (M1 ++ M2) Fs H Z2 Fs2 H2 A := by
  have nb : ∀ a, a ∈ A → ¬ At M2 Fs1 a := fun a ha ⟨i, _, q⟩ => o.ni a ha i q
  refine ⟨o.nd, fun a ha => ?_, fun a ha i q => ?_, fun a ha => (o.org a ha).imp id At.left⟩
  · obtain ⟨m, z⟩ := o.mu a ha
    obtain ⟨w, e⟩ := mut_some m
    have e2 := u.k a w e (nb a ha)
    refine ⟨by rw [e2, ← e]; exact m, fun z2 => ?_⟩
    rcases u.zf a z2 with q | q | q
    · exact z q
    · rw [q] at e; cases e
    · exact nb a ha q
  · rcases u.ff i a q with z | z | z
    · obtain ⟨w, e⟩ := mut_some (o.mu a ha).1
      rw [z] at e; cases e
    · exact o.ni a ha i z
    · exact nb a ha z
theorem Own.step {κ : Option Nat} {F : List Addr} (S1 : SR K Z1 δ1 Fs1 σ H1) (o : Own M1 Fs H Z1 Fs1 H1 κ F) (u : Tr M2 Z1 δ1 Fs1 H1 Z2 δ2 Fs2 H2) (p : okPeek κ M2 = true) : Own (M1 ++ M2) Fs H Z2 Fs2 H2 κ F := by
  cases κ with
  | none => exact OwnA.step S1 o u
  | some r =>
    have hr : r ∉ M2 := by simpa [okPeek] using p
    intro a ha
    rw [(u.same r hr).1]
    exact o a ha
theorem Own.apart {κ : Option Nat} {F : List Addr} (S1 : SR K Z1 δ1 Fs1 σ H1) (o : Own M1 Fs H Z1 Fs1 H1 κ F) (p : okPeek κ M2 = true) : ∀ a, a ∈ F → ¬ At M2 Fs1 a := by
  intro a ha ⟨i, hi, q⟩
  cases κ with
  | none => exact OwnA.ni o a ha i q
  | some r =>
    have hr : r ∉ M2 := by simpa [okPeek] using p
    have e := S1.dj i r a q (o a ha)
    subst e
    exact hr hi
/-- a value stays -/
theorem RepF.step {v : V} {d : D} {κ : Option Nat} {F : List Addr} (h : RepF K Z1 H1 v d F) (S1 : SR K Z1 δ1 Fs1 σ H1) (o : Own M1 Fs H Z1 Fs1 H1 κ F) (u : Tr M2 Z1 δ1 Fs1 H1 Z2 δ2 Fs2 H2) (p : okPeek κ M2 = true) : RepF K Z2 H2 v d F :=
  RepF.go (S1.go u) v d F h (o.apart S1 p)
theorem RepFs.step {vs : List V} {ds : List D} {A : List Addr} (h : RepFs K Z1 H1 vs ds A) (S1 : SR K Z1 δ1 Fs1 σ H1) (o : OwnA M1 Fs H Z1 Fs1 H1 A) (u : Tr M2 Z1 δ1 Fs1 H1 Z2 δ2 Fs2 H2) : RepFs K Z2 H2 vs ds A :=
  RepFs.go (S1.go u) vs ds A h fun a ha ⟨i, _, q⟩ => o.ni a ha i q
/-- two values that no slot holds, one after the other -/
theorem OwnA.join {A B : List Addr} (S1 : SR K Z1 δ1 Fs1 σ H1) (t : Tr M1 Z δ Fs H Z1 δ1 Fs1 H1) (u : Tr M2 Z1 δ1 Fs1 H1 Z2 δ2 Fs2 H2) (a : OwnA M1 Fs H Z1 Fs1 H1 A) (b : OwnA M2 Fs1 H1 Z2 Fs2 H2 B) : OwnA (M1 ++ M2) Fs H Z2 Fs2 H2 (A ++ B) := by
  have a' := OwnA.step S1 a u
  refine ⟨List.nodup_append.mpr ⟨a.nd, b.nd, fun x hx y hy e => ?_⟩, fun x hx => ?_, fun x hx => ?_, fun x hx => ?_⟩
  · subst e
    rcases b.org x hy with q | ⟨i, _, q⟩
    · obtain ⟨w, e⟩ := mut_some (a.mu x hx).1
      rw [q] at e; cases e
    · exact a.ni x hx i q
  · exact (List.mem_append.mp hx).elim (a'.mu x) (b.mu x)
  · exact (List.mem_append.mp hx).elim (a'.ni x) (b.ni x)
  · exact (List.mem_append.mp hx).elim (a'.org x) fun q => t.backO (b.org x q)
theorem OwnA.nil : OwnA M Fs H Z1 Fs1 H1 [] := ⟨List.nodup_nil, fun _ h => (List.not_mem_nil h).elim, fun _ h => (List.not_mem_nil h).elim, fun _ h => (List.not_mem_nil h).elim⟩
theorem OwnA.sub {A B : List Addr} (o : OwnA M Fs H Z1 Fs1 H1 A) (h : B.Sublist A) : OwnA M Fs H Z1 Fs1 H1 B :=
  ⟨o.nd.sublist h, fun a ha => o.mu a (h.subset ha), fun a ha => o.ni a (h.subset ha), fun a ha => o.org a (h.subset ha)⟩
theorem OwnA.mono {A : List Addr} (o : OwnA M Fs H Z1 Fs1 H1 A) (h : ∀ i, i ∈ M → i ∈ M2) : OwnA M2 Fs H Z1 Fs1 H1 A :=
  ⟨o.nd, o.mu, o.ni, fun a ha => (o.org a ha).imp id fun ⟨i, hi, q⟩ => ⟨i, h i hi, q⟩⟩
theorem Own.mono {κ : Option Nat} {A : List Addr} (o : Own M Fs H Z1 Fs1 H1 κ A) (h : ∀ i, i ∈ M → i ∈ M2) : Own M2 Fs H Z1 Fs1 H1 κ A := by
  cases κ with
  | none => exact OwnA.mono o h
  | some r => exact o
theorem Own.later {κ : Option Nat} {A : List Addr} (t : Tr M1 Z δ Fs H Z1 δ1 Fs1 H1) (o : Own M2 Fs1 H1 Z2 Fs2 H2 κ A) : Own (M1 ++ M2) Fs H Z2 Fs2 H2 κ A := by
  cases κ with
  | none => exact ⟨o.nd, o.mu, o.ni, fun a ha => t.backO (o.org a ha)⟩
  | some r => exact o
theorem Own.free {κ : Option Nat} : Own M Fs H Z1 Fs1 H1 κ [] := by
  cases κ with
  | none => exact OwnA.nil
  | some r => exact fun _ h => (List.not_mem_nil h).elim
/-- the heap grows: nothing of the slots is touched -/
theorem SR.grow (S : SR K Z δ Fs σ H) (k : ∀ a o, H a = some o → H1 a = some o) : SR K Z δ Fs σ H1 ∧ Tr [] Z δ Fs H Z δ Fs H1 := by
  have g : Go (fun _ => False) Z H Z H1 := Go.new k fun _ h => h
  refine ⟨⟨S.len, fun i d e => ?_, S.no, S.nd, S.dj, fun i a ha => ?_, fun a z n => ?_⟩, ⟨fun _ h => h, fun _ h => .inl h, fun a o e _ => k a o e, fun _ _ h => .inr (.inl h), fun _ _ => ⟨rfl, rfl⟩, rfl⟩⟩
  · obtain ⟨v, e1, r⟩ := S.rep i d e
    exact ⟨v, e1, RepF.go g v d _ r fun _ _ h => h⟩
  · obtain ⟨m, z⟩ := S.mu i a ha
    obtain ⟨u, e⟩ := mut_some m
    exact ⟨by rw [k a u e, ← e]; exact m, z⟩
  · cases q : H a with
    | none => exact S.zd a z q
    | some o => rw [k a o q] at n; cases n
/-- a new list (or the like) that holds what no slot holds -/
theorem OwnA.new {A : List Addr} {p : Addr} {o : HO} (S : SR K Z1 δ1 Fs1 σ H1) (a : OwnA M Fs H Z1 Fs1 H1 A) (t : Tr M Z δ Fs H Z1 δ1 Fs1 H1) (n : H1 p = none) (m : Mut (some o)) : OwnA M Fs H Z1 Fs1 (upd H1 p o) (p :: A) := by
  have np : ∀ x, x ∈ A → x ≠ p := fun x hx e => by
    obtain ⟨u, q⟩ := mut_some (a.mu x hx).1
    rw [e, n] at q; cases q
  refine ⟨List.nodup_cons.mpr ⟨fun hp => np p hp rfl, a.nd⟩, fun x hx => ?_, fun x hx i q => ?_, fun x hx => ?_⟩
  · rcases List.mem_cons.mp hx with e | hx
    · subst e
      exact ⟨by rw [upd_same]; exact m, fun z => S.zd x z n⟩
    · rw [upd_ne (np x hx)]
      exact a.mu x hx
  · rcases List.mem_cons.mp hx with e | hx
    · subst e
      obtain ⟨u, q⟩ := mut_some (S.mu i x q).1
      rw [n] at q; cases q
    · exact a.ni x hx i q
  · rcases List.mem_cons.mp hx with e | hx
    · subst e
      exact t.back n
    · exact a.org x hx
end
end DV


set_option Elab.async false
set_option linter.all false
set_option maxRecDepth 100000
set_option maxHeartbeats 2000000
/-! DD: operations. -/
namespace DV
open PySem L2

/-- what an operation that writes nothing owes -/
def Fin (K : PySem.W.Frag) (Z : Addr → Prop) (H : Hp) (d : D) (Q : VK) : Prop :=
  ∀ (v : V) (H' : Hp) (F : List Addr), RepF K Z H' v d F → (∀ a o, H a = some o → H' a = some o) → F.Nodup → (∀ a, a ∈ F → H a = none ∧ Mut (H' a)) → Q v H'
section
variable {K : PySem.W.Frag} {Z : Addr → Prop} {H : Hp} {Q : VK}
theorem Fin.t {x : T} {v : V} (f : Fin K Z H (.t x) Q) (r : RepT K H v x) : Q v H :=
  f v H [] (by unfold RepF; exact ⟨rfl, r⟩) (fun _ _ h => h) List.nodup_nil fun _ h => (List.not_mem_nil h).elim
theorem Fin.free {d : D} {v : V} (f : Fin K Z H d Q) (r : RepF K Z H v d []) : Q v H :=
  f v H [] r (fun _ _ h => h) List.nodup_nil fun _ h => (List.not_mem_nil h).elim
theorem Fin.int {i : Int} (f : Fin K Z H (.t (.int i)) Q) : Q (.int i) H := f.t rfl
theorem Fin.bl {i : Bool} (f : Fin K Z H (.t (.bl i)) Q) : Q (.bl i) H := f.t rfl
theorem Fin.str {i : Str} (f : Fin K Z H (.t (.str i)) Q) : Q (.str i) H := f.t rfl
/-- a new tuple -/
theorem Fin.tup {xs : List T} {vs : List V} {p : Addr} (f : Fin K Z H (.t (.tup xs)) Q) (r : RepTs K H vs xs) (n : H p = none) : Q (.ref p) (upd H p (.tup vs)) := by
  have g : Go (fun _ => False) Z H Z (upd H p (.tup vs)) := Go.upd n
  refine f _ _ [] ?_ (fun a u h => by rw [upd_ne (ne_of_none h n)]; exact h) List.nodup_nil fun _ h => (List.not_mem_nil h).elim
  unfold RepF RepT
  exact ⟨rfl, p, vs, rfl, SqT.of upd_same, RepTs.go g vs xs r⟩
/-- a new list of what is shared -/
theorem Fin.lst {ds : List D} {vs : List V} {p : Addr} (f : Fin K Z H (.lst ds) Q) (r : RepFs K Z H vs ds []) (n : H p = none) : Q (.ref p) (upd H p (.lst vs)) := by
  have g : Go (fun _ => False) Z H Z (upd H p (.lst vs)) := Go.upd n
  refine f _ _ [p] ?_ (fun a u h => by rw [upd_ne (ne_of_none h n)]; exact h) (List.nodup_cons.mpr ⟨List.not_mem_nil, List.nodup_nil⟩) fun a h => ?_
  · unfold RepF
    exact ⟨p, vs, [], rfl, upd_same, rfl, RepFs.go g vs ds [] r fun _ h => (List.not_mem_nil h).elim⟩
  · have e : a = p := by simpa using h
    subst e
    exact ⟨n, by rw [upd_same]; trivial⟩

/-! ### as data -/
theorem Go.refl : Go (fun _ => False) Z H Z H := Go.new (fun _ _ h => h) fun _ h => h
mutual
theorem RepT.dp : ∀ (v : V) (x : T), RepT K H v x → Dp K H v x.py
  | v, .non, h => by unfold RepT at h; subst h; exact .non
  | v, .bl b, h => by unfold RepT at h; subst h; exact .bl b
  | v, .int i, h => by unfold RepT at h; subst h; exact .int i
  | v, .str s, h => by unfold RepT at h; subst h; exact .str s
  | v, .tup xs, h => by
    unfold RepT at h
    obtain ⟨a, vs, e, h1, h2⟩ := h
    subst e
    exact .tup h1 (RepTs.dp vs xs h2)
theorem RepTs.dp : ∀ (vs : List V) (xs : List T), RepTs K H vs xs → DpAll K H vs (T.pys xs)
  | vs, [], h => by unfold RepTs at h; subst h; exact .nil
  | vs, x :: xs, h => by
    unfold RepTs at h
    obtain ⟨v, r, e, h1, h2⟩ := h
    subst e
    exact .cons (RepT.dp v x h1) (RepTs.dp r xs h2)
end
mutual
theorem RepF.dp : ∀ (v : V) (x : D) (F : List Addr), RepF K Z H v x F → x.noScr = true → Dp K H v x.py
  | v, .t x, F, h, n => by unfold RepF at h; exact RepT.dp v x h.2
  | v, .scr x, F, h, n => by simp [D.noScr] at n
  | v, .sh x, F, h, n => by
    unfold RepF at h
    obtain ⟨_, F0, _, h⟩ := h
    exact RepF.dp v x F0 h n
  | v, .lst xs, F, h, n => by
    unfold RepF at h
    obtain ⟨a, vs, Fs, e, h1, _, h2⟩ := h
    subst e
    exact .lst (SqL.of h1) (RepFs.dp vs xs Fs h2 n)
theorem RepFs.dp : ∀ (vs : List V) (xs : List D) (F : List Addr), RepFs K Z H vs xs F → D.noScrs xs = true → DpAll K H vs (D.pys xs)
  | vs, [], F, h, n => by unfold RepFs at h; rw [h.1]; exact .nil
  | vs, x :: xs, F, h, n => by
    unfold RepFs at h
    obtain ⟨v, r, F1, F2, e, _, h1, h2⟩ := h
    subst e
    simp only [D.noScrs, Bool.and_eq_true] at n
    exact .cons (RepF.dp v x F1 h1 n.1) (RepFs.dp r xs F2 h2 n.2)
end

theorem T.int_of {v : V} {x : T} {F : List Addr} (h : RepF K Z H v (.t x) F) : RepT K H v x := by unfold RepF at h; exact h.2
theorem dint {v : V} {i : Int} {F : List Addr} (h : RepF K Z H v (.t (.int i)) F) : v = .int i := by unfold RepF RepT at h; exact h.2
theorem dstr {v : V} {i : Str} {F : List Addr} (h : RepF K Z H v (.t (.str i)) F) : v = .str i := by unfold RepF RepT at h; exact h.2
theorem dbl {v : V} {i : Bool} {F : List Addr} (h : RepF K Z H v (.t (.bl i)) F) : v = .bl i := by unfold RepF RepT at h; exact h.2
theorem dtup {v : V} {xs : List T} {F : List Addr} (h : RepF K Z H v (.t (.tup xs)) F) : ∃ a vs, v = .ref a ∧ SqT K H a vs ∧ RepTs K H vs xs := by unfold RepF RepT at h; exact h.2

/-! ### two operands -/
def binR (K : PySem.W.Frag) (op : Operator) : R2 :=
  match op with
  | .Add => fun x y H Q => rI0 (fun i j => .int (i + j)) x y H Q ∨ (∃ i j, x = .str i ∧ y = .str j ∧ i.length + j.length ≤ sizeLine ∧ Q (.str (i ++ j)) H) ∨ rCatA K x y H Q ∨ rCat x y H Q
  | .Sub => rI0 fun i j => .int (i - j)
  | .Mult => fun x y H Q => rI CMulW (fun i j => .int (i * j)) x y H Q ∨ rRepT K x y H Q ∨ rRep x y H Q
  | .FloorDiv => rI (fun _ j => j ≠ 0 ∧ j.natAbs.log2 < 9000) fun i j => .int (i.fdiv j)
  | .Mod => rI (fun _ j => j ≠ 0) fun i j => .int (i.fmod j)
  | .Pow => rI CPow fun i j => .int (i ^ j.toNat)
  | _ => fun _ _ _ _ => False
theorem op_fdivL {X : Cx} : OpR X (binaryOp .FloorDiv) (rI (fun _ j => j ≠ 0 ∧ j.natAbs.log2 < 9000) fun i j => .int (i.fdiv j)) := opI fun _ _ _ _ _ _ _ hc q => PyProof.Rows.floordiv_int hc.1 q (.inl (PyProof.noPylong_of_log2 hc.2))
theorem binR_ok {X : Cx} : ∀ op : Operator, OpR X (binaryOp op) (binR X.K op)
  | .Add => op_add.or (op_add_str.or (op_catA.or op_cat))
  | .Sub => op_sub
  | .Mult => op_mulW.or (op_repT.or op_rep)
  | .FloorDiv => op_fdivL
  | .Mod => op_modN
  | .Pow => op_pow
  | .MatMult => fun _ _ _ _ _ _ _ _ _ _ _ _ h => h.elim
  | .Div => fun _ _ _ _ _ _ _ _ _ _ _ _ h => h.elim
  | .LShift => fun _ _ _ _ _ _ _ _ _ _ _ _ h => h.elim
  | .RShift => fun _ _ _ _ _ _ _ _ _ _ _ _ h => h.elim
  | .BitOr => fun _ _ _ _ _ _ _ _ _ _ _ _ h => h.elim
  | .BitXor => fun _ _ _ _ _ _ _ _ _ _ _ _ h => h.elim
  | .BitAnd => fun _ _ _ _ _ _ _ _ _ _ _ _ h => h.elim
theorem binI_ok {op : Operator} {i j k : Int} (h : binI op i j = some k) (q : Q (.int k) H) : binR K op (.int i) (.int j) H Q := by
  cases op <;> simp only [binI] at h
  case Add => injection h with h; subst h; exact .inl ⟨i, j, rfl, rfl, q⟩
  case Sub => injection h with h; subst h; exact ⟨i, j, rfl, rfl, q⟩
  case Mult =>
    split at h
    · rename_i c; injection h with h; subst h; exact .inl ⟨i, j, rfl, rfl, c, q⟩
    · cases h
  case FloorDiv =>
    split at h
    · rename_i c; injection h with h; subst h; exact ⟨i, j, rfl, rfl, c, q⟩
    · cases h
  case Mod =>
    split at h
    · rename_i c; injection h with h; subst h; exact ⟨i, j, rfl, rfl, c, q⟩
    · cases h
  case Pow =>
    split at h
    · rename_i c; injection h with h; subst h; exact ⟨i, j, rfl, rfl, c, q⟩
    · cases h
  all_goals cases h
theorem RepFs.rep {vs : List V} {ds : List D} (h : RepFs K Z H vs ds []) : ∀ n : Nat, RepFs K Z H (List.replicate n vs).flatten (List.replicate n ds).flatten []
  | 0 => ⟨rfl, rfl⟩
  | n + 1 => by
    rw [List.replicate_succ, List.replicate_succ, List.flatten_cons, List.flatten_cons]
    exact RepFs.append (F := []) h (RepFs.rep h n)
theorem RepTs.rep {vs : List V} {ds : List T} (h : RepTs K H vs ds) : ∀ n : Nat, RepTs K H (List.replicate n vs).flatten (List.replicate n ds).flatten
  | 0 => rfl
  | n + 1 => by
    rw [List.replicate_succ, List.replicate_succ, List.flatten_cons, List.flatten_cons]
    exact RepTs.append h (RepTs.rep h n)
theorem binL_ok {op : Operator} {a b d : D} {x y : V} {Fa Fb : List Addr} (h : (match a.items, op, b.items, b with
    | some xs, .Add, some ys, _ => if D.allFree xs && D.allFree ys && decide (xs.length + ys.length ≤ sizeLine) then some (D.lst (xs ++ ys)) else none
    | some xs, .Mult, _, .t (.int k) => if D.allFree xs && decide (-(2 ^ 63) ≤ k ∧ k < 2 ^ 63 ∧ xs.length * k.toNat ≤ sizeLine) then some (.lst (List.replicate k.toNat xs).flatten) else none
    | _, _, _, _ => none) = some d) (ra : RepF K Z H x a Fa) (rb : RepF K Z H y b Fb) (f : Fin K Z H d Q) : binR K op x y H Q := by
  split at h
  · rename_i xs ys e1 e2
    split at h
    · rename_i c
      simp only [Bool.and_eq_true, decide_eq_true_eq] at c
      injection h with h; subst h
      obtain ⟨p, us, Fs, rfl, h1, h2, _, h3⟩ := ra.items e1
      obtain ⟨q, ws, Gs, rfl, g1, g2, _, g3⟩ := rb.items e2
      have z1 := h3 c.1.1
      have z2 := g3 c.1.2
      subst z1 z2
      have hl := h2.length
      have gl := g2.length
      exact .inr (.inr (.inr ⟨p, q, us, ws, rfl, rfl, h1, g1, by omega, fun r n => f.lst (RepFs.append h2 g2) n⟩))
    · cases h
  · rename_i xs k e1
    split at h
    · rename_i c
      simp only [Bool.and_eq_true, decide_eq_true_eq] at c
      injection h with h; subst h
      obtain ⟨p, us, Fs, rfl, h1, h2, _, h3⟩ := ra.items e1
      have z1 := h3 c.1
      subst z1
      have hl := h2.length
      have e := dint rb
      subst e
      exact .inr (.inr ⟨p, k, us, rfl, rfl, h1, c.2.1, c.2.2.1, by rw [hl]; exact c.2.2.2, fun r n => f.lst (RepFs.rep h2 _) n⟩)
    · cases h
  · cases h
theorem binD_ok {op : Operator} {a b d : D} {x y : V} {Fa Fb : List Addr} (h : binD op a b = some d) (ra : RepF K Z H x a Fa) (rb : RepF K Z H y b Fb) (f : Fin K Z H d Q) : binR K op x y H Q := by
  unfold binD at h
  split at h
  · rename_i i j
    have e1 := dint ra
    have e2 := dint rb
    subst e1 e2
    simp only [Option.map_eq_some_iff] at h
    obtain ⟨k, h1, h2⟩ := h
    subst h2
    exact binI_ok h1 f.int
  · rename_i i j
    have e1 := dstr ra
    have e2 := dstr rb
    subst e1 e2
    split at h
    · split at h
      · rename_i c; injection h with h; subst h; exact .inr (.inl ⟨_, _, rfl, rfl, c, f.str⟩)
      · cases h
    · cases h
  · rename_i xs ys
    obtain ⟨p, us, rfl, h1, h2⟩ := dtup ra
    obtain ⟨q, ws, rfl, g1, g2⟩ := dtup rb
    split at h
    · split at h
      · rename_i c; injection h with h; subst h
        have hl := h2.length
        have gl := g2.length
        refine .inr (.inr (.inl ⟨p, q, us, ws, rfl, rfl, h1, g1, by omega, fun e => ?_, fun _ e => ?_, fun _ _ r n => f.tup (RepTs.append h2 g2) n⟩))
        · subst e
          have : xs = [] := List.eq_nil_of_length_eq_zero (by simpa using hl.symm)
          subst this
          exact f.t (by unfold RepT; exact ⟨q, ws, rfl, g1, g2⟩)
        · subst e
          have : ys = [] := List.eq_nil_of_length_eq_zero (by simpa using gl.symm)
          subst this
          rw [List.append_nil] at f
          exact f.t (by unfold RepT; exact ⟨p, us, rfl, h1, h2⟩)
      · cases h
    · cases h
  · rename_i xs k
    obtain ⟨p, us, rfl, h1, h2⟩ := dtup ra
    have e := dint rb
    subst e
    split at h
    · split at h
      · rename_i c; injection h with h; subst h
        have hl := h2.length
        refine .inr (.inl ⟨p, k, us, rfl, rfl, h1, fun e => ?_, c.2.1, c.2.2.1, by omega, fun r n => f.tup (RepTs.rep h2 _) n⟩)
        subst e
        exact c.1 (List.eq_nil_of_length_eq_zero (by simpa using hl.symm))
      · cases h
    · cases h
  · exact binL_ok h ra rb f
end
end DV


set_option Elab.async false
set_option linter.all false
set_option maxRecDepth 100000
set_option maxHeartbeats 2000000
/-! DE: more operations. -/
namespace DV
open PySem L2
section
variable {K : PySem.W.Frag} {Z : Addr → Prop} {H : Hp} {Q : VK}

/-! ### comparisons -/
def cmpR (K : PySem.W.Frag) (op : CmpOp) : R2 :=
  match op with
  | .Eq => fun x y H Q => rEq x y H Q ∨ rEqD K x y H Q
  | .NotEq => fun x y H Q => rNe x y H Q ∨ rNeD K x y H Q
  | .Lt => rI0 fun i j => .bl (decide (i < j))
  | .LtE => rI0 fun i j => .bl (decide (i ≤ j))
  | .Gt => rI0 fun i j => .bl (decide (j < i))
  | .GtE => rI0 fun i j => .bl (decide (j ≤ i))
  | .Is => fun x y H Q => y = .non ∧ Q (.bl (decide (x = .non))) H
  | .IsNot => fun x y H Q => y = .non ∧ Q (.bl (!decide (x = .non))) H
  | .In => fun x y H Q => (∃ i j, x = .str i ∧ y = .str j ∧ Q (.bl (!(Builtin.Str.occurrences j i 0 j.length 1).isEmpty)) H) ∨ rInD K x y H Q ∨ rIn K false x y H Q
  | .NotIn => fun x y H Q => (∃ i j, x = .str i ∧ y = .str j ∧ Q (.bl (!(!(Builtin.Str.occurrences j i 0 j.length 1).isEmpty))) H) ∨ rNotInD K x y H Q ∨ rIn K true x y H Q
theorem cmpR_ok {X : Cx} (hu : X.A.units + 65 < cLine) : ∀ op : CmpOp, OpR X (compareOp op) (cmpR X.K op)
  | .Eq => op_eq.or (op_eqD (by omega))
  | .NotEq => op_ne.or (op_neD (by omega))
  | .Lt => op_lt
  | .LtE => op_le
  | .Gt => op_gt
  | .GtE => op_ge
  | .Is => op_isN
  | .IsNot => op_notN
  | .In => op_in_str.or ((op_inD hu).or op_in_seq)
  | .NotIn => op_notIn_str.or ((op_notInD hu).or op_notIn_seq)
theorem scal_ok {x y : V} {a b : T} (ra : RepT K H x a) (rb : RepT K H y b) (s : T.scal a b = true) : scal x y = true ∧ decide (x = y) = T.seq a b := by
  cases a <;> cases b <;> first
    | (simp only [T.scal] at s; done)
    | (simp only [T.scal, Bool.false_eq_true] at s; done)
    | (unfold RepT at ra rb; subst ra rb; constructor <;> first | rfl | (simp [T.seq]; done))
theorem eqD_ok {a b : D} {k : Bool} {x y : V} {Fa Fb : List Addr} (h : eqD a b = some k) (ra : RepF K Z H x a Fa) (rb : RepF K Z H y b Fb) : (scal x y = true ∧ decide (x = y) = k) ∨ ∃ d e, Dp K H x d ∧ Dp K H y e ∧ SeqAt.shaped d = true ∧ SeqAt.shaped e = true ∧ PyData.eqv d e = k := by
  unfold eqD at h
  split at h
  · rename_i a b
    split at h
    · rename_i c
      injection h with h; subst h
      exact .inl (scal_ok (T.int_of ra) (T.int_of rb) c)
    · split at h
      · rename_i c
        injection h with h; subst h
        simp only [Bool.and_eq_true] at c
        exact .inr ⟨_, _, RepT.dp _ _ (T.int_of ra), RepT.dp _ _ (T.int_of rb), c.1, c.2, rfl⟩
      · cases h
  · split at h
    · rename_i c
      injection h with h; subst h
      simp only [Bool.and_eq_true] at c
      exact .inr ⟨_, _, RepF.dp _ _ _ ra c.1.1.1, RepF.dp _ _ _ rb c.1.1.2, c.1.2, c.2, rfl⟩
    · cases h
theorem flat_ok {x : V} {a : T} (r : RepT K H x a) (f : a.flat = true) : flatV x = true := by
  cases a <;> first | (unfold RepT at r; subst r; rfl) | (simp only [T.flat, Bool.false_eq_true] at f; done)
theorem eqV_ok {x y : V} {a b : T} (ra : RepT K H x a) (rb : RepT K H y b) (fa : a.flat = true) (fb : b.flat = true) : eqV x y = PyData.eqv a.py b.py := by
  cases a <;> first
    | (simp only [T.flat, Bool.false_eq_true] at fa; done)
    | (cases b <;> first | (simp only [T.flat, Bool.false_eq_true] at fb; done) | (unfold RepT at ra rb; subst ra rb; simp only [T.py, eqV, PyData.eqv]))
theorem flats_ok : ∀ {vs : List V} {xs : List T}, RepTs K H vs xs → T.allFlat xs = true → vs.all flatV = true
  | vs, [], r, f => by unfold RepTs at r; subst r; rfl
  | vs, x :: xs, r, f => by
    unfold RepTs at r
    obtain ⟨v, r', e, h1, h2⟩ := r
    subst e
    simp only [T.allFlat, Bool.and_eq_true] at f
    rw [List.all_cons, flat_ok h1 f.1, flats_ok h2 f.2]; rfl
theorem any_ok {x : V} {a : T} (ra : RepT K H x a) (fa : a.flat = true) : ∀ {vs : List V} {xs : List T}, RepTs K H vs xs → T.allFlat xs = true → (vs.any fun y => eqV y x) = xs.any fun y => PyData.eqv y.py a.py
  | vs, [], r, f => by unfold RepTs at r; subst r; rfl
  | vs, y :: xs, r, f => by
    unfold RepTs at r
    obtain ⟨v, r', e, h1, h2⟩ := r
    subst e
    simp only [T.allFlat, Bool.and_eq_true] at f
    rw [List.any_cons, List.any_cons, eqV_ok h1 ra f.1 fa, any_ok ra fa h2 f.2]
theorem parts_ok {b : D} {ds : List PyData} {y : V} {F : List Addr} (h : b.parts = some ds) (r : RepF K Z H y b F) (n : b.noScr = true) : Dp K H y (.list ds) := by
  cases b with
  | lst xs =>
    simp only [D.parts, Option.some.injEq] at h
    subst h
    exact RepF.dp _ _ _ r n
  | sh d =>
    cases d with
    | lst xs =>
      simp only [D.parts, Option.some.injEq] at h
      subst h
      exact RepF.dp _ _ _ r n
    | _ => simp [D.parts] at h
  | t x => simp [D.parts] at h
  | scr x => simp [D.parts] at h
theorem inD_ok {a b : D} {k : Bool} {x y : V} {Fa Fb : List Addr} (h : inD a b = some k) (ra : RepF K Z H x a Fa) (rb : RepF K Z H y b Fb) :
    (∃ i j, x = .str i ∧ y = .str j ∧ (!(Builtin.Str.occurrences j i 0 j.length 1).isEmpty) = k) ∨ (∃ d ds, Dp K H x d ∧ Dp K H y (.list ds) ∧ SeqAt.shaped d = true ∧ SeqAt.shaped (.list ds) = true ∧ (ds.any fun z => PyData.eqv z d) = k) ∨
      ∃ p xs, y = .ref p ∧ (SqL K H p xs ∨ SqT K H p xs) ∧ flatV x = true ∧ xs.all flatV = true ∧ inV x xs = k := by
  unfold inD at h
  split at h
  · injection h with h; subst h
    exact .inl ⟨_, _, dstr ra, dstr rb, rfl⟩
  · rename_i x ys
    split at h
    · rename_i c
      injection h with h; subst h
      simp only [Bool.and_eq_true] at c
      obtain ⟨p, us, rfl, h1, h2⟩ := dtup rb
      exact .inr (.inr ⟨p, us, rfl, .inr h1, flat_ok (T.int_of ra) c.1, flats_ok h2 c.2, any_ok (T.int_of ra) c.1 h2 c.2⟩)
    · cases h
  · split at h
    · rename_i ds e
      split at h
      · rename_i c
        injection h with h; subst h
        simp only [Bool.and_eq_true] at c
        exact .inr (.inl ⟨_, _, RepF.dp _ _ _ ra c.1.1.1, parts_ok e rb c.1.1.2, c.1.2, c.2, rfl⟩)
      · cases h
    · cases h
theorem isN_ok {a b : D} {k : Bool} {x y : V} {Fa Fb : List Addr} (h : cmpD .Is a b = some k) (ra : RepF K Z H x a Fa) (rb : RepF K Z H y b Fb) : y = .non ∧ decide (x = .non) = k := by
  simp only [cmpD] at h
  split at h
  · rename_i a
    injection h with h
    subst h
    refine ⟨by unfold RepF RepT at rb; exact rb.2, ?_⟩
    have r := T.int_of ra
    cases a <;> (unfold RepT at r) <;> first
      | (subst r; rfl)
      | (obtain ⟨p, _, e, _⟩ := r; subst e; rfl)
  · injection h with h
    subst h
    refine ⟨by unfold RepF RepT at rb; exact rb.2, ?_⟩
    unfold RepF at ra
    obtain ⟨_, F0, _, h⟩ := ra
    unfold RepF at h
    obtain ⟨p, _, _, e, _⟩ := h
    subst e; rfl
  · injection h with h
    subst h
    refine ⟨by unfold RepF RepT at rb; exact rb.2, ?_⟩
    unfold RepF at ra
    obtain ⟨p, _, _, e, _⟩ := ra
    subst e; rfl
  · cases h
theorem isNot_is {a b : D} {k : Bool} (h : cmpD .IsNot a b = some k) : cmpD .Is a b = some (!k) := by
  simp only [cmpD] at h ⊢
  split at h
  · injection h with h
    subst h
    rename_i x
    cases x <;> rfl
  · injection h with h; subst h; rfl
  · injection h with h; subst h; rfl
  · cases h
theorem cmpD_ok {op : CmpOp} {a b : D} {k : Bool} {x y : V} {Fa Fb : List Addr} (h : cmpD op a b = some k) (ra : RepF K Z H x a Fa) (rb : RepF K Z H y b Fb) (q : Q (.bl k) H) : cmpR K op x y H Q := by
  have num : ∀ {op : CmpOp} {a b : D} {k : Bool}, (match a, b with | .t (.int i), .t (.int j) => cmpI op i j | _, _ => none) = some k → RepF K Z H x a Fa → RepF K Z H y b Fb → ∃ i j, x = .int i ∧ y = .int j ∧ cmpI op i j = some k := by
    intro op a b k h ra rb
    split at h
    · exact ⟨_, _, dint ra, dint rb, h⟩
    · cases h
  cases op
  case Eq =>
    rcases eqD_ok h ra rb with ⟨h1, h2⟩ | ⟨d, e, h1, h2, h3, h4, h5⟩
    · exact .inl ⟨h1, by rw [h2]; exact q⟩
    · exact .inr ⟨d, e, h1, h2, h3, h4, by rw [h5]; exact q⟩
  case NotEq =>
    simp only [cmpD, Option.map_eq_some_iff] at h
    obtain ⟨j, h, e⟩ := h
    subst e
    rcases eqD_ok h ra rb with ⟨h1, h2⟩ | ⟨d, e, h1, h2, h3, h4, h5⟩
    · exact .inl ⟨h1, by rw [h2]; exact q⟩
    · exact .inr ⟨d, e, h1, h2, h3, h4, by rw [h5]; exact q⟩
  case In =>
    rcases inD_ok h ra rb with ⟨i, j, h1, h2, h3⟩ | ⟨d, ds, h1, h2, h3, h4, h5⟩ | ⟨p, xs, h1, h2, h3, h4, h5⟩
    · exact .inl ⟨i, j, h1, h2, by rw [h3]; exact q⟩
    · exact .inr (.inl ⟨d, ds, h1, h2, h3, h4, by rw [h5]; exact q⟩)
    · exact .inr (.inr ⟨p, xs, h1, h2, h3, h4, by rw [h5]; exact q⟩)
  case NotIn =>
    simp only [cmpD, Option.map_eq_some_iff] at h
    obtain ⟨j, h, e⟩ := h
    subst e
    rcases inD_ok h ra rb with ⟨i, j, h1, h2, h3⟩ | ⟨d, ds, h1, h2, h3, h4, h5⟩ | ⟨p, xs, h1, h2, h3, h4, h5⟩
    · exact .inl ⟨i, j, h1, h2, by rw [h3]; exact q⟩
    · exact .inr (.inl ⟨d, ds, h1, h2, h3, h4, by rw [h5]; exact q⟩)
    · exact .inr (.inr ⟨p, xs, h1, h2, h3, h4, by rw [h5]; exact q⟩)
  case Is =>
    obtain ⟨h1, h2⟩ := isN_ok h ra rb
    exact ⟨h1, by rw [h2]; exact q⟩
  case IsNot =>
    obtain ⟨h1, h2⟩ := isN_ok (isNot_is h) ra rb
    exact ⟨h1, by rw [h2, Bool.not_not]; exact q⟩
  all_goals
    obtain ⟨i, j, e1, e2, h⟩ := num h ra rb
    injection h with h
    subst h e1 e2
    exact ⟨i, j, rfl, rfl, q⟩

/-! ### truth -/
theorem empty_len {α β : Type} {us : List α} {xs : List β} (h : us.length = xs.length) : (!xs.isEmpty) = !us.isEmpty := by
  cases us <;> cases xs <;> simp_all
theorem map_empty {α β : Type} {f : α → β} {xs : List α} : (!(xs.map f).isEmpty) = !xs.isEmpty := by
  cases xs <;> rfl
theorem truth_ok {d : D} {k : Bool} {v : V} {F : List Addr} (h : truth d = some k) (r : RepF K Z H v d F) : TruV K v H k := by
  unfold truth at h
  split at h
  · injection h with h; subst h; have e := T.int_of r; unfold RepT at e; subst e; rfl
  · injection h with h; subst h; have e := dbl r; subst e; rfl
  · injection h with h; subst h; have e := dint r; subst e; rfl
  · split at h
    · rename_i c
      injection h with h; subst h; have e := dstr r; subst e; exact ⟨c, rfl⟩
    · cases h
  · injection h with h; subst h
    obtain ⟨p, us, rfl, h1, h2⟩ := dtup r
    exact .inr (.inl ⟨us, h1, empty_len h2.length⟩)
  · injection h with h; subst h
    obtain ⟨p, us, Fs, rfl, h1, h2, _⟩ := r.items rfl
    exact .inl ⟨us, SqL.of h1, empty_len h2.length⟩
  · injection h with h; subst h
    obtain ⟨p, us, Fs, rfl, h1, h2, _⟩ := r.items rfl
    exact .inl ⟨us, SqL.of h1, map_empty.symm.trans (empty_len h2.length)⟩
  · cases h

/-! ### a[i], a[lo:hi] -/
theorem atI_get {α : Type} {xs : List α} {k : Int} {x : α} (h : atI xs k = some x) : ∃ j, ixN xs.length k = some j ∧ xs[j]? = some x := by
  unfold atI at h
  cases e : ixN xs.length k with
  | none => rw [e] at h; cases h
  | some j => rw [e] at h; exact ⟨j, rfl, h⟩
theorem get_atI {α : Type} {xs : List α} {k : Int} {x : α} {j : Nat} (h : ixN xs.length k = some j) (e : xs[j]? = some x) : atI xs k = some x := by
  unfold atI
  rw [h]; exact e
theorem ixD_ok {a b d : D} {x y : V} {Fa Fb : List Addr} (h : ixD a b = some d) (ra : RepF K Z H x a Fa) (rb : RepF K Z H y b Fb) (q : ∀ v F, RepF K Z H v d F → F.Sublist Fa → Q v H) : rIx K x y H Q := by
  unfold ixD at h
  split at h
  · rename_i xs k
    simp only [Option.map_eq_some_iff] at h
    obtain ⟨z, h1, h2⟩ := h
    subst h2
    obtain ⟨p, us, rfl, g1, g2⟩ := dtup ra
    have e := dint rb
    subst e
    obtain ⟨j, e1, e2⟩ := atI_get h1
    obtain ⟨v, e3, r⟩ := g2.get e2
    refine .inr (.inl ⟨p, us, k, v, rfl, rfl, g1, get_atI (by rw [g2.length]; exact e1) e3, q v [] ?_ (List.nil_sublist _)⟩)
    unfold RepF
    exact ⟨rfl, r⟩
  · rename_i s k
    split at h
    · rename_i c
      simp only [Option.map_eq_some_iff] at h
      obtain ⟨z, h1, h2⟩ := h
      subst h2
      have e := dstr ra
      subst e
      have e := dint rb
      subst e
      refine .inr (.inr ⟨s, k, z, rfl, rfl, c, h1, q _ [] ?_ (List.nil_sublist _)⟩)
      unfold RepF RepT
      exact ⟨rfl, rfl⟩
    · cases h
  · rename_i xs k
    have e := dint rb
    subst e
    unfold RepF at ra
    obtain ⟨p, us, Fs, rfl, h1, h2, h3⟩ := ra
    subst h2
    obtain ⟨j, e1, e2⟩ := atI_get h
    obtain ⟨v, F1, e3, r, sb⟩ := h3.get e2
    exact .inl ⟨p, us, k, v, rfl, rfl, SqL.of h1, get_atI (by rw [h3.length]; exact e1) e3, q v F1 r (sb.cons _)⟩
  · rename_i xs k
    simp only [Option.map_eq_some_iff] at h
    obtain ⟨z, h1, h2⟩ := h
    subst h2
    have e := dint rb
    subst e
    unfold RepF at ra
    obtain ⟨_, F0, hz, ra⟩ := ra
    unfold RepF at ra
    obtain ⟨p, us, Fs, rfl, g1, g2, g3⟩ := ra
    subst g2
    obtain ⟨j, e1, e2⟩ := atI_get h1
    obtain ⟨v, F1, e3, r, sb⟩ := g3.get e2
    exact .inl ⟨p, us, k, v, rfl, rfl, SqL.of g1, get_atI (by rw [g3.length]; exact e1) e3, q v [] (r.frz fun b hb => hz b (List.mem_cons_of_mem _ (sb.subset hb))) (List.nil_sublist _)⟩
  · cases h
theorem RepFs.dropT : ∀ {vs : List V} {ds : List D} (n : Nat), RepFs K Z H vs ds [] → RepFs K Z H (vs.drop n) (ds.drop n) []
  | vs, ds, 0, h => h
  | vs, [], n + 1, h => by unfold RepFs at h; rw [h.1]; exact ⟨rfl, rfl⟩
  | vs, x :: ds, n + 1, h => by
    unfold RepFs at h
    obtain ⟨v, r, F1, F2, e, e2, h1, h2⟩ := h
    subst e
    obtain ⟨e3, e4⟩ := List.append_eq_nil_iff.mp e2.symm
    subst e4
    exact RepFs.dropT n h2
theorem RepFs.takeT : ∀ {vs : List V} {ds : List D} (n : Nat), RepFs K Z H vs ds [] → RepFs K Z H (vs.take n) (ds.take n) []
  | vs, ds, 0, h => ⟨rfl, rfl⟩
  | vs, [], n + 1, h => by unfold RepFs at h; rw [h.1]; exact ⟨rfl, rfl⟩
  | vs, x :: ds, n + 1, h => by
    unfold RepFs at h
    obtain ⟨v, r, F1, F2, e, e2, h1, h2⟩ := h
    subst e
    obtain ⟨e3, e4⟩ := List.append_eq_nil_iff.mp e2.symm
    subst e3 e4
    show RepFs K Z H (v :: r.take n) (x :: ds.take n) []
    unfold RepFs
    exact ⟨v, r.take n, [], [], rfl, rfl, h1, RepFs.takeT n h2⟩
theorem RepTs.drop : ∀ {vs : List V} {ds : List T} (n : Nat), RepTs K H vs ds → RepTs K H (vs.drop n) (ds.drop n)
  | vs, ds, 0, h => h
  | vs, [], n + 1, h => by unfold RepTs at h; rw [h]; exact rfl
  | vs, x :: ds, n + 1, h => by
    unfold RepTs at h
    obtain ⟨v, r, e, h1, h2⟩ := h
    subst e
    exact RepTs.drop n h2
theorem RepTs.take : ∀ {vs : List V} {ds : List T} (n : Nat), RepTs K H vs ds → RepTs K H (vs.take n) (ds.take n)
  | vs, ds, 0, h => rfl
  | vs, [], n + 1, h => by unfold RepTs at h; rw [h]; exact rfl
  | vs, x :: ds, n + 1, h => by
    unfold RepTs at h
    obtain ⟨v, r, e, h1, h2⟩ := h
    subst e
    show RepTs K H (v :: r.take n) (x :: ds.take n)
    unfold RepTs
    exact ⟨v, r.take n, rfl, h1, RepTs.take n h2⟩
def slR (K : PySem.W.Frag) : V → Option Int → Option Int → Hp → VK → Prop := fun x lo hi H Q => rSlA K x lo hi H Q ∨ rSlL K x lo hi H Q
theorem slR_ok {X : Cx} : SlR X (slR X.K) := sl_tupA.or sl_list
theorem slD_ok {a d : D} {x : V} {lo hi : Option Int} {Fa : List Addr} (h : slD a lo hi = some d) (ra : RepF K Z H x a Fa) (f : Fin K Z H d Q) : slR K x lo hi H Q := by
  unfold slD at h
  split at h
  · rename_i xs
    injection h with h; subst h
    obtain ⟨p, us, rfl, g1, g2⟩ := dtup ra
    have gl := g2.length
    refine .inl ⟨p, us, rfl, g1, fun c => ?_, fun _ r n => ?_⟩
    · unfold cutL at f
      rw [← gl, c.1, c.2, List.drop_zero, Nat.sub_zero, gl, List.take_length] at f
      exact f.t (by unfold RepT; exact ⟨p, us, rfl, g1, g2⟩)
    · refine f.tup (vs := cutV us lo hi) ?_ n
      unfold cutV cutL
      rw [gl]
      exact RepTs.take _ (RepTs.drop _ g2)
  · rename_i xs
    split at h
    · rename_i c
      injection h with h; subst h
      obtain ⟨p, us, Fs, rfl, h1, h2, _, h3⟩ := ra.items rfl
      have z := h3 c
      subst z
      refine .inr ⟨p, us, rfl, SqL.of h1, fun r n => f.lst (vs := cutV us lo hi) ?_ n⟩
      unfold cutV cutL
      rw [h2.length]
      exact RepFs.takeT _ (RepFs.dropT _ h2)
    · cases h
  · rename_i xs
    injection h with h; subst h
    obtain ⟨p, us, Fs, rfl, h1, h2, _, h3⟩ := ra.items rfl
    have z : Fs = [] := h3 (by
      clear h1 h2 h3 ra f
      induction xs with
      | nil => rfl
      | cons x xs ih => 
        rw [List.map_cons]
        show (x.frz.free && D.allFree (xs.map D.frz)) = true
        rw [ih]
        cases x <;> rfl)
    subst z
    refine .inr ⟨p, us, rfl, SqL.of h1, fun r n => f.lst (vs := cutV us lo hi) ?_ n⟩
    unfold cutV cutL
    rw [h2.length]
    exact RepFs.takeT _ (RepFs.dropT _ h2)
  · cases h
/-! ### isinstance -/
def tyName : Ty → String
  | .int => "int" | .bool => "bool" | .str => "str" | .tup => "tuple" | .lst => "list"
theorem isiD_ok {d : D} {ty : Ty} {k : Bool} {v : V} {F : List Addr} (h : isiD d ty = some k) (r : RepF K Z H v d F) : ∃ t, TyX K H v (.type t) ∧ PySem.W.kitOne K (.type t) (.type (tyName ty)) = some k := by
  unfold isiD at h
  split at h
  · rename_i x
    injection h with h; subst h
    have q := T.int_of r
    cases x with
    | non => unfold RepT at q; subst q; exact ⟨_, .base .non, by cases ty <;> exact kit_ty (by first | (show _ = some true; decide +kernel) | (show _ = some false; decide +kernel))⟩
    | bl b => unfold RepT at q; subst q; exact ⟨_, .base (.bl b), by cases ty <;> exact kit_ty (by first | (show _ = some true; decide +kernel) | (show _ = some false; decide +kernel))⟩
    | int b => unfold RepT at q; subst q; exact ⟨_, .base (.int b), by cases ty <;> exact kit_ty (by first | (show _ = some true; decide +kernel) | (show _ = some false; decide +kernel))⟩
    | str b => unfold RepT at q; subst q; exact ⟨_, .base (.str b), by cases ty <;> exact kit_ty (by first | (show _ = some true; decide +kernel) | (show _ = some false; decide +kernel))⟩
    | tup b =>
      unfold RepT at q
      obtain ⟨p, us, e, g1, g2⟩ := q
      subst e
      refine ⟨"tuple", ?_, by cases ty <;> exact kit_ty (by first | (show _ = some true; decide +kernel) | (show _ = some false; decide +kernel))⟩
      rcases g1 with (g1 | ⟨o, g1⟩) | ⟨o, its, n, g1, g3, _⟩
      · exact .base (.tup g1)
      · exact .fTuple g1
      · exact .kTuple g1 g3
  · injection h with h; subst h
    obtain ⟨p, us, Fs, rfl, h1, h2, _⟩ := r.items rfl
    exact ⟨"list", .base (.lst h1), by cases ty <;> exact kit_ty (by first | (show _ = some true; decide +kernel) | (show _ = some false; decide +kernel))⟩
  · injection h with h; subst h
    obtain ⟨p, us, Fs, rfl, h1, h2, _⟩ := r.items rfl
    exact ⟨"list", .base (.lst h1), by cases ty <;> exact kit_ty (by first | (show _ = some true; decide +kernel) | (show _ = some false; decide +kernel))⟩
  · cases h
end
end DV


set_option Elab.async false
set_option linter.all false
set_option maxRecDepth 100000
set_option maxHeartbeats 2000000
/-! DF: built-in functions and methods. -/
namespace DV
open PySem L2
section
variable {K : PySem.W.Frag} {Z : Addr → Prop} {H : Hp} {Q : VK}
def biName : Bi → Str
  | .len => "len" | .abs => "abs" | .int => "int" | .gcd => "gcd" | .list => "list" | .tuple => "tuple" | .max2 => "max" | .min2 => "min" | .sum => "sum" | .maxl => "max" | .minl => "min"
  | .all => "all" | .any => "any" | .str => "str" | .divmod => "divmod" | .repr => "repr" | .sorted => "sorted"
/-- how it is found: a built-in function, a built-in class, a name of the module -/
inductive BiKd where
  | fn (id : String) | ty (T : String) | mod (id : String)
def biKd : Bi → BiKd
  | .len => .fn "len" | .abs => .fn "abs" | .int => .ty "int" | .gcd => .mod "math.gcd" | .list => .ty "list" | .tuple => .ty "tuple" | .max2 => .fn "max" | .min2 => .fn "min" | .sum => .fn "sum" | .maxl => .fn "max" | .minl => .fn "min"
  | .all => .fn "all" | .any => .fn "any" | .str => .ty "str" | .divmod => .fn "divmod" | .repr => .fn "repr" | .sorted => .fn "sorted"
def BiKd.val : BiKd → Value
  | .fn id => .builtin id
  | .ty T => .type T
  | .mod id => .builtin id
def biR (K : PySem.W.Frag) : Bi → List V → Hp → VK → Prop
  | .len => fun xs H Q => ∃ x n, xs = [x] ∧ LenV K x H n ∧ Q (.int n) H
  | .abs => fun xs H Q => ∃ i, xs = [.int i] ∧ Q (.int (if i < 0 then -i else i)) H
  | .int => fun xs H Q => (∃ i, xs = [.int i] ∧ Q (.int i) H) ∨ ∃ k, xs = [.bl k] ∧ Q (.int (if k then 1 else 0)) H
  | .gcd => rGcd
  | .list => fun xs H Q => ∃ p ys, xs = [.ref p] ∧ (SqL K H p ys ∨ SqT K H p ys) ∧ ∀ l, H l = none → Q (.ref l) (upd H l (.lst ys))
  | .tuple => fun xs H Q => ∃ p ys, xs = [.ref p] ∧ ((SqL K H p ys ∧ ∀ l, H l = none → Q (.ref l) (upd H l (.tup ys))) ∨ (SqT K H p ys ∧ Q (.ref p) H))
  | .max2 => fun xs H Q => ∃ i j, xs = [.int i, .int j] ∧ Q (.int (if j > i then j else i)) H
  | .min2 => fun xs H Q => ∃ i j, xs = [.int i, .int j] ∧ Q (.int (if j < i then j else i)) H
  | .sum => rSum K
  | .maxl => rMax K
  | .minl => rMin K
  | .all => rAll K
  | .any => rAny K
  | .str => fun xs H Q => ∃ i, xs = [.int i] ∧ i.natAbs.log2 < 1920 ∧ Q (.str (toString i)) H
  | _ => fun _ _ _ => False
theorem biR_ok {X : Cx} (hc : X.calm = true) : ∀ b : Bi, CallR X (biKd b).val (biR X.K b)
  | .len => call_len
  | .abs => call_abs
  | .int => call_int1
  | .gcd => cr_gcd
  | .list => call_list_of
  | .tuple => call_tuple_of
  | .max2 => call_max2 hc
  | .min2 => call_min2 hc
  | .sum => cr_sum hc
  | .maxl => cr_max hc
  | .minl => cr_min hc
  | .all => cr_all hc
  | .any => cr_any hc
  | .str => call_str_int
  | .divmod => fun _ _ _ _ _ _ _ _ _ h => h.elim
  | .repr => fun _ _ _ _ _ _ _ _ _ h => h.elim
  | .sorted => fun _ _ _ _ _ _ _ _ _ h => h.elim
theorem lenD_ok {d : D} {n : Nat} {v : V} {F : List Addr} (h : lenD d = some n) (r : RepF K Z H v d F) : LenV K v H n := by
  unfold lenD at h
  split at h
  · split at h
    · rename_i c; injection h with h; subst h; have e := dstr r; subst e; exact ⟨c, rfl⟩
    · cases h
  · injection h with h; subst h
    obtain ⟨p, us, rfl, h1, h2⟩ := dtup r
    exact .inr ⟨us, h1, h2.length.symm⟩
  · injection h with h; subst h
    obtain ⟨p, us, Fs, rfl, h1, h2, _⟩ := r.items rfl
    exact .inl ⟨us, SqL.of h1, h2.length.symm⟩
  · injection h with h; subst h
    obtain ⟨p, us, Fs, rfl, h1, h2, _⟩ := r.items rfl
    exact .inl ⟨us, SqL.of h1, by rw [h2.length, List.length_map]⟩
  · rename_i ns
    injection h with h; subst h
    unfold RepF at r
    obtain ⟨_, p, e, r⟩ := r
    subst e
    refine .inl ⟨ns.map V.int, ?_, by rw [List.length_map]⟩
    rcases r with ⟨r, _⟩ | r
    · exact .inl r
    · exact .inr r
  · cases h
theorem scr_ok {ns : List Int} {v : V} {F : List Addr} (r : RepF K Z H v (.scr ns) F) : ∃ p, v = .ref p ∧ SqL K H p (ns.map V.int) := by
  unfold RepF at r
  obtain ⟨_, p, e, r⟩ := r
  refine ⟨p, e, ?_⟩
  rcases r with ⟨r, _⟩ | r
  · exact .inl r
  · exact .inr r
theorem ints_ok : ∀ {vs : List V} {ds : List D} {F : List Addr} {ns : List Int}, RepFs K Z H vs ds F → ints? ds = some ns → vs = ns.map V.int
  | vs, [], F, ns, r, h => by
    unfold RepFs at r
    simp only [ints?, Option.some.injEq] at h
    subst h
    exact r.1
  | vs, .t (.int i) :: ds, F, ns, r, h => by
    unfold RepFs at r
    obtain ⟨v, r', F1, F2, e, _, h1, h2⟩ := r
    simp only [ints?, Option.map_eq_some_iff] at h
    obtain ⟨ms, h3, h4⟩ := h
    subst h4
    rw [e, dint h1, ints_ok h2 h3]; rfl
  | vs, .t .non :: ds, F, ns, r, h => by simp [ints?] at h
  | vs, .t (.bl _) :: ds, F, ns, r, h => by simp [ints?] at h
  | vs, .t (.str _) :: ds, F, ns, r, h => by simp [ints?] at h
  | vs, .t (.tup _) :: ds, F, ns, r, h => by simp [ints?] at h
  | vs, .sh x :: ds, F, xs, r, e => by simp [ints?] at e
  | vs, .lst x :: ds, F, xs, r, e => by simp [ints?] at e
  | vs, .scr x :: ds, F, xs, r, e => by simp [ints?] at e
theorem bools_ok : ∀ {vs : List V} {ds : List D} {F : List Addr} {ns : List Bool}, RepFs K Z H vs ds F → bools? ds = some ns → vs = ns.map V.bl
  | vs, [], F, ns, r, h => by
    unfold RepFs at r
    simp only [bools?, Option.some.injEq] at h
    subst h
    exact r.1
  | vs, .t (.bl i) :: ds, F, ns, r, h => by
    unfold RepFs at r
    obtain ⟨v, r', F1, F2, e, _, h1, h2⟩ := r
    simp only [bools?, Option.map_eq_some_iff] at h
    obtain ⟨ms, h3, h4⟩ := h
    subst h4
    rw [e, dbl h1, bools_ok h2 h3]; rfl
  | vs, .t .non :: ds, F, ns, r, h => by simp [bools?] at h
  | vs, .t (.int _) :: ds, F, ns, r, h => by simp [bools?] at h
  | vs, .t (.str _) :: ds, F, ns, r, h => by simp [bools?] at h
  | vs, .t (.tup _) :: ds, F, ns, r, h => by simp [bools?] at h
  | vs, .sh x :: ds, F, xs, r, e => by simp [bools?] at e
  | vs, .lst x :: ds, F, xs, r, e => by simp [bools?] at e
  | vs, .scr x :: ds, F, xs, r, e => by simp [bools?] at e
theorem reps1 {vs : List V} {d : D} {F : List Addr} (r : RepFs K Z H vs [d] F) : ∃ v, vs = [v] ∧ RepF K Z H v d F := by
  unfold RepFs at r
  obtain ⟨v, r', F1, F2, e, e2, h1, h2⟩ := r
  unfold RepFs at h2
  rw [h2.1] at e
  rw [h2.2, List.append_nil] at e2
  subst e2
  exact ⟨v, e, h1⟩
theorem reps2 {vs : List V} {d d' : D} {F : List Addr} (r : RepFs K Z H vs [d, d'] F) : ∃ v v' F1 F2, vs = [v, v'] ∧ RepF K Z H v d F1 ∧ RepF K Z H v' d' F2 := by
  unfold RepFs at r
  obtain ⟨v, r', F1, F2, e, e2, h1, h2⟩ := r
  obtain ⟨v', e3, h3⟩ := reps1 h2
  subst e3
  exact ⟨v, v', F1, F2, e, h1, h3⟩
theorem reps0 {vs : List V} {F : List Addr} (r : RepFs K Z H vs [] F) : vs = [] := by unfold RepFs at r; exact r.1
theorem maxI_mem : ∀ (ns : List Int) (n : Int), maxI n ns ∈ n :: ns ∧ ∀ y, y ∈ n :: ns → y ≤ maxI n ns
  | [], n => ⟨List.mem_cons_self, fun y h => by simp at h; subst h; exact Int.le_refl _⟩
  | x :: ns, n => by
    obtain ⟨h1, h2⟩ := maxI_mem ns (if x > n then x else n)
    show maxI (if x > n then x else n) ns ∈ _ ∧ ∀ y, _ → y ≤ maxI (if x > n then x else n) ns
    refine ⟨?_, fun y hy => ?_⟩
    · rcases List.mem_cons.mp h1 with e | e
      · rw [e]; split <;> simp
      · exact List.mem_cons_of_mem _ (List.mem_cons_of_mem _ e)
    · have h3 := h2 _ List.mem_cons_self
      have h4 : ∀ y, y ∈ ns → _ := fun y hy => h2 y (List.mem_cons_of_mem _ hy)
      clear h1 h2
      revert h3 h4
      generalize maxI (if x > n then x else n) ns = m
      intro h3 h4
      rcases List.mem_cons.mp hy with e | hy
      · subst e; split at h3 <;> omega
      · rcases List.mem_cons.mp hy with e | hy
        · subst e; split at h3 <;> omega
        · exact h4 y hy
theorem minI_mem : ∀ (ns : List Int) (n : Int), minI n ns ∈ n :: ns ∧ ∀ y, y ∈ n :: ns → minI n ns ≤ y
  | [], n => ⟨List.mem_cons_self, fun y h => by simp at h; subst h; exact Int.le_refl _⟩
  | x :: ns, n => by
    obtain ⟨h1, h2⟩ := minI_mem ns (if x < n then x else n)
    show minI (if x < n then x else n) ns ∈ _ ∧ ∀ y, _ → minI (if x < n then x else n) ns ≤ y
    refine ⟨?_, fun y hy => ?_⟩
    · rcases List.mem_cons.mp h1 with e | e
      · rw [e]; split <;> simp
      · exact List.mem_cons_of_mem _ (List.mem_cons_of_mem _ e)
    · have h3 := h2 _ List.mem_cons_self
      have h4 : ∀ y, y ∈ ns → _ := fun y hy => h2 y (List.mem_cons_of_mem _ hy)
      clear h1 h2
      revert h3 h4
      generalize minI (if x < n then x else n) ns = m
      intro h3 h4
      rcases List.mem_cons.mp hy with e | hy
      · subst e; split at h3 <;> omega
      · rcases List.mem_cons.mp hy with e | hy
        · subst e; split at h3 <;> omega
        · exact h4 y hy
theorem allFree_frz : ∀ xs : List D, D.allFree (xs.map D.frz) = true
  | [] => rfl
  | x :: xs => by
    show (x.frz.free && D.allFree (xs.map D.frz)) = true
    rw [allFree_frz xs]
    cases x <;> rfl
/-- the items of a list that is read, as it stands -/
theorem itemsZ {v : V} {d : D} {F : List Addr} {xs : List D} (h : RepF K Z H v d F) (e : d.items = some xs) : ∃ a vs Fs, v = .ref a ∧ H a = some (.lst vs) ∧ RepFs K Z H vs xs Fs :=
  let ⟨a, vs, Fs, h1, h2, h3, _⟩ := h.items e
  ⟨a, vs, Fs, h1, h2, h3⟩
theorem biD_ok {b : Bi} {ds : List D} {d : D} {vs : List V} {F : List Addr} (h : biD b ds = some d) (r : RepFs K Z H vs ds F) (f : Fin K Z H d Q) : biR K b vs H Q := by
  unfold biD at h
  split at h
  case h_1 =>
    obtain ⟨v, ev, rr⟩ := reps1 r
    subst ev
    simp only [Option.map_eq_some_iff] at h
    obtain ⟨n, h1, h2⟩ := h
    subst h2
    exact ⟨v, _, rfl, lenD_ok h1 rr, f.int⟩
  case h_2 =>
    obtain ⟨v, ev, rr⟩ := reps1 r
    subst ev
    injection h with h; subst h
    exact ⟨_, by rw [dint rr], f.int⟩
  case h_3 =>
    obtain ⟨v, ev, rr⟩ := reps1 r
    subst ev
    injection h with h; subst h
    exact .inl ⟨_, by rw [dint rr], f.int⟩
  case h_4 =>
    obtain ⟨v, ev, rr⟩ := reps1 r
    subst ev
    injection h with h; subst h
    exact .inr ⟨_, by rw [dbl rr], f.int⟩
  case h_5 =>
    obtain ⟨v, v', F1, F2, rfl, r1, r2⟩ := reps2 r
    injection h with h; subst h
    exact ⟨_, _, by rw [dint r1, dint r2], f.int⟩
  case h_6 ns =>
    obtain ⟨v, ev, rr⟩ := reps1 r
    subst ev
    injection h with h; subst h
    obtain ⟨p, rfl, r2⟩ := scr_ok rr
    refine ⟨p, _, rfl, .inl r2, fun l n => f.lst ?_ n⟩
    clear r r2 rr f
    induction ns with
    | nil => exact ⟨rfl, rfl⟩
    | cons i ns ih =>
      rw [List.map_cons, List.map_cons]
      unfold RepFs
      exact ⟨_, _, [], [], rfl, rfl, by unfold RepF RepT; exact ⟨rfl, rfl⟩, ih⟩
  case h_7 xs =>
    obtain ⟨v, ev, rr⟩ := reps1 r
    subst ev
    injection h with h; subst h
    obtain ⟨p, us, rfl, h1, h2⟩ := dtup rr
    exact ⟨p, us, rfl, .inr h1, fun l n => f.lst (RepFs.ofT h2) n⟩
  case h_8 =>
    obtain ⟨v, ev, rr⟩ := reps1 r
    subst ev
    split at h
    · rename_i xs e
      split at h
      · rename_i c
        injection h with h; subst h
        obtain ⟨p, us, Fs, rfl, h1, h2, _, h3⟩ := rr.items e
        have z := h3 c
        subst z
        exact ⟨p, us, rfl, .inl (SqL.of h1), fun l n => f.lst h2 n⟩
      · cases h
    · cases h
  case h_9 xs =>
    obtain ⟨v, ev, rr⟩ := reps1 r
    subst ev
    injection h with h; subst h
    obtain ⟨p, us, rfl, h1, h2⟩ := dtup rr
    exact ⟨p, us, rfl, .inr ⟨h1, f.t (by unfold RepT; exact ⟨p, us, rfl, h1, h2⟩)⟩⟩
  case h_10 =>
    obtain ⟨v, ev, rr⟩ := reps1 r
    subst ev
    split at h
    · rename_i xs e
      simp only [Option.map_eq_some_iff] at h
      obtain ⟨ts, h4, h5⟩ := h
      subst h5
      obtain ⟨p, us, Fs, rfl, h1, h2⟩ := itemsZ rr e
      obtain ⟨_, h6, _⟩ := h2.ts h4
      exact ⟨p, us, rfl, .inl ⟨SqL.of h1, fun l n => f.tup h6 n⟩⟩
    · cases h
  case h_11 =>
    obtain ⟨v, v', F1, F2, rfl, r1, r2⟩ := reps2 r
    injection h with h; subst h
    exact ⟨_, _, by rw [dint r1, dint r2], f.int⟩
  case h_12 =>
    obtain ⟨v, v', F1, F2, rfl, r1, r2⟩ := reps2 r
    injection h with h; subst h
    exact ⟨_, _, by rw [dint r1, dint r2], f.int⟩
  case h_13 =>
    obtain ⟨v, ev, rr⟩ := reps1 r
    subst ev
    split at h
    · rename_i xs e
      simp only [Option.map_eq_some_iff] at h
      obtain ⟨ns, h4, h5⟩ := h
      subst h5
      obtain ⟨p, us, Fs, rfl, h1, h2⟩ := itemsZ rr e
      exact ⟨p, ns, rfl, by rw [← ints_ok h2 h4]; exact SqL.of h1, f.int⟩
    · cases h
  case h_14 =>
    obtain ⟨v, ev, rr⟩ := reps1 r
    subst ev
    split at h
    · rename_i xs e
      split at h
      · rename_i n ns h4
        injection h with h; subst h
        obtain ⟨p, us, Fs, rfl, h1, h2⟩ := itemsZ rr e
        obtain ⟨m1, m2⟩ := maxI_mem ns n
        refine ⟨p, n :: ns, rfl, by rw [← ints_ok h2 h4]; exact SqL.of h1, by simp, fun m hm hx => ?_⟩
        have e : m = maxI n ns := Int.le_antisymm (m2 m hm) (hx _ m1)
        subst e
        exact f.int
      · cases h
    · cases h
  case h_15 =>
    obtain ⟨v, ev, rr⟩ := reps1 r
    subst ev
    split at h
    · rename_i xs e
      split at h
      · rename_i n ns h4
        injection h with h; subst h
        obtain ⟨p, us, Fs, rfl, h1, h2⟩ := itemsZ rr e
        obtain ⟨m1, m2⟩ := minI_mem ns n
        refine ⟨p, n :: ns, rfl, by rw [← ints_ok h2 h4]; exact SqL.of h1, by simp, fun m hm hx => ?_⟩
        have e : m = minI n ns := Int.le_antisymm (hx _ m1) (m2 m hm)
        subst e
        exact f.int
      · cases h
    · cases h
  case h_16 =>
    obtain ⟨v, ev, rr⟩ := reps1 r
    subst ev
    split at h
    · rename_i xs e
      simp only [Option.map_eq_some_iff] at h
      obtain ⟨ns, h4, h5⟩ := h
      subst h5
      obtain ⟨p, us, Fs, rfl, h1, h2⟩ := itemsZ rr e
      exact ⟨p, ns, rfl, by rw [← bools_ok h2 h4]; exact SqL.of h1, f.bl⟩
    · cases h
  case h_17 =>
    obtain ⟨v, ev, rr⟩ := reps1 r
    subst ev
    split at h
    · rename_i xs e
      simp only [Option.map_eq_some_iff] at h
      obtain ⟨ns, h4, h5⟩ := h
      subst h5
      obtain ⟨p, us, Fs, rfl, h1, h2⟩ := itemsZ rr e
      exact ⟨p, ns, rfl, by rw [← bools_ok h2 h4]; exact SqL.of h1, f.bl⟩
    · cases h
  case h_18 =>
    obtain ⟨v, ev, rr⟩ := reps1 r
    subst ev
    split at h
    · rename_i c
      injection h with h; subst h
      exact ⟨_, by rw [dint rr], c, f.str⟩
    · cases h
  case h_19 => cases h
end
end DV


set_option Elab.async false
set_option linter.all false
set_option maxRecDepth 100000
set_option maxHeartbeats 2000000
/-! DG: readings by denotation; the check of the text. -/
namespace DV
open PySem L2

/-! ### the check: my syntax says what the text says -/
structure Tb where
  /-- own functions: name, number of parameters -/
  fns : List (Str × Nat)
  /-- the module's constants -/
  ks : List Str
  /-- built-in names that are used -/
  bs : List Str
  /-- names of the module that stand for built-in functions -/
  ms : List (Str × String)
structure Sc where
  N : List Str
  sc : Scope
  ce : Str → Bool
def visB (sc : Scope) (x : Str) : Bool :=
  match sc.names.lookup x with
  | some .local => true
  | some .cell => true
  | some .free => true
  | _ => false
def glB (sc : Scope) (x : Str) : Bool := decide (sc.names.lookup x = some .globalImplicit) && decide ((x == ("__debug__" : Str)) = false)
def chkN (c : Sc) (i : Nat) (x : Str) : Bool := decide (c.N[i]? = some x) && visB c.sc x && decide ((x == ("__debug__" : Str)) = false) && decide ((x == ("__classdict__" : Str)) = false)
def chkB (tb : Tb) (c : Sc) (x : Str) : Bool := glB c.sc x && decide (x ∈ tb.bs) && decide (x ≠ "__name__")
def chkC : T → Const → Bool
  | .int i, .int j => decide (i = j)
  | .bl i, .bool j => decide (i = j)
  | .non, .none => true
  | .str i, .str j => decide (i = j)
  | _, _ => false
def tyStr : Ty → Str
  | .int => "int" | .bool => "bool" | .str => "str" | .tup => "tuple" | .lst => "list"
def mtName : Mt → Str
  | .append => "append" | .pop => "pop" | .popAt => "pop" | .extend => "extend" | .insert => "insert" | .index => "index" | .join => "join" | .split => "split"
def ownOf (N : List Str) : List Nat → List (Str × Nat)
  | [] => []
  | i :: r => (N.getD i "", i) :: ownOf N r
def blkSc (c : Sc) (scope : Scope) : Sc := ⟨c.N, relS scope c.sc, fun x => scope.names.lookup x == some .cell⟩
def locB (c : Sc) (x : Str) : Bool :=
  match c.sc.names.lookup x with
  | some .local => true
  | some .cell => c.ce x
  | _ => false
/-- may stand at a test -/
def tstE : E → Bool
  | .ite _ _ _ => false
  | .and a b => tstE a && tstE b
  | .or a b => tstE a && tstE b
  | .not a => tstE a
  | _ => true
def tstEs : Es → Bool
  | .nil => true
  | .cons e .nil => tstE e
  | .cons _ (.cons _ _) => false
def okMt : Mt → Bool
  | .append => true
  | .pop => true
  | .extend => true
  | _ => false
def isPl : E → Bool
  | .v _ => true
  | .ix a _ => isPl a
  | _ => false
section
variable (tb : Tb)
mutual
def chkG (c : Sc) : Tg → Expr → Bool
  | .n i, .Name x _ => decide (c.N[i]? = some x) && locB c x
  | .tp ts, .Tuple es _ _ => chkGs c ts es
  | _, _ => false
def chkGs (c : Sc) : Tgs → List Expr → Bool
  | .nil, [] => true
  | .cons t ts, e :: es => chkG c t e && chkGs c ts es
  | _, _ => false
end
mutual
def chkE : E → Sc → Expr → Bool
  | .v i, c, .Name x _ => chkN c i x
  | .mv i, c, .Name x _ => chkN c i x
  | .fz i, c, .Name x _ => chkN c i x
  | .k i, c, .Name x _ => decide (tb.ks[i]? = some x) && glB c.sc x
  | .c x, _, .Constant k _ _ => chkC x k
  | .bin op a b, c, .BinOp a' op' b' _ => decide (op = op') && chkE a c a' && chkE b c b'
  | .neg a, c, .UnaryOp .USub a' _ => chkE a c a'
  | .cmp op a b, c, .Compare a' [op'] [b'] _ => decide (op = op') && chkE a c a' && chkE b c b'
  | .chn op1 op2 x y z, c, .Compare x' [op1', op2'] [y', z'] _ => decide (op1 = op1') && decide (op2 = op2') && decide (op1 ≠ .In ∧ op1 ≠ .NotIn) && decide (op2 ≠ .In ∧ op2 ≠ .NotIn) && chkE x c x' && chkE y c y' && chkE z c z'
  | .and a b, c, .BoolOp .And (a' :: b' :: r) p => chkE a c a' && chkE b c (if r.isEmpty then b' else .BoolOp .And (b' :: r) p)
  | .or a b, c, .BoolOp .Or (a' :: b' :: r) p => chkE a c a' && chkE b c (if r.isEmpty then b' else .BoolOp .Or (b' :: r) p)
  | .not a, c, .UnaryOp .Not a' _ => chkE a c a'
  | .ite x a b, c, .IfExp x' a' b' _ => chkE x c x' && tstE x && chkE a c a' && chkE b c b'
  | .tup es, c, .Tuple es' _ _ => chkEs es c es'
  | .lst es, c, .List es' _ => chkEs es c es'
  | .ix a b, c, .Subscript a' b' _ => chkE a c a' && chkE b c b'
  | .sl a lo hi, c, .Subscript a' (.Slice lo' hi' none _) _ => chkE a c a' && (match lo' with | none => lo.isNo | some l => chkE lo c l) && (match hi' with | none => hi.isNo | some l => chkE hi c l)
  | .call f es, c, .Call (.Name x _) es' [] _ => decide (tb.fns[f]? = some (x, es'.length)) && glB c.sc x && chkEs es c es'
  | .bi b es, c, .Call (.Name x _) es' [] _ => decide (x = biName b) && (match biKd b with | .mod id => decide ((x, id) ∈ tb.ms) && glB c.sc x | _ => chkB tb c x) && !es'.isEmpty && chkEs es c es'
  | .isi a ty, c, .Call (.Name x _) [a', .Name t _] [] _ => decide (x = "isinstance") && chkB tb c x && chkE a c a' && decide (t = tyStr ty) && chkB tb c t
  | .mut m a es, c, .Call (.Attribute a' n apos) es' [] cpos => decide (n = mtName m) && okMt m && isPl a && chkE a c a' && chkEs es c es' && decide ((apos.endLine == cpos.line) = true) && decide (es'.length < 30)
  | .lc elt tg it cs own, c, .ListComp elt' [⟨tg', it', cs', 0⟩] scope _ => chkI it c it' && blkC c.N c.sc scope (ownOf c.N own) && chkG (blkSc c scope) tg tg' && tg.slots.all own.contains && chkEs cs (blkSc c scope) cs' && tstEs cs && chkE elt (blkSc c scope) elt'
  | _, _, _ => false
def chkEs : Es → Sc → List Expr → Bool
  | .nil, _, [] => true
  | .cons e es, c, e' :: es' => chkE e c e' && chkEs es c es'
  | _, _, _ => false
def chkI : It → Sc → Expr → Bool
  | .seq e, c, e' => chkE e c e'
  | .rng es, c, .Call (.Name x _) es' [] _ => decide (x = "range") && chkB tb c x && chkEs es c es' && decide (es'.length ≤ 2) && !es'.isEmpty
  | _, _, _ => false
end
end

/-! ### readings -/
section
variable (K : PySem.W.Frag) (G : GCtx) (EX : Exn → XK) (W : WX)
/-- what a denotation owes: of a value, of an exception -/
def Res {α β : Type} (M : List Nat) (σ : St) (Z : Addr → Prop) (δ : Ev) (Fs : Fp) (H : Hp) (rel : (Addr → Prop) → Fp → Hp → β → α → Prop) (r : R α) (Q : β → Hp → Prop) : Prop :=
  match r with
  | .ok a δ' => ∀ (v : β) (Z' : Addr → Prop) (Fs' : Fp) (H' : Hp), SR K Z' δ' Fs' σ H' → Tr M Z δ Fs H Z' δ' Fs' H' → rel Z' Fs' H' v a → Q v H'
  | .ex x δ' => ∀ (Z' : Addr → Prop) (Fs' : Fp) (H' : Hp) (cls : Value) (dd : Option Addr), SR K Z' δ' Fs' σ H' → Tr M Z δ Fs H Z' δ' Fs' H' → EX x cls dd H' → W cls dd σ H'
/-- v is what is said: (d, κ) -/
def relV (M : List Nat) (Fs : Fp) (H : Hp) (Z' : Addr → Prop) (Fs' : Fp) (H' : Hp) (v : V) (a : Vr) : Prop :=
  ∃ F, RepF K Z' H' v a.1 F ∧ Own M Fs H Z' Fs' H' a.2 F
def tE (e : E) : TE := fun σ H Q => ∃ Z δ Fs r, SR K Z δ Fs σ H ∧ denE G e δ = some r ∧ Res K EX W (e.muts G.mu) σ Z δ Fs H (relV K (e.muts G.mu) Fs H) r Q
def relB (Z' : Addr → Prop) (Fs' : Fp) (H' : Hp) (b : Bool) (a : Bool) : Prop := b = a
def tT (e : E) : TT := fun σ H Q => ∃ Z δ Fs r, SR K Z δ Fs σ H ∧ denT G e δ = some r ∧ Res K EX W (e.muts G.mu) σ Z δ Fs H relB r Q
/-- values in a row: what those own that no slot holds is A -/
def RVs (K : PySem.W.Frag) (σ : St) (Z' : Addr → Prop) (Fs' : Fp) (H' : Hp) : Es → List V → List Vr → List Addr → Prop
  | .nil, vs, ws, A => vs = [] ∧ ws = [] ∧ A = []
  | .cons e es, vs, ws, A => ∃ v r d κ s, vs = v :: r ∧ ws = (d, κ) :: s ∧ (∀ i, e = .v i → σ[i]? = some (some v) ∧ ∀ r, κ = some r → r = i) ∧
      match κ with
      | none => ∃ F A', A = F ++ A' ∧ RepF K Z' H' v d F ∧ RVs K σ Z' Fs' H' es r s A'
      | some q => (∃ F, RepF K Z' H' v d F ∧ ∀ a, a ∈ F → a ∈ Fs' q) ∧ RVs K σ Z' Fs' H' es r s A
def relVs (σ : St) (es : Es) (M : List Nat) (Fs : Fp) (H : Hp) (Z' : Addr → Prop) (Fs' : Fp) (H' : Hp) (vs : List V) (ws : List Vr) : Prop :=
  ∃ A, RVs K σ Z' Fs' H' es vs ws A ∧ OwnA M Fs H Z' Fs' H' A
def tEs (es : Es) : TA := fun σ H Q => ∃ Z δ Fs r, SR K Z δ Fs σ H ∧ denEs G es δ = some r ∧ Res K EX W (es.muts G.mu) σ Z δ Fs H (relVs K σ es (es.muts G.mu) Fs H) r Q
end
section
variable {K : PySem.W.Frag} {G : GCtx} {EX : Exn → XK} {W : WX} {σ : St} {Z Z1 : Addr → Prop} {δ δ1 : Ev} {Fs Fs1 : Fp} {H H1 : Hp}
theorem bnd_some {α β : Type} {m : M α} {f : α → Ev → M β} {r : R β} (h : bnd m f = some r) : (∃ x δ', m = some (.ex x δ') ∧ r = .ex x δ') ∨ ∃ a δ', m = some (.ok a δ') ∧ f a δ' = some r := by
  cases m with
  | none => cases h
  | some q =>
    cases q with
    | ok a δ' => exact .inr ⟨a, δ', rfl, h⟩
    | ex x δ' => exact .inl ⟨x, δ', rfl, (Option.some.inj h).symm⟩
/-- an expression, then more -/
theorem seqE {α β : Type} {e : E} {f : Vr → Ev → M α} {r : R α} {M : List Nat} {rel : (Addr → Prop) → Fp → Hp → β → α → Prop} {Q : β → Hp → Prop} {P : VK} (S : SR K Z δ Fs σ H) (h : bnd (denE G e δ) f = some r) (R : Res K EX W M σ Z δ Fs H rel r Q) (hm : ∀ i, i ∈ e.muts G.mu → i ∈ M)
    (k : ∀ a δ1, f a δ1 = some r → ∀ v Z1 Fs1 H1, SR K Z1 δ1 Fs1 σ H1 → Tr (e.muts G.mu) Z δ Fs H Z1 δ1 Fs1 H1 → relV K (e.muts G.mu) Fs H Z1 Fs1 H1 v a → P v H1) : tE K G EX W e σ H P := by
  rcases bnd_some h with ⟨x, δ', e1, e2⟩ | ⟨a, δ', e1, e2⟩
  · subst e2
    exact ⟨Z, δ, Fs, _, S, e1, fun Z' Fs' H' cls dd S' t q => R Z' Fs' H' cls dd S' (t.mono hm) q⟩
  · exact ⟨Z, δ, Fs, _, S, e1, fun v Z' Fs' H' S' t q => k a δ' e2 v Z' Fs' H' S' t q⟩
theorem seqE' {α β : Type} {e : E} {f : Vr → Ev → M α} {r : R α} {M : List Nat} {rel : (Addr → Prop) → Fp → Hp → β → α → Prop} {Q : β → Hp → Prop} {P : VK} (S : SR K Z δ Fs σ H) (h : bnd (denE G e δ) f = some r) (R : Res K EX W M σ Z δ Fs H rel r Q) (hm : ∀ i, i ∈ e.muts G.mu → i ∈ M)
    (k : ∀ a δ1, denE G e δ = some (.ok a δ1) → f a δ1 = some r → ∀ v Z1 Fs1 H1, SR K Z1 δ1 Fs1 σ H1 → Tr (e.muts G.mu) Z δ Fs H Z1 δ1 Fs1 H1 → relV K (e.muts G.mu) Fs H Z1 Fs1 H1 v a → P v H1) : tE K G EX W e σ H P := by
  rcases bnd_some h with ⟨x, δ', e1, e2⟩ | ⟨a, δ', e1, e2⟩
  · subst e2
    exact ⟨Z, δ, Fs, _, S, e1, fun Z' Fs' H' cls dd S' t q => R Z' Fs' H' cls dd S' (t.mono hm) q⟩
  · exact ⟨Z, δ, Fs, _, S, e1, fun v Z' Fs' H' S' t q => k a δ' e1 e2 v Z' Fs' H' S' t q⟩
theorem seqT {α β : Type} {e : E} {f : Bool → Ev → M α} {r : R α} {M : List Nat} {rel : (Addr → Prop) → Fp → Hp → β → α → Prop} {Q : β → Hp → Prop} {P : Bool → Hp → Prop} (S : SR K Z δ Fs σ H) (h : bnd (denT G e δ) f = some r) (R : Res K EX W M σ Z δ Fs H rel r Q) (hm : ∀ i, i ∈ e.muts G.mu → i ∈ M)
    (k : ∀ a δ1, f a δ1 = some r → ∀ Z1 Fs1 H1, SR K Z1 δ1 Fs1 σ H1 → Tr (e.muts G.mu) Z δ Fs H Z1 δ1 Fs1 H1 → P a H1) : tT K G EX W e σ H P := by
  rcases bnd_some h with ⟨x, δ', e1, e2⟩ | ⟨a, δ', e1, e2⟩
  · subst e2
    exact ⟨Z, δ, Fs, _, S, e1, fun Z' Fs' H' cls dd S' t q => R Z' Fs' H' cls dd S' (t.mono hm) q⟩
  · exact ⟨Z, δ, Fs, _, S, e1, fun v Z' Fs' H' S' t q => by cases q; exact k _ δ' e2 Z' Fs' H' S' t⟩
theorem seqEs {α β : Type} {e : Es} {f : List Vr → Ev → M α} {r : R α} {M : List Nat} {rel : (Addr → Prop) → Fp → Hp → β → α → Prop} {Q : β → Hp → Prop} {P : List V → Hp → Prop} (S : SR K Z δ Fs σ H) (h : bnd (denEs G e δ) f = some r) (R : Res K EX W M σ Z δ Fs H rel r Q) (hm : ∀ i, i ∈ e.muts G.mu → i ∈ M)
    (k : ∀ a δ1, f a δ1 = some r → ∀ v Z1 Fs1 H1, SR K Z1 δ1 Fs1 σ H1 → Tr (e.muts G.mu) Z δ Fs H Z1 δ1 Fs1 H1 → relVs K σ e (e.muts G.mu) Fs H Z1 Fs1 H1 v a → P v H1) : tEs K G EX W e σ H P := by
  rcases bnd_some h with ⟨x, δ', e1, e2⟩ | ⟨a, δ', e1, e2⟩
  · subst e2
    exact ⟨Z, δ, Fs, _, S, e1, fun Z' Fs' H' cls dd S' t q => R Z' Fs' H' cls dd S' (t.mono hm) q⟩
  · exact ⟨Z, δ, Fs, _, S, e1, fun v Z' Fs' H' S' t q => k a δ' e2 v Z' Fs' H' S' t q⟩
/-- behind a first part -/
theorem Res.later {α β : Type} {r : R α} {M1 M2 : List Nat} {rel rel' : (Addr → Prop) → Fp → Hp → β → α → Prop} {Q : β → Hp → Prop} (R : Res K EX W (M1 ++ M2) σ Z δ Fs H rel r Q) (t : Tr M1 Z δ Fs H Z1 δ1 Fs1 H1)
    (hr : ∀ Z' Fs' H' v a, rel' Z' Fs' H' v a → rel Z' Fs' H' v a) : Res K EX W M2 σ Z1 δ1 Fs1 H1 rel' r Q := by
  cases r with
  | ok a δ' => exact fun v Z' Fs' H' S' u q => R v Z' Fs' H' S' (t.trans u) (hr _ _ _ _ _ q)
  | ex x δ' => exact fun Z' Fs' H' cls dd S' u q => R Z' Fs' H' cls dd S' (t.trans u) q
theorem Res.sub {α β : Type} {r : R α} {M1 M2 : List Nat} {rel rel' : (Addr → Prop) → Fp → Hp → β → α → Prop} {Q : β → Hp → Prop} (R : Res K EX W M1 σ Z δ Fs H rel r Q) (h : ∀ i, i ∈ M2 → i ∈ M1)
    (hr : ∀ Z' Fs' H' v a, rel' Z' Fs' H' v a → rel Z' Fs' H' v a) : Res K EX W M2 σ Z δ Fs H rel' r Q := by
  cases r with
  | ok a δ' => exact fun v Z' Fs' H' S' u q => R v Z' Fs' H' S' (u.mono h) (hr _ _ _ _ _ q)
  | ex x δ' => exact fun Z' Fs' H' cls dd S' u q => R Z' Fs' H' cls dd S' (u.mono h) q
theorem relV.later {M1 M2 : List Nat} {Z' : Addr → Prop} {Fs' : Fp} {H' : Hp} {v : V} {a : Vr} (t : Tr M1 Z δ Fs H Z1 δ1 Fs1 H1) (h : relV K M2 Fs1 H1 Z' Fs' H' v a) : relV K (M1 ++ M2) Fs H Z' Fs' H' v a :=
  let ⟨F, h1, h2⟩ := h
  ⟨F, h1, Own.later t h2⟩
theorem relV.sub {M1 M2 : List Nat} {Z' : Addr → Prop} {Fs' : Fp} {H' : Hp} {v : V} {a : Vr} (h : relV K M2 Fs H Z' Fs' H' v a) (hs : ∀ i, i ∈ M2 → i ∈ M1) : relV K M1 Fs H Z' Fs' H' v a :=
  let ⟨F, h1, h2⟩ := h
  ⟨F, h1, h2.mono hs⟩
/-- a value stays -/
theorem relV.step {M1 M2 : List Nat} {v : V} {a : Vr} {Z2 : Addr → Prop} {δ2 : Ev} {Fs2 : Fp} {H2 : Hp} (S1 : SR K Z1 δ1 Fs1 σ H1) (h : relV K M1 Fs H Z1 Fs1 H1 v a) (u : Tr M2 Z1 δ1 Fs1 H1 Z2 δ2 Fs2 H2) (p : okPeek a.2 M2 = true) : relV K (M1 ++ M2) Fs H Z2 Fs2 H2 v a :=
  let ⟨F, h1, h2⟩ := h
  ⟨F, h1.step S1 h2 u p, h2.step S1 u p⟩
/-- what an operation that writes nothing owes, out of what the whole owes -/
theorem Res.fin {M : List Nat} {d : D} {Q : VK} (R : Res K EX W M σ Z δ Fs H (relV K M Fs H) (.ok (d, none) δ1) Q) (S1 : SR K Z1 δ1 Fs1 σ H1) (t : Tr M Z δ Fs H Z1 δ1 Fs1 H1) : Fin K Z1 H1 d Q := by
  intro v H' F r k nd hf
  obtain ⟨S2, u⟩ := S1.grow k
  have t2 : Tr M Z δ Fs H Z1 δ1 Fs1 H' := (t.trans u).mono fun i hi => by simpa using hi
  refine R v Z1 Fs1 H' S2 t2 ⟨F, r, nd, fun a ha => ⟨(hf a ha).2, fun z => S1.zd a z (hf a ha).1⟩, fun a ha i q => ?_, fun a ha => t.back (hf a ha).1⟩
  obtain ⟨w, e⟩ := mut_some (S1.mu i a q).1
  rw [(hf a ha).1] at e; cases e
theorem PE.imp {X : Cx} {e : Expr} {t t' : TE} (h : PE X e t) (hi : ∀ σ H Q, t' σ H Q → t σ H Q) : PE X e t' := ⟨fun pins s σ H Q I q => h.run pins s σ H Q I (hi σ H Q q)⟩
theorem PT.imp {X : Cx} {e : Expr} {t t' : TT} (h : PT X e t) (hi : ∀ σ H Q, t' σ H Q → t σ H Q) : PT X e t' := ⟨fun pins s σ H Q I q => h.run pins s σ H Q I (hi σ H Q q)⟩
theorem PA.imp {X : Cx} {e : List Expr} {t t' : TA} (h : PA X e t) (hi : ∀ σ H Q, t' σ H Q → t σ H Q) : PA X e t' := ⟨fun pos pins s σ H Q I q => h.run pos pins s σ H Q I (hi σ H Q q)⟩
end
end DV


set_option Elab.async false
set_option linter.all false
set_option maxRecDepth 100000
set_option maxHeartbeats 2000000
/-! DH: expressions, one construct after the other. -/
namespace DV
open PySem L2
section
variable {G : GCtx} {EX : Exn → XK} {W : WX} {X : Cx} {a' b' c' : Expr} {a b c : E} {pos : Pos}
theorem res_ok {α β : Type} {K : PySem.W.Frag} {M : List Nat} {σ : St} {Z : Addr → Prop} {δ δ1 : Ev} {Fs : Fp} {H : Hp} {rel : (Addr → Prop) → Fp → Hp → β → α → Prop} {x : α} {Q : β → Hp → Prop} (R : Res K EX W M σ Z δ Fs H rel (.ok x δ1) Q)
    {v : β} {Z' : Addr → Prop} {Fs' : Fp} {H' : Hp} (S' : SR K Z' δ1 Fs' σ H') (t : Tr M Z δ Fs H Z' δ1 Fs' H') (r : rel Z' Fs' H' v x) : Q v H' := R v Z' Fs' H' S' t r
theorem some_ok {α : Type} {x y : α} (h : some x = some y) : y = x := (Option.some.inj h).symm

/-! ### names and constants -/
theorem relV.freeT {K : PySem.W.Frag} {M : List Nat} {Fs : Fp} {H : Hp} {Z' : Addr → Prop} {Fs' : Fp} {H' : Hp} {v : V} {x : T} {κ : Option Nat} (h : RepT K H' v x) : relV K M Fs H Z' Fs' H' v (.t x, κ) :=
  ⟨[], by unfold RepF; exact ⟨rfl, h⟩, Own.free⟩
theorem tE_const {x : T} {v : V} {Q : VK} {σ : St} {H : Hp} (hx : ∀ H, RepT X.K H v x) (h : tE X.K G EX W (.c x) σ H Q) : Q v H := by
  obtain ⟨Z, δ, Fs, r, S, e, R⟩ := h
  cases some_ok e
  exact R v Z Fs H S Tr.refl (relV.freeT (hx H))
theorem c_int {i : Int} {k : Nat} : PE X (.Constant (.int i) k pos) (tE X.K G EX W (.c (.int i))) := PE.imp pe_int fun σ H Q h => tE_const (v := .int i) (fun H => by unfold RepT; rfl) h
theorem c_bl {i : Bool} {k : Nat} : PE X (.Constant (.bool i) k pos) (tE X.K G EX W (.c (.bl i))) := PE.imp pe_bl fun σ H Q h => tE_const (v := .bl i) (fun H => by unfold RepT; rfl) h
theorem c_non {k : Nat} : PE X (.Constant .none k pos) (tE X.K G EX W (.c .non)) := PE.imp pe_non fun σ H Q h => tE_const (v := .non) (fun H => by unfold RepT; rfl) h
theorem c_str {i : Str} {k : Nat} : PE X (.Constant (.str i) k pos) (tE X.K G EX W (.c (.str i))) := PE.imp pe_str fun σ H Q h => tE_const (v := .str i) (fun H => by unfold RepT; rfl) h
theorem k_ok {i : Nat} {x : Str} (hg : Gl X x) (hd : (x == ("__debug__" : Str)) = false) (hc : ∀ t, G.ks[i]? = some t → ∃ v u, X.mg x = some u ∧ RelV v u ∧ ∀ H, RepT X.K H v t) : PE X (.Name x pos) (tE X.K G EX W (.k i)) := by
  cases e : G.ks[i]? with
  | none =>
    refine ⟨fun pins s σ H Q I h => ?_⟩
    obtain ⟨Z, δ, Fs, r, S, e1, R⟩ := h
    simp only [denE, e] at e1
    cases e1
  | some t =>
    obtain ⟨v, u, h1, h2, h3⟩ := hc t e
    refine PE.imp (pe_glob hg h1 h2 hd) fun σ H Q h => ?_
    obtain ⟨Z, δ, Fs, r, S, e1, R⟩ := h
    simp only [denE, e] at e1
    cases some_ok e1
    exact R v Z Fs H S Tr.refl (relV.freeT (h3 H))

/-! ### a slot is set -/
theorem getD_set (δ : Ev) (i j : Nat) (x : Option D) (h : x = none ∨ i < δ.length) : (δ.set i x).getD j none = if j = i then x else δ.getD j none := by
  by_cases e : j = i
  · subst e
    rw [if_pos rfl]
    by_cases l : j < δ.length
    · simp [List.getD_eq_getElem?_getD, List.getElem?_set_self l]
    · have l' : (δ.set j x).length ≤ j := by rw [List.length_set]; exact Nat.le_of_not_lt l
      rw [List.getD_eq_getElem?_getD, List.getElem?_eq_none l']
      exact (h.resolve_right l).symm
  · rw [if_neg e]
    simp [List.getD_eq_getElem?_getD, List.getElem?_set_ne (Ne.symm e)]
def Fp.put (Fs : Fp) (i : Nat) (F : List Addr) : Fp := fun j => if j = i then F else Fs j
theorem Fp.put_same {Fs : Fp} {i : Nat} {F : List Addr} : Fs.put i F i = F := if_pos rfl
theorem Fp.put_ne {Fs : Fp} {i j : Nat} {F : List Addr} (h : j ≠ i) : Fs.put i F j = Fs j := if_neg h
theorem getD_lt {δ : Ev} {i : Nat} {d : D} (h : δ.getD i none = some d) : i < δ.length := by
  by_cases l : i < δ.length
  · exact l
  · simp [List.getD_eq_getElem?_getD, List.getElem?_eq_none (Nat.le_of_not_lt l)] at h
theorem SR.put {K : PySem.W.Frag} {Z Z1 : Addr → Prop} {δ : Ev} {Fs : Fp} {σ σ' : St} {H : Hp} {i : Nat} {od : Option D} {F : List Addr} (S : SR K Z δ Fs σ H) (hi : od = none ∨ i < δ.length)
    (hz : ∀ a, Z a → Z1 a) (zd : ∀ a, Z1 a → H a ≠ none) (nz : ∀ j a, j ≠ i → a ∈ Fs j → ¬ Z1 a) (nd : F.Nodup) (mu : ∀ a, a ∈ F → Mut (H a) ∧ ¬ Z1 a) (dj : ∀ j a, j ≠ i → a ∈ Fs j → a ∉ F)
    (hl : σ'.length = σ.length) (ho : ∀ j, j ≠ i → σ'[j]? = σ[j]?) (hd : ∀ d, od = some d → ∃ v, σ'[i]? = some (some v) ∧ RepF K Z1 H v d F) (hn : od = none → F = []) :
    SR K Z1 (δ.set i od) (Fs.put i F) σ' H := by
  have g : Go (fun _ => False) Z H Z1 H := Go.new (fun _ _ h => h) hz
  refine ⟨by rw [List.length_set, hl]; exact S.len, fun j d ed => ?_, fun j ed => ?_, fun j => ?_, fun j k a ha hb => ?_, fun j a ha => ?_, zd⟩
  · rw [getD_set _ _ _ _ hi] at ed
    by_cases e : j = i
    · rw [if_pos e] at ed
      subst e
      rw [Fp.put_same]
      exact hd d ed
    · rw [if_neg e] at ed
      rw [Fp.put_ne e, ho j e]
      obtain ⟨v, e1, r⟩ := S.rep j d ed
      exact ⟨v, e1, RepF.go g v d _ r fun _ _ h => h⟩
  · rw [getD_set _ _ _ _ hi] at ed
    by_cases e : j = i
    · rw [if_pos e] at ed
      subst e
      rw [Fp.put_same]
      exact hn ed
    · rw [if_neg e] at ed
      rw [Fp.put_ne e]
      exact S.no j ed
  · by_cases e : j = i
    · subst e; rw [Fp.put_same]; exact nd
    · rw [Fp.put_ne e]; exact S.nd j
  · by_cases e : j = i
    · subst e
      rw [Fp.put_same] at ha
      by_cases e2 : k = j
      · exact e2.symm
      · rw [Fp.put_ne e2] at hb
        exact absurd ha (dj k a e2 hb)
    · rw [Fp.put_ne e] at ha
      by_cases e2 : k = i
      · subst e2
        rw [Fp.put_same] at hb
        exact absurd hb (dj j a e ha)
      · rw [Fp.put_ne e2] at hb
        exact S.dj j k a ha hb
  · by_cases e : j = i
    · subst e; rw [Fp.put_same] at ha; exact mu a ha
    · rw [Fp.put_ne e] at ha
      exact ⟨(S.mu j a ha).1, nz j a e ha⟩
theorem Tr.put {Z Z1 : Addr → Prop} {δ : Ev} {Fs : Fp} {H : Hp} {i : Nat} {od : Option D} {F : List Addr} (hi : od = none ∨ i < δ.length) (hz : ∀ a, Z a → Z1 a) (zf : ∀ a, Z1 a → Z a ∨ a ∈ Fs i) (hf : ∀ a, a ∈ F → a ∈ Fs i) :
    Tr [i] Z δ Fs H Z1 (δ.set i od) (Fs.put i F) H := by
  refine ⟨hz, fun a h => (zf a h).imp id fun q => .inr ⟨i, List.mem_singleton.mpr rfl, q⟩, fun _ _ h _ => h, fun j a ha => ?_, fun j hj => ?_, by rw [List.length_set]⟩
  · by_cases e : j = i
    · subst e; rw [Fp.put_same] at ha; exact .inr (.inl (hf a ha))
    · rw [Fp.put_ne e] at ha; exact .inr (.inl ha)
  · have e : ¬ j = i := fun e => hj (by rw [e]; exact List.mem_singleton.mpr rfl)
    rw [Fp.put_ne e, getD_set _ _ _ _ hi, if_neg e]
    exact ⟨rfl, rfl⟩
section
variable {i : Nat} {x : Str} (hN : X.N[i]? = some x) (hv : Vis X.env.scope x) (hd : (x == ("__debug__" : Str)) = false) (hcd : (x == ("__classdict__" : Str)) = false)
include hN hv hd hcd
theorem v_ok : PE X (.Name x pos) (tE X.K G EX W (.v i)) := by
  refine PE.imp (pe_var hN hv hd hcd) fun σ H Q h => ?_
  obtain ⟨Z, δ, Fs, r, S, e, R⟩ := h
  simp only [denE] at e
  split at e
  · rename_i d ed
    cases some_ok e
    obtain ⟨v, e1, rp⟩ := S.rep i d ed
    refine ⟨v, e1, R v Z Fs H S Tr.refl ⟨Fs i, rp, ?_⟩⟩
    show Own _ _ _ _ _ _ (kap d (some i)) _
    unfold kap
    split
    · rename_i f
      rw [rp.free f]
      exact Own.free
    · exact fun a ha => ha
  · cases e
theorem mv_ok : PE X (.Name x pos) (tE X.K G EX W (.mv i)) := by
  refine PE.imp (pe_var hN hv hd hcd) fun σ H Q h => ?_
  obtain ⟨Z, δ, Fs, r, S, e, R⟩ := h
  simp only [denE] at e
  split at e
  · rename_i d ed
    cases some_ok e
    obtain ⟨v, e1, rp⟩ := S.rep i d ed
    have no : ∀ j a, j ≠ i → a ∈ Fs j → a ∉ ([] : List Addr) := fun _ _ _ _ h => List.not_mem_nil h
    have S1 : SR X.K Z (δ.set i none) (Fs.put i []) σ H := S.put (.inl rfl) (fun _ h => h) S.zd (fun j a _ ha => (S.mu j a ha).2) List.nodup_nil (fun _ h => (List.not_mem_nil h).elim) no rfl (fun _ _ => rfl) (fun _ h => by cases h) fun _ => rfl
    refine ⟨v, e1, R v Z _ H S1 (Tr.put (.inl rfl) (fun _ h => h) (fun _ h => .inl h) fun _ h => (List.not_mem_nil h).elim) ⟨Fs i, rp, S.nd i, S.mu i, fun a ha j q => ?_, fun a ha => .inr ⟨i, List.mem_singleton.mpr rfl, ha⟩⟩⟩
    by_cases e : j = i
    · subst e; rw [Fp.put_same] at q; exact List.not_mem_nil q
    · rw [Fp.put_ne e] at q; exact e (S.dj j i a q ha)
  · cases e
theorem fz_ok : PE X (.Name x pos) (tE X.K G EX W (.fz i)) := by
  refine PE.imp (pe_var hN hv hd hcd) fun σ H Q h => ?_
  obtain ⟨Z, δ, Fs, r, S, e, R⟩ := h
  simp only [denE] at e
  split at e
  · rename_i d ed
    cases some_ok e
    obtain ⟨v, e1, rp⟩ := S.rep i d ed
    have hi := getD_lt ed
    have hz : ∀ a, Z a → Z a ∨ a ∈ Fs i := fun a h => .inl h
    have g : Go (fun _ => False) Z H (fun a => Z a ∨ a ∈ Fs i) H := Go.new (fun _ _ h => h) hz
    have rz : RepF X.K (fun a => Z a ∨ a ∈ Fs i) H v d.frz [] := (RepF.go g v d _ rp fun _ _ h => h).frz fun a ha => .inr ha
    have zd : ∀ a, (Z a ∨ a ∈ Fs i) → H a ≠ none := fun a z => by
      rcases z with z | z
      · exact S.zd a z
      · obtain ⟨w, e⟩ := mut_some (S.mu i a z).1
        rw [e]; exact fun h => by cases h
    have S1 : SR X.K (fun a => Z a ∨ a ∈ Fs i) (δ.set i (some d.frz)) (Fs.put i []) σ H :=
      S.put (.inr hi) hz zd (fun j a e ha z => z.elim (S.mu j a ha).2 fun q => e (S.dj j i a ha q)) List.nodup_nil (fun _ h => (List.not_mem_nil h).elim) (fun _ _ _ _ h => List.not_mem_nil h) rfl (fun _ _ => rfl)
        (fun d2 h => by cases h; exact ⟨v, e1, rz⟩) fun h => by cases h
    exact ⟨v, e1, R v _ _ H S1 (Tr.put (.inr hi) hz (fun _ h => h) fun _ h => (List.not_mem_nil h).elim) ⟨[], rz, Own.free⟩⟩
  · cases e
end
end
end DV


set_option Elab.async false
set_option linter.all false
set_option maxRecDepth 100000
set_option maxHeartbeats 2000000
/-! DI: operators, displays, subscripts, built-ins. -/
namespace DV
open PySem L2
section
variable {G : GCtx} {EX : Exn → XK} {W : WX} {X : Cx} {a' b' c' : Expr} {a b c : E} {pos : Pos}
theorem inl_mem {M1 M2 : List Nat} : ∀ i, i ∈ M1 → i ∈ M1 ++ M2 := fun _ h => List.mem_append_left _ h
theorem inr_mem {M1 M2 : List Nat} : ∀ i, i ∈ M2 → i ∈ M1 ++ M2 := fun _ h => List.mem_append_right _ h
theorem Res.laterV {K : PySem.W.Frag} {σ : St} {Z Z1 : Addr → Prop} {δ δ1 : Ev} {Fs Fs1 : Fp} {H H1 : Hp} {r : R Vr} {M1 M2 : List Nat} {Q : VK} (R : Res K EX W (M1 ++ M2) σ Z δ Fs H (relV K (M1 ++ M2) Fs H) r Q) (t : Tr M1 Z δ Fs H Z1 δ1 Fs1 H1) :
    Res K EX W M2 σ Z1 δ1 Fs1 H1 (relV K M2 Fs1 H1) r Q := R.later t fun _ _ _ _ _ q => relV.later t q
theorem Res.subV {K : PySem.W.Frag} {σ : St} {Z : Addr → Prop} {δ : Ev} {Fs : Fp} {H : Hp} {r : R Vr} {M1 M2 : List Nat} {Q : VK} (R : Res K EX W M1 σ Z δ Fs H (relV K M1 Fs H) r Q) (h : ∀ i, i ∈ M2 → i ∈ M1) :
    Res K EX W M2 σ Z δ Fs H (relV K M2 Fs H) r Q := R.sub h fun _ _ _ _ _ q => relV.sub q h
/-- two operands, then an operation that writes nothing -/
theorem two_ok {K : PySem.W.Frag} {r2 : V → V → Hp → VK → Prop} {f : D → D → Option D} {σ : St} {H : Hp} {Q : VK} {Z : Addr → Prop} {δ : Ev} {Fs : Fp} {r : R Vr} (S : SR K Z δ Fs σ H)
    (e : (bnd (denE G a δ) fun va δ1 => bnd (denE G b δ1) fun vb δ2 => if okPeek va.2 (b.muts G.mu) then match f va.1 vb.1 with
      | some d => some (.ok (d, none) δ2)
      | none => none
      else none) = some r)
    (R : Res K EX W (a.muts G.mu ++ b.muts G.mu) σ Z δ Fs H (relV K (a.muts G.mu ++ b.muts G.mu) Fs H) r Q)
    (ok : ∀ {Z H x y Fa Fb da db d Q}, f da db = some d → RepF K Z H x da Fa → RepF K Z H y db Fb → Fin K Z H d Q → r2 x y H Q) :
    tE K G EX W a σ H fun x H1 => tE K G EX W b σ H1 fun y H2 => r2 x y H2 Q := by
  refine seqE S e R inl_mem fun va δ1 e1 x Z1 Fs1 H1 S1 t1 ra => ?_
  refine seqE S1 e1 (R.laterV t1) (fun _ h => h) fun vb δ2 e2 y Z2 Fs2 H2 S2 t2 rb => ?_
  split at e2
  · rename_i pk
    have ra2 := ra.step S1 t2 pk
    split at e2
    · rename_i d ed
      cases some_ok e2
      obtain ⟨Fa, ha, _⟩ := ra2
      obtain ⟨Fb, hb, _⟩ := rb
      exact ok ed ha hb (R.fin S2 (t1.trans t2))
    · cases e2
  · cases e2
theorem bin_ok {op : Operator} (ha : PE X a' (tE X.K G EX W a)) (hb : PE X b' (tE X.K G EX W b)) : PE X (.BinOp a' op b' pos) (tE X.K G EX W (.bin op a b)) := by
  refine PE.imp (pe_op (binR_ok op) ha hb) fun σ H Q h => ?_
  obtain ⟨Z, δ, Fs, r, S, e, R⟩ := h
  exact two_ok (f := binD op) S e R fun h ra rb f => binD_ok h ra rb f
theorem neg_ok (ha : PE X a' (tE X.K G EX W a)) : PE X (.UnaryOp .USub a' pos) (tE X.K G EX W (.neg a)) := by
  refine PE.imp (pe_un un_neg ha) fun σ H Q h => ?_
  obtain ⟨Z, δ, Fs, r, S, e, R⟩ := h
  refine seqE S e R (fun _ h => h) fun va δ1 e1 x Z1 Fs1 H1 S1 t1 ra => ?_
  split at e1
  · rename_i i ei
    cases some_ok e1
    obtain ⟨F, ra, _⟩ := ra
    rw [ei] at ra
    exact ⟨i, dint ra, (R.fin S1 t1).int⟩
  · cases e1
theorem cmpTwo {op : CmpOp} {σ : St} {H : Hp} {Q : VK} (h : tE X.K G EX W (.cmp op a b) σ H Q) : tOp (cmpR X.K op) (tE X.K G EX W a) (tE X.K G EX W b) σ H Q := by
  obtain ⟨Z, δ, Fs, r, S, e, R⟩ := h
  refine two_ok (f := fun x y => (cmpD op x y).map fun k => .t (.bl k)) S ?_ R fun h ra rb f => ?_
  · rw [← e]
    simp only [denE]
    congr 1
    funext va δ1
    congr 1
    funext vb δ2
    split
    · cases cmpD op va.1 vb.1 <;> rfl
    · rfl
  · simp only [Option.map_eq_some_iff] at h
    obtain ⟨k, h1, h2⟩ := h
    subst h2
    exact cmpD_ok h1 ra rb f.bl
theorem notSet {e : E} {tb : Tb} {c : Sc} {e' : Expr} (h : chkE tb e c e' = true) : ∀ es k p, e' ≠ .Set es k p := by
  intro es k p q
  subst q
  cases e <;> simp [chkE] at h
theorem behind_of {op : CmpOp} {e' : Expr} (h : ∀ es k p, e' ≠ .Set es k p) : behindInMarks op e' = false := by
  cases e' <;> first | rfl | exact absurd rfl (h _ _ _)
theorem cmp_ok {op : CmpOp} (hu : X.A.units + 65 < cLine) (hm : behindInMarks op b' = false) (ha : PE X a' (tE X.K G EX W a)) (hb : PE X b' (tE X.K G EX W b)) : PE X (.Compare a' [op] [b'] pos) (tE X.K G EX W (.cmp op a b)) :=
  PE.imp (pe_cmpR (cmpR_ok hu op) ha hb hm) fun _ _ _ h => cmpTwo h
/-- a test's answer out of a value's -/
theorem tT_val {K : PySem.W.Frag} {e : E} {σ : St} {H : Hp} {Q : Bool → Hp → Prop} (h : tT K G EX W e σ H Q) : tE K G EX W e σ H fun v H1 => ∃ Z d F b, RepF K Z H1 v d F ∧ truth d = some b ∧ Q b H1 := by
  obtain ⟨Z, δ, Fs, r, S, e, R⟩ := h
  refine seqE S e R (fun _ h => h) fun va δ1 e1 x Z1 Fs1 H1 S1 t1 ra => ?_
  unfold truR at e1
  split at e1
  · rename_i b eb
    cases some_ok e1
    obtain ⟨F, ra, _⟩ := ra
    exact ⟨Z1, _, F, b, ra, eb, R b Z1 Fs1 H1 S1 t1 rfl⟩
  · cases e1
theorem truthT {e : E} {e' : Expr} (h : PE X e' (tE X.K G EX W e)) (he : ∀ whole, isTrue e' X.env whole = (do let v ← whole; standAt e'.pos; holding [v] (truthy v))) : PT X e' (tT X.K G EX W e) := by
  refine PT.imp (pt_truth h he) fun σ H Q q => ?_
  obtain ⟨Z, δ, Fs, r, S, e1, R⟩ := tT_val q
  refine ⟨Z, δ, Fs, r, S, e1, ?_⟩
  cases r with
  | ok x δ1 =>
    intro v Z' Fs' H' S' t rv
    obtain ⟨Z2, d, F, b, r1, r2, r3⟩ := R v Z' Fs' H' S' t rv
    exact ⟨b, truth_ok r2 r1, r3⟩
  | ex x δ1 => exact R
theorem cmpT {op : CmpOp} (hu : X.A.units + 65 < cLine) (hm : behindInMarks op b' = false) (ha : PE X a' (tE X.K G EX W a)) (hb : PE X b' (tE X.K G EX W b)) : PT X (.Compare a' [op] [b'] pos) (tT X.K G EX W (.cmp op a b)) := by
  refine PT.imp (pt_cmpR (cmpR_ok hu op) ha hb hm) fun σ H Q q => ?_
  have h := tT_val q
  refine cmpTwo ?_
  obtain ⟨Z, δ, Fs, r, S, e1, R⟩ := h
  refine ⟨Z, δ, Fs, r, S, e1, ?_⟩
  cases r with
  | ok x δ1 =>
    intro v Z' Fs' H' S' t rv
    obtain ⟨Z2, d, F, b, r1, r2, r3⟩ := R v Z' Fs' H' S' t rv
    have hx : ∃ k, x = (.t (.bl k), none) := by
      simp only [denE] at e1
      rcases bnd_some e1 with ⟨_, _, _, q⟩ | ⟨va, δ2, _, e2⟩
      · cases q
      rcases bnd_some e2 with ⟨_, _, _, q⟩ | ⟨vb, δ3, _, e3⟩
      · cases q
      split at e3
      · split at e3
        · rename_i k _
          injection e3 with e3
          injection e3 with e3
          exact ⟨k, e3.symm⟩
        · cases e3
      · cases e3
    obtain ⟨k, rfl⟩ := hx
    obtain ⟨F2, rv, _⟩ := rv
    have e5 := dbl rv
    subst e5
    have hb := truth_ok r2 r1
    have hb : b = k := hb
    subst hb
    exact ⟨b, rfl, r3⟩
  | ex x δ1 => exact R
end
end DV


set_option Elab.async false
set_option linter.all false
set_option maxRecDepth 100000
set_option maxHeartbeats 2000000
/-! DJ: chains, and, or, not, if; tests of these. -/
namespace DV
open PySem L2
section
variable {G : GCtx} {EX : Exn → XK} {W : WX} {X : Cx} {a' b' c' : Expr} {a b c : E} {pos : Pos}
theorem tT_bl {K : PySem.W.Frag} {e : E} {σ : St} {H : Hp} {Q : Bool → Hp → Prop} (h : tT K G EX W e σ H Q) (hb : ∀ δ x δ1, denE G e δ = some (.ok x δ1) → ∃ k, x = (.t (.bl k), none)) : tE K G EX W e σ H fun v H1 => ∃ k, v = .bl k ∧ Q k H1 := by
  obtain ⟨Z, δ, Fs, r, S, e1, R⟩ := tT_val h
  refine ⟨Z, δ, Fs, r, S, e1, ?_⟩
  cases r with
  | ok x δ1 =>
    intro v Z' Fs' H' S' t rv
    obtain ⟨Z2, d, F, b, r1, r2, r3⟩ := R v Z' Fs' H' S' t rv
    obtain ⟨k, rfl⟩ := hb _ _ _ e1
    obtain ⟨F2, rv, _⟩ := rv
    have e5 := dbl rv
    subst e5
    have hb : b = k := truth_ok r2 r1
    subst hb
    exact ⟨b, rfl, r3⟩
  | ex x δ1 => exact R
theorem chnTwo {op op' : CmpOp} {σ : St} {H : Hp} {Q : VK} (h : tE X.K G EX W (.chn op op' a b c) σ H Q) : tChain (cmpR X.K op) (cmpR X.K op') (tE X.K G EX W a) (tE X.K G EX W b) (tE X.K G EX W c) σ H Q := by
  obtain ⟨Z, δ, Fs, r, S, e, R⟩ := h
  simp only [denE] at e
  refine seqE S e R inl_mem fun va δ1 e1 x Z1 Fs1 H1 S1 t1 ra => ?_
  have R1 := R.laterV t1
  refine seqE S1 e1 R1 inl_mem fun vb δ2 e2 y Z2 Fs2 H2 S2 t2 rb => ?_
  have R2 := R1.laterV t2
  split at e2
  · rename_i pk
    simp only [Bool.and_eq_true] at pk
    have ra2 := ra.step S1 t2 pk.1
    obtain ⟨Fa, ha, _⟩ := ra2
    have rb2 := rb
    obtain ⟨Fb, hb, _⟩ := rb2
    split at e2
    · rename_i ek
      refine cmpD_ok ek ha hb ⟨true, rfl, ?_⟩
      rw [if_pos rfl]
      refine seqE S2 e2 R2 (fun _ h => h) fun vc δ3 e3 z Z3 Fs3 H3 S3 t3 rc => ?_
      have rb3 := rb.step S2 t3 pk.2
      obtain ⟨Fb, hb, _⟩ := rb3
      obtain ⟨Fc, hc, _⟩ := rc
      split at e3
      · rename_i k ek2
        cases some_ok e3
        exact cmpD_ok ek2 hb hc (R2.fin S3 t3).bl
      · cases e3
    · rename_i ek
      cases some_ok e2
      refine cmpD_ok ek ha hb ⟨false, rfl, ?_⟩
      rw [if_neg Bool.false_ne_true]
      exact (R2.fin S2 (Tr.refl.mono fun _ h => (List.not_mem_nil h).elim)).bl
    · cases e2
  · cases e2
theorem chn_ok {op op' : CmpOp} (hu : X.A.units + 65 < cLine) (hm : behindInMarks op' c' = false) (ha : PE X a' (tE X.K G EX W a)) (hb : PE X b' (tE X.K G EX W b)) (hc : PE X c' (tE X.K G EX W c)) : PE X (.Compare a' [op, op'] [b', c'] pos) (tE X.K G EX W (.chn op op' a b c)) :=
  PE.imp (pe_chain (cmpR_ok hu op) (cmpR_ok hu op') ha hb hc hm) fun _ _ _ h => chnTwo h
theorem chnT {op op' : CmpOp} (hu : X.A.units + 65 < cLine) (hm : behindInMarks op' c' = false) (ha : PE X a' (tE X.K G EX W a)) (hb : PE X b' (tE X.K G EX W b)) (hc : PE X c' (tE X.K G EX W c)) : PT X (.Compare a' [op, op'] [b', c'] pos) (tT X.K G EX W (.chn op op' a b c)) := by
  refine PT.imp (pt_chain (cmpR_ok hu op) (cmpR_ok hu op') ha hb hc hm) fun σ H Q h => chnTwo (tT_bl h fun δ x δ1 e => ?_)
  simp only [denE] at e
  rcases bnd_some e with ⟨_, _, _, q⟩ | ⟨va, δ2, _, e2⟩
  · cases q
  rcases bnd_some e2 with ⟨_, _, _, q⟩ | ⟨vb, δ3, _, e3⟩
  · cases q
  split at e3
  · split at e3
    · rcases bnd_some e3 with ⟨_, _, _, q⟩ | ⟨vc, δ4, _, e4⟩
      · cases q
      split at e4
      · rename_i k _
        injection e4 with e4
        injection e4 with e4
        exact ⟨k, e4.symm⟩
      · cases e4
    · injection e3 with e3
      injection e3 with e3
      exact ⟨_, e3.symm⟩
    · cases e3
  · cases e3
theorem and_ok {b0 : Expr} {r : List Expr} (ha : PE X a' (tE X.K G EX W a)) (hb : PE X (.BoolOp .And (b0 :: r) pos) (tE X.K G EX W b)) : PE X (.BoolOp .And (a' :: b0 :: r) pos) (tE X.K G EX W (.and a b)) := by
  refine PE.imp (pe_andT ha hb) fun σ H Q h => ?_
  obtain ⟨Z, δ, Fs, r, S, e, R⟩ := h
  simp only [denE] at e
  refine seqE S e R inl_mem fun va δ1 e1 x Z1 Fs1 H1 S1 t1 ra => ?_
  obtain ⟨F, ra1, ra2⟩ := id ra
  split at e1
  · rename_i k
    refine ⟨true, truth_ok k ra1, ?_⟩
    rw [if_pos rfl]
    exact ⟨Z1, δ1, Fs1, r, S1, e1, R.laterV t1⟩
  · rename_i k
    cases some_ok e1
    refine ⟨false, truth_ok k ra1, ?_⟩
    rw [if_neg Bool.false_ne_true]
    exact R x Z1 Fs1 H1 S1 (t1.mono inl_mem) (ra.sub inl_mem)
  · cases e1
theorem or_ok {b0 : Expr} {r : List Expr} (ha : PE X a' (tE X.K G EX W a)) (hb : PE X (.BoolOp .Or (b0 :: r) pos) (tE X.K G EX W b)) : PE X (.BoolOp .Or (a' :: b0 :: r) pos) (tE X.K G EX W (.or a b)) := by
  refine PE.imp (pe_orT ha hb) fun σ H Q h => ?_
  obtain ⟨Z, δ, Fs, r, S, e, R⟩ := h
  simp only [denE] at e
  refine seqE S e R inl_mem fun va δ1 e1 x Z1 Fs1 H1 S1 t1 ra => ?_
  obtain ⟨F, ra1, ra2⟩ := id ra
  split at e1
  · rename_i k
    cases some_ok e1
    refine ⟨true, truth_ok k ra1, ?_⟩
    rw [if_pos rfl]
    exact R x Z1 Fs1 H1 S1 (t1.mono inl_mem) (ra.sub inl_mem)
  · rename_i k
    refine ⟨false, truth_ok k ra1, ?_⟩
    rw [if_neg Bool.false_ne_true]
    exact ⟨Z1, δ1, Fs1, r, S1, e1, R.laterV t1⟩
  · cases e1
theorem not_ok (ha : PE X a' (tE X.K G EX W a)) : PE X (.UnaryOp .Not a' pos) (tE X.K G EX W (.not a)) := by
  refine PE.imp (pe_notT ha) fun σ H Q h => ?_
  obtain ⟨Z, δ, Fs, r, S, e, R⟩ := h
  simp only [denE] at e
  refine seqE S e R (fun _ h => h) fun va δ1 e1 x Z1 Fs1 H1 S1 t1 ra => ?_
  obtain ⟨F, ra1, ra2⟩ := id ra
  split at e1
  · rename_i k ek
    cases some_ok e1
    exact ⟨k, truth_ok ek ra1, (R.fin S1 t1).bl⟩
  · cases e1
/-- tests -/
theorem PW.of_and {es : List Expr} {op : BoolOp} {t : TT} (h : PT X (.BoolOp op es pos) t) : PW X (.BoolOp op es pos) t := ⟨fun whole pins s σ H Q I q => h.run pins s σ H Q I q⟩
theorem andT_den {δ : Ev} {r : R Bool} (h : denT G (.and a b) δ = some r) : bnd (denT G a δ) (fun k δ1 => if k = true then denT G b δ1 else some (.ok false δ1)) = some r := by
  unfold denT at h ⊢
  simp only [denE] at h
  rcases bnd_some h with ⟨x, δ', e, e2⟩ | ⟨vx, δ', e, e2⟩
  · rcases bnd_some e with ⟨y, δ2, e3, e4⟩ | ⟨va, δ2, e3, e4⟩
    · subst e2
      cases e4
      rw [e3]; rfl
    · rw [e3]
      simp only [bnd, truR]
      split at e4
      · rename_i k
        rw [k]
        simp only [if_true]
        rw [e4]
        subst e2
        rfl
      · cases e4
      · cases e4
  · rcases bnd_some e with ⟨y, δ2, e3, e4⟩ | ⟨va, δ2, e3, e4⟩
    · cases e4
    · rw [e3]
      simp only [bnd, truR]
      split at e4
      · rename_i k
        rw [k]
        simp only [if_true]
        rw [e4]
        exact e2
      · rename_i k
        cases some_ok e4
        unfold truR at e2
        rw [k] at e2 ⊢
        simp only [Bool.false_eq_true, if_false]
        exact e2
      · cases e4
theorem orT_den {δ : Ev} {r : R Bool} (h : denT G (.or a b) δ = some r) : bnd (denT G a δ) (fun k δ1 => if k = true then some (.ok true δ1) else denT G b δ1) = some r := by
  unfold denT at h ⊢
  simp only [denE] at h
  rcases bnd_some h with ⟨x, δ', e, e2⟩ | ⟨vx, δ', e, e2⟩
  · rcases bnd_some e with ⟨y, δ2, e3, e4⟩ | ⟨va, δ2, e3, e4⟩
    · subst e2
      cases e4
      rw [e3]; rfl
    · rw [e3]
      simp only [bnd, truR]
      split at e4
      · cases e4
      · rename_i k
        rw [k]
        simp only [Bool.false_eq_true, if_false]
        rw [e4]
        subst e2
        rfl
      · cases e4
  · rcases bnd_some e with ⟨y, δ2, e3, e4⟩ | ⟨va, δ2, e3, e4⟩
    · cases e4
    · rw [e3]
      simp only [bnd, truR]
      split at e4
      · rename_i k
        cases some_ok e4
        unfold truR at e2
        rw [k] at e2 ⊢
        simp only [if_true]
        exact e2
      · rename_i k
        rw [k]
        simp only [Bool.false_eq_true, if_false]
        rw [e4]
        exact e2
      · cases e4
theorem notT_den {δ : Ev} {r : R Bool} (h : denT G (.not a) δ = some r) : bnd (denT G a δ) (fun k δ1 => some (.ok (!k) δ1)) = some r := by
  unfold denT at h ⊢
  simp only [denE] at h
  rcases bnd_some h with ⟨x, δ', e, e2⟩ | ⟨vx, δ', e, e2⟩
  · rcases bnd_some e with ⟨y, δ2, e3, e4⟩ | ⟨va, δ2, e3, e4⟩
    · subst e2
      cases e4
      rw [e3]; rfl
    · split at e4 <;> cases e4
  · rcases bnd_some e with ⟨y, δ2, e3, e4⟩ | ⟨va, δ2, e3, e4⟩
    · cases e4
    · rw [e3]
      simp only [bnd, truR]
      split at e4
      · rename_i k ek
        cases some_ok e4
        unfold truR at e2
        simp only [truth] at e2
        exact e2
      · cases e4
theorem Res.laterB {K : PySem.W.Frag} {σ : St} {Z Z1 : Addr → Prop} {δ δ1 : Ev} {Fs Fs1 : Fp} {H H1 : Hp} {r : R Bool} {M1 M2 : List Nat} {Q : Bool → Hp → Prop} (R : Res K EX W (M1 ++ M2) σ Z δ Fs H relB r Q) (t : Tr M1 Z δ Fs H Z1 δ1 Fs1 H1) :
    Res K EX W M2 σ Z1 δ1 Fs1 H1 relB r Q := R.later t fun _ _ _ _ _ q => q
theorem andT {b0 : Expr} {r : List Expr} (ha : PT X a' (tT X.K G EX W a)) (hb : PW X (.BoolOp .And (b0 :: r) pos) (tT X.K G EX W b)) : PT X (.BoolOp .And (a' :: b0 :: r) pos) (tT X.K G EX W (.and a b)) := by
  refine PT.imp (pw_and ha hb).pt fun σ H Q h => ?_
  obtain ⟨Z, δ, Fs, r, S, e, R⟩ := h
  refine seqT S (andT_den e) R inl_mem fun k δ1 e1 Z1 Fs1 H1 S1 t1 => ?_
  cases k with
  | true =>
    rw [if_pos rfl] at e1 ⊢
    exact ⟨Z1, δ1, Fs1, r, S1, e1, R.laterB t1⟩
  | false =>
    rw [if_neg Bool.false_ne_true] at e1 ⊢
    cases some_ok e1
    exact R false Z1 Fs1 H1 S1 (t1.mono inl_mem) rfl
theorem orT {b0 : Expr} {r : List Expr} (ha : PT X a' (tT X.K G EX W a)) (hb : PW X (.BoolOp .Or (b0 :: r) pos) (tT X.K G EX W b)) : PT X (.BoolOp .Or (a' :: b0 :: r) pos) (tT X.K G EX W (.or a b)) := by
  refine PT.imp (pw_or ha hb).pt fun σ H Q h => ?_
  obtain ⟨Z, δ, Fs, r, S, e, R⟩ := h
  refine seqT S (orT_den e) R inl_mem fun k δ1 e1 Z1 Fs1 H1 S1 t1 => ?_
  cases k with
  | true =>
    rw [if_pos rfl] at e1 ⊢
    cases some_ok e1
    exact R true Z1 Fs1 H1 S1 (t1.mono inl_mem) rfl
  | false =>
    rw [if_neg Bool.false_ne_true] at e1 ⊢
    exact ⟨Z1, δ1, Fs1, r, S1, e1, R.laterB t1⟩
theorem notT (ha : PT X a' (tT X.K G EX W a)) : PT X (.UnaryOp .Not a' pos) (tT X.K G EX W (.not a)) := by
  refine PT.imp (pt_not ha) fun σ H Q h => ?_
  obtain ⟨Z, δ, Fs, r, S, e, R⟩ := h
  refine seqT S (notT_den e) R (fun _ h => h) fun k δ1 e1 Z1 Fs1 H1 S1 t1 => ?_
  cases some_ok e1
  exact R (!k) Z1 Fs1 H1 S1 t1 rfl
theorem ite_ok (hc : PT X c' (tT X.K G EX W c)) (ha : PE X a' (tE X.K G EX W a)) (hb : PE X b' (tE X.K G EX W b)) : PE X (.IfExp c' a' b' pos) (tE X.K G EX W (.ite c a b)) := by
  refine PE.imp (pe_ifExp hc ha hb) fun σ H Q h => ?_
  obtain ⟨Z, δ, Fs, r, S, e, R⟩ := h
  have e' : bnd (denT G c δ) (fun k δ1 => if k = true then denE G a δ1 else denE G b δ1) = some r := by
    unfold denT
    simp only [denE] at e
    rcases bnd_some e with ⟨x, δ', e3, e2⟩ | ⟨vx, δ', e3, e2⟩
    · rw [e3, e2]; rfl
    · rw [e3]
      simp only [bnd, truR]
      split at e2
      · rename_i k; rw [k]; simp only [if_true]; exact e2
      · rename_i k; rw [k]; simp only [Bool.false_eq_true, if_false]; exact e2
      · cases e2
  refine seqT S e' R inl_mem fun k δ1 e1 Z1 Fs1 H1 S1 t1 => ?_
  have R1 := R.laterV t1
  cases k with
  | true =>
    rw [if_pos rfl] at e1 ⊢
    exact ⟨Z1, δ1, Fs1, r, S1, e1, R1.subV inl_mem⟩
  | false =>
    rw [if_neg Bool.false_ne_true] at e1 ⊢
    exact ⟨Z1, δ1, Fs1, r, S1, e1, R1.subV inr_mem⟩
end
end DV


set_option Elab.async false
set_option linter.all false
set_option maxRecDepth 100000
set_option maxHeartbeats 2000000
/-! DK: arguments, displays, subscripts, built-ins. -/
namespace DV
open PySem L2
section
variable {G : GCtx} {EX : Exn → XK} {W : WX} {X : Cx} {a' b' c' : Expr} {a b c : E} {pos : Pos} {K : PySem.W.Frag}
/-! ### values in a row -/
theorem RVs.go {σ : St} {Z Z' : Addr → Prop} {Fs Fs' : Fp} {H H' : Hp} {B : Addr → Prop} (g : Go B Z H Z' H') : ∀ {es : Es} {vs : List V} {ws : List Vr} {A : List Addr}, RVs K σ Z Fs H es vs ws A → (∀ a, a ∈ A → ¬ B a) →
    (∀ q, (∃ w, w ∈ ws ∧ w.2 = some q) → Fs' q = Fs q ∧ ∀ a, a ∈ Fs q → ¬ B a) → RVs K σ Z' Fs' H' es vs ws A
  | .nil, vs, ws, A, h, _, _ => h
  | .cons e es, vs, ws, A, h, hA, hq => by
    unfold RVs at h ⊢
    obtain ⟨v, r, d, κ, s, e1, e2, e3, h⟩ := h
    refine ⟨v, r, d, κ, s, e1, e2, e3, ?_⟩
    cases κ with
    | none =>
      obtain ⟨F, A', e4, h1, h2⟩ := h
      subst e4
      refine ⟨F, A', rfl, RepF.go g v d F h1 fun a ha => hA a (List.mem_append_left _ ha), RVs.go g h2 (fun a ha => hA a (List.mem_append_right _ ha)) fun q hw => hq q ?_⟩
      obtain ⟨w, hw, e5⟩ := hw
      exact ⟨w, by rw [e2]; exact List.mem_cons_of_mem _ hw, e5⟩
    | some q =>
      obtain ⟨⟨F, h1, h3⟩, h2⟩ := h
      obtain ⟨f1, f2⟩ := hq q ⟨(d, some q), by rw [e2]; exact List.mem_cons_self, rfl⟩
      refine ⟨⟨F, RepF.go g v d F h1 fun a ha => f2 a (h3 a ha), fun a ha => by rw [f1]; exact h3 a ha⟩, RVs.go g h2 hA fun q hw => hq q ?_⟩
      obtain ⟨w, hw, e5⟩ := hw
      exact ⟨w, by rw [e2]; exact List.mem_cons_of_mem _ hw, e5⟩
theorem okPeek_mem {q : Nat} {M : List Nat} (h : okPeek (some q) M = true) : q ∉ M := by simpa [okPeek] using h
theorem esNil : PA X [] (tEs X.K G EX W .nil) := by
  refine PA.imp pa_nil fun σ H Q h => ?_
  obtain ⟨Z, δ, Fs, r, S, e, R⟩ := h
  cases some_ok e
  exact R [] Z Fs H S Tr.refl ⟨[], ⟨rfl, rfl, rfl⟩, OwnA.nil⟩
theorem esCons {e : E} {es : Es} {e' : Expr} {es' : List Expr} (he : PE X e' (tE X.K G EX W e)) (hs : PA X es' (tEs X.K G EX W es)) (hst : starEach (e' :: es') X.env = (false, eval e' X.env) :: starEach es' X.env)
    (hvar : ∀ i, e = .v i → ∃ x p, e' = .Name x p ∧ X.N[i]? = some x ∧ Vis X.env.scope x ∧ (x == ("__debug__" : Str)) = false ∧ (x == ("__classdict__" : Str)) = false) : PA X (e' :: es') (tEs X.K G EX W (.cons e es)) := by
  -- a name's value is what its slot holds
  have he2 : PE X e' (fun σ H Q => tE X.K G EX W e σ H fun v H1 => (∀ i, e = .v i → σ[i]? = some (some v)) → Q v H1) := by
    by_cases hv : ∃ i, e = .v i
    · obtain ⟨i, rfl⟩ := hv
      obtain ⟨x, p, rfl, h1, h2, h3, h4⟩ := hvar i rfl
      refine PE.imp (pe_var h1 h2 h3 h4) fun σ H Q h => ?_
      obtain ⟨Z, δ, Fs, r, S, e1, R⟩ := h
      simp only [denE] at e1
      split at e1
      · rename_i d ed
        cases some_ok e1
        obtain ⟨v, e2, rp⟩ := S.rep i d ed
        refine ⟨v, e2, R v Z Fs H S Tr.refl ⟨Fs i, rp, ?_⟩ fun j hj => ?_⟩
        · show Own _ _ _ _ _ _ (kap d (some i)) _
          unfold kap
          split
          · rename_i f
            rw [rp.free f]
            exact Own.free
          · exact fun a ha => ha
        · cases hj; exact e2
      · cases e1
    · refine PE.imp he fun σ H Q h => ?_
      obtain ⟨Z, δ, Fs, r, S, e1, R⟩ := h
      refine ⟨Z, δ, Fs, r, S, e1, ?_⟩
      cases r with
      | ok x δ1 => exact fun v Z' Fs' H' S' t q => R v Z' Fs' H' S' t q fun i hi => absurd ⟨i, hi⟩ hv
      | ex x δ1 => exact R
  refine PA.imp (pa_cons he2 hs hst) fun σ H Q h => ?_
  obtain ⟨Z, δ, Fs, r, S, e1, R⟩ := h
  simp only [denEs] at e1
  refine seqE' S e1 R inl_mem fun va δ1 e0 e2 x Z1 Fs1 H1 S1 t1 ra hx => ?_
  have hk : ∀ i, e = .v i → ∀ q, va.2 = some q → q = i := fun i hi q hq => by
    subst hi
    simp only [denE] at e0
    split at e0
    · injection e0 with e0
      injection e0 with e0
      subst e0
      simp only [kap] at hq
      split at hq
      · cases hq
      · injection hq with hq; exact hq.symm
    · cases e0
  refine seqEs (r := r) (M := es.muts G.mu) (rel := fun Z' Fs' H' v a => relVs X.K σ (.cons e es) (e.muts G.mu ++ es.muts G.mu) Fs H Z' Fs' H' v a) S1 e2 (R.later t1 fun _ _ _ _ _ q => q) (fun _ h => h) fun vb δ2 e3 y Z2 Fs2 H2 S2 t2 rb => ?_
  split at e3
  · rename_i pk
    cases some_ok e3
    obtain ⟨A, rb1, rb2⟩ := rb
    obtain ⟨d, κ⟩ := va
    obtain ⟨F, f1, f2⟩ := ra
    cases κ with
    | none =>
      refine R (x :: y) Z2 Fs2 H2 S2 (t1.trans t2) ⟨F ++ A, ?_, OwnA.join S1 t1 t2 f2 rb2⟩
      unfold RVs
      exact ⟨x, y, d, none, vb, rfl, rfl, fun i hi => ⟨hx i hi, hk i hi⟩, F, A, rfl, f1.step S1 f2 t2 pk, rb1⟩
    | some q =>
      refine R (x :: y) Z2 Fs2 H2 S2 (t1.trans t2) ⟨A, ?_, Own.later (κ := none) t1 rb2⟩
      unfold RVs
      exact ⟨x, y, d, some q, vb, rfl, rfl, fun i hi => ⟨hx i hi, hk i hi⟩, ⟨F, f1.step S1 f2 t2 pk, Own.step (κ := some q) S1 f2 t2 pk⟩, rb1⟩
  · cases e3
/-- the values as data: all that they own that no slot holds, and what slots hold -/
theorem RVs.reps {σ : St} {Z : Addr → Prop} {Fs : Fp} {H : Hp} : ∀ {es : Es} {vs : List V} {ws : List Vr} {A : List Addr}, RVs K σ Z Fs H es vs ws A → ∃ F, RepFs K Z H vs (ws.map (·.1)) F
  | .nil, vs, ws, A, h => by
    obtain ⟨e1, e2, _⟩ := h
    subst e1 e2
    exact ⟨[], rfl, rfl⟩
  | .cons e es, vs, ws, A, h => by
    unfold RVs at h
    obtain ⟨v, r, d, κ, s, e1, e2, e3, h⟩ := h
    subst e1 e2
    cases κ with
    | none =>
      obtain ⟨F, A', e4, h1, h2⟩ := h
      obtain ⟨F2, h3⟩ := RVs.reps h2
      refine ⟨F ++ F2, ?_⟩
      show RepFs K Z H (v :: r) (d :: s.map (·.1)) _
      unfold RepFs
      exact ⟨v, r, F, F2, rfl, rfl, h1, h3⟩
    | some q =>
      obtain ⟨⟨F, h1, _⟩, h2⟩ := h
      obtain ⟨F2, h3⟩ := RVs.reps h2
      refine ⟨F ++ F2, ?_⟩
      show RepFs K Z H (v :: r) (d :: s.map (·.1)) _
      unfold RepFs
      exact ⟨v, r, F, F2, rfl, rfl, h1, h3⟩
theorem RVs.repsA {σ : St} {Z : Addr → Prop} {Fs : Fp} {H : Hp} : ∀ {es : Es} {vs : List V} {ws : List Vr} {A : List Addr}, RVs K σ Z Fs H es vs ws A → ws.all (fun v => v.2.isNone) = true → RepFs K Z H vs (ws.map (·.1)) A
  | .nil, vs, ws, A, h, n => by
    obtain ⟨e1, e2, e3⟩ := h
    subst e1 e2 e3
    exact ⟨rfl, rfl⟩
  | .cons e es, vs, ws, A, h, n => by
    unfold RVs at h
    obtain ⟨v, r, d, κ, s, e1, e2, e3, h⟩ := h
    subst e1 e2
    simp only [List.all_cons, Bool.and_eq_true] at n
    cases κ with
    | none =>
      obtain ⟨F, A', e4, h1, h2⟩ := h
      subst e4
      show RepFs K Z H (v :: r) (d :: s.map (·.1)) _
      unfold RepFs
      exact ⟨v, r, F, A', rfl, rfl, h1, RVs.repsA h2 n.2⟩
    | some q => exact absurd n.1 (by simp)
theorem RVs.length {σ : St} {Z : Addr → Prop} {Fs : Fp} {H : Hp} : ∀ {es : Es} {vs : List V} {ws : List Vr} {A : List Addr}, RVs K σ Z Fs H es vs ws A → vs.length = ws.length
  | .nil, vs, ws, A, h => by
    obtain ⟨e1, e2, _⟩ := h
    subst e1 e2
    rfl
  | .cons e es, vs, ws, A, h => by
    unfold RVs at h
    obtain ⟨v, r, d, κ, s, e1, e2, e3, h⟩ := h
    subst e1 e2
    cases κ with
    | none =>
      obtain ⟨F, A', e4, h1, h2⟩ := h
      rw [List.length_cons, List.length_cons, RVs.length h2]
    | some q =>
      obtain ⟨_, h2⟩ := h
      rw [List.length_cons, List.length_cons, RVs.length h2]
/-! ### displays -/
theorem tup_ok {es : Es} {es' : List Expr} {x1 : Nat} (hs : PA X es' (tEs X.K G EX W es)) : PE X (.Tuple es' x1 pos) (tE X.K G EX W (.tup es)) := by
  refine PE.imp (pe_tup hs) fun σ H Q h => ?_
  obtain ⟨Z, δ, Fs, r, S, e, R⟩ := h
  simp only [denE] at e
  refine seqEs S e R (fun _ h => h) fun vb δ2 e3 y Z2 Fs2 H2 S2 t2 rb => ?_
  obtain ⟨A, rb1, rb2⟩ := rb
  split at e3
  · rename_i ts et
    split at e3
    · rename_i hl
      cases some_ok e3
      obtain ⟨F, rf⟩ := rb1.reps
      obtain ⟨_, rt, _⟩ := rf.ts et
      exact ⟨by rw [rt.length]; exact hl, fun p n => (R.fin S2 t2).tup rt n⟩
    · cases e3
  · cases e3
theorem lst_ok {es : Es} {es' : List Expr} (hs : PA X es' (tEs X.K G EX W es)) : PE X (.List es' pos) (tE X.K G EX W (.lst es)) := by
  refine PE.imp (pe_lst hs) fun σ H Q h => ?_
  obtain ⟨Z, δ, Fs, r, S, e, R⟩ := h
  simp only [denE] at e
  refine seqEs S e R (fun _ h => h) fun vb δ2 e3 y Z2 Fs2 H2 S2 t2 rb => ?_
  obtain ⟨A, rb1, rb2⟩ := rb
  split at e3
  · rename_i c
    simp only [Bool.and_eq_true, decide_eq_true_eq] at c
    cases some_ok e3
    have rf := rb1.repsA c.1
    refine ⟨by rw [rb1.length]; exact c.2, fun p n => ?_⟩
    obtain ⟨S3, u⟩ := S2.grow (H1 := upd H2 p (.lst y)) fun a o h => by rw [upd_ne (ne_of_none h n)]; exact h
    refine R (.ref p) Z2 Fs2 _ S3 ((t2.trans u).mono fun i hi => (List.mem_append.mp hi).elim id fun h => (List.not_mem_nil h).elim) ⟨p :: A, ?_, OwnA.new S2 rb2 t2 n trivial⟩
    show RepF X.K Z2 _ _ (D.lst (vb.map (·.1))) _
    unfold RepF
    have g : Go (fun _ => False) Z2 H2 Z2 (upd H2 p (.lst y)) := Go.upd n
    exact ⟨p, y, A, rfl, upd_same, rfl, RepFs.go g _ _ _ rf fun _ _ h => h⟩
  · cases e3
/-! ### a[i], a[lo:hi] -/
theorem plainIx (h : ∀ lo hi st p, b' ≠ .Slice lo hi st p) : PlainIx b' := by
  intro o i
  cases b' <;> first | rfl | exact absurd rfl (h _ _ _ _)
theorem Own.sub {M : List Nat} {Fs Fs' : Fp} {H H' : Hp} {Z' : Addr → Prop} {κ : Option Nat} {F F1 : List Addr} (o : Own M Fs H Z' Fs' H' κ F) (h : F1.Sublist F) : Own M Fs H Z' Fs' H' κ F1 := by
  cases κ with
  | none => exact OwnA.sub o h
  | some r => exact fun a ha => o a (h.subset ha)
theorem Own.kap {M : List Nat} {Fs Fs' : Fp} {H H' : Hp} {Z' : Addr → Prop} {κ : Option Nat} {F : List Addr} {d : D} {v : V} (o : Own M Fs H Z' Fs' H' κ F) (r : RepF K Z' H' v d F) : Own M Fs H Z' Fs' H' (kap d κ) F := by
  unfold DV.kap
  split
  · rename_i f
    rw [r.free f]
    exact Own.free
  · exact o
theorem ix_ok (hs : ∀ lo hi st p, b' ≠ .Slice lo hi st p) (ha : PE X a' (tE X.K G EX W a)) (hb : PE X b' (tE X.K G EX W b)) : PE X (.Subscript a' b' pos) (tE X.K G EX W (.ix a b)) := by
  refine PE.imp (pe_ix ix_seq ha hb (plainIx hs)) fun σ H Q h => ?_
  obtain ⟨Z, δ, Fs, r, S, e, R⟩ := h
  simp only [denE] at e
  refine seqE S e R inl_mem fun va δ1 e1 x Z1 Fs1 H1 S1 t1 ra => ?_
  refine seqE S1 e1 (R.laterV t1) (fun _ h => h) fun vb δ2 e2 y Z2 Fs2 H2 S2 t2 rb => ?_
  split at e2
  · rename_i pk
    have ra2 := ra.step S1 t2 pk
    split at e2
    · rename_i d ed
      cases some_ok e2
      obtain ⟨Fa, ha, oa⟩ := ra2
      obtain ⟨Fb, hb, _⟩ := rb
      exact ixD_ok ed ha hb fun v F rf sb => R v Z2 Fs2 H2 S2 (t1.trans t2) ⟨F, rf, (oa.sub sb).kap rf⟩
    · cases e2
  · cases e2
theorem isNo_den {e : E} (h : e.isNo = true) : e = .no := by cases e <;> first | rfl | cases h
theorem intR_ok {va : Vr} {δ δ1 : Ev} {l : Option Int} (h : intR va δ = some (.ok l δ1)) : ∃ i, va.1 = .t (.int i) ∧ l = some i ∧ δ1 = δ := by
  unfold intR at h
  split at h
  · rename_i i e
    injection h with h
    injection h with h1 h2
    exact ⟨i, e, h1.symm, h2.symm⟩
  · cases h
theorem intR_ex {va : Vr} {δ δ1 : Ev} {x : Exn} : intR va δ ≠ some (.ex x δ1) := by
  intro h
  unfold intR at h
  split at h <;> cases h
/-- a part of a slice, then more -/
theorem seqO {α β : Type} {e : E} {e' : Option Expr} {to : TO} {f : Option Int → Ev → M α} {r : R α} {M : List Nat} {rel : (Addr → Prop) → Fp → Hp → β → α → Prop} {Q : β → Hp → Prop} {P : Option Int → Hp → Prop} {σ : St} {Z : Addr → Prop} {δ : Ev} {Fs : Fp} {H : Hp}
    (S : SR X.K Z δ Fs σ H) (h : bnd (if e.isNo then some (.ok none δ) else bnd (denE G e δ) intR) f = some r) (R : Res X.K EX W M σ Z δ Fs H rel r Q) (hm : ∀ i, i ∈ e.muts G.mu → i ∈ M)
    (ht : (e' = none ∧ to = tNoPart ∧ e.isNo = true) ∨ ∃ l, e' = some l ∧ e.isNo = false ∧ to = tPart (tE X.K G EX W e))
    (k : ∀ a δ1, f a δ1 = some r → ∀ Z1 Fs1 H1, SR X.K Z1 δ1 Fs1 σ H1 → Tr (e.muts G.mu) Z δ Fs H Z1 δ1 Fs1 H1 → P a H1) : to σ H P := by
  rcases ht with ⟨_, e2, e3⟩ | ⟨l, _, e3, e2⟩
  · subst e2
    rw [e3] at h
    simp only [if_true, bnd] at h
    exact k none δ h Z Fs H S (Tr.refl.mono fun _ h => (List.not_mem_nil h).elim)
  · subst e2
    rw [e3] at h
    simp only [Bool.false_eq_true, if_false] at h
    have h2 : bnd (denE G e δ) (fun va δ1 => bnd (intR va δ1) f) = some r := by
      rw [← h]
      cases denE G e δ with
      | none => rfl
      | some q => cases q <;> rfl
    refine seqE S h2 R hm fun va δ1 e4 x Z1 Fs1 H1 S1 t1 ra => ?_
    rcases bnd_some e4 with ⟨x, δ', e5, e6⟩ | ⟨l, δ', e5, e6⟩
    · exact absurd e5 intR_ex
    · obtain ⟨i, e7, e8, e9⟩ := intR_ok e5
      subst e8 e9
      obtain ⟨F, ra, _⟩ := ra
      rw [e7] at ra
      exact ⟨i, dint ra, k (some i) δ' e6 Z1 Fs1 H1 S1 t1⟩
theorem sl_ok {lo hi : E} {lo' hi' : Option Expr} {p2 : Pos} {tl th : TO} (ha : PE X a' (tE X.K G EX W a)) (hl : PO X lo' tl) (hh : PO X hi' th)
    (htl : (lo' = none ∧ tl = tNoPart ∧ lo.isNo = true) ∨ ∃ l, lo' = some l ∧ lo.isNo = false ∧ tl = tPart (tE X.K G EX W lo)) (hth : (hi' = none ∧ th = tNoPart ∧ hi.isNo = true) ∨ ∃ l, hi' = some l ∧ hi.isNo = false ∧ th = tPart (tE X.K G EX W hi)) :
    PE X (.Subscript a' (.Slice lo' hi' none p2) pos) (tE X.K G EX W (.sl a lo hi)) := by
  refine PE.imp (pe_slice slR_ok ha hl hh) fun σ H Q h => ?_
  obtain ⟨Z, δ, Fs, r, S, e, R⟩ := h
  simp only [denE] at e
  refine seqE S e R inl_mem fun va δ1 e1 x Z1 Fs1 H1 S1 t1 ra => ?_
  refine seqO S1 e1 (R.laterV t1) inl_mem htl fun l δ2 e2 Z2 Fs2 H2 S2 t2 => ?_
  refine seqO S2 e2 ((R.laterV t1).laterV t2) (fun _ h => h) hth fun u δ3 e3 Z3 Fs3 H3 S3 t3 => ?_
  split at e3
  · rename_i pk
    have ra2 := ra.step S1 (t2.trans t3) pk
    split at e3
    · rename_i d ed
      cases some_ok e3
      obtain ⟨Fa, ha, oa⟩ := ra2
      exact slD_ok ed ha (R.fin S3 (t1.trans (t2.trans t3)))
    · cases e3
  · cases e3
/-! ### built-in functions -/
theorem bi_ok {bi : Bi} {es : Es} {es' : List Expr} {f' : Expr} (hc : ∀ t, PA X es' t → PE X (.Call f' es' [] pos) (tCB (biR X.K bi) t)) (hs : PA X es' (tEs X.K G EX W es)) : PE X (.Call f' es' [] pos) (tE X.K G EX W (.bi bi es)) := by
  refine PE.imp (hc _ hs) fun σ H Q h => ?_
  obtain ⟨Z, δ, Fs, r, S, e, R⟩ := h
  simp only [denE] at e
  refine seqEs S e R (fun _ h => h) fun vb δ2 e3 y Z2 Fs2 H2 S2 t2 rb => ?_
  obtain ⟨A, rb1, rb2⟩ := rb
  split at e3
  · rename_i d ed
    cases some_ok e3
    obtain ⟨F, rf⟩ := rb1.reps
    exact biD_ok ed rf (R.fin S2 t2)
  · cases e3
theorem isi_ok {ty : Ty} {t' f' : Expr} (hc : ∀ t, PE X a' t → PE X (.Call f' [a', t'] [] pos) (tCB (rIsi X.K) (tCons t (tCons (tC (.ty (tyName ty))) tNil)))) (ha : PE X a' (tE X.K G EX W a)) : PE X (.Call f' [a', t'] [] pos) (tE X.K G EX W (.isi a ty)) := by
  refine PE.imp (hc _ ha) fun σ H Q h => ?_
  obtain ⟨Z, δ, Fs, r, S, e, R⟩ := h
  simp only [denE] at e
  refine seqE S e R (fun _ h => h) fun va δ1 e1 x Z1 Fs1 H1 S1 t1 ra => ?_
  split at e1
  · rename_i k ek
    cases some_ok e1
    obtain ⟨F, ra, _⟩ := ra
    obtain ⟨t, h1, h2⟩ := isiD_ok ek ra
    exact ⟨x, .ty (tyName ty), .type t, .type (tyName ty), k, rfl, .ty _, h1, h2, (R.fin S1 t1).bl⟩
  · cases e1
end
end DV


set_option Elab.async false
set_option linter.all false
set_option maxRecDepth 100000
set_option maxHeartbeats 2000000
/-! DL: what is walked; targets; comprehensions. -/
namespace DV
open PySem L2
section
variable {G : GCtx} {EX : Exn → XK} {W : WX} {X : Cx} {a' b' c' : Expr} {a b c : E} {pos : Pos} {K : PySem.W.Frag}
/-- J gives the items ds while what stands at Fw is as it was -/
def Wk (K : PySem.W.Frag) (Z1 : Addr → Prop) (H1 : Hp) (J : L2.It) (ds : List D) (Fw : List Addr) : Prop :=
  ∀ (B Z : Addr → Prop) (H : Hp), Go B Z1 H1 Z H → (∀ a, a ∈ Fw → ¬ B a) → ∀ i, (i < ds.length → J.go i H) ∧ (ds.length ≤ i → J.stop i H) ∧ ∀ x H', J.yld i H x H' → i < ds.length → H' = H ∧ ∃ d, ds[i]? = some d ∧ RepF K Z H x d []
def relI (Z' : Addr → Prop) (Fs' : Fp) (H' : Hp) (J : L2.It) (w : List D × Option Nat) : Prop :=
  ∃ Fw, Wk K Z' H' J w.1 Fw ∧ match w.2 with
    | none => ∀ a, a ∈ Fw → Z' a
    | some r => ∀ a, a ∈ Fw → a ∈ Fs' r
def tI (K : PySem.W.Frag) (G : GCtx) (EX : Exn → XK) (W : WX) (it : DV.It) : TI := fun σ H R => ∃ Z δ Fs r, SR K Z δ Fs σ H ∧ denI G it δ = some r ∧ Res K EX W (it.muts G.mu) σ Z δ Fs H (relI (K := K)) r R
theorem PI.or {tg e : Expr} {w1 w2 : TI} (h1 : PI X tg e w1) (h2 : PI X tg e w2) : PI X tg e (fun σ H R => w1 σ H R ∨ w2 σ H R) :=
  ⟨fun pins s σ H R I h => h.elim (h1.run pins s σ H R I) (h2.run pins s σ H R I)⟩
theorem PI.imp {tg e : Expr} {t t' : TI} (h : PI X tg e t) (hi : ∀ σ H Q, t' σ H Q → t σ H Q) : PI X tg e t' := ⟨fun pins s σ H Q I q => h.run pins s σ H Q I (hi σ H Q q)⟩
theorem RepFs.getFree {Z : Addr → Prop} {H : Hp} {vs : List V} {ds : List D} {i : Nat} {d : D} (h : RepFs K Z H vs ds []) (e : ds[i]? = some d) : ∃ v, vs[i]? = some v ∧ RepF K Z H v d [] := by
  obtain ⟨v, F, e1, r, sb⟩ := h.get e
  have z := List.sublist_nil.mp sb
  subst z
  exact ⟨v, e1, r⟩
theorem wk_list {Z1 : Addr → Prop} {H1 : Hp} {p : Addr} {vs : List V} {ds : List D} {Fw : List Addr} (h : H1 p = some (.lst vs)) (r : RepFs K Z1 H1 vs ds []) (hp : p ∈ Fw) : Wk K Z1 H1 (Itl K p) ds Fw := by
  intro B Z H g hB i
  have e : H p = some (.lst vs) := g.k p _ h (hB p hp)
  have hl := r.length
  refine ⟨fun hi => ?_, fun hi => ⟨vs, SqL.of e, by omega⟩, fun x H' y hi => ?_⟩
  · obtain ⟨v, e1, _⟩ := r.getFree (List.getElem?_eq_getElem hi)
    exact ⟨vs, v, SqL.of e, e1⟩
  · obtain ⟨e2, y⟩ := y
    have y2 := y vs (SqL.of e)
    obtain ⟨v, e1, rv⟩ := r.getFree (List.getElem?_eq_getElem hi)
    rw [y2] at e1
    cases e1
    exact ⟨e2, _, List.getElem?_eq_getElem hi, RepF.go g _ _ _ rv fun _ h => (List.not_mem_nil h).elim⟩
theorem wk_tup {Z1 : Addr → Prop} {H1 : Hp} {p : Addr} {vs : List V} {xs : List T} (h : SqT K H1 p vs) (r : RepTs K H1 vs xs) : Wk K Z1 H1 (Itt K p) (xs.map .t) [] := by
  intro B Z H g hB i
  have e : SqT K H p vs := g.sqT h
  have hl := r.length
  rw [List.length_map]
  refine ⟨fun hi => ?_, fun hi => ⟨vs, e, by omega⟩, fun x H' y hi => ?_⟩
  · obtain ⟨v, e1, _⟩ := r.get (List.getElem?_eq_getElem hi)
    exact ⟨vs, v, e, e1⟩
  · obtain ⟨e2, y⟩ := y
    have y2 := y vs e
    obtain ⟨v, e1, rv⟩ := r.get (List.getElem?_eq_getElem hi)
    rw [y2] at e1
    cases e1
    refine ⟨e2, .t xs[i], by rw [List.getElem?_map, List.getElem?_eq_getElem hi]; rfl, ?_⟩
    unfold RepF
    exact ⟨rfl, RepT.go g _ _ rv⟩
theorem wk_str {Z1 : Addr → Prop} {H1 : Hp} {s : Str} : Wk K Z1 H1 (Its s) (s.cps.toList.map fun c => .t (.str ⟨#[c]⟩)) [] := by
  intro B Z H g hB i
  rw [List.length_map, Array.length_toList]
  refine ⟨fun hi => hi, fun hi => hi, fun x H' y hi => ?_⟩
  obtain ⟨e2, c, e3, e4⟩ := y
  subst e4
  refine ⟨e2, .t (.str ⟨#[c]⟩), by rw [List.getElem?_map]; simp [e3], ?_⟩
  unfold RepF RepT
  exact ⟨rfl, rfl⟩
theorem wk_rng {Z1 : Addr → Prop} {H1 : Hp} {lo : Int} {n : Nat} : Wk K Z1 H1 (Itr lo n) (rngL lo n 1) [] := by
  intro B Z H g hB i
  unfold rngL
  rw [List.length_map, List.length_range]
  refine ⟨fun hi => hi, fun hi => hi, fun x H' y hi => ?_⟩
  obtain ⟨e2, e4⟩ := y
  subst e4
  refine ⟨e2, .t (.int (lo + i)), by rw [List.getElem?_map, List.getElem?_range hi]; simp, ?_⟩
  unfold RepF RepT
  exact ⟨rfl, rfl⟩
theorem Wk.mono {Z1 Z2 : Addr → Prop} {H1 : Hp} {J : L2.It} {ds : List D} {Fw : List Addr} (h : Wk K Z1 H1 J ds Fw) : Wk K Z1 H1 J ds Fw := h
/-- what is owned by no slot, frozen -/
theorem SR.freeze {Z : Addr → Prop} {δ : Ev} {Fs : Fp} {σ : St} {H H0 : Hp} {M : List Nat} {Fs0 : Fp} {A : List Addr} (S : SR K Z δ Fs σ H) (o : OwnA M Fs0 H0 Z Fs H A) : SR K (fun a => Z a ∨ a ∈ A) δ Fs σ H := by
  have g : Go (fun _ => False) Z H (fun a => Z a ∨ a ∈ A) H := Go.new (fun _ _ h => h) fun _ h => .inl h
  refine ⟨S.len, fun i d e => ?_, S.no, S.nd, S.dj, fun i a ha => ⟨(S.mu i a ha).1, fun z => z.elim (S.mu i a ha).2 fun q => o.ni a q i ha⟩, fun a z => ?_⟩
  · obtain ⟨v, e1, r⟩ := S.rep i d e
    exact ⟨v, e1, RepF.go g v d _ r fun _ _ h => h⟩
  · rcases z with z | z
    · exact S.zd a z
    · obtain ⟨w, e⟩ := mut_some (o.mu a z).1
      rw [e]; exact fun h => by cases h
theorem Tr.freeze {Z0 Z : Addr → Prop} {δ0 δ : Ev} {Fs0 Fs : Fp} {H0 H : Hp} {M : List Nat} {A : List Addr} (t : Tr M Z0 δ0 Fs0 H0 Z δ Fs H) (o : OwnA M Fs0 H0 Z Fs H A) : Tr M Z0 δ0 Fs0 H0 (fun a => Z a ∨ a ∈ A) δ Fs H :=
  ⟨fun a h => .inl (t.z a h), fun a h => h.elim (t.zf a) fun q => .inr (o.org a q), t.k, t.ff, t.same, t.len⟩
theorem seqI_ok {tg : Expr} (he : PE X a' (tE X.K G EX W a)) : PI X tg a' (tI X.K G EX W (.seq a)) := by
  refine PI.imp (PI.or (pi_list he) (PI.or (pi_tup he) (pi_str he))) fun σ H R h => ?_
  obtain ⟨Z, δ, Fs, r, S, e, R⟩ := h
  simp only [denI] at e
  -- the value's kind chooses the way
  have go : ∀ {P : VK}, (∀ va δ1, denE G a δ = some (.ok va δ1) → ∀ xs, walkD va.1 va.2 = some xs → r = .ok (xs, va.2) δ1 → ∀ v Z1 Fs1 H1, SR X.K Z1 δ1 Fs1 σ H1 → Tr (a.muts G.mu) Z δ Fs H Z1 δ1 Fs1 H1 → relV X.K (a.muts G.mu) Fs H Z1 Fs1 H1 v va → P v H1) → tE X.K G EX W a σ H P := fun k => by
    refine seqE' S e R (fun _ h => h) fun va δ1 e0 e1 x Z1 Fs1 H1 S1 t1 ra => ?_
    split at e1
    · rename_i xs ex
      cases some_ok e1
      exact k va δ1 e0 xs ex rfl x Z1 Fs1 H1 S1 t1 ra
    · cases e1
  rcases bnd_some e with ⟨x, δ', e1, e2⟩ | ⟨va, δ', e1, e2⟩
  · subst e2
    exact .inl ⟨Z, δ, Fs, _, S, e1, R⟩
  · have same : ∀ {va2 δ2}, denE G a δ = some (.ok va2 δ2) → va2 = va := fun h => by rw [e1] at h; injection h with h; injection h with h; exact h.symm
    obtain ⟨d, κ⟩ := va
    cases d with
    | t x =>
      cases x with
      | tup xs =>
        refine .inr (.inl (go fun va2 δ2 e3 ys e4 e5 v Z1 Fs1 H1 S1 t1 rv => ?_))
        cases same e3
        subst e5
        simp only [walkD, Option.some.injEq] at e4
        subst e4
        obtain ⟨F, rv, _⟩ := rv
        obtain ⟨p, us, rfl, h1, h2⟩ := dtup rv
        refine ⟨p, rfl, ⟨us, h1⟩, R _ Z1 Fs1 H1 S1 t1 ⟨[], wk_tup h1 h2, ?_⟩⟩
        cases κ <;> exact fun _ h => (List.not_mem_nil h).elim
      | str s =>
        refine .inr (.inr (go fun va2 δ2 e3 ys e4 e5 v Z1 Fs1 H1 S1 t1 rv => ?_))
        cases same e3
        subst e5
        simp only [walkD, Option.some.injEq] at e4
        subst e4
        obtain ⟨F, rv, _⟩ := rv
        refine ⟨s, dstr rv, R _ Z1 Fs1 H1 S1 t1 ⟨[], wk_str, ?_⟩⟩
        cases κ <;> exact fun _ h => (List.not_mem_nil h).elim
      | non => simp only [walkD] at e2; cases e2
      | bl _ => simp only [walkD] at e2; cases e2
      | int _ => simp only [walkD] at e2; cases e2
    | scr ns => simp only [walkD] at e2; cases e2
    | lst xs =>
      refine .inl (go fun va2 δ2 e3 ys e4 e5 v Z1 Fs1 H1 S1 t1 rv => ?_)
      cases same e3
      subst e5
      obtain ⟨F, rv, ov⟩ := rv
      unfold RepF at rv
      obtain ⟨p, us, Fs2, rfl, h1, h2, h3⟩ := rv
      subst h2
      cases κ with
      | none =>
        simp only [walkD, Option.some.injEq] at e4
        subst e4
        have g : Go (fun _ => False) Z1 H1 (fun a => Z1 a ∨ a ∈ p :: Fs2) H1 := Go.new (fun _ _ h => h) fun _ h => .inl h
        have h4 := (RepFs.go g us xs Fs2 h3 fun _ _ h => h).frz fun b hb => .inr (List.mem_cons_of_mem _ hb)
        exact ⟨p, rfl, ⟨us, SqL.of h1⟩, R _ _ Fs1 H1 (SR.freeze S1 ov) (Tr.freeze t1 ov) ⟨[p], wk_list h1 h4 (List.mem_singleton.mpr rfl), fun b hb => .inr (by rw [List.mem_singleton.mp hb]; exact List.mem_cons_self)⟩⟩
      | some q =>
        simp only [walkD] at e4
        split at e4
        · rename_i f
          injection e4 with e4
          subst e4
          have z := h3.allFree f
          subst z
          exact ⟨p, rfl, ⟨us, SqL.of h1⟩, R _ Z1 Fs1 H1 S1 t1 ⟨[p], wk_list h1 h3 (List.mem_singleton.mpr rfl), ov⟩⟩
        · cases e4
    | sh d =>
      cases d with
      | lst xs =>
        refine .inl (go fun va2 δ2 e3 ys e4 e5 v Z1 Fs1 H1 S1 t1 rv => ?_)
        cases same e3
        subst e5
        obtain ⟨F, rv, ov⟩ := rv
        unfold RepF at rv
        obtain ⟨_, F0, hz, rv⟩ := rv
        unfold RepF at rv
        obtain ⟨p, us, Fs2, rfl, h1, h2, h3⟩ := rv
        subst h2
        have h4 := h3.frz fun b hb => hz b (List.mem_cons_of_mem _ hb)
        cases κ with
        | none =>
          simp only [walkD, Option.some.injEq] at e4
          subst e4
          exact ⟨p, rfl, ⟨us, SqL.of h1⟩, R _ Z1 Fs1 H1 S1 t1 ⟨[p], wk_list h1 h4 (List.mem_singleton.mpr rfl), fun b hb => by rw [List.mem_singleton.mp hb]; exact hz p List.mem_cons_self⟩⟩
        | some q => simp only [walkD] at e4; cases e4
      | t _ => simp only [walkD] at e2; cases e2
      | scr _ => simp only [walkD] at e2; cases e2
      | sh _ => simp only [walkD] at e2; cases e2
theorem RVs.one {σ : St} {Z : Addr → Prop} {Fs : Fp} {H : Hp} {e : E} {vs : List V} {ws : List Vr} {A : List Addr} (h : RVs K σ Z Fs H (.cons e .nil) vs ws A) : ∃ w, ws = [w] := by
  unfold RVs at h
  obtain ⟨v, r, d, κ, s, e1, e2, e3, h⟩ := h
  refine ⟨(d, κ), ?_⟩
  cases κ with
  | none =>
    obtain ⟨_, _, _, _, h⟩ := h
    unfold RVs at h
    rw [e2, h.2.1]
  | some q =>
    obtain ⟨_, h⟩ := h
    unfold RVs at h
    rw [e2, h.2.1]
theorem RVs.two {σ : St} {Z : Addr → Prop} {Fs : Fp} {H : Hp} {e e' : E} {vs : List V} {ws : List Vr} {A : List Addr} (h : RVs K σ Z Fs H (.cons e (.cons e' .nil)) vs ws A) : ∃ w w', ws = [w, w'] := by
  unfold RVs at h
  obtain ⟨v, r, d, κ, s, e1, e2, e3, h⟩ := h
  cases κ with
  | none =>
    obtain ⟨_, _, _, _, h⟩ := h
    obtain ⟨w, hw⟩ := RVs.one h
    exact ⟨(d, none), w, by rw [e2, hw]⟩
  | some q =>
    obtain ⟨_, h⟩ := h
    obtain ⟨w, hw⟩ := RVs.one h
    exact ⟨(d, some q), w, by rw [e2, hw]⟩
theorem rngI1_ok {tg a1 : Expr} {e1 : E} {p : Pos} (hg : Gl X "range") (hm : X.mg "range" = none) (hst : starEach [a1] X.env = [(false, eval a1 X.env)]) (ha : PA X [a1] (tEs X.K G EX W (.cons e1 .nil))) : PI X tg (.Call (.Name "range" p) [a1] [] pos) (tI X.K G EX W (.rng (.cons e1 .nil))) := by
  refine PI.imp (pi_range1 hg hm ha hst) fun σ H R h => ?_
  obtain ⟨Z, δ, Fs, r, S, e, R⟩ := h
  simp only [denI] at e
  refine seqEs S e R (fun _ h => h) fun vb δ2 e3 y Z2 Fs2 H2 S2 t2 rb => ?_
  obtain ⟨A, rb1, rb2⟩ := rb
  obtain ⟨F, rf⟩ := rb1.reps
  obtain ⟨w, hw⟩ := rb1.one
  subst hw
  split at e3
  · rename_i xs ex
    cases some_ok e3
    obtain ⟨v, ev, rv⟩ := reps1 rf
    subst ev
    obtain ⟨d, κ⟩ := w
    simp only [List.map_cons, List.map_nil, rngD] at ex
    split at ex
    · rename_i j ej
      injection ej with ej _
      subst ej
      split at ex
      · rename_i c
        injection ex with ex
        subst ex
        exact ⟨j, by rw [dint rv], c.1, c.2, R _ Z2 Fs2 H2 S2 t2 ⟨[], wk_rng, fun _ h => (List.not_mem_nil h).elim⟩⟩
      · cases ex
    · rename_i ej
      injection ej with _ ej
      cases ej
    · cases ex
  · cases e3
theorem rngI2_ok {tg a1 a2 : Expr} {e1 e2 : E} {p : Pos} (hg : Gl X "range") (hm : X.mg "range" = none) (hst : starEach [a1, a2] X.env = [(false, eval a1 X.env), (false, eval a2 X.env)]) (hst2 : starEach [a2] X.env = [(false, eval a2 X.env)])
    (ha : PA X [a1, a2] (tEs X.K G EX W (.cons e1 (.cons e2 .nil)))) : PI X tg (.Call (.Name "range" p) [a1, a2] [] pos) (tI X.K G EX W (.rng (.cons e1 (.cons e2 .nil)))) := by
  refine PI.imp (pi_range2 hg hm ha hst hst2) fun σ H R h => ?_
  obtain ⟨Z, δ, Fs, r, S, e, R⟩ := h
  simp only [denI] at e
  refine seqEs S e R (fun _ h => h) fun vb δ2 e3 y Z2 Fs2 H2 S2 t2 rb => ?_
  obtain ⟨A, rb1, rb2⟩ := rb
  obtain ⟨F, rf⟩ := rb1.reps
  obtain ⟨w, w', hw⟩ := rb1.two
  subst hw
  split at e3
  · rename_i xs ex
    cases some_ok e3
    obtain ⟨v, v', F1, F2, ev, rv, rv'⟩ := reps2 rf
    subst ev
    obtain ⟨d, κ⟩ := w
    obtain ⟨d', κ'⟩ := w'
    simp only [List.map_cons, List.map_nil, rngD] at ex
    split at ex
    · rename_i ej
      injection ej with _ ej
      cases ej
    · rename_i i j ej
      injection ej with ej ej2
      injection ej2 with ej2 _
      subst ej ej2
      split at ex
      · rename_i c
        injection ex with ex
        subst ex
        exact ⟨i, j, by rw [dint rv, dint rv'], c, R _ Z2 Fs2 H2 S2 t2 ⟨[], wk_rng, fun _ h => (List.not_mem_nil h).elim⟩⟩
      · cases ex
    · cases ex
  · cases e3
end
end DV


set_option Elab.async false
set_option linter.all false
set_option maxRecDepth 100000
set_option maxHeartbeats 2000000
/-! DM: targets. -/
namespace DV
open PySem L2
section
variable {G : GCtx} {EX : Exn → XK} {W : WX} {X : Cx} {a' b' c' : Expr} {a b c : E} {pos : Pos} {K : PySem.W.Frag}
/-- what F holds is apart from the slots -/
structure Apt (Z : Addr → Prop) (Fs : Fp) (H : Hp) (F : List Addr) : Prop where
  nd : F.Nodup
  mu : ∀ a, a ∈ F → Mut (H a) ∧ ¬ Z a
  ni : ∀ a, a ∈ F → ∀ i, a ∉ Fs i
theorem Apt.nil {Z : Addr → Prop} {Fs : Fp} {H : Hp} : Apt Z Fs H [] := ⟨List.nodup_nil, fun _ h => (List.not_mem_nil h).elim, fun _ h => (List.not_mem_nil h).elim⟩
theorem OwnA.apt {M : List Nat} {Fs Fs' : Fp} {H H' : Hp} {Z' : Addr → Prop} {A : List Addr} (o : OwnA M Fs H Z' Fs' H' A) : Apt Z' Fs' H' A := ⟨o.nd, o.mu, o.ni⟩
/-- the same slots but for A -/
def Agree (A : List Nat) (σ σ' : St) : Prop := σ'.length = σ.length ∧ ∀ i, i ∉ A → σ'[i]? = σ[i]?
theorem Agree.refl {A : List Nat} {σ : St} : Agree A σ σ := ⟨rfl, fun _ _ => rfl⟩
theorem Agree.trans {A B : List Nat} {σ σ1 σ2 : St} (h : Agree A σ σ1) (g : Agree B σ1 σ2) : Agree (A ++ B) σ σ2 :=
  ⟨g.1.trans h.1, fun i hi => (g.2 i fun q => hi (List.mem_append_right _ q)).trans (h.2 i fun q => hi (List.mem_append_left _ q))⟩
theorem Agree.mono {A B : List Nat} {σ σ1 : St} (h : Agree A σ σ1) (k : ∀ i, i ∈ A → i ∈ B) : Agree B σ σ1 := ⟨h.1, fun i hi => h.2 i fun q => hi (k i q)⟩
/-- what a target leaves -/
structure Bd (K : PySem.W.Frag) (A : List Nat) (Z : Addr → Prop) (δ : Ev) (Fs : Fp) (σ : St) (H : Hp) (F : List Addr) (δ' : Ev) (Fs' : Fp) (σ' : St) : Prop where
  sr : SR K Z δ' Fs' σ' H
  ag : Agree A σ σ'
  same : ∀ i, i ∉ A → Fs' i = Fs i ∧ δ'.getD i none = δ.getD i none
  ff : ∀ i a, a ∈ Fs' i → a ∈ Fs i ∨ a ∈ F
  len : δ'.length = δ.length
def tG (K : PySem.W.Frag) (tg : Tg) : TG := fun v σ H Q => ∃ Z δ Fs d F δ', SR K Z δ Fs σ H ∧ bindT tg d δ = some δ' ∧ RepF K Z H v d F ∧ Apt Z Fs H F ∧ ∀ Fs' σ', Bd K tg.slots Z δ Fs σ H F δ' Fs' σ' → Q σ' H
def tGs (K : PySem.W.Frag) (tgs : Tgs) : TGs := fun vs σ H Q => ∃ Z δ Fs xs δ', SR K Z δ Fs σ H ∧ bindTs tgs xs δ = some δ' ∧ RepTs K H vs xs ∧ ∀ Fs' σ', Bd K tgs.slots Z δ Fs σ H [] δ' Fs' σ' → Q σ' H
theorem PG.imp {tg : Expr} {t t' : TG} (h : PG X tg t) (hi : ∀ v σ H Q, t' v σ H Q → t v σ H Q) : PG X tg t' := ⟨fun pins s σ H v u Q I r q => h.run pins s σ H v u Q I r (hi v σ H Q q)⟩
theorem PGs.imp {tg : List Expr} {t t' : TGs} (h : PGs X tg t) (hi : ∀ v σ H Q, t' v σ H Q → t v σ H Q) : PGs X tg t' := ⟨fun pins s σ H v u Q I r q => h.run pins s σ H v u Q I r (hi v σ H Q q)⟩
theorem set_agree {σ : St} {i : Nat} {x : Option V} : Agree [i] σ (σ.set i x) := ⟨by rw [List.length_set], fun j hj => by rw [List.getElem?_set_ne fun e => hj (by rw [e]; exact List.mem_singleton.mpr rfl)]⟩
/-- a slot takes what is apart -/
theorem SR.bind {Z : Addr → Prop} {δ : Ev} {Fs : Fp} {σ : St} {H : Hp} {i : Nat} {d : D} {v : V} {F : List Addr} (S : SR K Z δ Fs σ H) (hi : i < δ.length) (r : RepF K Z H v d F) (o : Apt Z Fs H F) : Bd K [i] Z δ Fs σ H F (δ.set i (some d)) (Fs.put i F) (σ.set i (some v)) := by
  have hs : i < σ.length := by rw [← S.len]; exact hi
  refine ⟨S.put (.inr hi) (fun _ h => h) S.zd (fun j a _ ha => (S.mu j a ha).2) o.nd o.mu (fun j a _ ha hf => o.ni a hf j ha) (by rw [List.length_set]) (fun j hj => List.getElem?_set_ne (Ne.symm hj)) (fun d2 e => ?_) (fun e => by cases e), set_agree, fun j hj => ?_, fun j a ha => ?_, by rw [List.length_set]⟩
  · cases e
    exact ⟨v, List.getElem?_set_self hs, r⟩
  · have e : ¬ j = i := fun e => hj (by rw [e]; exact List.mem_singleton.mpr rfl)
    rw [Fp.put_ne e, getD_set _ _ _ _ (.inr hi), if_neg e]
    exact ⟨rfl, rfl⟩
  · by_cases e : j = i
    · subst e; rw [Fp.put_same] at ha; exact .inr ha
    · rw [Fp.put_ne e] at ha; exact .inl ha
theorem gN_ok {i : Nat} {x : Str} (hN : X.N.Nodup) (hi : X.N[i]? = some x) (hx : Loc X.env.scope x) (hf : X.fn x = true ∨ X.env.scope.names.lookup x = some .local) : PG X (.Name x pos) (tG X.K (.n i)) := by
  refine PG.imp (pg_name hN hi hx hf) fun v σ H Q h => ?_
  obtain ⟨Z, δ, Fs, d, F, δ', S, e, r, o, k⟩ := h
  simp only [bindT] at e
  split at e
  · rename_i hl
    injection e with e
    subst e
    exact k _ _ (S.bind hl r o)
  · cases e
theorem gsNil : PGs X [] (tGs X.K .nil) := by
  refine PGs.imp pgs_nil fun vs σ H Q h => ?_
  obtain ⟨Z, δ, Fs, xs, δ', S, e, r, k⟩ := h
  cases xs with
  | nil =>
    simp only [bindTs, Option.some.injEq] at e
    subst e
    unfold RepTs at r
    exact ⟨r, k Fs σ ⟨S, Agree.refl, fun _ _ => ⟨rfl, rfl⟩, fun _ _ h => .inl h, rfl⟩⟩
  | cons x xs => simp [bindTs] at e
theorem gsCons {t : Tg} {ts : Tgs} {e : Expr} {es : List Expr} (h1 : PG X e (tG X.K t)) (h2 : PGs X es (tGs X.K ts)) (hs : (assignEach (e :: es) X.env).map (·.2) = assign e X.env :: (assignEach es X.env).map (·.2)) : PGs X (e :: es) (tGs X.K (.cons t ts)) := by
  refine PGs.imp (pgs_cons h1 h2 hs) fun vs σ H Q h => ?_
  obtain ⟨Z, δ, Fs, xs, δ', S, e, r, k⟩ := h
  cases xs with
  | nil => simp [bindTs] at e
  | cons x xs =>
    unfold RepTs at r
    obtain ⟨v, r', e1, r1, r2⟩ := r
    simp only [bindTs] at e
    split at e
    · rename_i δ1 e2
      refine ⟨v, r', e1, Z, δ, Fs, .t x, [], δ1, S, e2, by unfold RepF; exact ⟨rfl, r1⟩, Apt.nil, fun Fs1 σ1 b1 => ?_⟩
      refine ⟨Z, δ1, Fs1, xs, δ', b1.sr, e, r2, fun Fs2 σ2 b2 => k Fs2 σ2 ⟨b2.sr, b1.ag.trans b2.ag, fun i hi => ?_, fun i a ha => ?_, b2.len.trans b1.len⟩⟩
      · have q1 := b1.same i fun q => hi (List.mem_append_left _ q)
        have q2 := b2.same i fun q => hi (List.mem_append_right _ q)
        exact ⟨q2.1.trans q1.1, q2.2.trans q1.2⟩
      · rcases b2.ff i a ha with q | q
        · exact b1.ff i a q
        · exact .inr q
    · cases e
theorem gT_ok {ts : Tgs} {es : List Expr} {k : Nat} {n : Nat} (hc : X.calm = true) (h : PGs X es (tGs X.K ts)) (hn : (assignEach es X.env).length = n) (hst : (assignEach es X.env).findIdx? (·.1) = none) (hl : ∀ xs δ δ', bindTs ts xs δ = some δ' → xs.length = n) : PG X (.Tuple es k pos) (tG X.K (.tp ts)) := by
  refine PG.imp (pg_tup hc h hn hst) fun v σ H Q h => ?_
  obtain ⟨Z, δ, Fs, d, F, δ', S, e, r, o, k⟩ := h
  cases d with
  | t x =>
    cases x with
    | tup xs =>
      simp only [bindT] at e
      obtain ⟨p, us, rfl, h1, h2⟩ := dtup r
      have z := r.free rfl
      subst z
      exact ⟨p, us, rfl, h1, by rw [h2.length]; exact hl _ _ _ e, Z, δ, Fs, xs, δ', S, e, h2, k⟩
    | _ => simp [bindT] at e
  | _ => simp [bindT] at e
/-! ### forgetting slots -/
theorem wipe_get (σ : St) (i : Nat) : ∀ vs : List Nat, (wipe σ vs)[i]? = if i ∈ vs ∧ i < σ.length then some none else σ[i]?
  | [] => by simp [wipe]
  | v :: vs => by
    unfold wipe
    by_cases e : v = i
    · subst e
      by_cases l : v < σ.length
      · rw [List.getElem?_set_self (by rw [wipe_length]; exact l), if_pos ⟨List.mem_cons_self, l⟩]
      · rw [List.getElem?_eq_none (by rw [List.length_set, wipe_length]; exact Nat.le_of_not_lt l), if_neg fun h => l h.2, List.getElem?_eq_none (Nat.le_of_not_lt l)]
    · rw [List.getElem?_set_ne e, wipe_get σ i vs]
      by_cases m : i ∈ vs ∧ i < σ.length
      · rw [if_pos m, if_pos ⟨List.mem_cons_of_mem _ m.1, m.2⟩]
      · rw [if_neg m, if_neg fun h => m ⟨(List.mem_cons.mp h.1).resolve_left fun q => e q.symm, h.2⟩]
theorem wipeE_length (δ : Ev) : ∀ vs : List Nat, (wipeE δ vs).length = δ.length
  | [] => rfl
  | v :: vs => by unfold wipeE; rw [List.length_set, wipeE_length δ vs]
theorem wipeE_get (δ : Ev) (i : Nat) : ∀ vs : List Nat, (wipeE δ vs).getD i none = if i ∈ vs then none else δ.getD i none
  | [] => by simp [wipeE]
  | v :: vs => by
    unfold wipeE
    rw [getD_set _ _ _ _ (.inl rfl), wipeE_get δ i vs]
    by_cases e : i = v
    · subst e; simp
    · by_cases m : i ∈ vs <;> simp [e, m]
theorem wipe_ext {σ σ' : St} {vs : List Nat} (h : Agree vs σ σ') : wipe σ' vs = wipe σ vs := by
  apply List.ext_getElem?
  intro i
  rw [wipe_get, wipe_get, h.1]
  by_cases m : i ∈ vs
  · by_cases l : i < σ.length
    · rw [if_pos ⟨m, l⟩, if_pos ⟨m, l⟩]
    · rw [if_neg fun q => l q.2, if_neg fun q => l q.2, List.getElem?_eq_none (Nat.le_of_not_lt l), List.getElem?_eq_none (by rw [h.1]; exact Nat.le_of_not_lt l)]
  · rw [if_neg fun q => m q.1, if_neg fun q => m q.1, h.2 i m]
theorem wipe_agree {σ : St} {vs : List Nat} : Agree vs σ (wipe σ vs) := ⟨wipe_length σ vs, fun i hi => by rw [wipe_get, if_neg fun q => hi q.1]⟩
def Fp.wipe (Fs : Fp) (vs : List Nat) : Fp := fun i => if i ∈ vs then [] else Fs i
theorem SR.wipe {Z : Addr → Prop} {δ : Ev} {Fs : Fp} {σ : St} {H : Hp} (S : SR K Z δ Fs σ H) (vs : List Nat) : SR K Z (wipeE δ vs) (Fs.wipe vs) (L2.wipe σ vs) H := by
  refine ⟨by rw [wipeE_length, wipe_length]; exact S.len, fun i d e => ?_, fun i e => ?_, fun i => ?_, fun i j a ha hb => ?_, fun i a ha => ?_, S.zd⟩
  · rw [wipeE_get] at e
    by_cases m : i ∈ vs
    · rw [if_pos m] at e; cases e
    · rw [if_neg m] at e
      obtain ⟨v, e1, r⟩ := S.rep i d e
      exact ⟨v, by rw [wipe_get, if_neg fun q => m q.1]; exact e1, by unfold Fp.wipe; rw [if_neg m]; exact r⟩
  · unfold Fp.wipe
    by_cases m : i ∈ vs
    · rw [if_pos m]
    · rw [if_neg m]
      rw [wipeE_get, if_neg m] at e
      exact S.no i e
  · unfold Fp.wipe
    split
    · exact List.nodup_nil
    · exact S.nd i
  · unfold Fp.wipe at ha hb
    split at ha
    · exact (List.not_mem_nil ha).elim
    · split at hb
      · exact (List.not_mem_nil hb).elim
      · exact S.dj i j a ha hb
  · unfold Fp.wipe at ha
    split at ha
    · exact (List.not_mem_nil ha).elim
    · exact S.mu i a ha
end
end DV


set_option Elab.async false
set_option linter.all false
set_option maxRecDepth 100000
set_option maxHeartbeats 2000000
/-! DN: comprehensions. -/
namespace DV
open PySem L2
section
variable {G : GCtx} {EX : Exn → XK} {W : WX} {X : Cx} {a' b' c' : Expr} {a b c : E} {pos : Pos} {K : PySem.W.Frag}
/-- a write to what no slot holds -/
theorem Go.write {Z : Addr → Prop} {H : Hp} {p : Addr} {o : HO} (m : Mut (H p)) (z : ¬ Z p) : Go (fun a => a = p) Z H Z (L2.upd H p o) :=
  ⟨fun _ h => h, fun a u h n => by rw [upd_ne n]; exact h, fun a e => by subst e; exact ⟨m, z⟩⟩
theorem SR.write {Z : Addr → Prop} {δ : Ev} {Fs : Fp} {σ : St} {H : Hp} {p : Addr} {o : HO} (S : SR K Z δ Fs σ H) (m : Mut (H p)) (z : ¬ Z p) (n : ∀ i, p ∉ Fs i) : SR K Z δ Fs σ (upd H p o) := by
  have g : Go (fun a => a = p) Z H Z (L2.upd H p o) := Go.write m z
  refine ⟨S.len, fun i d e => ?_, S.no, S.nd, S.dj, fun i a ha => ?_, fun a za => ?_⟩
  · obtain ⟨v, e1, r⟩ := S.rep i d e
    exact ⟨v, e1, RepF.go g v d _ r fun a ha e => n i (e ▸ ha)⟩
  · have e : a ≠ p := fun e => n i (e ▸ ha)
    rw [upd_ne e]
    exact S.mu i a ha
  · have e : a ≠ p := fun e => z (e ▸ za)
    rw [upd_ne e]
    exact S.zd a za
theorem Tr.wiped {M M' own : List Nat} {Z Z' : Addr → Prop} {δ δ' : Ev} {Fs Fs' : Fp} {H H' : Hp} (t : Tr M' Z δ Fs H Z' δ' Fs' H') (hM : ∀ i, i ∈ M' → i ∈ M ∨ i ∈ own) (h0 : ∀ i, i ∈ own → Fs i = [] ∧ δ.getD i none = none) : Tr M Z δ Fs H Z' (wipeE δ' own) (Fs'.wipe own) H' := by
  have up : ∀ {a}, At M' Fs a → At M Fs a := fun {a} ⟨i, hi, ha⟩ => by
    rcases hM i hi with q | q
    · exact ⟨i, q, ha⟩
    · rw [(h0 i q).1] at ha; exact (List.not_mem_nil ha).elim
  refine ⟨t.z, fun a z => (t.zf a z).imp id (Or.imp id up), fun a o e n => t.k a o e fun q => n (up q), fun i a ha => ?_, fun i hi => ?_, by rw [wipeE_length]; exact t.len⟩
  · unfold Fp.wipe at ha
    split at ha
    · exact (List.not_mem_nil ha).elim
    · exact (t.ff i a ha).imp id (Or.imp id up)
  · unfold Fp.wipe
    rw [wipeE_get]
    by_cases m : i ∈ own
    · rw [if_pos m, if_pos m]
      exact ⟨(h0 i m).1.symm, (h0 i m).2.symm⟩
    · rw [if_neg m, if_neg m]
      exact t.same i fun q => (hM i q).elim hi m
theorem restE_length (δ δ0 : Ev) : ∀ vs : List Nat, (restE δ δ0 vs).length = δ.length
  | [] => rfl
  | v :: vs => by unfold restE; rw [List.length_set, restE_length δ δ0 vs]
theorem restE_get (δ δ0 : Ev) (hl : δ.length = δ0.length) (i : Nat) : ∀ vs : List Nat, (restE δ δ0 vs).getD i none = if i ∈ vs then δ0.getD i none else δ.getD i none
  | [] => by simp [restE]
  | v :: vs => by
    unfold restE
    have h : δ0.getD v none = none ∨ v < (restE δ δ0 vs).length := by
      cases q : δ0.getD v none with
      | none => exact .inl rfl
      | some d => exact .inr (by rw [restE_length, hl]; exact getD_lt q)
    rw [getD_set _ _ _ _ h, restE_get δ δ0 hl i vs]
    by_cases e : i = v
    · subst e; simp
    · by_cases m : i ∈ vs <;> simp [e, m]
theorem OwnA.wiped {M M' own : List Nat} {Fs Fs' : Fp} {H H' : Hp} {Z' : Addr → Prop} {A : List Addr} (o : OwnA M' Fs H Z' Fs' H' A) (hM : ∀ i, i ∈ M' → i ∈ M ∨ i ∈ own) (h0 : ∀ i, i ∈ own → Fs i = []) : OwnA M Fs H Z' (Fs'.wipe own) H' A :=
  ⟨o.nd, o.mu, fun a ha i q => by
    unfold Fp.wipe at q
    split at q
    · exact (List.not_mem_nil q).elim
    · exact o.ni a ha i q, fun a ha => (o.org a ha).imp id fun ⟨i, hi, q⟩ => by
      rcases hM i hi with z | z
      · exact ⟨i, z, q⟩
      · rw [h0 i z] at q; exact (List.not_mem_nil q).elim⟩
theorem Tr.heap {M : List Nat} {Z Z' : Addr → Prop} {δ δ' : Ev} {Fs Fs' : Fp} {H H' H2 : Hp} (t : Tr M Z δ Fs H Z' δ' Fs' H') (k : ∀ a o, H a = some o → H' a = some o → H2 a = some o) : Tr M Z δ Fs H Z' δ' Fs' H2 :=
  ⟨t.z, t.zf, fun a o e n => k a o e (t.k a o e n), t.ff, t.same, t.len⟩
/-- a list grows by what no slot holds -/
theorem OwnA.grow {M : List Nat} {Fs Fs' : Fp} {H H' : Hp} {Z' : Addr → Prop} {A : List Addr} {p : Addr} {o : HO} (h : OwnA M Fs H Z' Fs' H' (p :: A)) (m : Mut (some o)) : OwnA M Fs H Z' Fs' (L2.upd H' p o) (p :: A) :=
  ⟨h.nd, fun a ha => by
    by_cases e : a = p
    · subst e; exact ⟨by rw [upd_same]; exact m, (h.mu a ha).2⟩
    · rw [upd_ne e]; exact h.mu a ha, h.ni, h.org⟩
/-- a target's step -/
theorem Bd.tr {A own : List Nat} {Z : Addr → Prop} {δ δ' : Ev} {Fs Fs' : Fp} {σ σ' : St} {H : Hp} (b : Bd K A Z δ Fs σ H [] δ' Fs' σ') (h : ∀ i, i ∈ A → i ∈ own) : Tr own Z δ Fs H Z δ' Fs' H :=
  ⟨fun _ h => h, fun _ h => .inl h, fun _ _ h _ => h, fun i a ha => (b.ff i a ha).elim (fun q => .inr (.inl q)) fun q => (List.not_mem_nil q).elim, fun i hi => b.same i fun q => hi (h i q), b.len⟩
def tC (K : PySem.W.Frag) (G : GCtx) (EX : Exn → XK) (W : WX) (cs : Es) : TT := fun σ H Q => ∃ Z δ Fs r, SR K Z δ Fs σ H ∧ denC G cs δ = some r ∧ Res K EX W (cs.muts G.mu) σ Z δ Fs H relB r Q
theorem tC_nil : PTs X [] (tC X.K G EX W .nil) := ⟨fun pins s σ H Q I h => by
  obtain ⟨Z, δ, Fs, r, S, e, R⟩ := h
  cases some_ok e
  exact pts_nil.run pins s σ H Q I (R true Z Fs H S Tr.refl rfl)⟩
theorem tC_one {e : E} {e' : Expr} (h : PT X e' (tT X.K G EX W e)) : PTs X [e'] (tC X.K G EX W (.cons e .nil)) := ⟨fun pins s σ H Q I hw => by
  obtain ⟨Z, δ, Fs, r, S, e1, R⟩ := hw
  refine (pts_one h).run pins s σ H Q I ⟨Z, δ, Fs, r, S, e1, R.sub (M2 := e.muts G.mu) (fun i hi => List.mem_append_left _ hi) fun _ _ _ _ _ q => q⟩⟩
abbrev WF : WX := fun _ _ _ _ => False
/-- the state of a comprehension ahead of a turn -/
def LcI (K : PySem.W.Frag) (ms own : List Nat) (f : D → Ev → M (Option D)) (ds acc : List D) (δ5 : Ev) (Z1 : Addr → Prop) (δb : Ev) (Fsb : Fp) (H1 : Hp) (σb : St) (p : Addr) (i : Nat) (H : Hp) : Prop :=
  ∃ δi Zi Fsi accD vs A, lcLoop f (ds.drop i) accD δi = some (.ok acc δ5) ∧ i ≤ ds.length ∧ SR K Zi (wipeE δi own) Fsi σb H ∧ Tr ms Z1 δb Fsb H1 Zi (wipeE δi own) Fsi H ∧
    H p = some (.lst vs) ∧ RepFs K Zi H vs accD A ∧ OwnA ms Fsb H1 Zi Fsi H (p :: A)
theorem lc_imp {elt : E} {tg : Tg} {it : DV.It} {cs : Es} {own : List Nat} (hown : (ownOf X.N own).map (·.2) = own) (hsl : ∀ i, i ∈ tg.slots → i ∈ own) {σ : St} {H : Hp} {Q : VK} (h : tE X.K G EX W (.lc elt tg it cs own) σ H Q) :
    tLc (tI X.K G EX W it) (tG X.K tg) (tC X.K G EX WF cs) (tE X.K G EX WF elt) ((ownOf X.N own).map (·.2)) σ H Q := by
  rw [hown]
  obtain ⟨Z, δ, Fs, r, S, e, R⟩ := h
  simp only [denE] at e
  generalize hf : (fun (x : D) (δ : Ev) => (match bindT tg x (wipeE δ own) with
          | some δ2 => bnd (denC G cs δ2) fun k δ3 => if k = true then bnd (denE G elt δ3) fun v δ4 => if v.2.isNone = true then some (.ok (some v.1) δ4) else none else some (.ok none δ3)
          | none => (none : M (Option D)))) = f at e
  rcases bnd_some e with ⟨x, δ', e1, e2⟩ | ⟨w, δ1, e1, e2⟩
  · subst e2
    exact ⟨Z, δ, Fs, _, S, e1, fun Z' Fs' H' cls dd S' t q => R Z' Fs' H' cls dd S' (t.mono inl_mem) q⟩
  refine ⟨Z, δ, Fs, _, S, e1, ?_⟩
  intro J Z1 Fs1 H1 S1 t1 ⟨Fw, wk, hw⟩
  split at e2
  case isFalse => cases e2
  rename_i cond
  simp only [Bool.and_eq_true, List.all_eq_true] at cond
  obtain ⟨pk, nown⟩ := cond
  split at e2
  case h_2 => cases e2
  rename_i acc δ5 hloop
  cases some_ok e2
  intro p np
  obtain ⟨ds, κ⟩ := w
  -- the block's state
  have Sb := S1.wipe own
  have notM : ∀ i, i ∈ own → i ∉ elt.muts G.mu ++ cs.muts G.mu := fun i hi => by simpa using nown i hi
  have b0 : ∀ i, i ∈ own → (Fs1.wipe own) i = [] ∧ (wipeE δ1 own).getD i none = none := fun i hi => ⟨by unfold Fp.wipe; rw [if_pos hi], by rw [wipeE_get, if_pos hi]⟩
  have fsb : ∀ i a, a ∈ (Fs1.wipe own) i → a ∈ Fs1 i ∧ i ∉ own := fun i a ha => by
    unfold Fp.wipe at ha
    split at ha
    · exact (List.not_mem_nil ha).elim
    · rename_i m; exact ⟨ha, m⟩
  have fwB : ∀ a, a ∈ Fw → ¬ At (elt.muts G.mu ++ cs.muts G.mu) (Fs1.wipe own) a := fun a ha ⟨j, hj, q⟩ => by
    cases κ with
    | none => exact (Sb.mu j a q).2 (hw a ha)
    | some r =>
      have hr : r ∉ own ++ (elt.muts G.mu ++ cs.muts G.mu) := okPeek_mem pk
      have e := S1.dj j r a (fsb j a q).1 (hw a ha)
      subst e
      exact hr (List.mem_append_right _ hj)
  obtain ⟨Sg, tg1⟩ := Sb.grow (H1 := upd H1 p (.lst [])) fun a o h => by rw [upd_ne (ne_of_none h np)]; exact h
  refine ⟨fun i m H => m = ds.length - i ∧ LcI X.K (elt.muts G.mu ++ cs.muts G.mu) own f ds acc δ5 Z1 (wipeE δ1 own) (Fs1.wipe own) H1 (wipe σ own) p i H, ⟨ds.length, by simp, δ1, Z1, Fs1.wipe own, [], [], [], hloop, Nat.zero_le _, Sg, tg1.mono fun _ h => (List.not_mem_nil h).elim, upd_same, ⟨rfl, rfl⟩, OwnA.new Sb OwnA.nil (Tr.refl.mono fun _ h => (List.not_mem_nil h).elim) np trivial⟩, ?_⟩
  rintro i m Hi ⟨rfl, δi, Zi, Fsi, accD, vs, A, hl, hle, Si, ti, hp, rA, oA⟩
  have g : Go (At (elt.muts G.mu ++ cs.muts G.mu) (Fs1.wipe own)) Z1 H1 Zi Hi := Sb.go ti
  obtain ⟨w1, w2, w3⟩ := wk _ _ _ g fwB i
  by_cases hlt : i < ds.length
  · refine .inr ⟨w1 hlt, LcI X.K (elt.muts G.mu ++ cs.muts G.mu) own f ds acc δ5 Z1 (wipeE δ1 own) (Fs1.wipe own) H1 (wipe σ own) p (i + 1), fun H' q => ⟨ds.length - (i + 1), by omega, rfl, q⟩, fun x H' y => ?_⟩
    obtain ⟨e3, d, e4, rd⟩ := w3 x H' y hlt
    subst e3
    have hdrop : ds.drop i = d :: ds.drop (i + 1) := by
      rw [List.drop_eq_getElem_cons hlt]
      rw [List.getElem?_eq_getElem hlt] at e4
      injection e4 with e4
      rw [e4]
    rw [hdrop] at hl
    simp only [lcLoop] at hl
    rcases bnd_some hl with ⟨_, _, _, q⟩ | ⟨y2, δ6, h1, h2⟩
    · cases q
    rw [← hf] at h1
    simp only at h1
    split at h1
    case h_2 => cases h1
    rename_i δ2 hb
    rcases bnd_some h1 with ⟨_, _, _, q⟩ | ⟨k, δ3, h3, h4⟩
    · cases q
    refine ⟨Zi, wipeE δi own, Fsi, d, [], δ2, Si, hb, rd, Apt.nil, fun Fs2 σ2 b2 => ⟨?_, ?_⟩⟩
    · rw [wipe_ext (b2.ag.mono hsl), wipe_ext wipe_agree]
    have tb := b2.tr hsl
    have oA2 := OwnA.step Si oA tb
    have rA2 : RepFs X.K Zi H' vs accD A := rA
    refine ⟨Zi, δ2, Fs2, _, b2.sr, h3, fun b Z3 Fs3 H3 S3 t3 q => ?_⟩
    cases q
    have oA3 := OwnA.step b2.sr oA2 t3
    have hp3 : H3 p = some (.lst vs) := t3.k p _ hp fun ⟨j, _, q⟩ => oA2.ni p List.mem_cons_self j q
    have rA3 : RepFs X.K Z3 H3 vs accD A := RepFs.go (b2.sr.go t3) _ _ _ rA2 fun a ha ⟨j, _, q⟩ => oA2.ni a (List.mem_cons_of_mem _ ha) j q
    have tall := (ti.trans tb).trans t3
    have wσ : wipe σ2 own = wipe σ own := by rw [wipe_ext (b2.ag.mono hsl), wipe_ext wipe_agree]
    cases k with
    | false =>
      rw [if_neg Bool.false_ne_true] at h4 ⊢
      injection h4 with h4
      injection h4 with h4 h5
      subst h4 h5
      simp only at h2
      refine ⟨_, Z3, Fs3.wipe own, accD, vs, A, h2, hlt, wσ ▸ S3.wipe own, tall.wiped (fun j hj => ?_) b0, hp3, rA3, oA3.wiped (fun j hj => ?_) fun j hj => (b0 j hj).1⟩
      all_goals
        rcases List.mem_append.mp hj with q | q
        · rcases List.mem_append.mp q with q | q
          · exact .inl q
          · exact .inr q
        · exact .inl (List.mem_append_right _ q)
    | true =>
      rw [if_pos rfl] at h4 ⊢
      rcases bnd_some h4 with ⟨_, _, _, q⟩ | ⟨v, δ4, h6, h7⟩
      · cases q
      split at h7
      case isFalse => cases h7
      rename_i hv
      injection h7 with h7
      injection h7 with h7 h8
      subst h7 h8
      simp only at h2
      split at h2
      case isFalse => cases h2
      rename_i hsz
      refine ⟨Z3, δ3, Fs3, _, S3, h6, fun y Z4 Fs4 H4 S4 t4 rv => ?_⟩
      obtain ⟨F, rF, oF⟩ := rv
      have hv2 : v.2 = none := by cases q : v.2 with
        | none => rfl
        | some _ => rw [q] at hv; cases hv
      rw [hv2] at oF
      have oJ : OwnA _ _ _ _ _ _ ((p :: A) ++ F) := OwnA.join S3 tall t4 oA3 oF
      have oA4 := OwnA.step S3 oA3 t4
      have hp4 : H4 p = some (.lst vs) := t4.k p _ hp3 fun ⟨j, _, q⟩ => oA3.ni p List.mem_cons_self j q
      have rA4 : RepFs X.K Z4 H4 vs accD A := RepFs.go (S3.go t4) _ _ _ rA3 fun a ha ⟨j, _, q⟩ => oA3.ni a (List.mem_cons_of_mem _ ha) j q
      have hpm : Mut (H4 p) := by rw [hp4]; trivial
      have hpz : ¬ Z4 p := (oA4.mu p List.mem_cons_self).2
      have gw : Go (fun a => a = p) Z4 H4 Z4 (L2.upd H4 p (.lst (vs ++ [y]))) := Go.write hpm hpz
      have hnd := List.nodup_cons.mp oJ.nd
      refine ⟨vs, hp4, by rw [rA.length]; exact hsz, δ4, Z4, Fs4.wipe own, accD ++ [v.1], vs ++ [y], A ++ F, h2, hlt, wσ ▸ (S4.write hpm hpz (oA4.ni p List.mem_cons_self)).wipe own, ((tall.trans t4).heap (H2 := L2.upd H4 p (.lst (vs ++ [y]))) fun a o e1 e2 => ?_).wiped (fun j hj => ?_) b0, upd_same, ?_, ((OwnA.grow (A := A ++ F) (o := HO.lst (vs ++ [y])) oJ trivial).wiped (fun j hj => ?_) fun j hj => (b0 j hj).1)⟩
      · rw [upd_ne (ne_of_none e1 np)]; exact e2
      · rcases List.mem_append.mp hj with q | q
        · rcases List.mem_append.mp q with q | q
          · rcases List.mem_append.mp q with q | q
            · exact .inl q
            · exact .inr q
          · exact .inl (List.mem_append_right _ q)
        · exact .inl (List.mem_append_left _ q)
      · refine RepFs.append (RepFs.go gw _ _ _ rA4 fun a ha e => hnd.1 (e ▸ List.mem_append_left _ ha)) ?_
        unfold RepFs
        exact ⟨y, [], F, [], rfl, by simp, RepF.go gw _ _ _ rF fun a ha e => hnd.1 (e ▸ List.mem_append_right _ ha), rfl, rfl⟩
      · rcases List.mem_append.mp hj with q | q
        · rcases List.mem_append.mp q with q | q
          · rcases List.mem_append.mp q with q | q
            · exact .inl q
            · exact .inr q
          · exact .inl (List.mem_append_right _ q)
        · exact .inl (List.mem_append_left _ q)
  · have e5 : i = ds.length := by omega
    subst e5
    refine .inl ⟨w2 (Nat.le_refl _), ?_⟩
    rw [List.drop_length] at hl
    simp only [lcLoop] at hl
    injection hl with hl
    injection hl with hl hl2
    subst hl hl2
    have hlen : δi.length = δ1.length := by rw [← wipeE_length δi own, ti.len, wipeE_length]
    have up : ∀ {a}, At (elt.muts G.mu ++ cs.muts G.mu) (Fs1.wipe own) a → At (elt.muts G.mu ++ cs.muts G.mu) Fs1 a := fun {a} ⟨j, hj, q⟩ => ⟨j, hj, (fsb j a q).1⟩
    -- what the hidden slots own is not touched
    have hid : ∀ j a, j ∈ own → a ∈ Fs1 j → ¬ At (elt.muts G.mu ++ cs.muts G.mu) (Fs1.wipe own) a := fun j a hj ha ⟨k, hk, q⟩ => by
      have e := S1.dj j k a ha (fsb k a q).1
      subst e
      exact (fsb j a q).2 hj
    have hidI : ∀ j k a, j ∈ own → a ∈ Fs1 j → a ∉ Fsi k := fun j k a hj ha q => by
      rcases ti.ff k a q with z | z | z
      · obtain ⟨u, e⟩ := mut_some (S1.mu j a ha).1
        rw [z] at e; cases e
      · have e := S1.dj j k a ha (fsb k a z).1
        subst e
        exact (fsb j a z).2 hj
      · exact hid j a hj ha z
    have hg2 : ∀ k, (restE δi δ1 own).getD k none = if k ∈ own then δ1.getD k none else δi.getD k none := fun k => restE_get _ _ hlen k own
    have Sf : SR X.K Zi (restE δi δ1 own) (fun k => if k ∈ own then Fs1 k else Fsi k) σ Hi := by
      refine ⟨by rw [restE_length, hlen]; exact S1.len, fun k d e => ?_, fun k e => ?_, fun k => ?_, fun k j a ha hb => ?_, fun k a ha => ?_, Si.zd⟩
      · rw [hg2] at e
        by_cases m : k ∈ own
        · rw [if_pos m] at e
          simp only [if_pos m]
          obtain ⟨v, e6, rv⟩ := S1.rep k d e
          exact ⟨v, e6, RepF.go g v d _ rv fun a ha => hid k a m ha⟩
        · rw [if_neg m] at e
          simp only [if_neg m]
          obtain ⟨v, e6, rv⟩ := Si.rep k d (by rw [wipeE_get, if_neg m]; exact e)
          rw [wipe_get, if_neg fun q => m q.1] at e6
          exact ⟨v, e6, rv⟩
      · rw [hg2] at e
        by_cases m : k ∈ own
        · rw [if_pos m] at e
          simp only [if_pos m]
          exact S1.no k e
        · rw [if_neg m] at e
          simp only [if_neg m]
          exact Si.no k (by rw [wipeE_get, if_neg m]; exact e)
      · by_cases m : k ∈ own
        · simp only [if_pos m]; exact S1.nd k
        · simp only [if_neg m]; exact Si.nd k
      · by_cases m : k ∈ own
        · simp only [if_pos m] at ha
          by_cases n : j ∈ own
          · simp only [if_pos n] at hb; exact S1.dj k j a ha hb
          · simp only [if_neg n] at hb; exact absurd hb (hidI k j a m ha)
        · simp only [if_neg m] at ha
          by_cases n : j ∈ own
          · simp only [if_pos n] at hb; exact absurd ha (hidI j k a n hb)
          · simp only [if_neg n] at hb; exact Si.dj k j a ha hb
      · by_cases m : k ∈ own
        · simp only [if_pos m] at ha
          obtain ⟨mu, nz⟩ := S1.mu k a ha
          obtain ⟨u, e⟩ := mut_some mu
          refine ⟨by rw [g.k a u e (hid k a m ha), ← e]; exact mu, fun z => ?_⟩
          rcases ti.zf a z with q | q | q
          · exact nz q
          · rw [q] at e; cases e
          · exact hid k a m ha q
        · simp only [if_neg m] at ha
          exact Si.mu k a ha
    have tf : Tr (elt.muts G.mu ++ cs.muts G.mu) Z1 δ1 Fs1 H1 Zi (restE δi δ1 own) (fun k => if k ∈ own then Fs1 k else Fsi k) Hi := by
      refine ⟨ti.z, fun a z => (ti.zf a z).imp id (Or.imp id up), fun a o e n => ti.k a o e fun q => n (up q), fun k a ha => ?_, fun k hk => ?_, by rw [restE_length, hlen]⟩
      · by_cases m : k ∈ own
        · simp only [if_pos m] at ha; exact .inr (.inl ha)
        · simp only [if_neg m] at ha
          rcases ti.ff k a ha with q | q | q
          · exact .inl q
          · exact .inr (.inl (fsb k a q).1)
          · exact .inr (.inr (up q))
      · rw [hg2]
        by_cases m : k ∈ own
        · simp only [if_pos m]; exact ⟨trivial, trivial⟩
        · simp only [if_neg m]
          have q := ti.same k hk
          rw [wipeE_get, if_neg m, wipeE_get, if_neg m] at q
          refine ⟨q.1.trans ?_, q.2⟩
          unfold Fp.wipe
          rw [if_neg m]
    refine R (.ref p) Zi _ Hi Sf (t1.trans tf) ⟨p :: A, ?_, oA.nd, oA.mu, fun a ha k q => ?_, fun a ha => ?_⟩
    · show RepF X.K Zi Hi _ (D.lst accD) _
      unfold RepF
      exact ⟨p, vs, A, rfl, hp, rfl, rA⟩
    · by_cases m : k ∈ own
      · simp only [if_pos m] at q
        rcases oA.org a ha with z | z
        · obtain ⟨u, e⟩ := mut_some (S1.mu k a q).1
          rw [z] at e; cases e
        · exact hid k a m q z
      · simp only [if_neg m] at q
        exact oA.ni a ha k q
    · exact t1.backO ((oA.org a ha).imp id up)
theorem lc_ok {elt : E} {tg : Tg} {it : DV.It} {cs : Es} {own : List Nat} {elt' tg' it' : Expr} {cs' : List Expr} {scope : Scope} (hc : X.calm = true) (hN : X.N.Nodup) (hi : PI X tg' it' (tI X.K G EX W it)) (blk : BlkOk X.N X.env.scope scope (ownOf X.N own)) (hown : (ownOf X.N own).map (·.2) = own)
    (hsl : ∀ i, i ∈ tg.slots → i ∈ own)
    (hg : ∀ (s : Shared) (H : Hp) (C : Addr) (cl : List (Str × Addr)) (fp : List Addr), PG (X.blk s H scope (compEnvC scope cl C X.env) fp) tg' (tG X.K tg)) (ht : ∀ (s : Shared) (H : Hp) (C : Addr) (cl : List (Str × Addr)) (fp : List Addr), PTs (X.blk s H scope (compEnvC scope cl C X.env) fp) cs' (tC X.K G EX WF cs))
    (he : ∀ (s : Shared) (H : Hp) (C : Addr) (cl : List (Str × Addr)) (fp : List Addr), PE (X.blk s H scope (compEnvC scope cl C X.env) fp) elt' (tE X.K G EX WF elt)) (hs : ∀ x, foldedSetIterable it' X.env x = pure x) :
    PE X (.ListComp elt' [⟨tg', it', cs', 0⟩] scope pos) (tE X.K G EX W (.lc elt tg it cs own)) := by
  exact PE.imp (pe_lc hc hN hi blk hg ht he hs) fun σ H Q h => lc_imp hown hsl h
end
end DV


set_option Elab.async false
set_option linter.all false
set_option maxRecDepth 100000
set_option maxHeartbeats 2000000
/-! DO: places that are changed. -/
namespace DV
open PySem L2
section
variable {G : GCtx} {EX : Exn → XK} {W : WX} {X : Cx} {a' b' c' : Expr} {a b c : E} {pos : Pos} {K : PySem.W.Frag}
/-- the way from a value to what it holds -/
def Foc (H : Hp) : V → List Nat → V → Prop
  | v, [], w => w = v
  | v, k :: p, w => ∃ a vs vk, v = .ref a ∧ H a = some (.lst vs) ∧ vs[k]? = some vk ∧ Foc H vk p w
/-- one item of several is exchanged -/
theorem RepFs.split {Z : Addr → Prop} {H : Hp} : ∀ {vs : List V} {zs : List D} {F : List Addr} {k : Nat} {d : D}, RepFs K Z H vs zs F → zs[k]? = some d →
    ∃ v Fa Fk Fb, F = Fa ++ (Fk ++ Fb) ∧ vs[k]? = some v ∧ RepF K Z H v d Fk ∧ ∀ (B Z' : Addr → Prop) (H' : Hp) (d' : D) (Fk' : List Addr) (v' : V), Go B Z H Z' H' → (∀ a, a ∈ Fa ++ Fb → ¬ B a) → RepF K Z' H' v' d' Fk' → RepFs K Z' H' (vs.set k v') (zs.set k d') (Fa ++ (Fk' ++ Fb))
  | vs, [], F, k, d, h, e => by simp at e
  | vs, x :: zs, F, 0, d, h, e => by
    unfold RepFs at h
    obtain ⟨v, r, F1, F2, e1, e2, h1, h2⟩ := h
    simp at e
    subst e e1 e2
    refine ⟨v, [], F1, F2, rfl, rfl, h1, fun B Z' H' d' Fk' v' g hb r' => ?_⟩
    show RepFs K Z' H' (v' :: r) (d' :: zs) ([] ++ (Fk' ++ F2))
    unfold RepFs
    exact ⟨v', r, Fk', F2, rfl, rfl, r', RepFs.go g _ _ _ h2 hb⟩
  | vs, x :: zs, F, k + 1, d, h, e => by
    unfold RepFs at h
    obtain ⟨v, r, F1, F2, e1, e2, h1, h2⟩ := h
    subst e1 e2
    obtain ⟨u, Fa, Fk, Fb, e3, e4, h3, h4⟩ := RepFs.split (k := k) h2 (by simpa using e)
    subst e3
    refine ⟨u, F1 ++ Fa, Fk, Fb, by simp [List.append_assoc], by simpa using e4, h3, fun B Z' H' d' Fk' v' g hb r' => ?_⟩
    show RepFs K Z' H' (v :: r.set k v') (x :: zs.set k d') _
    unfold RepFs
    refine ⟨v, r.set k v', F1, Fa ++ (Fk' ++ Fb), rfl, by simp [List.append_assoc], RepF.go g _ _ _ h1 fun a ha => hb a (by simp [ha]), h4 B Z' H' d' Fk' v' g (fun a ha => hb a ?_) r'⟩
    rcases List.mem_append.mp ha with q | q <;> simp [q]
theorem set_same {α : Type} {xs : List α} {k : Nat} {x : α} (h : xs[k]? = some x) : xs.set k x = xs := by
  apply List.ext_getElem?
  intro i
  by_cases e : k = i
  · subst e
    have l := (List.getElem?_eq_some_iff.mp h).1
    rw [List.getElem?_set_self l, h]
  · rw [List.getElem?_set_ne e]
/-- the list at a place -/
theorem place {Z : Addr → Prop} {H : Hp} : ∀ {p : List Nat} {v : V} {d : D} {F : List Addr} {xs : List D} {w : V}, RepF K Z H v d F → F.Nodup → getP d p = some (.lst xs) → Foc H v p w →
    ∃ l vs Fx, w = .ref l ∧ H l = some (.lst vs) ∧ RepFs K Z H vs xs Fx ∧ (∀ a, a ∈ l :: Fx → a ∈ F) ∧ (l :: Fx).Nodup ∧
      ∀ (vs' : List V) (ys : List D) (Fy : List Addr) (d' : D), ¬ Z l → RepFs K Z (L2.upd H l (.lst vs')) vs' ys Fy → setP d p (.lst ys) = some d' →
        ∃ F', RepF K Z (L2.upd H l (.lst vs')) v d' F' ∧ (∀ a, a ∈ F' → a = l ∨ a ∈ Fy ∨ (a ∈ F ∧ a ∉ l :: Fx)) ∧ ((l :: Fy).Nodup → (∀ a, a ∈ Fy → a ∈ F → a ∈ Fx) → F'.Nodup)
  | [], v, d, F, xs, w, h, nd, e, hf => by
    simp only [getP, Option.some.injEq] at e
    subst e
    unfold RepF at h
    obtain ⟨l, vs, Fx, e1, h1, h2, h3⟩ := h
    subst h2
    have hf : w = v := hf
    subst hf
    refine ⟨l, vs, Fx, e1, h1, h3, fun a ha => ha, nd, fun vs' ys Fy d' hz r e2 => ?_⟩
    simp only [setP, Option.some.injEq] at e2
    subst e2
    refine ⟨l :: Fy, ?_, fun a ha => ?_, fun n _ => n⟩
    · unfold RepF
      exact ⟨l, vs', Fy, e1, upd_same, rfl, r⟩
    · exact (List.mem_cons.mp ha).imp id .inl
  | k :: p, v, d, F, xs, w, h, nd, e, hf => by
    cases d with
    | lst zs =>
      simp only [getP] at e
      split at e
      case h_2 => cases e
      rename_i dk ek
      unfold RepF at h
      obtain ⟨a, us, Fz, e1, h1, h2, h3⟩ := h
      subst h2
      obtain ⟨vk, Fa, Fk, Fb, e3, e4, r1, r2⟩ := h3.split ek
      subst e3
      obtain ⟨a2, us2, vk2, e5, e6, e7, hf2⟩ := hf
      rw [e1] at e5
      cases e5
      rw [h1] at e6
      cases e6
      rw [e4] at e7
      cases e7
      have nd1 := (List.nodup_cons.mp nd)
      have nd2 := List.nodup_append.mp nd1.2
      have nd3 := List.nodup_append.mp nd2.2.1
      obtain ⟨l, vs, Fx, e8, e9, r3, r4, r5, r6⟩ := place r1 nd3.1 e hf2
      have inK : ∀ b, b ∈ Fk → b ∈ Fa ++ (Fk ++ Fb) := fun b hb => by simp [hb]
      refine ⟨l, vs, Fx, e8, e9, r3, fun b hb => List.mem_cons_of_mem _ (inK b (r4 b hb)), r5, fun vs' ys Fy d' hz ry e10 => ?_⟩
      simp only [setP, ek, Option.map_eq_some_iff] at e10
      obtain ⟨dk', e11, e12⟩ := e10
      subst e12
      obtain ⟨Fk', q1, q2, q3⟩ := r6 vs' ys Fy dk' hz ry e11
      have lk : l ∈ Fk := r4 l List.mem_cons_self
      have al : a ≠ l := fun e => nd1.1 (e ▸ inK l lk)
      have gw : Go (fun b => b = l) Z H Z (L2.upd H l (.lst vs')) := Go.write (by rw [e9]; trivial) hz
      have q4 := r2 _ _ _ dk' Fk' vk gw (fun b hb e => by
        subst e
        rcases List.mem_append.mp hb with q | q
        · exact nd2.2.2 b q b (List.mem_append_left _ lk) rfl
        · exact nd3.2.2 b lk b q rfl) q1
      rw [set_same e4] at q4
      refine ⟨a :: (Fa ++ (Fk' ++ Fb)), ?_, fun b hb => ?_, fun n hy => ?_⟩
      · unfold RepF
        exact ⟨a, us, _, e1, by rw [upd_ne al]; exact h1, rfl, q4⟩
      · have out : ∀ b, b ∈ Fa ++ Fb → b ∉ l :: Fx := fun b hb hl => by
          have hk := r4 b hl
          rcases List.mem_append.mp hb with q | q
          · exact nd2.2.2 b q b (List.mem_append_left _ hk) rfl
          · exact nd3.2.2 b hk b q rfl
        rcases List.mem_cons.mp hb with q | q
        · subst q
          exact .inr (.inr ⟨List.mem_cons_self, fun hl => nd1.1 (inK _ (r4 _ hl))⟩)
        · rcases List.mem_append.mp q with q | q
          · exact .inr (.inr ⟨by simp [q], out b (by simp [q])⟩)
          · rcases List.mem_append.mp q with q | q
            · rcases q2 b q with z | z | z
              · exact .inl z
              · exact .inr (.inl z)
              · exact .inr (.inr ⟨List.mem_cons_of_mem _ (inK b z.1), z.2⟩)
            · exact .inr (.inr ⟨by simp [q], out b (by simp [q])⟩)
      · have n' := List.nodup_cons.mp n
        have q5 := q3 n fun b hb hk => hy b hb (List.mem_cons_of_mem _ (inK b hk))
        -- what stands around is not within
        have apart : ∀ b, b ∈ Fk' → b ∈ a :: (Fa ++ Fb) → False := fun b hb hc => by
          have hF : b ∈ a :: (Fa ++ (Fk ++ Fb)) := by
            rcases List.mem_cons.mp hc with q | q
            · rw [q]; exact List.mem_cons_self
            · rcases List.mem_append.mp q with q | q <;> simp [q]
          have nk : b ∉ Fk := fun hk => by
            rcases List.mem_cons.mp hc with q | q
            · exact nd1.1 (q ▸ inK b hk)
            · rcases List.mem_append.mp q with q | q
              · exact nd2.2.2 b q b (List.mem_append_left _ hk) rfl
              · exact nd3.2.2 b hk b q rfl
          rcases q2 b hb with z | z | z
          · exact nk (z ▸ lk)
          · exact nk (r4 b (List.mem_cons_of_mem _ (hy b z hF)))
          · exact nk z.1
        refine List.nodup_cons.mpr ⟨fun hb => ?_, List.nodup_append.mpr ⟨nd2.1, List.nodup_append.mpr ⟨q5, nd3.2.1, fun x hx y hy e => apart x hx (by subst e; simp [hy])⟩, fun x hx y hy e => ?_⟩⟩
        · rcases List.mem_append.mp hb with q | q
          · exact nd1.1 (by simp [q])
          · rcases List.mem_append.mp q with q | q
            · exact apart a q List.mem_cons_self
            · exact nd1.1 (by simp [q])
        · subst e
          rcases List.mem_append.mp hy with q | q
          · exact apart x q (by simp [hx])
          · exact nd2.2.2 x hx x (List.mem_append_right _ q) rfl
    | t x => simp [getP] at e
    | sh x => simp [getP] at e
    | scr x => simp [getP] at e
/-- the way stays -/
theorem Foc.go {B Z Z' : Addr → Prop} {H H' : Hp} (g : Go B Z H Z' H') : ∀ {p : List Nat} {v : V} {d : D} {F : List Addr} {w : V}, RepF K Z H v d F → (getP d p).isSome = true → (∀ a, a ∈ F → ¬ B a) → Foc H v p w → Foc H' v p w
  | [], v, d, F, w, _, _, _, h => h
  | k :: p, v, d, F, w, r, e, hb, h => by
    cases d with
    | lst zs =>
      simp only [getP] at e
      split at e
      case h_2 => cases e
      rename_i dk ek
      unfold RepF at r
      obtain ⟨a, us, Fz, e1, h1, h2, h3⟩ := r
      subst h2
      obtain ⟨a2, us2, vk2, e5, e6, e7, hf2⟩ := h
      rw [e1] at e5
      cases e5
      rw [h1] at e6
      cases e6
      obtain ⟨vk, Fk, e4, r1, sb⟩ := h3.get ek
      rw [e4] at e7
      cases e7
      exact ⟨a, us, _, e1, g.k a _ h1 (hb a List.mem_cons_self), e4, Foc.go g r1 e (fun b hb2 => hb b (List.mem_cons_of_mem _ (sb.subset hb2))) hf2⟩
    | t x => simp [getP] at e
    | sh x => simp [getP] at e
    | scr x => simp [getP] at e
theorem Foc.snoc {H : Hp} : ∀ {p : List Nat} {v w u : V} {l : Addr} {vs : List V} {j : Nat}, Foc H v p w → w = .ref l → H l = some (.lst vs) → vs[j]? = some u → Foc H v (p ++ [j]) u
  | [], v, w, u, l, vs, j, h, e1, e2, e3 => by
    have h : w = v := h
    subst h
    exact ⟨l, vs, u, e1, e2, e3, rfl⟩
  | k :: p, v, w, u, l, vs, j, h, e1, e2, e3 => by
    obtain ⟨a, us, vk, h1, h2, h3, h4⟩ := h
    exact ⟨a, us, vk, h1, h2, h3, Foc.snoc h4 e1 e2 e3⟩
theorem getP_snoc : ∀ {p : List Nat} {d : D} {xs : List D} {j : Nat}, getP d p = some (.lst xs) → getP d (p ++ [j]) = (xs[j]?)
  | [], d, xs, j, h => by
    simp only [getP, Option.some.injEq] at h
    subst h
    simp only [List.nil_append, getP]
    cases xs[j]? <;> rfl
  | k :: p, d, xs, j, h => by
    cases d with
    | lst zs =>
      simp only [getP] at h
      split at h
      case h_2 => cases h
      rename_i dk ek
      simp only [List.cons_append, getP, ek]
      exact getP_snoc h
    | t x => simp [getP] at h
    | sh x => simp [getP] at h
    | scr x => simp [getP] at h
def relP (K : PySem.W.Frag) (σ : St) (Z' : Addr → Prop) (Fs' : Fp) (H' : Hp) (v : V) (rp : Nat × List Nat) : Prop :=
  ∃ vr d, σ[rp.1]? = some (some vr) ∧ RepF K Z' H' vr d (Fs' rp.1) ∧ (getP d rp.2).isSome = true ∧ Foc H' vr rp.2 v
def tP (K : PySem.W.Frag) (G : GCtx) (EX : Exn → XK) (W : WX) (e : E) : TE := fun σ H Q => ∃ Z δ Fs r, SR K Z δ Fs σ H ∧ denP G e δ = some r ∧ Res K EX W (e.muts G.mu) σ Z δ Fs H (relP K σ) r Q
theorem seqP {α β : Type} {e : E} {f : Nat × List Nat → Ev → M α} {r : R α} {M : List Nat} {rel : (Addr → Prop) → Fp → Hp → β → α → Prop} {Q : β → Hp → Prop} {P : VK} {σ : St} {Z : Addr → Prop} {δ : Ev} {Fs : Fp} {H : Hp} (S : SR K Z δ Fs σ H) (h : bnd (denP G e δ) f = some r) (R : Res K EX W M σ Z δ Fs H rel r Q) (hm : ∀ i, i ∈ e.muts G.mu → i ∈ M)
    (k : ∀ a δ1, f a δ1 = some r → ∀ v Z1 Fs1 H1, SR K Z1 δ1 Fs1 σ H1 → Tr (e.muts G.mu) Z δ Fs H Z1 δ1 Fs1 H1 → relP K σ Z1 Fs1 H1 v a → P v H1) : tP K G EX W e σ H P := by
  rcases bnd_some h with ⟨x, δ', e1, e2⟩ | ⟨a, δ', e1, e2⟩
  · subst e2
    exact ⟨Z, δ, Fs, _, S, e1, fun Z' Fs' H' cls dd S' t q => R Z' Fs' H' cls dd S' (t.mono hm) q⟩
  · exact ⟨Z, δ, Fs, _, S, e1, fun v Z' Fs' H' S' t q => k a δ' e2 v Z' Fs' H' S' t q⟩
theorem relP.step {σ : St} {Z1 Z2 : Addr → Prop} {δ1 δ2 : Ev} {Fs1 Fs2 : Fp} {H1 H2 : Hp} {M : List Nat} {v : V} {rp : Nat × List Nat} (S1 : SR K Z1 δ1 Fs1 σ H1) (h : relP K σ Z1 Fs1 H1 v rp) (u : Tr M Z1 δ1 Fs1 H1 Z2 δ2 Fs2 H2) (p : okPeek (some rp.1) M = true) : relP K σ Z2 Fs2 H2 v rp := by
  obtain ⟨vr, d, h1, h2, h3, h4⟩ := h
  have hr := okPeek_mem p
  have nb : ∀ a, a ∈ Fs1 rp.1 → ¬ At M Fs1 a := fun a ha ⟨i, hi, q⟩ => by
    have e := S1.dj i rp.1 a q ha
    subst e
    exact hr hi
  exact ⟨vr, d, h1, by rw [(u.same _ hr).1]; exact RepF.go (S1.go u) _ _ _ h2 nb, h3, Foc.go (S1.go u) h2 h3 nb h4⟩
/-- the list at a place, as the slot has it -/
theorem relP.list {σ : St} {Z : Addr → Prop} {δ : Ev} {Fs : Fp} {H : Hp} {v : V} {rp : Nat × List Nat} {d : D} {xs : List D} (S : SR K Z δ Fs σ H) (h : relP K σ Z Fs H v rp) (e : δ.getD rp.1 none = some d) (e2 : getP d rp.2 = some (.lst xs)) :
    ∃ vr, σ[rp.1]? = some (some vr) ∧ RepF K Z H vr d (Fs rp.1) ∧ Foc H vr rp.2 v := by
  obtain ⟨vr, d0, h1, h2, h3, h4⟩ := h
  obtain ⟨vr2, e3, r⟩ := S.rep _ d e
  rw [h1] at e3
  cases e3
  exact ⟨vr, h1, r, h4⟩
theorem pv_ok {i : Nat} {x : Str} (hN : X.N[i]? = some x) (hv : Vis X.env.scope x) (hd : (x == ("__debug__" : Str)) = false) (hcd : (x == ("__classdict__" : Str)) = false) : PE X (.Name x pos) (tP X.K G EX W (.v i)) := by
  refine PE.imp (pe_var hN hv hd hcd) fun σ H Q h => ?_
  obtain ⟨Z, δ, Fs, r, S, e, R⟩ := h
  simp only [denP] at e
  split at e
  · rename_i xs ed
    cases some_ok e
    obtain ⟨v, e1, rp⟩ := S.rep i _ ed
    exact ⟨v, e1, R v Z Fs H S Tr.refl ⟨v, _, e1, rp, rfl, rfl⟩⟩
  · cases e
theorem pix_ok (hs : ∀ lo hi st p, b' ≠ .Slice lo hi st p) (ha : PE X a' (tP X.K G EX W a)) (hb : PE X b' (tE X.K G EX W b)) : PE X (.Subscript a' b' pos) (tP X.K G EX W (.ix a b)) := by
  refine PE.imp (pe_ix ix_list ha hb (plainIx hs)) fun σ H Q h => ?_
  obtain ⟨Z, δ, Fs, r, S, e, R⟩ := h
  simp only [denP] at e
  refine seqP S e R inl_mem fun rp δ1 e1 x Z1 Fs1 H1 S1 t1 ra => ?_
  refine seqE (M := b.muts G.mu) (rel := relP X.K σ) S1 e1 (R.later t1 fun _ _ _ _ _ q => q) (fun _ h => h) fun vb δ2 e2 y Z2 Fs2 H2 S2 t2 rb => ?_
  split at e2
  case isFalse => cases e2
  rename_i pk
  have ra2 := ra.step S1 t2 pk
  split at e2
  case h_2 => cases e2
  rename_i d k ed ek
  split at e2
  case h_2 => cases e2
  rename_i xs exs
  split at e2
  case h_2 => cases e2
  rename_i j ej
  cases some_ok e2
  obtain ⟨vr, h1, h2, h3⟩ := ra2.list S2 ed exs
  obtain ⟨l, vs, Fx, e3, e4, r1, _⟩ := place h2 (S2.nd _) exs h3
  obtain ⟨Fb, rb, _⟩ := rb
  rw [ek] at rb
  have hj : j < xs.length := by
    unfold ixN at ej
    split at ej
    · split at ej
      · injection ej with ej; omega
      · cases ej
    · split at ej
      · injection ej with ej; omega
      · cases ej
  have hl := r1.length
  have hv : vs[j]? = some vs[j] := List.getElem?_eq_getElem (by omega)
  refine ⟨l, vs, k, vs[j], e3, dint rb, SqL.of e4, get_atI (by rw [hl]; exact ej) hv, R _ Z2 Fs2 H2 S2 (t1.trans t2) ⟨vr, d, h1, h2, ?_, Foc.snoc h3 e3 e4 hv⟩⟩
  rw [getP_snoc exs, List.getElem?_eq_getElem hj]
  rfl
end
end DV


set_option Elab.async false
set_option linter.all false
set_option maxRecDepth 100000
set_option maxHeartbeats 2000000
/-! DP: methods that change a list. -/
namespace DV
open PySem L2
section
variable {G : GCtx} {EX : Exn → XK} {W : WX} {X : Cx} {a' b' c' : Expr} {a b c : E} {pos : Pos} {K : PySem.W.Frag}
/-- the list at a place of a slot is rewritten -/
theorem slotUpd {M : List Nat} {Z0 Z : Addr → Prop} {δ0 δ : Ev} {Fs0 Fs : Fp} {H0 H : Hp} {σ : St} {r : Nat} {p : List Nat} {v : V} {d d' : D} {xs ys : List D} {A Fr : List Addr} {w : V} (S : SR K Z δ Fs σ H) (t : Tr M Z0 δ0 Fs0 H0 Z δ Fs H) (oA : OwnA M Fs0 H0 Z Fs H A)
    (ed : δ.getD r none = some d) (hv : σ[r]? = some (some v)) (rp : RepF K Z H v d (Fs r)) (ex : getP d p = some (.lst xs)) (hf : Foc H v p w) (es : setP d p (.lst ys) = some d') :
    ∃ l vs Fx, w = .ref l ∧ H l = some (.lst vs) ∧ RepFs K Z H vs xs Fx ∧ ¬ Z l ∧ l ∉ A ∧ (∀ a, a ∈ Fx → ¬ Z a) ∧ (Fx ++ A).Nodup ∧ (∀ a, a ∈ Fx ++ A → a ≠ l) ∧
      ∀ (vs' : List V) (Fy Fr : List Addr), RepFs K Z (L2.upd H l (.lst vs')) vs' ys Fy → (∀ a, a ∈ Fy ++ Fr → a ∈ Fx ++ A) → (Fy ++ Fr).Nodup →
        ∃ Fs', SR K Z (δ.set r (some d')) Fs' σ (L2.upd H l (.lst vs')) ∧ Tr (M ++ [r]) Z0 δ0 Fs0 H0 Z (δ.set r (some d')) Fs' (L2.upd H l (.lst vs')) ∧ OwnA (M ++ [r]) Fs0 H0 Z Fs' (L2.upd H l (.lst vs')) Fr := by
  obtain ⟨l, vs, Fx, e1, e2, r1, sub, nd, put⟩ := place rp (S.nd r) ex hf
  have lr : l ∈ Fs r := sub l List.mem_cons_self
  have lz : ¬ Z l := (S.mu r l lr).2
  have la : l ∉ A := fun h => oA.ni l h r lr
  have nd1 := List.nodup_cons.mp nd
  have ndA : (Fx ++ A).Nodup := List.nodup_append.mpr ⟨nd1.2, oA.nd, fun x hx y hy e => by
    subst e
    exact oA.ni x hy r (sub x (List.mem_cons_of_mem _ hx))⟩
  have nel : ∀ a, a ∈ Fx ++ A → a ≠ l := fun a ha e => by
    subst e
    rcases List.mem_append.mp ha with q | q
    · exact nd1.1 q
    · exact la q
  refine ⟨l, vs, Fx, e1, e2, r1, lz, la, fun a ha => (S.mu r a (sub a (List.mem_cons_of_mem _ ha))).2, ndA, nel, fun vs' Fy Fr r2 hin hnd => ?_⟩
  have ndyr := List.nodup_append.mp hnd
  obtain ⟨F', q1, q2, q3⟩ := put vs' ys Fy d' lz r2 es
  have inY : ∀ a, a ∈ Fy → a ∈ Fx ++ A := fun a ha => hin a (List.mem_append_left _ ha)
  have inR : ∀ a, a ∈ Fr → a ∈ Fx ++ A := fun a ha => hin a (List.mem_append_right _ ha)
  have nF' : F'.Nodup := q3 (List.nodup_cons.mpr ⟨fun h => nel l (inY l h) rfl, ndyr.1⟩) fun a ha hr => (List.mem_append.mp (inY a ha)).elim id fun q => absurd hr (oA.ni a q r)
  have hi := getD_lt ed
  have gw : Go (fun b => b = l) Z H Z (L2.upd H l (.lst vs')) := Go.write (by rw [e2]; trivial) lz
  have notJ : ∀ j a, j ≠ r → a ∈ Fs j → a ∉ F' := fun j a hj ha hF => by
    rcases q2 a hF with z | z | z
    · subst z; exact hj (S.dj j r a ha lr)
    · rcases List.mem_append.mp (inY a z) with z | z
      · exact hj (S.dj j r a ha (sub a (List.mem_cons_of_mem _ z)))
      · exact oA.ni a z j ha
    · exact hj (S.dj j r a ha z.1)
  have muF : ∀ a, a ∈ Fx ++ A → Mut (L2.upd H l (.lst vs') a) ∧ ¬ Z a := fun a ha => by
    rw [upd_ne (nel a ha)]
    rcases List.mem_append.mp ha with z | z
    · exact S.mu r a (sub a (List.mem_cons_of_mem _ z))
    · exact oA.mu a z
  have S2 : SR K Z (δ.set r (some d')) (Fs.put r F') σ (L2.upd H l (.lst vs')) := by
    refine ⟨by rw [List.length_set]; exact S.len, fun j dj e => ?_, fun j e => ?_, fun j => ?_, fun j k a ha hb => ?_, fun j a ha => ?_, fun a z => ?_⟩
    · rw [getD_set _ _ _ _ (.inr hi)] at e
      by_cases m : j = r
      · rw [if_pos m] at e
        cases e
        subst m
        rw [Fp.put_same]
        exact ⟨v, hv, q1⟩
      · rw [if_neg m] at e
        rw [Fp.put_ne m]
        obtain ⟨u, e3, r3⟩ := S.rep j dj e
        exact ⟨u, e3, RepF.go gw u dj _ r3 fun a ha e => m (S.dj j r a ha (e ▸ lr))⟩
    · rw [getD_set _ _ _ _ (.inr hi)] at e
      by_cases m : j = r
      · rw [if_pos m] at e; cases e
      · rw [if_neg m] at e
        rw [Fp.put_ne m]
        exact S.no j e
    · by_cases m : j = r
      · subst m; rw [Fp.put_same]; exact nF'
      · rw [Fp.put_ne m]; exact S.nd j
    · by_cases m : j = r
      · subst m
        rw [Fp.put_same] at ha
        by_cases n : k = j
        · exact n.symm
        · rw [Fp.put_ne n] at hb; exact absurd ha (notJ k a n hb)
      · rw [Fp.put_ne m] at ha
        by_cases n : k = r
        · subst n; rw [Fp.put_same] at hb; exact absurd hb (notJ j a m ha)
        · rw [Fp.put_ne n] at hb; exact S.dj j k a ha hb
    · by_cases m : j = r
      · subst m
        rw [Fp.put_same] at ha
        rcases q2 a ha with z | z | z
        · subst z; exact ⟨by rw [upd_same]; trivial, lz⟩
        · exact muF a (inY a z)
        · have ne : a ≠ l := fun e => z.2 (e ▸ List.mem_cons_self)
          rw [upd_ne ne]; exact S.mu j a z.1
      · rw [Fp.put_ne m] at ha
        have ne : a ≠ l := fun e => m (S.dj j r a ha (e ▸ lr))
        rw [upd_ne ne]; exact S.mu j a ha
    · have ne : a ≠ l := fun e => lz (e ▸ z)
      rw [upd_ne ne]; exact S.zd a z
  -- where all of it comes from
  have fromR : ∀ a, a ∈ Fs r → H0 a = none ∨ At (M ++ [r]) Fs0 a := fun a ha => by
    rcases t.ff r a ha with z | z | z
    · exact .inl z
    · exact .inr ⟨r, by simp, z⟩
    · exact .inr z.left
  have fromXA : ∀ a, a ∈ Fx ++ A → H0 a = none ∨ At (M ++ [r]) Fs0 a := fun a ha => by
    rcases List.mem_append.mp ha with z | z
    · exact fromR a (sub a (List.mem_cons_of_mem _ z))
    · exact (oA.org a z).imp id At.left
  have fromF : ∀ a, a ∈ F' → H0 a = none ∨ At (M ++ [r]) Fs0 a := fun a ha => by
    rcases q2 a ha with z | z | z
    · subst z; exact fromR a lr
    · exact fromXA a (inY a z)
    · exact fromR a z.1
  refine ⟨Fs.put r F', S2, ⟨t.z, fun a z => (t.zf a z).imp id (Or.imp id At.left), fun a o e n => ?_, fun j a ha => ?_, fun j hj => ?_, by rw [List.length_set]; exact t.len⟩, ⟨ndyr.2.1, fun a ha => muF a (inR a ha), fun a ha j q => ?_, fun a ha => fromXA a (inR a ha)⟩⟩
  · have e3 := t.k a o e fun q => n q.left
    have ne : a ≠ l := fun e4 => by
      subst e4
      rcases fromR a lr with z | z
      · rw [z] at e; cases e
      · exact n z
    rw [upd_ne ne]; exact e3
  · by_cases m : j = r
    · subst m; rw [Fp.put_same] at ha; exact (fromF a ha).imp id .inr
    · rw [Fp.put_ne m] at ha
      exact (t.ff j a ha).imp id (Or.imp id At.left)
  · have hj1 : j ∉ M := fun q => hj (List.mem_append_left _ q)
    have hj2 : j ≠ r := fun q => hj (by simp [q])
    rw [Fp.put_ne hj2, getD_set _ _ _ _ (.inr hi), if_neg hj2]
    exact t.same j hj1
  · have ha2 := inR a ha
    by_cases m : j = r
    · subst m
      rw [Fp.put_same] at q
      rcases q2 a q with z | z | z
      · exact nel a ha2 z
      · exact ndyr.2.2 a z a ha rfl
      · rcases List.mem_append.mp ha2 with y | y
        · exact z.2 (List.mem_cons_of_mem _ y)
        · exact oA.ni a y j z.1
    · rw [Fp.put_ne m] at q
      rcases List.mem_append.mp ha2 with y | y
      · exact m (S.dj j r a q (sub a (List.mem_cons_of_mem _ y)))
      · exact oA.ni a y j q
/-! ### the methods -/
def mtId : Mt → String
  | .append => "list.append" | .pop => "list.pop" | .extend => "list.extend" | _ => ""
def mtR : Mt → V → List V → Hp → VK → Prop
  | .append => rAppend
  | .pop => rPop
  | .extend => rExtend
  | _ => fun _ _ _ _ => False
theorem mtR_ok : ∀ m : Mt, MtR X (mtId m) (mtR m)
  | .append => mt_append
  | .pop => mt_pop
  | .extend => mt_extend
  | .popAt => fun _ _ _ _ _ _ _ _ _ _ _ _ h => h.elim
  | .insert => fun _ _ _ _ _ _ _ _ _ _ _ _ h => h.elim
  | .index => fun _ _ _ _ _ _ _ _ _ _ _ _ h => h.elim
  | .join => fun _ _ _ _ _ _ _ _ _ _ _ _ h => h.elim
  | .split => fun _ _ _ _ _ _ _ _ _ _ _ _ h => h.elim
theorem RepFs.last {Z : Addr → Prop} {H : Hp} : ∀ {vs : List V} {ds : List D} {F : List Addr} {d : D}, RepFs K Z H vs ds F → ds[ds.length - 1]? = some d → ∃ v F1 F2, F = F1 ++ F2 ∧ vs[vs.length - 1]? = some v ∧ RepFs K Z H vs.dropLast ds.dropLast F1 ∧ RepF K Z H v d F2
  | vs, [], F, d, h, e => by simp at e
  | vs, [x], F, d, h, e => by
    obtain ⟨v, ev, r⟩ := reps1 h
    subst ev
    simp at e
    subst e
    exact ⟨v, [], F, rfl, rfl, ⟨rfl, rfl⟩, r⟩
  | vs, x :: y :: ds, F, d, h, e => by
    unfold RepFs at h
    obtain ⟨v, r, F1, F2, e1, e2, h1, h2⟩ := h
    obtain ⟨u, G1, G2, e3, e4, h3, h4⟩ := RepFs.last (d := d) h2 (by simpa using e)
    have hl := h2.length
    cases r with
    | nil => simp at hl
    | cons w r =>
      subst e1 e2 e3
      refine ⟨u, F1 ++ G1, G2, by rw [List.append_assoc], by simpa using e4, ?_, h4⟩
      show RepFs K Z H (v :: (w :: r).dropLast) (x :: (y :: ds).dropLast) _
      unfold RepFs
      exact ⟨v, _, F1, G1, rfl, rfl, h1, h3⟩
theorem mutD_ok {m : Mt} {xs ys ds : List D} {rd : D} {Z : Addr → Prop} {H : Hp} {l : Addr} {vs ws : List V} {Fx A : List Addr} {Q : VK} (h : mutD m xs ds = some (rd, ys)) (hl : H l = some (.lst vs)) (rx : RepFs K Z H vs xs Fx) (ra : RepFs K Z H ws ds A) (hz : ¬ Z l)
    (nel : ∀ a, a ∈ Fx ++ A → a ≠ l) (nd : (Fx ++ A).Nodup)
    (k : ∀ rv vs' Fy Fr, RepFs K Z (L2.upd H l (.lst vs')) vs' ys Fy → RepF K Z (L2.upd H l (.lst vs')) rv rd Fr → (∀ a, a ∈ Fy ++ Fr → a ∈ Fx ++ A) → (Fy ++ Fr).Nodup → Q rv (L2.upd H l (.lst vs'))) : mtR m (.ref l) ws H Q := by
  have gw : ∀ vs', Go (fun b => b = l) Z H Z (L2.upd H l (.lst vs')) := fun vs' => Go.write (by rw [hl]; trivial) hz
  have hx : ∀ a, a ∈ Fx → a ≠ l := fun a ha => nel a (List.mem_append_left _ ha)
  have hA : ∀ a, a ∈ A → a ≠ l := fun a ha => nel a (List.mem_append_right _ ha)
  have unit : ∀ {H' : Hp}, RepF K Z H' .non (.t .non) [] := fun {H'} => by unfold RepF RepT; exact ⟨rfl, rfl⟩
  unfold mutD at h
  split at h
  · obtain ⟨v, ev, r⟩ := reps1 ra
    subst ev
    split at h
    · rename_i c
      injection h with h
      injection h with h1 h2
      subst h1 h2
      refine ⟨l, vs, v, rfl, rfl, hl, by rw [rx.length]; exact c, k .non _ (Fx ++ A) [] (RepFs.append (RepFs.go (gw _) _ _ _ rx hx) ?_) unit (fun a ha => by simpa using ha) (by simpa using nd)⟩
      unfold RepFs
      exact ⟨v, [], A, [], rfl, by simp, RepF.go (gw _) _ _ _ r hA, rfl, rfl⟩
    · cases h
  · have ev := reps0 ra
    subst ev
    split at h
    · rename_i d ed
      injection h with h
      injection h with h1 h2
      subst h1 h2
      obtain ⟨v, F1, F2, e1, e2, r1, r2⟩ := rx.last ed
      subst e1
      refine ⟨l, vs, v, rfl, rfl, hl, e2, k v _ F1 F2 (RepFs.go (gw _) _ _ _ r1 fun a ha => hx a (List.mem_append_left _ ha)) (RepF.go (gw _) _ _ _ r2 fun a ha => hx a (List.mem_append_right _ ha)) (fun a ha => List.mem_append_left _ ha) (List.nodup_append.mp nd).1⟩
    · cases h
  · obtain ⟨v, ev, r⟩ := reps1 ra
    subst ev
    split at h
    · rename_i zs
      split at h
      · rename_i c
        simp only [Bool.and_eq_true, decide_eq_true_eq] at c
        injection h with h
        injection h with h1 h2
        subst h1 h2
        unfold RepF at r
        obtain ⟨q, us, Fq, e1, e2, e3, r2⟩ := r
        subst e1 e3
        have z := r2.allFree c.1
        subst z
        refine ⟨l, q, vs, us, rfl, rfl, hl, e2, by rw [rx.length, r2.length]; exact c.2, k .non _ Fx [] ?_ unit (fun a ha => List.mem_append_left _ (by simpa using ha)) (by simpa using (List.nodup_append.mp nd).1)⟩
        have := RepFs.append (RepFs.go (gw (vs ++ us)) _ _ _ rx hx) (RepFs.go (gw (vs ++ us)) _ _ _ r2 fun _ h => (List.not_mem_nil h).elim)
        simpa using this
      · cases h
    · rename_i zs
      split at h
      · rename_i c
        have c := of_decide_eq_true c
        injection h with h
        injection h with h1 h2
        subst h1 h2
        unfold RepF at r
        obtain ⟨e0, F0, hz0, r⟩ := r
        unfold RepF at r
        obtain ⟨q, us, Fq, e1, e2, e3, r2⟩ := r
        subst e1 e3
        have r3 := r2.frz fun b hb => hz0 b (List.mem_cons_of_mem _ hb)
        refine ⟨l, q, vs, us, rfl, rfl, hl, e2, by rw [rx.length, r2.length]; exact c, k .non _ Fx [] ?_ unit (fun a ha => List.mem_append_left _ (by simpa using ha)) (by simpa using (List.nodup_append.mp nd).1)⟩
        have := RepFs.append (RepFs.go (gw (vs ++ us)) _ _ _ rx hx) (RepFs.go (gw (vs ++ us)) _ _ _ r3 fun _ h => (List.not_mem_nil h).elim)
        simpa using this
      · cases h
    · cases h
  · cases h
theorem mut_ok {m : Mt} {es : Es} {es' : List Expr} {f' : Expr} (hc : PE X (.Call f' es' [] pos) (tBM X.K "list" (mtR m) (tP X.K G EX W a) (tEs X.K G EX W es)))
    (hr : ∀ δ rp δ1, denP G a δ = some (.ok rp δ1) → a.root = some rp.1) : PE X (.Call f' es' [] pos) (tE X.K G EX W (.mut m a es)) := by
  refine PE.imp hc fun σ H Q h => ?_
  obtain ⟨Z, δ, Fs, r, S, e, R⟩ := h
  simp only [denE] at e
  rcases bnd_some e with ⟨x, δ', e1, e2⟩ | ⟨rp, δ1, e1, e2⟩
  · subst e2
    exact ⟨Z, δ, Fs, _, S, e1, fun Z' Fs' H' cls dd S' t q => R Z' Fs' H' cls dd S' (t.mono inl_mem) q⟩
  split at e2
  case isFalse => cases e2
  rename_i hat
  refine ⟨Z, δ, Fs, _, S, e1, fun x Z1 Fs1 H1 S1 t1 ra => ⟨?_, ?_⟩⟩
  · -- the receiver is a list
    unfold atP at hat
    split at hat
    case h_2 => cases hat
    rename_i d ed
    split at hat
    case h_2 => cases hat
    rename_i xs exs
    obtain ⟨vr, h1, h2, h3⟩ := ra.list S1 ed exs
    obtain ⟨l, vs, Fx, q1, q2, q3, _⟩ := place h2 (S1.nd _) exs h3
    subst q1
    exact .inl ⟨rfl, vs, SqL.of q2⟩
  have hroot := hr _ _ _ e1
  have R1 : Res X.K EX W (es.muts G.mu ++ a.root.toList) σ Z1 δ1 Fs1 H1 (relV X.K (es.muts G.mu ++ a.root.toList) Fs1 H1) r Q := Res.laterV (M1 := a.muts G.mu) R t1
  refine seqEs (rel := relV X.K (es.muts G.mu ++ a.root.toList) Fs1 H1) S1 e2 R1 inl_mem fun vb δ2 e3 ws Z2 Fs2 H2 S2 t2 rb => ?_
  split at e3
  case isFalse => cases e3
  rename_i pk
  have ra2 := ra.step S1 t2 pk
  split at e3
  case h_2 => cases e3
  rename_i d ed
  split at e3
  case h_2 => cases e3
  rename_i xs exs
  split at e3
  case isFalse => cases e3
  rename_i hall
  split at e3
  case h_2 => cases e3
  rename_i rd ys em
  split at e3
  case h_2 => cases e3
  rename_i d' ed'
  cases some_ok e3
  obtain ⟨A, rb1, oA⟩ := rb
  obtain ⟨vr, h1, h2, h3⟩ := ra2.list S2 ed exs
  obtain ⟨l, vs, Fx, q1, q2, q3, q4, q5, q6, q7, q8, q9⟩ := slotUpd S2 t2 oA ed h1 h2 exs h3 ed' (Fr := [])
  subst q1
  refine mutD_ok em q2 q3 (rb1.repsA hall) q4 q8 q7 fun rv vs' Fy Fr r1 r2 r3 r4 => ?_
  obtain ⟨Fs3, S3, t3, o3⟩ := q9 vs' Fy Fr r1 r3 r4
  have e5 : a.root.toList = [rp.1] := by rw [hroot]; rfl
  rw [e5] at R1
  exact R1 rv Z2 Fs3 _ S3 t3 ⟨Fr, r2, o3⟩
theorem denP_root : ∀ {a : E} {δ : Ev} {rp : Nat × List Nat} {δ1 : Ev}, denP G a δ = some (.ok rp δ1) → a.root = some rp.1
  | .v i, δ, rp, δ1, h => by
    simp only [denP] at h
    split at h
    · injection h with h; injection h with h1 h2; subst h1; rfl
    · cases h
  | .ix a b, δ, rp, δ1, h => by
    simp only [denP] at h
    rcases bnd_some h with ⟨_, _, _, q⟩ | ⟨rp1, δ2, e1, e2⟩
    · cases q
    rcases bnd_some e2 with ⟨_, _, _, q⟩ | ⟨vb, δ3, e3, e4⟩
    · cases q
    have ih := denP_root e1
    split at e4
    case isFalse => cases e4
    split at e4
    case h_2 => cases e4
    split at e4
    case h_2 => cases e4
    split at e4
    case h_2 => cases e4
    injection e4 with e4
    injection e4 with e5 e6
    subst e5
    exact ih
  | .mv _, _, _, _, h => by simp [denP] at h
  | .fz _, _, _, _, h => by simp [denP] at h
  | .k _, _, _, _, h => by simp [denP] at h
  | .c _, _, _, _, h => by simp [denP] at h
  | .bin _ _ _, _, _, _, h => by simp [denP] at h
  | .neg _, _, _, _, h => by simp [denP] at h
  | .cmp _ _ _, _, _, _, h => by simp [denP] at h
  | .chn _ _ _ _ _, _, _, _, h => by simp [denP] at h
  | .and _ _, _, _, _, h => by simp [denP] at h
  | .or _ _, _, _, _, h => by simp [denP] at h
  | .not _, _, _, _, h => by simp [denP] at h
  | .ite _ _ _, _, _, _, h => by simp [denP] at h
  | .tup _, _, _, _, h => by simp [denP] at h
  | .lst _, _, _, _, h => by simp [denP] at h
  | .sl _ _ _, _, _, _, h => by simp [denP] at h
  | .no, _, _, _, h => by simp [denP] at h
  | .call _ _, _, _, _, h => by simp [denP] at h
  | .bi _ _, _, _, _, h => by simp [denP] at h
  | .isi _ _, _, _, _, h => by simp [denP] at h
  | .mth _ _ _, _, _, _, h => by simp [denP] at h
  | .mut _ _ _, _, _, _, h => by simp [denP] at h
  | .lc _ _ _ _ _, _, _, _, h => by simp [denP] at h
end
end DV


set_option Elab.async false
set_option linter.all false
set_option maxRecDepth 100000
set_option maxHeartbeats 2000000
/-! DQ: the call of a function. -/
namespace DV
open PySem L2
section
variable {G : GCtx} {EX : Exn → XK} {W : WX} {X : Cx} {K : PySem.W.Frag}
def rfR (δ0 : Ev) (L : List Nat) : Rf → R Vr
  | .ok d ms => .ok (d, none) (setMs δ0 L ms)
  | .ex x ms => .ex x (setMs δ0 L ms)
/-- what a function promises -/
def spI (K : PySem.W.Frag) (G : GCtx) (EX : Exn → XK) (f n : Nat) : Sp := fun vs H Q E => vs.length = n ∧ ∃ Z ds Fs r, SR K Z (ds.map some) Fs (vs.map some) H ∧ (∀ i d, ds[i]? = some d → (G.mu f).getD i false = false → d.free = true) ∧ G.fn f ds = some r ∧
  Res K EX (fun cls dd _ H' => E cls dd H') (lentIx 0 (G.mu f)) (vs.map some) Z (ds.map some) Fs H (relV K (lentIx 0 (G.mu f)) Fs H) (rfR (ds.map some) (lentIx 0 (G.mu f)) r) Q
theorem mem_lentIx : ∀ {m : List Bool} {k i : Nat}, i ∈ lentIx k m ↔ k ≤ i ∧ m.getD (i - k) false = true
  | [], k, i => by simp [lentIx]
  | true :: m, k, i => by
    unfold lentIx
    rw [List.mem_cons, mem_lentIx (m := m)]
    constructor
    · rintro (h | ⟨h1, h2⟩)
      · subst h; simp
      · refine ⟨by omega, ?_⟩
        rw [show i - k = (i - (k + 1)) + 1 by omega]
        simpa using h2
    · rintro ⟨h1, h2⟩
      by_cases e : i = k
      · exact .inl e
      · refine .inr ⟨by omega, ?_⟩
        rw [show i - k = (i - (k + 1)) + 1 by omega] at h2
        simpa using h2
  | false :: m, k, i => by
    unfold lentIx
    rw [mem_lentIx (m := m)]
    constructor
    · rintro ⟨h1, h2⟩
      refine ⟨by omega, ?_⟩
      rw [show i - k = (i - (k + 1)) + 1 by omega]
      simpa using h2
    · rintro ⟨h1, h2⟩
      by_cases e : i = k
      · subst e; simp at h2
      · refine ⟨by omega, ?_⟩
        rw [show i - k = (i - (k + 1)) + 1 by omega] at h2
        simpa using h2
theorem nodup_lentIx : ∀ {m : List Bool} {k : Nat}, (lentIx k m).Nodup
  | [], k => List.nodup_nil
  | true :: m, k => by
    unfold lentIx
    exact List.nodup_cons.mpr ⟨fun h => by have := (mem_lentIx.mp h).1; omega, nodup_lentIx⟩
  | false :: m, k => by unfold lentIx; exact nodup_lentIx
theorem lendLen {δ : Ev} : ∀ {m : List Bool} {ws : List Vr} {k : Nat} {ds : List D} {P : List (Nat × Nat)} {ps : List Nat}, lend δ k m ws = some (ds, P, ps) → ds.length = m.length
  | [], [], k, ds, P, ps, h => by
    simp only [lend, Option.some.injEq, Prod.mk.injEq] at h
    rw [← h.1] <;> rfl
  | [], w :: ws, k, ds, P, ps, h => by simp [lend] at h
  | true :: m, [], k, ds, P, ps, h => by simp [lend] at h
  | false :: m, [], k, ds, P, ps, h => by simp [lend] at h
  | true :: m, (d, none) :: ws, k, ds, P, ps, h => by simp [lend] at h
  | true :: m, (d, some r) :: ws, k, ds, P, ps, h => by
    simp only [lend] at h
    split at h
    case h_2 => cases h
    rw [Option.map_eq_some_iff] at h
    obtain ⟨⟨ds1, P1, ps1⟩, h1, h2⟩ := h
    simp only [Prod.mk.injEq] at h2
    rw [← h2.1, List.length_cons, List.length_cons, lendLen h1]
  | false :: m, (d, κ) :: ws, k, ds, P, ps, h => by
    simp only [lend] at h
    rw [Option.map_eq_some_iff] at h
    obtain ⟨⟨ds1, P1, ps1⟩, h1, h2⟩ := h
    simp only [Prod.mk.injEq] at h2
    rw [← h2.1, List.length_cons, List.length_cons, lendLen h1]
theorem lend_ok {σ : St} {Z : Addr → Prop} {δ : Ev} {Fs : Fp} {H : Hp} : ∀ {es : Es} {m : List Bool} {vs : List V} {ws : List Vr} {A : List Addr} {k : Nat} {ds : List D} {P : List (Nat × Nat)} {ps : List Nat}, RVs K σ Z Fs H es vs ws A → es.okLent m = true → lend δ k m ws = some (ds, P, ps) →
    vs.length = ds.length ∧ P.map (·.2) = lentIx k m ∧ (∀ p, p ∈ P → p.1 ∈ es.lent m) ∧
    ∀ i d, ds[i]? = some d → ∃ v, vs[i]? = some v ∧ ((m.getD i false = true ∧ ∃ r, (r, k + i) ∈ P ∧ σ[r]? = some (some v) ∧ δ.getD r none = some d) ∨
      (m.getD i false = false ∧ ∃ d0 F, d = d0.frz ∧ RepF K Z H v d0 F ∧ ∀ a, a ∈ F → a ∈ A ∨ ∃ q, q ∈ ps ∧ a ∈ Fs q))
  | .nil, m, vs, ws, A, k, ds, P, ps, h, ho, hl => by
    obtain ⟨e1, e2, e3⟩ := h
    subst e1 e2 e3
    cases m with
    | nil =>
      simp only [lend, Option.some.injEq, Prod.mk.injEq] at hl
      obtain ⟨h1, h2, h3⟩ := hl
      subst h1 h2 h3
      exact ⟨rfl, rfl, fun _ h => (List.not_mem_nil h).elim, fun i d e => by simp at e⟩
    | cons b m => cases b <;> simp [lend] at hl
  | .cons e es, [], vs, ws, A, k, ds, P, ps, h, ho, hl => by simp [Es.okLent] at ho
  | .cons e es, b :: m, vs, ws, A, k, ds, P, ps, h, ho, hl => by
    unfold RVs at h
    obtain ⟨v, r, d, κ, s, e1, e2, e3, h⟩ := h
    subst e1 e2
    simp only [Es.okLent, Bool.and_eq_true] at ho
    cases b with
    | true =>
      cases κ with
      | none => simp [lend] at hl
      | some q =>
        obtain ⟨⟨F, h1, h2⟩, h3⟩ := h
        simp only [lend] at hl
        split at hl
        case h_2 => cases hl
        rename_i d1 ed
        rw [Option.map_eq_some_iff] at hl
        obtain ⟨⟨ds1, P1, ps1⟩, hl, hq⟩ := hl
        simp only [Prod.mk.injEq] at hq
        obtain ⟨q1, q2, q3⟩ := hq
        subst q1 q2 q3
        obtain ⟨i1, i2, i3, i4⟩ := lend_ok h3 ho.2 hl
        have hv : ∃ i, e = .v i := by
          have := ho.1
          simp only [Bool.not_true, Bool.false_or] at this
          cases e <;> first | exact ⟨_, rfl⟩ | cases this
        obtain ⟨i0, hi0⟩ := hv
        obtain ⟨g1, g2⟩ := e3 i0 hi0
        have g3 := g2 q rfl
        subst g3
        refine ⟨by simp [i1], by simp [lentIx, i2], fun p hp => ?_, fun i d e => ?_⟩
        · have hle : (Es.cons e es).lent (true :: m) = e.root.toList ++ es.lent m := rfl
          rw [hle]
          rcases List.mem_cons.mp hp with h | h
          · subst h hi0; exact List.mem_append_left _ (by simp [E.root])
          · exact List.mem_append_right _ (i3 p h)
        · cases i with
          | zero =>
            simp at e
            subst e
            exact ⟨v, rfl, .inl ⟨rfl, q, by simp, g1, ed⟩⟩
          | succ i =>
            obtain ⟨u, j1, j2⟩ := i4 i d (by simpa using e)
            refine ⟨u, by simpa using j1, ?_⟩
            rcases j2 with ⟨j2, r0, j3, j4, j5⟩ | j2
            · exact .inl ⟨by simpa using j2, r0, List.mem_cons_of_mem _ (by rw [show k + (i + 1) = k + 1 + i by omega]; exact j3), j4, j5⟩
            · exact .inr (by simpa using j2)
    | false =>
      simp only [lend] at hl
      rw [Option.map_eq_some_iff] at hl
      obtain ⟨⟨ds1, P1, ps1⟩, hl, hq⟩ := hl
      simp only [Prod.mk.injEq] at hq
      obtain ⟨q1, q2, q3⟩ := hq
      subst q1 q2 q3
      have hle : (Es.cons e es).lent (false :: m) = es.lent m := rfl
      cases κ with
      | none =>
        obtain ⟨F, A', q4, h1, h3⟩ := h
        subst q4
        obtain ⟨i1, i2, i3, i4⟩ := lend_ok h3 ho.2 hl
        refine ⟨by simp [i1], by simp [lentIx, i2], fun p hp => by rw [hle]; exact i3 p hp, fun i d1 e => ?_⟩
        cases i with
        | zero =>
          simp at e
          subst e
          exact ⟨v, rfl, .inr ⟨rfl, d, F, rfl, h1, fun a ha => .inl (List.mem_append_left _ ha)⟩⟩
        | succ i =>
          obtain ⟨u, j1, j2⟩ := i4 i d1 (by simpa using e)
          refine ⟨u, by simpa using j1, ?_⟩
          rcases j2 with ⟨j2, r0, j3, j4, j5⟩ | ⟨j2, d0, F0, j3, j4, j5⟩
          · exact .inl ⟨by simpa using j2, r0, by rw [show k + (i + 1) = k + 1 + i by omega]; exact j3, j4, j5⟩
          · exact .inr ⟨by simpa using j2, d0, F0, j3, j4, fun a ha => (j5 a ha).imp (List.mem_append_right _) fun ⟨q, h1, h2⟩ => ⟨q, by simpa using h1, h2⟩⟩
      | some q =>
        obtain ⟨⟨F, h1, h2⟩, h3⟩ := h
        obtain ⟨i1, i2, i3, i4⟩ := lend_ok h3 ho.2 hl
        refine ⟨by simp [i1], by simp [lentIx, i2], fun p hp => by rw [hle]; exact i3 p hp, fun i d1 e => ?_⟩
        cases i with
        | zero =>
          simp at e
          subst e
          exact ⟨v, rfl, .inr ⟨rfl, d, F, rfl, h1, fun a ha => .inr ⟨q, by simp, h2 a ha⟩⟩⟩
        | succ i =>
          obtain ⟨u, j1, j2⟩ := i4 i d1 (by simpa using e)
          refine ⟨u, by simpa using j1, ?_⟩
          rcases j2 with ⟨j2, r0, j3, j4, j5⟩ | ⟨j2, d0, F0, j3, j4, j5⟩
          · exact .inl ⟨by simpa using j2, r0, by rw [show k + (i + 1) = k + 1 + i by omega]; exact j3, j4, j5⟩
          · exact .inr ⟨by simpa using j2, d0, F0, j3, j4, fun a ha => (j5 a ha).imp id fun ⟨q, h1, h2⟩ => ⟨q, by simp [h1], h2⟩⟩
/-! ### there and back -/
def fwd (P : List (Nat × Nat)) (i : Nat) : Option Nat := (P.find? fun p => p.2 == i).map (·.1)
def bwd (P : List (Nat × Nat)) (r : Nat) : Option Nat := (P.find? fun p => p.1 == r).map (·.2)
theorem fwd_mem {P : List (Nat × Nat)} {i r : Nat} (h : fwd P i = some r) : (r, i) ∈ P := by
  unfold fwd at h
  rw [Option.map_eq_some_iff] at h
  obtain ⟨p, h1, h2⟩ := h
  have h3 := List.mem_of_find?_eq_some h1
  have h4 := List.find?_some h1
  simp at h4
  subst h2 h4
  exact h3
theorem bwd_mem {P : List (Nat × Nat)} {i r : Nat} (h : bwd P r = some i) : (r, i) ∈ P := by
  unfold bwd at h
  rw [Option.map_eq_some_iff] at h
  obtain ⟨p, h1, h2⟩ := h
  have h3 := List.mem_of_find?_eq_some h1
  have h4 := List.find?_some h1
  simp at h4
  subst h2 h4
  exact h3
theorem mem1 {P : List (Nat × Nat)} {r i : Nat} (h : (r, i) ∈ P) : r ∈ P.map (·.1) := List.mem_map.mpr ⟨(r, i), h, rfl⟩
theorem mem2 {P : List (Nat × Nat)} {r i : Nat} (h : (r, i) ∈ P) : i ∈ P.map (·.2) := List.mem_map.mpr ⟨(r, i), h, rfl⟩
theorem uniq2 : ∀ {P : List (Nat × Nat)} {i r r' : Nat}, (P.map (·.2)).Nodup → (r, i) ∈ P → (r', i) ∈ P → r = r'
  | p :: P, i, r, r', nd, h1, h2 => by
    have nd := List.nodup_cons.mp nd
    have n0 : p.2 ∉ P.map (·.2) := nd.1
    rcases List.mem_cons.mp h1 with h1 | h1
    · rcases List.mem_cons.mp h2 with h2 | h2
      · rw [← h1] at h2; cases h2; rfl
      · rw [← h1] at n0; exact absurd (mem2 h2) n0
    · rcases List.mem_cons.mp h2 with h2 | h2
      · rw [← h2] at n0; exact absurd (mem2 h1) n0
      · exact uniq2 nd.2 h1 h2
theorem uniq1 : ∀ {P : List (Nat × Nat)} {r i i' : Nat}, (P.map (·.1)).Nodup → (r, i) ∈ P → (r, i') ∈ P → i = i'
  | p :: P, r, i, i', nd, h1, h2 => by
    have nd := List.nodup_cons.mp nd
    have n0 : p.1 ∉ P.map (·.1) := nd.1
    rcases List.mem_cons.mp h1 with h1 | h1
    · rcases List.mem_cons.mp h2 with h2 | h2
      · rw [← h1] at h2; cases h2; rfl
      · rw [← h1] at n0; exact absurd (mem1 h2) n0
    · rcases List.mem_cons.mp h2 with h2 | h2
      · rw [← h2] at n0; exact absurd (mem1 h1) n0
      · exact uniq1 nd.2 h1 h2
theorem fwd_of {P : List (Nat × Nat)} {i r : Nat} (nd : (P.map (·.2)).Nodup) (h : (r, i) ∈ P) : fwd P i = some r := by
  cases e : fwd P i with
  | some q => rw [uniq2 nd h (fwd_mem e)]
  | none =>
    unfold fwd at e
    rw [Option.map_eq_none_iff, List.find?_eq_none] at e
    exact absurd (e _ h) (by simp)
theorem bwd_of {P : List (Nat × Nat)} {i r : Nat} (nd : (P.map (·.1)).Nodup) (h : (r, i) ∈ P) : bwd P r = some i := by
  cases e : bwd P r with
  | some q => rw [uniq1 nd h (bwd_mem e)]
  | none =>
    unfold bwd at e
    rw [Option.map_eq_none_iff, List.find?_eq_none] at e
    exact absurd (e _ h) (by simp)
theorem nodupB_ok : ∀ {l : List Nat}, nodupB l = true → l.Nodup
  | [], _ => List.nodup_nil
  | x :: r, h => by
    simp only [nodupB, Bool.and_eq_true, Bool.not_eq_true', List.contains_eq_mem, decide_eq_false_iff_not] at h
    exact List.nodup_cons.mpr ⟨h.1, nodupB_ok h.2⟩
theorem setMs_length : ∀ (δ : Ev) (ls : List Nat) (ms : List D), (setMs δ ls ms).length = δ.length
  | δ, [], ms => by cases ms <;> rfl
  | δ, i :: ls, [] => rfl
  | δ, i :: ls, m :: ms => by unfold setMs; rw [List.length_set, setMs_length]
theorem setMs_ne {δ : Ev} : ∀ {ls : List Nat} {ms : List D} {j : Nat}, j ∉ ls → (setMs δ ls ms).getD j none = δ.getD j none
  | [], ms, j, h => by cases ms <;> rfl
  | i :: ls, [], j, h => rfl
  | i :: ls, m :: ms, j, h => by
    unfold setMs
    have hj : j ≠ i := fun e => h (by simp [e])
    rw [List.getD_eq_getElem?_getD, List.getElem?_set_ne (Ne.symm hj), ← List.getD_eq_getElem?_getD]
    exact setMs_ne fun q => h (List.mem_cons_of_mem _ q)
theorem setMs_at : ∀ {P : List (Nat × Nat)} {ms : List D} {δ1 δ2 : Ev} {r i : Nat}, (P.map (·.1)).Nodup → (P.map (·.2)).Nodup → (∀ p, p ∈ P → p.1 < δ1.length ∧ p.2 < δ2.length) → ms.length = P.length → (r, i) ∈ P →
    ∃ d, d ∈ ms ∧ (setMs δ1 (P.map (·.1)) ms).getD r none = some d ∧ (setMs δ2 (P.map (·.2)) ms).getD i none = some d
  | [], ms, δ1, δ2, r, i, _, _, _, _, h => (List.not_mem_nil h).elim
  | p :: P, [], δ1, δ2, r, i, _, _, _, hl, h => by simp at hl
  | p :: P, m :: ms, δ1, δ2, r, i, n1, n2, hb, hl, h => by
    have n1' := List.nodup_cons.mp n1
    have n2' := List.nodup_cons.mp n2
    have hb0 := hb p List.mem_cons_self
    simp only [List.map_cons, setMs]
    rw [getD_set _ _ _ _ (.inr (by rw [setMs_length]; exact hb0.1)), getD_set _ _ _ _ (.inr (by rw [setMs_length]; exact hb0.2))]
    rcases List.mem_cons.mp h with h | h
    · subst h
      exact ⟨m, List.mem_cons_self, by simp, by simp⟩
    · have m1 : p.1 ∉ P.map (·.1) := n1'.1
      have m2 : p.2 ∉ P.map (·.2) := n2'.1
      have e1 : ¬ r = p.1 := fun e => m1 (by rw [← e]; exact mem1 h)
      have e2 : ¬ i = p.2 := fun e => m2 (by rw [← e]; exact mem2 h)
      obtain ⟨d, h1, h2, h3⟩ := setMs_at n1'.2 n2'.2 (fun p hp => hb p (List.mem_cons_of_mem _ hp)) (by simpa using hl) h
      exact ⟨d, List.mem_cons_of_mem _ h1, by rw [if_neg e1]; exact h2, by rw [if_neg e2]; exact h3⟩
mutual
theorem RepF.anyZ {Z Z1 : Addr → Prop} {H : Hp} : ∀ (v : V) (d : D) (F : List Addr), RepF K Z H v d F → d.noSh = true → RepF K Z1 H v d F
  | v, .t x, F, h, n => by unfold RepF at h ⊢; exact h
  | v, .scr x, F, h, n => by simp [D.noSh] at n
  | v, .sh x, F, h, n => by simp [D.noSh] at n
  | v, .lst xs, F, h, n => by
    unfold RepF at h ⊢
    obtain ⟨a, vs, Fs, e, h1, h2, h3⟩ := h
    exact ⟨a, vs, Fs, e, h1, h2, RepFs.anyZ vs xs Fs h3 (by simpa [D.noSh] using n)⟩
theorem RepFs.anyZ {Z Z1 : Addr → Prop} {H : Hp} : ∀ (vs : List V) (ds : List D) (F : List Addr), RepFs K Z H vs ds F → D.noShs ds = true → RepFs K Z1 H vs ds F
  | vs, [], F, h, n => by unfold RepFs at h ⊢; exact h
  | vs, x :: xs, F, h, n => by
    simp only [D.noShs, Bool.and_eq_true] at n
    unfold RepFs at h ⊢
    obtain ⟨v, r, F1, F2, e, e2, h1, h2⟩ := h
    exact ⟨v, r, F1, F2, e, e2, RepF.anyZ v x F1 h1 n.1, RepFs.anyZ r xs F2 h2 n.2⟩
end
theorem noShs_mem : ∀ {ds : List D} {d : D}, D.noShs ds = true → d ∈ ds → d.noSh = true
  | x :: xs, d, h, m => by
    simp only [D.noShs, Bool.and_eq_true] at h
    rcases List.mem_cons.mp m with e | e
    · subst e; exact h.1
    · exact noShs_mem h.2 e
def FsC (P : List (Nat × Nat)) (Fs : Fp) : Fp := fun i => match fwd P i with
  | some r => Fs r
  | none => []
def FsB (P : List (Nat × Nat)) (Fs Fs' : Fp) : Fp := fun j => match bwd P j with
  | some i => Fs' i
  | none => Fs j
theorem FsC_mem {P : List (Nat × Nat)} {Fs : Fp} {i : Nat} {a : Addr} (h : a ∈ FsC P Fs i) : ∃ r, (r, i) ∈ P ∧ a ∈ Fs r := by
  unfold FsC at h
  split at h
  · rename_i r e
    exact ⟨r, fwd_mem e, h⟩
  · exact (List.not_mem_nil h).elim
theorem call_back {M : List Nat} {σ σc : St} {Z0 Z2 Zc Z' : Addr → Prop} {δ0 δ2 δc : Ev} {Fs0 Fs2 Fs' : Fp} {H0 H2 H' : Hp} {P : List (Nat × Nat)} {ps : List Nat} {ms : List D} {A : List Addr} (S2 : SR K Z2 δ2 Fs2 σ H2) (t2 : Tr M Z0 δ0 Fs0 H0 Z2 δ2 Fs2 H2) (oA : OwnA M Fs0 H0 Z2 Fs2 H2 A)
    (hz : Zc = fun a => Z2 a ∨ a ∈ A ∨ ∃ q, q ∈ ps ∧ a ∈ Fs2 q) (n1 : (P.map (·.1)).Nodup) (n2 : (P.map (·.2)).Nodup) (hps : ∀ q, q ∈ ps → q ∉ P.map (·.1)) (hl : ms.length = P.length)
    (hP : ∀ p, p ∈ P → p.2 < δc.length ∧ ∃ v d, σ[p.1]? = some (some v) ∧ σc[p.2]? = some (some v) ∧ δ2.getD p.1 none = some d)
    (S' : SR K Z' (setMs δc (P.map (·.2)) ms) Fs' σc H') (t' : Tr (P.map (·.2)) Zc δc (FsC P Fs2) H2 Z' (setMs δc (P.map (·.2)) ms) Fs' H') (hsh : ps = [] ∨ D.noShs ms = true) :
    ∃ Z3, SR K Z3 (setMs δ2 (P.map (·.1)) ms) (FsB P Fs2 Fs') σ H' ∧ Tr (M ++ P.map (·.1)) Z0 δ0 Fs0 H0 Z3 (setMs δ2 (P.map (·.1)) ms) (FsB P Fs2 Fs') H' ∧
      (∀ v d F, RepF K Z' H' v d F → (ps = [] ∨ d.noSh = true) → RepF K Z3 H' v d F) ∧ ∀ F, OwnA (P.map (·.2)) (FsC P Fs2) H2 Z' Fs' H' F → OwnA (M ++ P.map (·.1)) Fs0 H0 Z3 (FsB P Fs2 Fs') H' F := by
  have hbl : ∀ p, p ∈ P → p.1 < δ2.length ∧ p.2 < δc.length := fun p hp => by
    obtain ⟨h1, v, d, h2, h3, h4⟩ := hP p hp
    exact ⟨getD_lt h4, h1⟩
  -- what the callee may touch is what the lent slots own
  have up : ∀ {a}, At (P.map (·.2)) (FsC P Fs2) a → At (P.map (·.1)) Fs2 a := fun {a} ⟨i, hi, ha⟩ => by
    obtain ⟨r, h1, h2⟩ := FsC_mem ha
    exact ⟨r, mem1 h1, h2⟩
  have Z3 : ∃ Z3 : Addr → Prop, Z3 = fun a => Z' a ∧ ¬ ∃ q, q ∈ ps ∧ a ∈ Fs2 q := ⟨_, rfl⟩
  obtain ⟨Z3, hz3⟩ := Z3
  have anyR : ∀ v d F, RepF K Z' H' v d F → (ps = [] ∨ d.noSh = true) → RepF K Z3 H' v d F := fun v d F r q => by
    rcases q with q | q
    · subst q
      refine RepF.go (Go.new (fun _ _ h => h) fun a h => ?_) v d F r fun _ _ h => h
      rw [hz3]
      exact ⟨h, fun ⟨q, hq, _⟩ => (List.not_mem_nil hq).elim⟩
    · exact RepF.anyZ v d F r q
  have zc : ∀ a, Z2 a → Zc a := fun a h => by rw [hz]; exact .inl h
  have z23 : ∀ a, Z2 a → Z3 a := fun a h => by
    rw [hz3]
    exact ⟨t'.z a (zc a h), fun ⟨q, _, ha⟩ => (S2.mu q a ha).2 h⟩
  -- where what is frozen comes from
  have zf3 : ∀ a, Z3 a → Z2 a ∨ a ∈ A ∨ H2 a = none ∨ At (P.map (·.1)) Fs2 a := fun a h => by
    rw [hz3] at h
    rcases t'.zf a h.1 with q | q | q
    · rw [hz] at q
      rcases q with q | q | q
      · exact .inl q
      · exact .inr (.inl q)
      · exact absurd q h.2
    · exact .inr (.inr (.inl q))
    · exact .inr (.inr (.inr (up q)))
  have notAt : ∀ {j a}, j ∉ P.map (·.1) → a ∈ Fs2 j → ¬ At (P.map (·.1)) Fs2 a := fun {j a} hj ha ⟨r, hr, q⟩ => hj (by rw [S2.dj j r a ha q]; exact hr)
  have notAtC : ∀ {j a}, j ∉ P.map (·.1) → a ∈ Fs2 j → ¬ At (P.map (·.2)) (FsC P Fs2) a := fun hj ha q => notAt hj ha (up q)
  have fsB1 : ∀ {j i}, (j, i) ∈ P → FsB P Fs2 Fs' j = Fs' i := fun {j i} h => by unfold FsB; rw [bwd_of n1 h]
  have fsB0 : ∀ {j}, j ∉ P.map (·.1) → FsB P Fs2 Fs' j = Fs2 j := fun {j} h => by
    unfold FsB
    cases e : bwd P j with
    | none => rfl
    | some i => exact absurd (mem1 (bwd_mem e)) h
  have inP : ∀ {j}, j ∈ P.map (·.1) → ∃ i, (j, i) ∈ P := fun {j} h => by
    obtain ⟨p, hp, e⟩ := List.mem_map.mp h
    subst e
    exact ⟨p.2, hp⟩
  -- what the lent slots own behind the call
  have ffC : ∀ {i a}, a ∈ Fs' i → H2 a = none ∨ At (P.map (·.1)) Fs2 a := fun {i a} ha => by
    rcases t'.ff i a ha with q | q | q
    · exact .inl q
    · obtain ⟨r, h1, h2⟩ := FsC_mem q
      exact .inr ⟨r, mem1 h1, h2⟩
    · exact .inr (up q)
  have apart : ∀ {j a i}, j ∉ P.map (·.1) → a ∈ Fs2 j → a ∉ Fs' i := fun {j a i} hj ha q => by
    rcases ffC q with z | z
    · obtain ⟨u, e⟩ := mut_some (S2.mu j a ha).1
      rw [z] at e; cases e
    · exact notAt hj ha z
  have keep : ∀ {j a}, j ∉ P.map (·.1) → a ∈ Fs2 j → Mut (H' a) ∧ ¬ Z3 a := fun {j a} hj ha => by
    obtain ⟨mu, nz⟩ := S2.mu j a ha
    obtain ⟨u, e⟩ := mut_some mu
    refine ⟨by rw [t'.k a u e (notAtC hj ha), ← e]; exact mu, fun z => ?_⟩
    rcases zf3 a z with q | q | q | q
    · exact nz q
    · exact oA.ni a q j ha
    · rw [q] at e; cases e
    · exact notAt hj ha q
  have g2 : Go (At (P.map (·.1)) Fs2) Z2 H2 Z3 H' := ⟨z23, fun a o e n => t'.k a o e fun q => n (up q), fun a ⟨r, _, ha⟩ => S2.mu r a ha⟩
  refine ⟨Z3, ?_, ?_, anyR, fun F o => ?_⟩
  · refine ⟨by rw [setMs_length]; exact S2.len, fun j d e => ?_, fun j e => ?_, fun j => ?_, fun j k a ha hb => ?_, fun j a ha => ?_, fun a z => ?_⟩
    · by_cases m : j ∈ P.map (·.1)
      · obtain ⟨i, hi⟩ := inP m
        obtain ⟨d', h1, h2, h3⟩ := setMs_at (ms := ms) n1 n2 hbl hl hi
        rw [h2] at e
        cases e
        obtain ⟨_, v, _, h4, h5, _⟩ := hP _ hi
        obtain ⟨v', h6, r⟩ := S'.rep i d h3
        have hv : some (some v') = some (some v) := h6.symm.trans h5
        cases hv
        rw [fsB1 hi]
        exact ⟨_, h4, anyR _ _ _ r (hsh.imp id fun q => noShs_mem q h1)⟩
      · rw [setMs_ne m] at e
        rw [fsB0 m]
        obtain ⟨v, e1, r⟩ := S2.rep j d e
        exact ⟨v, e1, RepF.go g2 v d _ r fun a ha => notAt m ha⟩
    · by_cases m : j ∈ P.map (·.1)
      · obtain ⟨i, hi⟩ := inP m
        obtain ⟨d', h1, h2, h3⟩ := setMs_at (ms := ms) n1 n2 hbl hl hi
        rw [h2] at e; cases e
      · rw [setMs_ne m] at e
        rw [fsB0 m]
        exact S2.no j e
    · by_cases m : j ∈ P.map (·.1)
      · obtain ⟨i, hi⟩ := inP m
        rw [fsB1 hi]; exact S'.nd i
      · rw [fsB0 m]; exact S2.nd j
    · by_cases m : j ∈ P.map (·.1)
      · obtain ⟨i, hi⟩ := inP m
        rw [fsB1 hi] at ha
        by_cases m2 : k ∈ P.map (·.1)
        · obtain ⟨i2, hi2⟩ := inP m2
          rw [fsB1 hi2] at hb
          have e := S'.dj i i2 a ha hb
          subst e
          exact uniq2 n2 hi hi2
        · rw [fsB0 m2] at hb; exact absurd ha (apart m2 hb)
      · rw [fsB0 m] at ha
        by_cases m2 : k ∈ P.map (·.1)
        · obtain ⟨i2, hi2⟩ := inP m2
          rw [fsB1 hi2] at hb
          exact absurd hb (apart m ha)
        · rw [fsB0 m2] at hb; exact S2.dj j k a ha hb
    · by_cases m : j ∈ P.map (·.1)
      · obtain ⟨i, hi⟩ := inP m
        rw [fsB1 hi] at ha
        exact ⟨(S'.mu i a ha).1, fun z => (S'.mu i a ha).2 (by rw [hz3] at z; exact z.1)⟩
      · rw [fsB0 m] at ha; exact keep m ha
    · rw [hz3] at z; exact S'.zd a z.1
  · refine ⟨fun a z => z23 a (t2.z a z), fun a z => ?_, fun a o e n => ?_, fun j a ha => ?_, fun j hj => ?_, by rw [setMs_length]; exact t2.len⟩
    · rcases zf3 a z with q | q | q | q
      · exact (t2.zf a q).imp id (Or.imp id At.left)
      · exact .inr ((oA.org a q).imp id At.left)
      · exact .inr (t2.backO (.inl q))
      · exact .inr (t2.backO (.inr q))
    · have h1 := t2.k a o e fun q => n q.left
      refine t'.k a o h1 fun q => ?_
      rcases t2.backAt (up q) with z | z
      · rw [z] at e; cases e
      · exact n z
    · by_cases m : j ∈ P.map (·.1)
      · obtain ⟨i, hi⟩ := inP m
        rw [fsB1 hi] at ha
        exact (t2.backO (ffC ha)).elim .inl fun q => .inr (.inr q)
      · rw [fsB0 m] at ha
        exact (t2.ff j a ha).imp id (Or.imp id At.left)
    · have h1 : j ∉ M := fun q => hj (List.mem_append_left _ q)
      have h2 : j ∉ P.map (·.1) := fun q => hj (List.mem_append_right _ q)
      rw [fsB0 h2, setMs_ne h2]
      exact t2.same j h1
  · refine ⟨o.nd, fun a ha => ⟨(o.mu a ha).1, fun z => (o.mu a ha).2 (by rw [hz3] at z; exact z.1)⟩, fun a ha j q => ?_, fun a ha => t2.backO ((o.org a ha).imp id up)⟩
    by_cases m : j ∈ P.map (·.1)
    · obtain ⟨i, hi⟩ := inP m
      rw [fsB1 hi] at q
      exact o.ni a ha i q
    · rw [fsB0 m] at q
      rcases o.org a ha with z | z
      · obtain ⟨u, e⟩ := mut_some (S2.mu j a q).1
        rw [z] at e; cases e
      · exact notAtC m q z
theorem frz_free (d : D) : d.frz.free = true := by cases d <;> rfl
theorem mapSome_get {ds : List D} {i : Nat} {d : D} : (ds.map some).getD i none = some d ↔ ds[i]? = some d := by
  rw [List.getD_eq_getElem?_getD, List.getElem?_map]
  cases ds[i]? <;> simp
theorem call_ok {f : Nat} {es : Es} {es' : List Expr} {f' : Expr} {pos : Pos} {n : Nat} (hn : (G.mu f).length = n) (hc : PE X (.Call f' es' [] pos) (tCallSD (spI X.K G EX f n) [] (WE W) (tEs X.K G EX W es))) : PE X (.Call f' es' [] pos) (tE X.K G EX W (.call f es)) := by
  refine PE.imp hc fun σ H Q h => ?_
  obtain ⟨Z, δ, Fs, r, S, e, R⟩ := h
  simp only [denE] at e
  refine seqEs S e R inl_mem fun ws δ2 e3 vs Z2 Fs2 H2 S2 t2 rb => ?_
  rw [List.append_nil]
  obtain ⟨A, rb1, oA⟩ := rb
  split at e3
  case isFalse => cases e3
  rename_i hok
  split at e3
  case h_2 => cases e3
  rename_i ds P ps el
  split at e3
  case isFalse => cases e3
  rename_i hcd
  simp only [Bool.and_eq_true, List.all_eq_true, Bool.not_eq_true', List.contains_eq_mem, decide_eq_false_iff_not] at hcd
  obtain ⟨f1, f2, f3, f4⟩ := lend_ok rb1 hok el
  have n1 := nodupB_ok hcd.1
  have n2 : (P.map (·.2)).Nodup := by rw [f2]; exact nodup_lentIx
  have hP : ∀ p, p ∈ P → p.2 < (ds.map some).length ∧ ∃ v d, σ[p.1]? = some (some v) ∧ (vs.map some)[p.2]? = some (some v) ∧ δ2.getD p.1 none = some d := fun p hp => by
    have h1 : p.2 ∈ lentIx 0 (G.mu f) := by rw [← f2]; exact List.mem_map.mpr ⟨_, hp, rfl⟩
    have h2 := (mem_lentIx.mp h1).2
    simp only [Nat.sub_zero] at h2
    have hlt : p.2 < ds.length := by
      have : p.2 < (G.mu f).length := by
        rw [List.getD_eq_getElem?_getD] at h2
        cases q : (G.mu f)[p.2]? with
        | none => rw [q] at h2; cases h2
        | some b => exact (List.getElem?_eq_some_iff.mp q).1
      have hh : ds.length = (G.mu f).length := by
        have := lendLen el
        exact this
      omega
    obtain ⟨v, h3, h4⟩ := f4 p.2 ds[p.2] (List.getElem?_eq_getElem hlt)
    rcases h4 with ⟨_, r0, h5, h6, h7⟩ | ⟨h4, _⟩
    · rw [Nat.zero_add] at h5
      have e0 : r0 = p.1 := uniq2 n2 h5 (by show (p.1, p.2) ∈ P; exact hp)
      subst e0
      exact ⟨by rw [List.length_map]; exact hlt, v, _, h6, by rw [List.getElem?_map, h3]; rfl, h7⟩
    · rw [h4] at h2; cases h2
  have hZ : ∃ Zc : Addr → Prop, Zc = fun a => Z2 a ∨ a ∈ A ∨ ∃ q, q ∈ ps ∧ a ∈ Fs2 q := ⟨_, rfl⟩
  obtain ⟨Zc, hz⟩ := hZ
  have zc : ∀ a, Z2 a → Zc a := fun a h => by rw [hz]; exact .inl h
  have gc : Go (fun _ => False) Z2 H2 Zc H2 := Go.new (fun _ _ h => h) zc
  have Sc : SR X.K Zc (ds.map some) (FsC P Fs2) (vs.map some) H2 := by
    refine ⟨by simp [f1], fun i d e => ?_, fun i e => ?_, fun i => ?_, fun i j a ha hb => ?_, fun i a ha => ?_, fun a z => ?_⟩
    · rw [mapSome_get] at e
      obtain ⟨v, h3, h4⟩ := f4 i d e
      refine ⟨v, by rw [List.getElem?_map, h3]; rfl, ?_⟩
      rcases h4 with ⟨_, r0, h5, h6, h7⟩ | ⟨h4, d0, F, h5, h6, h7⟩
      · rw [Nat.zero_add] at h5
        unfold FsC
        rw [fwd_of n2 h5]
        obtain ⟨v', h8, rr⟩ := S2.rep r0 d h7
        rw [h6] at h8
        cases h8
        exact RepF.go gc _ _ _ rr fun _ _ h => h
      · have e0 : fwd P i = none := by
          cases q : fwd P i with
          | none => rfl
          | some r0 =>
            have h8 : i ∈ lentIx 0 (G.mu f) := by rw [← f2]; exact mem2 (fwd_mem q)
            have h9 := (mem_lentIx.mp h8).2
            rw [Nat.sub_zero, h4] at h9
            cases h9
        unfold FsC
        rw [e0, h5]
        refine RepF.frz (RepF.go gc _ _ _ h6 fun _ _ h => h) fun a ha => ?_
        rw [hz]
        exact .inr (h7 a ha)
    · unfold FsC
      cases q : fwd P i with
      | none => rfl
      | some r0 =>
        obtain ⟨h1, _⟩ := hP _ (fwd_mem q)
        simp only [List.length_map] at h1
        have : (ds.map some).getD i none = some ds[i] := mapSome_get.mpr (List.getElem?_eq_getElem h1)
        rw [this] at e; cases e
    · unfold FsC
      split
      · exact S2.nd _
      · exact List.nodup_nil
    · obtain ⟨r1, h1, h2⟩ := FsC_mem ha
      obtain ⟨r2, h3, h4⟩ := FsC_mem hb
      have e := S2.dj r1 r2 a h2 h4
      subst e
      exact uniq1 n1 h1 h3
    · obtain ⟨r1, h1, h2⟩ := FsC_mem ha
      obtain ⟨mu, nz⟩ := S2.mu r1 a h2
      refine ⟨mu, fun z => ?_⟩
      rw [hz] at z
      rcases z with z | z | ⟨q, hq, z⟩
      · exact nz z
      · exact oA.ni a z r1 h2
      · have e := S2.dj r1 q a h2 z
        subst e
        exact hcd.2 _ hq (mem1 h1)
    · rw [hz] at z
      rcases z with z | z | ⟨q, hq, z⟩
      · exact S2.zd a z
      · intro h
        obtain ⟨u, e⟩ := mut_some (oA.mu a z).1
        rw [h] at e; cases e
      · intro h
        obtain ⟨u, e⟩ := mut_some (S2.mu q a z).1
        rw [h] at e; cases e
  have hM : ∀ i, i ∈ es.muts G.mu ++ P.map (·.1) → i ∈ (E.call f es).muts G.mu := fun i hi => by
    show i ∈ es.muts G.mu ++ es.lent (G.mu f)
    rcases List.mem_append.mp hi with q | q
    · exact List.mem_append_left _ q
    · obtain ⟨p, hp, e⟩ := List.mem_map.mp q
      subst e
      exact List.mem_append_right _ (f3 p hp)
  have hlen : vs.length = n := by rw [f1, ← hn]; exact lendLen el
  have hfree : ∀ i d, ds[i]? = some d → (G.mu f).getD i false = false → d.free = true := fun i d e hb => by
    obtain ⟨v, _, h4⟩ := f4 i d e
    rcases h4 with ⟨h4, _⟩ | ⟨_, d0, F, h5, _⟩
    · rw [hb] at h4; cases h4
    · rw [h5]; exact frz_free d0
  have hps : ∀ q, q ∈ ps → q ∉ P.map (·.1) := hcd.2
  split at e3
  · rename_i rd ms ef
    split at e3
    case isFalse => cases e3
    rename_i hc2
    cases some_ok e3
    simp only [Bool.and_eq_true, Bool.or_eq_true, decide_eq_true_eq, List.isEmpty_iff] at hc2
    refine ⟨hlen, Zc, ds, FsC P Fs2, _, Sc, hfree, ef, ?_⟩
    rw [← f2]
    intro v Z' Fs' H' S' t' ⟨F, rF, oF⟩
    obtain ⟨Z3, S3, t3, an, ow⟩ := call_back S2 t2 oA hz n1 n2 hps hc2.1 hP S' t' (hc2.2.imp id And.right)
    exact R v Z3 _ H' S3 (t3.mono hM) ⟨F, an _ _ _ rF (hc2.2.imp id And.left), (ow F oF).mono hM⟩
  · rename_i x ms ef
    split at e3
    case isFalse => cases e3
    rename_i hc2
    cases some_ok e3
    simp only [Bool.and_eq_true, Bool.or_eq_true, decide_eq_true_eq, List.isEmpty_iff] at hc2
    refine ⟨hlen, Zc, ds, FsC P Fs2, _, Sc, hfree, ef, ?_⟩
    rw [← f2]
    intro Z' Fs' H' cls dd S' t' hx
    obtain ⟨Z3, S3, t3, an, ow⟩ := call_back S2 t2 oA hz n1 n2 hps hc2.1 hP S' t' hc2.2
    exact R Z3 _ H' cls dd S3 (t3.mono hM) hx
  · cases e3
end
end DV


set_option Elab.async false
set_option linter.all false
set_option maxRecDepth 100000
set_option maxHeartbeats 2000000
/-! DR: statements. -/
namespace DV
open PySem L2
section
variable (K : PySem.W.Frag) (G : GCtx) (EX : Exn → XK) (W : WX)
def ResS (A M : List Nat) (σ : St) (Z : Addr → Prop) (δ : Ev) (Fs : Fp) (H : Hp) (r : R Fl) (D : Ends) : Prop :=
  match r with
  | .ok .nx δ' => ∀ σ' Z' Fs' H', SR K Z' δ' Fs' σ' H' → Tr M Z δ Fs H Z' δ' Fs' H' → Agree A σ σ' → D.nx σ' H'
  | .ok .bk δ' => ∀ σ' Z' Fs' H', SR K Z' δ' Fs' σ' H' → Tr M Z δ Fs H Z' δ' Fs' H' → Agree A σ σ' → D.bk σ' H'
  | .ok .ct δ' => ∀ σ' Z' Fs' H', SR K Z' δ' Fs' σ' H' → Tr M Z δ Fs H Z' δ' Fs' H' → Agree A σ σ' → D.ct σ' H'
  | .ok (.rt d κ) δ' => ∀ v σ' Z' Fs' H', SR K Z' δ' Fs' σ' H' → Tr M Z δ Fs H Z' δ' Fs' H' → Agree A σ σ' → relV K M Fs H Z' Fs' H' v (d, κ) → D.rt v H'
  | .ex x δ' => ∀ σ' Z' Fs' H' cls dd, SR K Z' δ' Fs' σ' H' → Tr M Z δ Fs H Z' δ' Fs' H' → Agree A σ σ' → EX x cls dd H' → W cls dd σ' H'
def tS (s : S) : TS := fun D σ H => ∃ Z δ Fs r, SR K Z δ Fs σ H ∧ denS G s δ = some r ∧ ResS K EX W s.asgs (s.muts G.mu) σ Z δ Fs H r D
def tSs (s : Ss) : TS := fun D σ H => ∃ Z δ Fs r, SR K Z δ Fs σ H ∧ denSs G s δ = some r ∧ ResS K EX W s.asgs (s.muts G.mu) σ Z δ Fs H r D
end
section
variable {G : GCtx} {EX : Exn → XK} {W : WX} {X : Cx} {a' b' c' : Expr} {a b c : E} {pos : Pos} {K : PySem.W.Frag} {A A1 A2 M M1 M2 : List Nat} {σ σ1 : St} {Z Z1 : Addr → Prop} {δ δ1 : Ev} {Fs Fs1 : Fp} {H H1 : Hp} {r : R Fl} {En : Ends}
theorem PS.imp {s : Stmt} {t t' : TS} (h : PS X s t) (hi : ∀ D σ H, t' D σ H → t D σ H) : PS X s t' := ⟨fun pins s σ H D I q => h.run pins s σ H D I (hi D σ H q)⟩
theorem PSs.imp {s : List Stmt} {t t' : TS} (h : PSs X s t) (hi : ∀ D σ H, t' D σ H → t D σ H) : PSs X s t' := ⟨fun pins s σ H D I q => h.run pins s σ H D I (hi D σ H q)⟩
theorem ResS.later (R : ResS K EX W A M σ Z δ Fs H r En) (hA : ∀ i, i ∈ A1 ++ A2 → i ∈ A) (hM : ∀ i, i ∈ M1 ++ M2 → i ∈ M) (t : Tr M1 Z δ Fs H Z1 δ1 Fs1 H1) (g : Agree A1 σ σ1) : ResS K EX W A2 M2 σ1 Z1 δ1 Fs1 H1 r En := by
  cases r with
  | ex x δ' => exact fun σ' Z' Fs' H' cls dd S' u g2 q => R σ' Z' Fs' H' cls dd S' ((t.trans u).mono hM) ((g.trans g2).mono hA) q
  | ok fl δ' =>
    cases fl with
    | nx => exact fun σ' Z' Fs' H' S' u g2 => R σ' Z' Fs' H' S' ((t.trans u).mono hM) ((g.trans g2).mono hA)
    | bk => exact fun σ' Z' Fs' H' S' u g2 => R σ' Z' Fs' H' S' ((t.trans u).mono hM) ((g.trans g2).mono hA)
    | ct => exact fun σ' Z' Fs' H' S' u g2 => R σ' Z' Fs' H' S' ((t.trans u).mono hM) ((g.trans g2).mono hA)
    | rt d κ => exact fun v σ' Z' Fs' H' S' u g2 q => R v σ' Z' Fs' H' S' ((t.trans u).mono hM) ((g.trans g2).mono hA) ((relV.later t q).sub hM)
theorem ResS.sub (R : ResS K EX W A M σ Z δ Fs H r En) (hA : ∀ i, i ∈ A1 → i ∈ A) (hM : ∀ i, i ∈ M1 → i ∈ M) : ResS K EX W A1 M1 σ Z δ Fs H r En := by
  cases r with
  | ex x δ' => exact fun σ' Z' Fs' H' cls dd S' u g2 q => R σ' Z' Fs' H' cls dd S' (u.mono hM) (g2.mono hA) q
  | ok fl δ' =>
    cases fl with
    | nx => exact fun σ' Z' Fs' H' S' u g2 => R σ' Z' Fs' H' S' (u.mono hM) (g2.mono hA)
    | bk => exact fun σ' Z' Fs' H' S' u g2 => R σ' Z' Fs' H' S' (u.mono hM) (g2.mono hA)
    | ct => exact fun σ' Z' Fs' H' S' u g2 => R σ' Z' Fs' H' S' (u.mono hM) (g2.mono hA)
    | rt d κ => exact fun v σ' Z' Fs' H' S' u g2 q => R v σ' Z' Fs' H' S' (u.mono hM) (g2.mono hA) (relV.sub q hM)
/-- what is owed of exceptions alone -/
theorem ResS.res (R : ResS K EX W A M σ Z δ Fs H r En) : Res K EX W M σ Z δ Fs H (fun _ _ _ (_ : Unit) _ => False) r (fun _ _ => True) := by
  cases r with
  | ex x δ' => exact fun Z' Fs' H' cls dd S' u q => R σ Z' Fs' H' cls dd S' u Agree.refl q
  | ok fl δ' => exact fun _ _ _ _ _ _ h => h.elim
theorem OwnA.bound {od : Option Nat} {F : List Addr} {M A : List Nat} {Z0 Z1 : Addr → Prop} {δ0 δ1 δ2 : Ev} {Fs0 Fs1 Fs2 : Fp} {H0 H1 : Hp} {σ σ2 : St} (o : OwnA M Fs0 H0 Z1 Fs1 H1 F) (t : Tr M Z0 δ0 Fs0 H0 Z1 δ1 Fs1 H1) (b : Bd K A Z1 δ1 Fs1 σ H1 F δ2 Fs2 σ2) : Tr (M ++ A) Z0 δ0 Fs0 H0 Z1 δ2 Fs2 H1 := by
  refine ⟨t.z, fun a z => (t.zf a z).imp id (Or.imp id At.left), fun a o e n => t.k a o e fun q => n q.left, fun i a ha => ?_, fun i hi => ?_, b.len.trans t.len⟩
  · rcases b.ff i a ha with q | q
    · exact (t.ff i a q).imp id (Or.imp id At.left)
    · exact (o.org a q).imp id fun z => .inr z.left
  · have h1 := t.same i fun q => hi (List.mem_append_left _ q)
    have h2 := b.same i fun q => hi (List.mem_append_right _ q)
    exact ⟨h2.1.trans h1.1, h2.2.trans h1.2⟩
theorem nil_mem {M : List Nat} : ∀ i, i ∈ ([] : List Nat) → i ∈ M := fun _ h => (List.not_mem_nil h).elim
theorem app_nil {M : List Nat} : ∀ i, i ∈ M ++ ([] : List Nat) → i ∈ M := fun i h => by simpa using h
/-! ### small statements -/
theorem sNil : PSs X [] (tSs X.K G EX W .nil) := PSs.imp pss_nil fun D σ H h => by
  obtain ⟨Z, δ, Fs, r, S, e, R⟩ := h
  simp only [denSs] at e
  cases some_ok e
  exact R σ Z Fs H S (Tr.refl.mono nil_mem) Agree.refl
theorem sCons {s : S} {ss : Ss} {s' : Stmt} {ss' : List Stmt} (h1 : PS X s' (tS X.K G EX W s)) (h2 : PSs X ss' (tSs X.K G EX W ss)) : PSs X (s' :: ss') (tSs X.K G EX W (.cons s ss)) := PSs.imp (pss_cons h1 h2) fun D σ H h => by
  obtain ⟨Z, δ, Fs, r, S, e, R⟩ := h
  simp only [denSs] at e
  rcases bnd_some e with ⟨x, δ', e1, e2⟩ | ⟨fl, δ', e1, e2⟩
  · subst e2
    exact ⟨Z, δ, Fs, _, S, e1, fun σ' Z' Fs' H' cls dd S' t g q => R σ' Z' Fs' H' cls dd S' (t.mono inl_mem) (g.mono inl_mem) q⟩
  · refine ⟨Z, δ, Fs, _, S, e1, ?_⟩
    cases fl with
    | nx => exact fun σ' Z' Fs' H' S' t g => ⟨Z', δ', Fs', r, S', e2, R.later (A1 := s.asgs) (M1 := s.muts G.mu) (fun _ h => h) (fun _ h => h) t g⟩
    | bk => cases some_ok e2; exact R.sub inl_mem inl_mem
    | ct => cases some_ok e2; exact R.sub inl_mem inl_mem
    | rt d κ => cases some_ok e2; exact R.sub inl_mem inl_mem
theorem sPass : PS X (.Pass pos) (tS X.K G EX W .pass) := PS.imp ps_pass fun D σ H h => by
  obtain ⟨Z, δ, Fs, r, S, e, R⟩ := h
  simp only [denS] at e
  cases some_ok e
  exact R σ Z Fs H S (Tr.refl.mono nil_mem) Agree.refl
theorem sBrk : PS X (.Break pos) (tS X.K G EX W .brk) := PS.imp ps_break fun D σ H h => by
  obtain ⟨Z, δ, Fs, r, S, e, R⟩ := h
  simp only [denS] at e
  cases some_ok e
  exact R σ Z Fs H S (Tr.refl.mono nil_mem) Agree.refl
theorem sCont : PS X (.Continue pos) (tS X.K G EX W .cont) := PS.imp ps_continue fun D σ H h => by
  obtain ⟨Z, δ, Fs, r, S, e, R⟩ := h
  simp only [denS] at e
  cases some_ok e
  exact R σ Z Fs H S (Tr.refl.mono nil_mem) Agree.refl
theorem sDoc {x j p1 pos'} : PS X (.Expr (.Constant (.str x) j p1) pos') (tS X.K G EX W .pass) := PS.imp ps_doc fun D σ H h => by
  obtain ⟨Z, δ, Fs, r, S, e, R⟩ := h
  simp only [denS] at e
  cases some_ok e
  exact R σ Z Fs H S (Tr.refl.mono nil_mem) Agree.refl
theorem sRetN : PS X (.Return none pos) (tS X.K G EX W .retn) := PS.imp ps_retN fun D σ H h => by
  obtain ⟨Z, δ, Fs, r, S, e, R⟩ := h
  simp only [denS] at e
  cases some_ok e
  exact R .non σ Z Fs H S (Tr.refl.mono nil_mem) Agree.refl (relV.freeT (by unfold RepT; rfl))
theorem sRet (ha : PE X a' (tE X.K G EX W a)) : PS X (.Return (some a') pos) (tS X.K G EX W (.ret a)) := PS.imp (ps_ret ha) fun D σ H h => by
  obtain ⟨Z, δ, Fs, r, S, e, R⟩ := h
  simp only [denS] at e
  refine seqE S e R.res (fun _ h => h) fun va δ1 e1 x Z1 Fs1 H1 S1 t1 ra => ?_
  cases some_ok e1
  exact R x σ Z1 Fs1 H1 S1 t1 Agree.refl ra
theorem sEx (hs : swapsWith a' none pos.line X.env = pure false) (ha : PE X a' (tE X.K G EX W a)) : PS X (.Expr a' pos) (tS X.K G EX W (.ex a)) := PS.imp (ps_expr ha hs) fun D σ H h => by
  obtain ⟨Z, δ, Fs, r, S, e, R⟩ := h
  simp only [denS] at e
  refine seqE S e R.res (fun _ h => h) fun va δ1 e1 x Z1 Fs1 H1 S1 t1 ra => ?_
  cases some_ok e1
  exact R σ Z1 Fs1 H1 S1 t1 Agree.refl
theorem asg_imp {tg : Tg} {σ : St} {H : Hp} {D : Ends} (h : tS X.K G EX W (.asg tg a) D σ H) : tAsg (tE X.K G EX W a) (tG X.K tg) D σ H := by
  obtain ⟨Z, δ, Fs, r, S, e, R⟩ := h
  simp only [denS] at e
  refine seqE S e R.res inl_mem fun va δ1 e1 x Z1 Fs1 H1 S1 t1 ra => ?_
  split at e1
  case isFalse => cases e1
  rename_i hk
  split at e1
  case h_2 => cases e1
  rename_i δ2 hb
  cases some_ok e1
  obtain ⟨d, κ⟩ := va
  cases κ with
  | some q => cases hk
  | none =>
    obtain ⟨F, rF, oF⟩ := ra
    exact ⟨Z1, δ1, Fs1, d, F, δ2, S1, hb, rF, OwnA.apt oF, fun Fs' σ' bd => R σ' Z1 Fs' H1 bd.sr (OwnA.bound (od := none) oF t1 bd) bd.ag⟩
theorem sAsg {tg : Tg} {tg' : Expr} (ha : PE X a' (tE X.K G EX W a)) (hg : PG X tg' (tG X.K tg)) (hs : swapsWithSole [tg'] a' pos.line X.env = pure false) (hw : swappedStores [tg'] a' X.env = pure none) (h1 : (assignEach [tg'] X.env).map (·.2) = [assign tg' X.env]) :
    PS X (.Assign [tg'] a' pos) (tS X.K G EX W (.asg tg a)) := PS.imp (ps_asg ha hg hs hw h1) fun D σ H h => asg_imp h
theorem gName_imp {i : Nat} {v : V} {σ : St} {H : Hp} {Q : St → Hp → Prop} (h : tG K (.n i) v σ H Q) : gName i v σ H Q := by
  obtain ⟨Z, δ, Fs, d, F, δ', S, e, r, o, k⟩ := h
  simp only [bindT] at e
  split at e
  · rename_i hl
    injection e with e
    subst e
    exact k _ _ (S.bind hl r o)
  · cases e
theorem sSet {i : Nat} {x : Str} {p2 : Pos} (hN : X.N.Nodup) (hi : X.N[i]? = some x) (hx : Loc X.env.scope x) (hf : X.fn x = true ∨ X.env.scope.names.lookup x = some .local) (ha : PE X a' (tE X.K G EX W a)) (hs : swapsWith a' (some (.Name x p2)) pos.line X.env = pure false) :
    PS X (.Assign [.Name x p2] a' pos) (tS X.K G EX W (.asg (.n i) a)) := PS.imp (ps_set hN hi hx ha hs hf) fun D σ H h => by
  have h := asg_imp h
  obtain ⟨Z, δ, Fs, r, S, e, R⟩ := h
  refine ⟨Z, δ, Fs, r, S, e, ?_⟩
  cases r with
  | ok va δ' => exact fun v Z' Fs' H' S' t q => gName_imp (R v Z' Fs' H' S' t q)
  | ex x δ' => exact R
/-- a test, then one of two blocks -/
theorem sIf {ss tt : Ss} {p q : List Stmt} (hc : PT X c' (tT X.K G EX W c)) (ha : PSs X p (tSs X.K G EX W ss)) (hb : PSs X q (tSs X.K G EX W tt)) : PS X (.If c' p q pos) (tS X.K G EX W (.iff c ss tt)) := PS.imp (ps_if hc ha hb) fun D σ H h => by
  obtain ⟨Z, δ, Fs, r, S, e, R⟩ := h
  simp only [denS] at e
  refine seqT S e R.res inl_mem fun k δ1 e1 Z1 Fs1 H1 S1 t1 => ?_
  cases k with
  | true =>
    rw [if_pos rfl] at e1 ⊢
    exact ⟨Z1, δ1, Fs1, r, S1, e1, R.later (A1 := []) (A2 := ss.asgs) (M1 := c.muts G.mu) (M2 := ss.muts G.mu) (fun i hi => List.mem_append_left _ (by simpa using hi)) (fun i hi => by
      show i ∈ c.muts G.mu ++ (ss.muts G.mu ++ tt.muts G.mu)
      rcases List.mem_append.mp hi with q | q <;> simp [q]) t1 Agree.refl⟩
  | false =>
    rw [if_neg Bool.false_ne_true] at e1 ⊢
    exact ⟨Z1, δ1, Fs1, r, S1, e1, R.later (A1 := []) (A2 := tt.asgs) (M1 := c.muts G.mu) (M2 := tt.muts G.mu) (fun i hi => List.mem_append_right _ (by simpa using hi)) (fun i hi => by
      show i ∈ c.muts G.mu ++ (ss.muts G.mu ++ tt.muts G.mu)
      rcases List.mem_append.mp hi with q | q <;> simp [q]) t1 Agree.refl⟩
def ipR : Operator → TIp
  | .Add => rI0 fun i j => .int (i + j)
  | .Sub => rI0 fun i j => .int (i - j)
  | .Mult => rI CMul fun i j => .int (i * j)
  | .FloorDiv => rI CDiv fun i j => .int (i / j)
  | .Mod => rI (fun _ j => 0 < j) fun i j => .int (i % j)
  | _ => fun _ _ _ _ => False
theorem ipR_ok : ∀ op : Operator, PIp X op (ipR op)
  | .Add => iop_add
  | .Sub => iop_sub
  | .Mult => iop_mul
  | .FloorDiv => iop_fdiv
  | .Mod => iop_mod
  | .MatMult => fun _ _ _ _ _ _ _ _ _ _ _ _ h => h.elim
  | .Div => fun _ _ _ _ _ _ _ _ _ _ _ _ h => h.elim
  | .Pow => fun _ _ _ _ _ _ _ _ _ _ _ _ h => h.elim
  | .LShift => fun _ _ _ _ _ _ _ _ _ _ _ _ h => h.elim
  | .RShift => fun _ _ _ _ _ _ _ _ _ _ _ _ h => h.elim
  | .BitOr => fun _ _ _ _ _ _ _ _ _ _ _ _ h => h.elim
  | .BitXor => fun _ _ _ _ _ _ _ _ _ _ _ _ h => h.elim
  | .BitAnd => fun _ _ _ _ _ _ _ _ _ _ _ _ h => h.elim
theorem augI_ok {op : Operator} {i j k : Int} {H : Hp} {Q : VK} (h : augI op i j = some k) (q : Q (.int k) H) : ipR op (.int i) (.int j) H Q := by
  unfold augI at h
  split at h
  · cases h; exact ⟨i, j, rfl, rfl, q⟩
  · cases h; exact ⟨i, j, rfl, rfl, q⟩
  · split at h
    · rename_i c; cases h; exact ⟨i, j, rfl, rfl, c, q⟩
    · cases h
  · split at h
    · rename_i c; cases h; exact ⟨i, j, rfl, rfl, c, q⟩
    · cases h
  · split at h
    · rename_i c; cases h; exact ⟨i, j, rfl, rfl, c, q⟩
    · cases h
  · cases h
theorem sAug {i : Nat} {x : Str} {op : Operator} {p2 : Pos} (hN : X.N.Nodup) (hi : X.N[i]? = some x) (hx : Loc X.env.scope x) (hf : X.fn x = true ∨ X.env.scope.names.lookup x = some .local) (ha : PE X a' (tE X.K G EX W a)) :
    PS X (.AugAssign (.Name x p2) op a' pos) (tS X.K G EX W (.aug i op a)) := PS.imp (ps_aug hN hi hx ha (ipR_ok op) hf) fun En σ H h => by
  obtain ⟨Z, δ, Fs, r, S, e, R⟩ := h
  simp only [denS] at e
  split at e
  case h_2 => cases e
  rename_i d ed
  obtain ⟨v, e1, rv⟩ := S.rep i d ed
  refine ⟨v, e1, seqE S e R.res inl_mem fun va δ1 e2 y Z1 Fs1 H1 S1 t1 ra => ?_⟩
  obtain ⟨d2, κ⟩ := va
  split at e2
  case h_2 => cases e2
  rename_i k hk
  cases some_ok e2
  unfold augD at hk
  split at hk
  case h_2 => cases hk
  rename_i n m h1
  simp only at h1
  subst h1
  obtain ⟨F, rF, _⟩ := ra
  rw [dint rv, dint rF]
  refine augI_ok hk ?_
  have hlt : i < δ1.length := by rw [t1.len]; exact getD_lt ed
  have bd := S1.bind (v := .int k) (d := .t (.int k)) (F := []) hlt (by unfold RepF RepT; exact ⟨rfl, rfl⟩) Apt.nil
  exact R _ Z1 _ H1 bd.sr (OwnA.bound (od := none) OwnA.nil t1 bd) bd.ag
theorem RepF.goN {Z Z1 : Addr → Prop} {H : Hp} {v : V} {d : D} {F : List Addr} (h : RepF K Z H v d F) (z : ∀ a, Z a → Z1 a) : RepF K Z1 H v d F := RepF.go (Go.new (fun _ _ h => h) z) v d F h fun _ _ h => h
theorem sPar {i j : Nat} {x y : Str} {px py pt : Pos} {kt k2 : Nat} {pt2 : Pos} (hc : X.calm = true) (hN : X.N.Nodup) (hi : X.N[i]? = some x) (hj : X.N[j]? = some y) (hij : i ≠ j) (hx : X.env.scope.names.lookup x = some .local) (hy : X.env.scope.names.lookup y = some .local)
    (ha : PE X a' (tE X.K G EX W a)) (hb : PE X b' (tE X.K G EX W b)) (hst : starEach [a', b'] X.env = (false, eval a' X.env) :: starEach [b'] X.env) (hst2 : starEach [b'] X.env = (false, eval b' X.env) :: starEach [] X.env)
    (hw : swappedStores [.Tuple [.Name x px, .Name y py] kt pt] (.Tuple [a', b'] k2 pt2) X.env = pure (some [x, y])) :
    PS X (.Assign [.Tuple [.Name x px, .Name y py] kt pt] (.Tuple [a', b'] k2 pt2) pos) (tS X.K G EX W (.par i j a b)) := by
  refine PS.imp (ps_par hc hN hi hj hij hx hy (pa_cons ha (pa_cons hb pa_nil hst2) hst) hw) fun D σ H h => ?_
  obtain ⟨Z, δ, Fs, r, S, e, R⟩ := h
  simp only [denS] at e
  refine seqE S e R.res inl_mem fun va δ1 e1 x Z1 Fs1 H1 S1 t1 ra => ?_
  refine seqE (M := b.muts G.mu ++ [i, j]) S1 e1 (R.res.later t1 fun _ _ _ _ _ q => q) inl_mem fun vb δ2 e2 y Z2 Fs2 H2 S2 t2 rb => ?_
  split at e2
  case isFalse => cases e2
  rename_i cd
  simp only [Bool.and_eq_true, decide_eq_true_eq] at cd
  cases some_ok e2
  obtain ⟨da, κa⟩ := va
  obtain ⟨db, κb⟩ := vb
  cases κa with
  | some q => simp at cd
  | none =>
    cases κb with
    | some q => simp at cd
    | none =>
      obtain ⟨Fa, rFa, oFa⟩ := ra
      obtain ⟨Fb, rFb, oFb⟩ := rb
      have rFa2 := rFa.step S1 (κ := none) oFa t2 rfl
      have oJ := OwnA.join S1 t1 t2 oFa oFb
      have nd := List.nodup_append.mp oJ.nd
      have oA2 : OwnA _ Fs H Z2 Fs2 H2 Fa := OwnA.sub oJ (List.sublist_append_left _ _)
      have oB2 : OwnA _ Fs H Z2 Fs2 H2 Fb := OwnA.sub oJ (List.sublist_append_right _ _)
      have bd1 := S2.bind cd.1.2 rFa2 oA2.apt
      have apt2 : Apt Z2 (Fs2.put i Fa) H2 Fb := ⟨oB2.nd, oB2.mu, fun a ha k q => by
        by_cases m : k = i
        · subst m
          rw [Fp.put_same] at q
          exact nd.2.2 a q a ha rfl
        · rw [Fp.put_ne m] at q
          exact oB2.ni a ha k q⟩
      have bd2 := bd1.sr.bind (v := y) (i := j) (by rw [List.length_set]; exact cd.2) rFb apt2
      refine ⟨x, y, rfl, R _ Z2 _ H2 bd2.sr ?_ ?_⟩
      · have h1 := OwnA.bound (od := none) oA2 (t1.trans t2) bd1
        have h2 := OwnA.bound (od := none) (oB2.mono (M2 := a.muts G.mu ++ b.muts G.mu ++ [i]) inl_mem |> fun o => (⟨o.nd, o.mu, apt2.ni, o.org⟩ : OwnA _ Fs H Z2 (Fs2.put i Fa) H2 Fb)) h1 bd2
        exact h2.mono fun k hk => by
          show k ∈ a.muts G.mu ++ (b.muts G.mu ++ [i, j])
          simp only [List.mem_append, List.mem_cons, List.not_mem_nil, or_false] at hk ⊢
          rcases hk with ((h | h) | h) | h <;> simp [h]
      · exact (bd1.ag.trans bd2.ag).mono fun k hk => hk
end
end DV


set_option Elab.async false
set_option linter.all false
set_option maxRecDepth 100000
set_option maxHeartbeats 2000000
/-! DS: loops; items stored. -/
namespace DV
open PySem L2
section
variable {G : GCtx} {EX : Exn → XK} {W : WX} {X : Cx} {a' b' c' : Expr} {a b c : E} {pos : Pos} {K : PySem.W.Frag}
/-- what a turn of a loop owes -/
theorem ResS.turn {A M : List Nat} {σ : St} {Z : Addr → Prop} {δ : Ev} {Fs : Fp} {H : Hp} {fl : Fl} {δ2 : Ev} {r : R Fl} {En : Ends} {Nx : St → Hp → Prop}
    (hn : fl = .nx ∨ fl = .ct → ∀ σ' Z' Fs' H', SR K Z' δ2 Fs' σ' H' → Tr M Z δ Fs H Z' δ2 Fs' H' → Agree A σ σ' → Nx σ' H')
    (hb : fl = .bk → r = .ok .nx δ2) (hr : ∀ d κ, fl = .rt d κ → r = .ok (.rt d κ) δ2) (R : ResS K EX W A M σ Z δ Fs H r En) :
    ResS K EX W A M σ Z δ Fs H (.ok fl δ2) { En with nx := Nx, ct := Nx, bk := En.nx } := by
  cases fl with
  | nx => exact hn (.inl rfl)
  | ct => exact hn (.inr rfl)
  | bk => have := hb rfl; subst this; exact R
  | rt d κ => have := hr d κ rfl; subst this; exact R
theorem sWh {n : Nat} {ss : Ss} {p : List Stmt} (hp : PassesOwn (model X.prog X.w) X.A X.env X.xe) (hc : PT X c' (tT X.K G EX W c)) (hb : PSs X p (tSs X.K G EX W ss)) : PS X (.While c' p [] pos) (tS X.K G EX W (.wh n c ss)) := by
  refine PS.imp (ps_while hp hc hb) fun En σ H h => ?_
  obtain ⟨Z, δ, Fs, r, S, e, R⟩ := h
  simp only [denS] at e
  refine ⟨fun m σi Hi => ∃ Zi δi Fsi, SR X.K Zi δi Fsi σi Hi ∧ whLoop (denT G c) (denSs G ss) m δi = some r ∧ Tr (c.muts G.mu ++ ss.muts G.mu) Z δ Fs H Zi δi Fsi Hi ∧ Agree ss.asgs σ σi, ⟨n, Z, δ, Fs, S, e, Tr.refl.mono nil_mem, Agree.refl⟩, ?_⟩
  rintro m σi Hi ⟨Zi, δi, Fsi, Si, ei, ti, ai⟩
  cases m with
  | zero => cases ei
  | succ m =>
    simp only [whLoop] at ei
    have Ri : ResS X.K EX W ss.asgs (c.muts G.mu ++ ss.muts G.mu) σi Zi δi Fsi Hi r En := R.later (A1 := ss.asgs) (M1 := c.muts G.mu ++ ss.muts G.mu) (fun i hi => (List.mem_append.mp hi).elim id id) (fun i hi => (List.mem_append.mp hi).elim id id) ti ai
    refine seqT Si ei Ri.res inl_mem fun k δ1 e1 Z1 Fs1 H1 S1 t1 => ?_
    have R1 : ResS X.K EX W ss.asgs (ss.muts G.mu) σi Z1 δ1 Fs1 H1 r En := Ri.later (A1 := []) (M1 := c.muts G.mu) (fun i hi => by simpa using hi) (fun _ h => h) t1 Agree.refl
    cases k with
    | false =>
      rw [if_neg Bool.false_ne_true] at e1 ⊢
      cases some_ok e1
      exact R1 σi Z1 Fs1 H1 S1 (Tr.refl.mono nil_mem) Agree.refl
    | true =>
      rw [if_pos rfl] at e1 ⊢
      refine ⟨_, fun σ' H' q => ⟨m, Nat.lt_succ_self m, q⟩, ?_⟩
      rcases bnd_some e1 with ⟨x, δ', h1, h2⟩ | ⟨fl, δ2, h1, h2⟩
      · subst h2
        exact ⟨Z1, δ1, Fs1, _, S1, h1, R1⟩
      · refine ⟨Z1, δ1, Fs1, _, S1, h1, ResS.turn (fun hf σ' Z' Fs' H' S' t' g' => ?_) (fun hf => ?_) (fun d κ hf => ?_) R1⟩
        · refine ⟨Z', δ2, Fs', S', ?_, (ti.trans (t1.trans t')).mono fun i hi => (List.mem_append.mp hi).elim id id, (ai.trans g').mono fun i hi => (List.mem_append.mp hi).elim id id⟩
          rcases hf with hf | hf <;> subst hf <;> exact h2
        · subst hf; exact some_ok h2
        · subst hf; exact some_ok h2
theorem sFor {tg : Tg} {it : DV.It} {ss : Ss} {tg' it' : Expr} {p : List Stmt} (hp : PassesOwn (model X.prog X.w) X.A X.env X.xe) (hc : X.calm = true) (hi : PI X tg' it' (tI X.K G EX W it)) (hg : PG X tg' (tG X.K tg)) (hb : PSs X p (tSs X.K G EX W ss))
    (hs : ∀ x, foldedSetIterable it' X.env x = pure x) : PS X (.For tg' it' p [] pos) (tS X.K G EX W (.for tg it ss)) := by
  refine PS.imp (ps_for hp hc hi hg hb hs) fun En σ H h => ?_
  obtain ⟨Z, δ, Fs, r, S, e, R⟩ := h
  simp only [denS] at e
  rcases bnd_some e with ⟨x, δ', e1, e2⟩ | ⟨w, δ1, e1, e2⟩
  · subst e2
    exact ⟨Z, δ, Fs, _, S, e1, fun Z' Fs' H' cls dd S' t q => R σ Z' Fs' H' cls dd S' (t.mono inl_mem) Agree.refl q⟩
  refine ⟨Z, δ, Fs, _, S, e1, ?_⟩
  intro J Z1 Fs1 H1 S1 t1 ⟨Fw, wk, hw⟩
  split at e2
  case isFalse => cases e2
  rename_i pk
  obtain ⟨ds, κ⟩ := w
  have R1 : ResS X.K EX W (tg.slots ++ ss.asgs) (tg.slots ++ ss.muts G.mu) σ Z1 δ1 Fs1 H1 r En := R.later (A1 := []) (A2 := tg.slots ++ ss.asgs) (M1 := it.muts G.mu) (fun i hi => (List.mem_append.mp hi).elim (fun h => (List.not_mem_nil h).elim) id) (fun _ h => h) t1 Agree.refl
  have fwB : ∀ a, a ∈ Fw → ¬ At (tg.slots ++ ss.muts G.mu) Fs1 a := fun a ha ⟨j, hj, q⟩ => by
    cases κ with
    | none => exact (S1.mu j a q).2 (hw a ha)
    | some r =>
      have hr := okPeek_mem pk
      have e := S1.dj j r a q (hw a ha)
      subst e
      exact hr hj
  generalize hf : (fun (x : D) (δ : Ev) => (match bindT tg x δ with
          | some δ2 => denSs G ss δ2
          | none => (none : M Fl))) = f at e2
  refine ⟨fun i m σi Hi => m = ds.length - i ∧ i ≤ ds.length ∧ ∃ Zi δi Fsi, forLoop f (ds.drop i) δi = some r ∧ SR X.K Zi δi Fsi σi Hi ∧ Tr (tg.slots ++ ss.muts G.mu) Z1 δ1 Fs1 H1 Zi δi Fsi Hi ∧ Agree (tg.slots ++ ss.asgs) σ σi, ⟨ds.length, by simp, Nat.zero_le _, Z1, δ1, Fs1, e2, S1, Tr.refl.mono nil_mem, Agree.refl⟩, ?_⟩
  rintro i m σi Hi ⟨rfl, hle, Zi, δi, Fsi, hl, Si, ti, ai⟩
  have g : Go (At (tg.slots ++ ss.muts G.mu) Fs1) Z1 H1 Zi Hi := S1.go ti
  obtain ⟨w1, w2, w3⟩ := wk _ _ _ g fwB i
  have Ri : ResS X.K EX W (tg.slots ++ ss.asgs) (tg.slots ++ ss.muts G.mu) σi Zi δi Fsi Hi r En := R1.later (fun i hi => (List.mem_append.mp hi).elim id id) (fun i hi => (List.mem_append.mp hi).elim id id) ti ai
  by_cases hlt : i < ds.length
  · refine .inr ⟨w1 hlt, _, fun σ' H' q => ⟨ds.length - (i + 1), by omega, q⟩, fun x H' y => ?_⟩
    obtain ⟨e3, d, e4, rd⟩ := w3 x H' y hlt
    subst e3
    have hdrop : ds.drop i = d :: ds.drop (i + 1) := by
      rw [List.drop_eq_getElem_cons hlt]
      rw [List.getElem?_eq_getElem hlt] at e4
      injection e4 with e4
      rw [e4]
    rw [hdrop] at hl
    simp only [forLoop] at hl
    have hx : ∃ δ2 rb, bindT tg d δi = some δ2 ∧ denSs G ss δ2 = some rb ∧ bnd (some rb) (fun fl δ1 => match fl with
        | .nx => forLoop f (ds.drop (i + 1)) δ1
        | .ct => forLoop f (ds.drop (i + 1)) δ1
        | .bk => some (.ok .nx δ1)
        | .rt d κ => some (.ok (.rt d κ) δ1)) = some r := by
      rw [← hf] at hl
      simp only at hl
      cases hbt : bindT tg d δi with
      | none =>
        rw [hbt] at hl
        cases hl
      | some δ2 =>
        rw [hbt] at hl
        simp only at hl
        cases hq : denSs G ss δ2 with
        | none => rw [hq] at hl; cases hl
        | some rb =>
          rw [hq] at hl
          refine ⟨δ2, rb, rfl, hq, ?_⟩
          rw [← hf]
          exact hl
    obtain ⟨δ2, rb, h1, h2, h3⟩ := hx
    refine ⟨Zi, δi, Fsi, d, [], δ2, Si, h1, rd, Apt.nil, fun Fs2 σ2 b2 => ?_⟩
    have tb := b2.tr (own := tg.slots) fun _ h => h
    have R2 : ResS X.K EX W ss.asgs (ss.muts G.mu) σ2 Zi δ2 Fs2 H' r En := Ri.later (A1 := tg.slots) (M1 := tg.slots) (fun _ h => h) (fun _ h => h) tb b2.ag
    refine ⟨Zi, δ2, Fs2, rb, b2.sr, h2, ?_⟩
    cases rb with
    | ex x δ3 =>
      cases some_ok h3
      exact R2
    | ok fl δ3 =>
      simp only [bnd] at h3
      refine ResS.turn (fun hf σ' Z' Fs' H' S' t' g' => ?_) (fun hf => ?_) (fun d κ hf => ?_) R2
      · refine ⟨rfl, hlt, Z', δ3, Fs', ?_, S', (ti.trans (tb.trans t')).mono fun i hi => (List.mem_append.mp hi).elim id id, (ai.trans (b2.ag.trans g')).mono fun i hi => (List.mem_append.mp hi).elim id id⟩
        rcases hf with hf | hf <;> subst hf <;> exact h3
      · subst hf; exact some_ok h3
      · subst hf; exact some_ok h3
  · have e5 : i = ds.length := by omega
    subst e5
    refine .inl ⟨w2 (Nat.le_refl _), ?_⟩
    rw [List.drop_length] at hl
    simp only [forLoop] at hl
    cases some_ok hl
    exact Ri σi Zi Fsi Hi Si (Tr.refl.mono nil_mem) Agree.refl
theorem ixN_lt {n : Nat} {k : Int} {j : Nat} (h : ixN n k = some j) : j < n := by
  unfold ixN at h
  split at h
  · split at h
    · injection h with h; omega
    · cases h
  · split at h
    · injection h with h; omega
    · cases h
theorem seqP' {α β : Type} {e : E} {f : Nat × List Nat → Ev → M α} {r : R α} {M : List Nat} {rel : (Addr → Prop) → Fp → Hp → β → α → Prop} {Q : β → Hp → Prop} {P : VK} {σ : St} {Z : Addr → Prop} {δ : Ev} {Fs : Fp} {H : Hp} (S : SR K Z δ Fs σ H) (h : bnd (denP G e δ) f = some r) (R : Res K EX W M σ Z δ Fs H rel r Q) (hm : ∀ i, i ∈ e.muts G.mu → i ∈ M)
    (k : ∀ a δ1, denP G e δ = some (.ok a δ1) → f a δ1 = some r → ∀ v Z1 Fs1 H1, SR K Z1 δ1 Fs1 σ H1 → Tr (e.muts G.mu) Z δ Fs H Z1 δ1 Fs1 H1 → relP K σ Z1 Fs1 H1 v a → P v H1) : tP K G EX W e σ H P := by
  rcases bnd_some h with ⟨x, δ', e1, e2⟩ | ⟨a, δ', e1, e2⟩
  · subst e2
    exact ⟨Z, δ, Fs, _, S, e1, fun Z' Fs' H' cls dd S' t q => R Z' Fs' H' cls dd S' (t.mono hm) q⟩
  · exact ⟨Z, δ, Fs, _, S, e1, fun v Z' Fs' H' S' t q => k a δ' e1 e2 v Z' Fs' H' S' t q⟩
theorem sSix {tpos : Pos} (hpl : ∀ v, assign (.Subscript a' b' tpos) X.env v = (do
      let ov ← holding [v] (eval a' X.env)
      let iv ← holding [v, ov] (eval b' X.env)
      standAt tpos
      holding [v, ov, iv] (setItem ov iv v)
      release [v, ov, iv] []))
    (ha : PE X a' (tP X.K G EX W a)) (hb : PE X b' (tE X.K G EX W b)) (hc : PE X c' (tE X.K G EX W c)) (hs : swapsWithSole [.Subscript a' b' tpos] c' pos.line X.env = pure false) (hw : swappedStores [.Subscript a' b' tpos] c' X.env = pure none)
    (h1 : (assignEach [.Subscript a' b' tpos] X.env).map (·.2) = [assign (.Subscript a' b' tpos) X.env]) :
    PS X (.Assign [.Subscript a' b' tpos] c' pos) (tS X.K G EX W (.six a b c)) := by
  refine PS.imp (ps_asg hc (pg_sub ha hb set_list hpl) hs hw h1) fun En σ H h => ?_
  obtain ⟨Z, δ, Fs, r, S, e, R⟩ := h
  simp only [denS] at e
  refine seqE S e R.res inl_mem fun vc δ1 e1 x Z1 Fs1 H1 S1 t1 rc => ?_
  have R1 : ResS X.K EX W [] (a.muts G.mu ++ (b.muts G.mu ++ a.root.toList)) σ Z1 δ1 Fs1 H1 r En := R.later (A1 := []) (A2 := []) (M1 := c.muts G.mu) (fun i hi => by simpa using hi) (fun _ h => h) t1 Agree.refl
  refine seqP' S1 e1 R1.res inl_mem fun rp δ2 e0 e2 y Z2 Fs2 H2 S2 t2 ra => ?_
  have hroot := denP_root e0
  have R2 : ResS X.K EX W [] (b.muts G.mu ++ a.root.toList) σ Z2 δ2 Fs2 H2 r En := R1.later (A1 := []) (A2 := []) (M1 := a.muts G.mu) (fun i hi => by simpa using hi) (fun _ h => h) t2 Agree.refl
  refine seqE S2 e2 R2.res inl_mem fun vi δ3 e3 z Z3 Fs3 H3 S3 t3 ri => ?_
  split at e3
  case isFalse => cases e3
  rename_i cd
  simp only [Bool.and_eq_true] at cd
  have ra3 := ra.step S2 t3 cd.2
  obtain ⟨d, κ⟩ := vc
  cases κ with
  | some q => exact absurd cd.1 (by simp)
  | none =>
  obtain ⟨F, rF, oF⟩ := rc
  have oF2 := OwnA.step S1 oF t2
  have oF3 := OwnA.step S2 oF2 t3
  have rF3 := (rF.step S1 (κ := none) oF t2 rfl).step S2 (κ := none) oF2 t3 rfl
  split at e3
  case h_2 => cases e3
  rename_i d0 k ed ek
  split at e3
  case h_2 => cases e3
  rename_i xs exs
  split at e3
  case h_2 => cases e3
  rename_i j ej
  split at e3
  case h_2 => cases e3
  rename_i d' ed'
  cases some_ok e3
  obtain ⟨vr, h1, h2, h3⟩ := ra3.list S3 ed exs
  obtain ⟨l, vs, Fx, q1, q2, q3, q4, q5, q6, q7, q8, q9⟩ := slotUpd S3 ((t1.trans t2).trans t3) oF3 ed h1 h2 exs h3 ed' (Fr := [])
  have hj := ixN_lt ej
  obtain ⟨v0, Fa, Fk, Fb, e4, e5, _, r2⟩ := q3.split (List.getElem?_eq_getElem hj)
  subst e4
  have gw : Go (fun b => b = l) Z3 H3 Z3 (L2.upd H3 l (.lst (vs.set j x))) := Go.write (by rw [q2]; trivial) q4
  have r3 := r2 _ _ _ d F x gw (fun b hb e => q8 b (by
    rcases List.mem_append.mp hb with h | h <;> simp [h]) e) (RepF.go gw _ _ _ rF3 fun b hb e => q8 b (by simp [hb]) e)
  obtain ⟨Fi, ri, _⟩ := ri
  rw [ek] at ri
  have nd := List.nodup_append.mp q7
  have nd1 := List.nodup_append.mp nd.1
  have nd2 := List.nodup_append.mp nd1.2.1
  obtain ⟨Fs4, S4, t4, _⟩ := q9 (vs.set j x) (Fa ++ (F ++ Fb)) [] r3 (fun a ha => by
    simp only [List.append_nil, List.mem_append] at ha ⊢
    rcases ha with h | h | h <;> simp [h]) (by
    rw [List.append_nil]
    refine List.nodup_append.mpr ⟨nd1.1, List.nodup_append.mpr ⟨nd.2.1, nd2.2.1, fun p hp q hq e => ?_⟩, fun p hp q hq e => ?_⟩
    · exact nd.2.2 q (by simp [hq]) p hp e.symm
    · rcases List.mem_append.mp hq with h | h
      · exact nd.2.2 p (by simp [hp]) q h e
      · exact nd1.2.2 p hp q (by simp [h]) e)
  refine ⟨l, vs, k, j, q1, dint ri, q2, by rw [q3.length]; exact ej, R σ Z3 Fs4 _ S4 (t4.mono fun i hi => ?_) Agree.refl⟩
  show i ∈ c.muts G.mu ++ (a.muts G.mu ++ (b.muts G.mu ++ a.root.toList))
  rw [hroot]
  simp only [List.mem_append, Option.toList_some] at hi ⊢
  rcases hi with ((h | h) | h) | h <;> simp [h]
end
end DV


set_option Elab.async false
set_option linter.all false
set_option maxRecDepth 100000
set_option maxHeartbeats 2000000
/-! DT: expressions are sound. -/
namespace DV
open PySem L2
/-! ### forms -/
def okF : Expr → Bool
  | .Set .. => false
  | .Starred .. => false
  | .Slice .. => false
  | _ => true
theorem chkE_okF {tb : Tb} {c : Sc} {e : E} {e' : Expr} (h : chkE tb e c e' = true) : okF e' = true := by
  cases e' <;> first | rfl | (cases e <;> simp [chkE] at h)
theorem okF_star {e' : Expr} {es : List Expr} {env : Env} (h : okF e' = true) : starEach (e' :: es) env = (false, eval e' env) :: starEach es env := by
  cases e' <;> first | rfl | cases h
theorem okF_set {e' : Expr} (h : okF e' = true) : ∀ es k p, e' ≠ .Set es k p := fun _ _ _ q => by subst q; cases h
theorem okF_slice {e' : Expr} (h : okF e' = true) : ∀ lo hi st p, e' ≠ .Slice lo hi st p := fun _ _ _ _ q => by subst q; cases h
theorem okF_fold {e' : Expr} {env : Env} (h : okF e' = true) : ∀ x, foldedSetIterable e' env x = pure x := by
  cases e' <;> first | (intro _; rfl) | cases h
section
variable {tb : Tb} {G : GCtx} {EX : Exn → XK} {W : WX} {X : Cx} {K : PySem.W.Frag} {c : Sc} {k : Nat}
/-- what the program gives -/
structure POk (tb : Tb) (G : GCtx) (EX : Exn → XK) (P : Program) (w : World) (K : PySem.W.Frag) (mg : Str → Option Value) (base : Heap) (k : Nat) : Prop where
  ks : ∀ (i : Nat) (x : Str) (t : T), tb.ks[i]? = some x → G.ks[i]? = some t → ∃ v u, mg x = some u ∧ RelV v u ∧ ∀ H, RepT K H v t
  bs : ∀ (x : Str), x ∈ tb.bs → mg x = none
  ms : ∀ (x : Str) (id : String), (x, id) ∈ tb.ms → mg x = some (.builtin id)
  fns : ∀ (f : Nat) (x : Str) (n : Nat), tb.fns[f]? = some (x, n) → (G.mu f).length = n ∧ ∃ a fd ps, mg x = some (.ref a) ∧ PySem.W.keepIn K (.ref a) = true ∧ Binds K fd ps [] ∧ FnOk P w K mg base (L2.CX P w) k a fd ps (spI K G EX f n)
structure XOk (tb : Tb) (G : GCtx) (EX : Exn → XK) (W : WX) (k : Nat) (X : Cx) (c : Sc) : Prop where
  pk : POk tb G EX X.prog X.w X.K X.mg X.base k
  N : X.N = c.N
  nd : X.N.Nodup
  sc : X.env.scope = c.sc
  ce : ∀ x, c.ce x = true → X.fn x = true
  calm : X.calm = true
  room : Room k X.A
  tk : Takes X W
  kind : X.env.scope.kind = .function
theorem XOk.blk (h : XOk tb G EX W k X c) {s : Shared} {H : Hp} {scope : Scope} {C : Addr} {cl : List (Str × Addr)} {fp : List Addr} (hk : scope.kind = .function) : XOk tb G EX WF k (X.blk s H scope (compEnvC scope cl C X.env) fp) (blkSc c scope) := by
  refine ⟨h.pk, h.N, h.nd, ?_, fun x hx => hx, h.calm, h.room, fun u s' x => ?_, ?_⟩
  · show relS scope X.env.scope = relS scope c.sc
    rw [h.sc]
  · obtain ⟨_, _, _, _, _, _, _, _, _, _, _, _, _, _, _, _, w⟩ := x
    exact w.elim
  · exact hk
theorem XOk.gl (h : XOk tb G EX W k X c) {x : Str} (g : glB c.sc x = true) : Gl X x ∧ (x == ("__debug__" : Str)) = false := by
  simp only [glB, Bool.and_eq_true, decide_eq_true_eq] at g
  refine ⟨?_, g.2⟩
  show X.env.scope.names.lookup x = _
  rw [h.sc]; exact g.1
theorem XOk.vis (h : XOk tb G EX W k X c) {i : Nat} {x : Str} (g : chkN c i x = true) : X.N[i]? = some x ∧ Vis X.env.scope x ∧ (x == ("__debug__" : Str)) = false ∧ (x == ("__classdict__" : Str)) = false := by
  simp only [chkN, Bool.and_eq_true, decide_eq_true_eq] at g
  refine ⟨by rw [h.N]; exact g.1.1.1, ?_, g.1.2, g.2⟩
  have hv := g.1.1.2
  unfold visB at hv
  unfold Vis
  rw [h.sc]
  split at hv
  · rename_i e; exact .inl e
  · rename_i e; exact .inr (.inl e)
  · rename_i e; exact .inr (.inr e)
  · cases hv
theorem XOk.loc (h : XOk tb G EX W k X c) {x : Str} (g : locB c x = true) : Loc X.env.scope x ∧ (X.fn x = true ∨ X.env.scope.names.lookup x = some .local) := by
  unfold locB at g
  rw [h.sc]
  split at g
  · rename_i e; exact ⟨.inl e, .inr e⟩
  · rename_i e; exact ⟨.inr e, .inl (h.ce x g)⟩
  · cases g
theorem XOk.units (h : XOk tb G EX W k X c) : X.A.units + 65 < cLine := by have := h.room.un; omega
theorem boot_fn : ∀ b : Bi, match biKd b with
    | .fn id => bootBuiltins (biName b) = some (.builtin id)
    | .ty T => bootBuiltins (biName b) = some (.type T)
    | .mod _ => True := by
  intro b
  cases b <;> first | trivial | (show bootBuiltins _ = _; decide +kernel)
theorem boot_ty : ∀ ty : Ty, bootBuiltins (tyStr ty) = some (.type (tyName ty)) := by
  intro ty
  cases ty <;> decide +kernel
theorem boot_isi : bootBuiltins "isinstance" = some (.builtin "isinstance") := by decide +kernel
theorem star_all : ∀ {es : Es} {es' : List Expr} {env : Env}, chkEs tb es c es' = true → ∀ x, x ∈ starEach es' env → x.1 = false
  | .nil, [], env, _, x, hx => (List.not_mem_nil hx).elim
  | .nil, _ :: _, env, h, _, _ => by simp [chkEs] at h
  | .cons _ _, [], env, h, _, _ => by simp [chkEs] at h
  | .cons e es, e' :: es', env, h, x, hx => by
    simp only [chkEs, Bool.and_eq_true] at h
    rw [okF_star (chkE_okF h.1)] at hx
    rcases List.mem_cons.mp hx with q | q
    · rw [q]
    · exact star_all h.2 x q
theorem plain_star {es : Es} {es' : List Expr} {env : Env} {pos : Pos} (h : chkEs tb es c es' = true) : (backTo pos (starEach es' env)).any (·.1) = false := by
  rw [List.any_eq_false]
  intro x hx
  unfold backTo at hx
  obtain ⟨y, hy, e⟩ := List.mem_map.mp hx
  have := star_all h y hy
  rw [← e]
  simpa using this
/-! ### what the check says of the text -/
theorem i_v {i : Nat} {e' : Expr} (h : chkE tb (.v i) c e' = true) : ∃ x p, e' = .Name x p ∧ chkN c i x = true := by
  cases e' <;> simp [chkE] at h <;> exact ⟨_, _, rfl, h⟩
theorem i_mv {i : Nat} {e' : Expr} (h : chkE tb (.mv i) c e' = true) : ∃ x p, e' = .Name x p ∧ chkN c i x = true := by
  cases e' <;> simp [chkE] at h <;> exact ⟨_, _, rfl, h⟩
theorem i_fz {i : Nat} {e' : Expr} (h : chkE tb (.fz i) c e' = true) : ∃ x p, e' = .Name x p ∧ chkN c i x = true := by
  cases e' <;> simp [chkE] at h <;> exact ⟨_, _, rfl, h⟩
theorem i_k {i : Nat} {e' : Expr} (h : chkE tb (.k i) c e' = true) : ∃ x p, e' = .Name x p ∧ tb.ks[i]? = some x ∧ glB c.sc x = true := by
  cases e' <;> simp [chkE] at h <;> exact ⟨_, _, rfl, h.1, h.2⟩
theorem i_c {x : T} {e' : Expr} (h : chkE tb (.c x) c e' = true) : ∃ k j p, e' = .Constant k j p ∧ chkC x k = true := by
  cases e' <;> simp [chkE] at h <;> exact ⟨_, _, _, rfl, h⟩
theorem i_bin {op : Operator} {a b : E} {e' : Expr} (h : chkE tb (.bin op a b) c e' = true) : ∃ a' b' p, e' = .BinOp a' op b' p ∧ chkE tb a c a' = true ∧ chkE tb b c b' = true := by
  cases e' <;> simp [chkE] at h <;> (obtain ⟨⟨h0, h1⟩, h2⟩ := h; subst h0; exact ⟨_, _, _, rfl, h1, h2⟩)
theorem i_neg {a : E} {e' : Expr} (h : chkE tb (.neg a) c e' = true) : ∃ a' p, e' = .UnaryOp .USub a' p ∧ chkE tb a c a' = true := by
  cases e' with
  | UnaryOp op a' p => cases op <;> simp [chkE] at h; exact ⟨_, _, rfl, h⟩
  | _ => simp [chkE] at h
theorem i_not {a : E} {e' : Expr} (h : chkE tb (.not a) c e' = true) : ∃ a' p, e' = .UnaryOp .Not a' p ∧ chkE tb a c a' = true := by
  cases e' with
  | UnaryOp op a' p => cases op <;> simp [chkE] at h; exact ⟨_, _, rfl, h⟩
  | _ => simp [chkE] at h
theorem i_cmp {op : CmpOp} {a b : E} {e' : Expr} (h : chkE tb (.cmp op a b) c e' = true) : ∃ a' b' p, e' = .Compare a' [op] [b'] p ∧ chkE tb a c a' = true ∧ chkE tb b c b' = true := by
  cases e' with
  | Compare a' ops bs p =>
    rcases ops with _ | ⟨o1, _ | ⟨o2, ops⟩⟩ <;> rcases bs with _ | ⟨b1, _ | ⟨b2, bs⟩⟩ <;> simp [chkE] at h
    obtain ⟨⟨h0, h1⟩, h2⟩ := h
    subst h0
    exact ⟨_, _, _, rfl, h1, h2⟩
  | _ => simp [chkE] at h
theorem i_chn {op1 op2 : CmpOp} {x y z : E} {e' : Expr} (h : chkE tb (.chn op1 op2 x y z) c e' = true) : ∃ x' y' z' p, e' = .Compare x' [op1, op2] [y', z'] p ∧ chkE tb x c x' = true ∧ chkE tb y c y' = true ∧ chkE tb z c z' = true := by
  cases e' with
  | Compare a' ops bs p =>
    rcases ops with _ | ⟨o1, _ | ⟨o2, _ | ⟨o3, ops⟩⟩⟩ <;> rcases bs with _ | ⟨b1, _ | ⟨b2, _ | ⟨b3, bs⟩⟩⟩ <;> simp [chkE] at h
    obtain ⟨⟨⟨⟨⟨⟨h0, h1⟩, _⟩, _⟩, h2⟩, h3⟩, h4⟩ := h
    subst h0 h1
    exact ⟨_, _, _, _, rfl, h2, h3, h4⟩
  | _ => simp [chkE] at h
theorem i_and {a b : E} {e' : Expr} (h : chkE tb (.and a b) c e' = true) : ∃ a' b' r p, e' = .BoolOp .And (a' :: b' :: r) p ∧ chkE tb a c a' = true ∧ chkE tb b c (if r.isEmpty then b' else .BoolOp .And (b' :: r) p) = true := by
  cases e' with
  | BoolOp op vs p =>
    cases op <;> rcases vs with _ | ⟨v1, _ | ⟨v2, vs⟩⟩ <;> simp [chkE] at h
    exact ⟨_, _, _, _, rfl, h.1, by simpa using h.2⟩
  | _ => simp [chkE] at h
theorem i_or {a b : E} {e' : Expr} (h : chkE tb (.or a b) c e' = true) : ∃ a' b' r p, e' = .BoolOp .Or (a' :: b' :: r) p ∧ chkE tb a c a' = true ∧ chkE tb b c (if r.isEmpty then b' else .BoolOp .Or (b' :: r) p) = true := by
  cases e' with
  | BoolOp op vs p =>
    cases op <;> rcases vs with _ | ⟨v1, _ | ⟨v2, vs⟩⟩ <;> simp [chkE] at h
    exact ⟨_, _, _, _, rfl, h.1, by simpa using h.2⟩
  | _ => simp [chkE] at h
theorem i_ite {x a b : E} {e' : Expr} (h : chkE tb (.ite x a b) c e' = true) : ∃ x' a' b' p, e' = .IfExp x' a' b' p ∧ chkE tb x c x' = true ∧ tstE x = true ∧ chkE tb a c a' = true ∧ chkE tb b c b' = true := by
  cases e' <;> simp [chkE] at h <;> (obtain ⟨⟨⟨h1, h2⟩, h3⟩, h4⟩ := h; exact ⟨_, _, _, _, rfl, h1, h2, h3, h4⟩)
theorem i_tup {es : Es} {e' : Expr} (h : chkE tb (.tup es) c e' = true) : ∃ es' j p, e' = .Tuple es' j p ∧ chkEs tb es c es' = true := by
  cases e' <;> simp [chkE] at h <;> exact ⟨_, _, _, rfl, h⟩
theorem i_lst {es : Es} {e' : Expr} (h : chkE tb (.lst es) c e' = true) : ∃ es' p, e' = .List es' p ∧ chkEs tb es c es' = true := by
  cases e' <;> simp [chkE] at h <;> exact ⟨_, _, rfl, h⟩
theorem i_ix {a b : E} {e' : Expr} (h : chkE tb (.ix a b) c e' = true) : ∃ a' b' p, e' = .Subscript a' b' p ∧ chkE tb a c a' = true ∧ chkE tb b c b' = true := by
  cases e' <;> simp [chkE] at h <;> exact ⟨_, _, _, rfl, h.1, h.2⟩
theorem i_sl {a lo hi : E} {e' : Expr} (h : chkE tb (.sl a lo hi) c e' = true) : ∃ a' lo' hi' p2 p, e' = .Subscript a' (.Slice lo' hi' none p2) p ∧ chkE tb a c a' = true ∧ (match lo' with | none => lo.isNo | some l => chkE tb lo c l) = true ∧ (match hi' with | none => hi.isNo | some l => chkE tb hi c l) = true := by
  cases e' with
  | Subscript a' b' p =>
    cases b' with
    | Slice lo' hi' st p2 =>
      cases st <;> simp [chkE] at h
      exact ⟨_, _, _, _, _, rfl, h.1.1, h.1.2, h.2⟩
    | _ => simp [chkE] at h
  | _ => simp [chkE] at h
theorem i_no {e' : Expr} (h : chkE tb .no c e' = true) : False := by
  cases e' <;> simp [chkE] at h
theorem i_call {f : Nat} {es : Es} {e' : Expr} (h : chkE tb (.call f es) c e' = true) : ∃ x p1 es' p, e' = .Call (.Name x p1) es' [] p ∧ tb.fns[f]? = some (x, es'.length) ∧ glB c.sc x = true ∧ chkEs tb es c es' = true := by
  cases e' with
  | Call f' es' kw p =>
    cases f' <;> cases kw <;> simp [chkE] at h
    exact ⟨_, _, _, _, rfl, h.1.1, h.1.2, h.2⟩
  | _ => simp [chkE] at h
theorem i_bi {b : Bi} {es : Es} {e' : Expr} (h : chkE tb (.bi b es) c e' = true) : ∃ p1 e0 es' p, e' = .Call (.Name (biName b) p1) (e0 :: es') [] p ∧ (match biKd b with | .mod id => decide (((biName b : Str), id) ∈ tb.ms) && glB c.sc (biName b) | _ => chkB tb c (biName b)) = true ∧ chkEs tb es c (e0 :: es') = true := by
  cases e' with
  | Call f' es' kw p =>
    cases f' <;> cases kw <;> simp only [chkE, Bool.false_eq_true] at h
    simp only [Bool.and_eq_true, decide_eq_true_eq, Bool.not_eq_true', List.isEmpty_eq_false_iff] at h
    obtain ⟨⟨⟨h0, h1⟩, h2⟩, h3⟩ := h
    subst h0
    cases es' with
    | nil => exact absurd rfl h2
    | cons e0 es' => exact ⟨_, _, _, _, rfl, h1, h3⟩
  | _ => simp [chkE] at h
theorem i_isi {a : E} {ty : Ty} {e' : Expr} (h : chkE tb (.isi a ty) c e' = true) : ∃ p1 a' p2 p, e' = .Call (.Name "isinstance" p1) [a', .Name (tyStr ty) p2] [] p ∧ chkB tb c "isinstance" = true ∧ chkE tb a c a' = true ∧ chkB tb c (tyStr ty) = true := by
  cases e' with
  | Call f' es' kw p =>
    cases f' with
    | Name x p1 =>
      rcases es' with _ | ⟨a', _ | ⟨t, _ | ⟨u, es'⟩⟩⟩ <;> (try (simp [chkE] at h; done))
      cases t <;> cases kw <;> simp only [chkE, Bool.false_eq_true] at h
      simp only [Bool.and_eq_true, decide_eq_true_eq] at h
      obtain ⟨⟨⟨⟨h0, h1⟩, h2⟩, h3⟩, h4⟩ := h
      subst h0 h3
      exact ⟨_, _, _, _, rfl, h1, h2, h4⟩
    | _ => simp [chkE] at h
  | _ => simp [chkE] at h
theorem i_mut {m : Mt} {a : E} {es : Es} {e' : Expr} (h : chkE tb (.mut m a es) c e' = true) : ∃ a' apos es' p, e' = .Call (.Attribute a' (mtName m) apos) es' [] p ∧ okMt m = true ∧ isPl a = true ∧ chkE tb a c a' = true ∧ chkEs tb es c es' = true ∧ (apos.endLine == p.line) = true ∧ es'.length < 30 := by
  cases e' with
  | Call f' es' kw p =>
    cases f' <;> cases kw <;> simp only [chkE, Bool.false_eq_true] at h
    simp only [Bool.and_eq_true, decide_eq_true_eq] at h
    obtain ⟨⟨⟨⟨⟨⟨h0, h6⟩, h1⟩, h2⟩, h3⟩, h4⟩, h5⟩ := h
    subst h0
    exact ⟨_, _, _, _, rfl, h6, h1, h2, h3, h4, h5⟩
  | _ => simp [chkE] at h
theorem i_mth {m : Mt} {a : E} {es : Es} {e' : Expr} (h : chkE tb (.mth m a es) c e' = true) : False := by
  cases e' <;> simp [chkE] at h
theorem i_lc {elt : E} {tg : Tg} {it : DV.It} {cs : Es} {own : List Nat} {e' : Expr} (h : chkE tb (.lc elt tg it cs own) c e' = true) : ∃ elt' tg' it' cs' scope p, e' = .ListComp elt' [⟨tg', it', cs', 0⟩] scope p ∧
    chkI tb it c it' = true ∧ blkC c.N c.sc scope (ownOf c.N own) = true ∧ chkG (blkSc c scope) tg tg' = true ∧ tg.slots.all own.contains = true ∧ chkEs tb cs (blkSc c scope) cs' = true ∧ tstEs cs = true ∧ chkE tb elt (blkSc c scope) elt' = true := by
  cases e' with
  | ListComp elt' gs scope p =>
    rcases gs with _ | ⟨⟨tg', it', cs', as⟩, _ | ⟨g2, gs⟩⟩ <;> (try (simp [chkE] at h; done))
    by_cases hz : as = 0
    · subst hz
      simp only [chkE, Bool.and_eq_true] at h
      obtain ⟨⟨⟨⟨⟨⟨h0, h1⟩, h2⟩, h3⟩, h4⟩, h5⟩, h6⟩ := h
      exact ⟨_, _, _, _, _, _, rfl, h0, h1, h2, h3, h4, h5, h6⟩
    · exfalso
      unfold chkE at h
      simp [hz] at h
  | _ => simp [chkE] at h
end
end DV


set_option Elab.async false
set_option linter.all false
set_option maxRecDepth 100000
set_option maxHeartbeats 2000000
/-! DU: expressions are sound. -/
namespace DV
open PySem L2
section
variable {tb : Tb} {G : GCtx} {EX : Exn → XK} {k : Nat}
/-! ### targets -/
theorem i_gn {c : Sc} {i : Nat} {e' : Expr} (h : chkG c (.n i) e' = true) : ∃ x p, e' = .Name x p ∧ c.N[i]? = some x ∧ locB c x = true := by
  cases e' <;> simp [chkG] at h <;> exact ⟨_, _, rfl, h.1, h.2⟩
theorem i_gt {c : Sc} {ts : Tgs} {e' : Expr} (h : chkG c (.tp ts) e' = true) : ∃ es j p, e' = .Tuple es j p ∧ chkGs c ts es = true := by
  cases e' <;> simp [chkG] at h <;> exact ⟨_, _, _, rfl, h⟩
theorem chkG_asg {c : Sc} {t : Tg} {e : Expr} {es : List Expr} {env : Env} (h : chkG c t e = true) : assignEach (e :: es) env = (false, assign e env) :: assignEach es env := by
  cases t with
  | n i => obtain ⟨x, p, rfl, _⟩ := i_gn h; rfl
  | tp ts => obtain ⟨es', j, p, rfl, _⟩ := i_gt h; rfl
theorem asg_all {c : Sc} {env : Env} : ∀ {ts : Tgs} {es : List Expr}, chkGs c ts es = true → (∀ x, x ∈ assignEach es env → x.1 = false) ∧ (assignEach es env).length = es.length ∧ ∀ xs δ δ', bindTs ts xs δ = some δ' → xs.length = es.length
  | .nil, [], h => ⟨fun _ h => (List.not_mem_nil h).elim, rfl, fun xs δ δ' e => by
    cases xs with
    | nil => rfl
    | cons x xs => simp [bindTs] at e⟩
  | .nil, _ :: _, h => by simp [chkGs] at h
  | .cons _ _, [], h => by simp [chkGs] at h
  | .cons t ts, e :: es, h => by
    simp only [chkGs, Bool.and_eq_true] at h
    obtain ⟨h1, h2, h3⟩ := asg_all (env := env) h.2
    rw [chkG_asg h.1]
    refine ⟨fun x hx => ?_, by simp [h2], fun xs δ δ' e => ?_⟩
    · rcases List.mem_cons.mp hx with q | q
      · rw [q]
      · exact h1 x q
    · cases xs with
      | nil => simp [bindTs] at e
      | cons x xs =>
        simp only [bindTs] at e
        split at e
        · simp [h3 _ _ _ e]
        · cases e
mutual
theorem sG {W : WX} {X : Cx} {c : Sc} (o : XOk tb G EX W k X c) : ∀ (t : Tg) {e' : Expr}, chkG c t e' = true → PG X e' (tG X.K t)
  | .n i, e', h => by
    obtain ⟨x, p, rfl, h1, h2⟩ := i_gn h
    obtain ⟨l1, l2⟩ := o.loc h2
    exact gN_ok o.nd (by rw [o.N]; exact h1) l1 l2
  | .tp ts, e', h => by
    obtain ⟨es, j, p, rfl, h1⟩ := i_gt h
    obtain ⟨a1, a2, a3⟩ := asg_all (env := X.env) h1
    refine gT_ok o.calm (sGs o ts h1) a2 ?_ a3
    rw [List.findIdx?_eq_none_iff]
    intro x hx
    rw [a1 x hx]
theorem sGs {W : WX} {X : Cx} {c : Sc} (o : XOk tb G EX W k X c) : ∀ (ts : Tgs) {es : List Expr}, chkGs c ts es = true → PGs X es (tGs X.K ts)
  | .nil, [], h => gsNil
  | .nil, _ :: _, h => by simp [chkGs] at h
  | .cons _ _, [], h => by simp [chkGs] at h
  | .cons t ts, e :: es, h => by
    simp only [chkGs, Bool.and_eq_true] at h
    exact gsCons (sG o t h.1) (sGs o ts h.2) (by rw [chkG_asg h.1]; rfl)
end
/-! ### expressions -/
def Snd (tb : Tb) (G : GCtx) (EX : Exn → XK) (W : WX) (X : Cx) (c : Sc) (e : E) (e' : Expr) : Prop :=
  PE X e' (tE X.K G EX W e) ∧ (tstE e = true → PT X e' (tT X.K G EX W e)) ∧ (isPl e = true → PE X e' (tP X.K G EX W e))
theorem Snd.of {W : WX} {X : Cx} {c : Sc} {e : E} {e' : Expr} (h : PE X e' (tE X.K G EX W e)) (he : ∀ whole, isTrue e' X.env whole = (do let v ← whole; standAt e'.pos; holding [v] (truthy v))) (np : isPl e = false) : Snd tb G EX W X c e e' :=
  ⟨h, fun _ => truthT h he, fun p => by rw [np] at p; cases p⟩
theorem glb {c : Sc} {x : Str} (h : chkB tb c x = true) : glB c.sc x = true ∧ x ∈ tb.bs ∧ x ≠ "__name__" := by
  simp only [chkB, Bool.and_eq_true, decide_eq_true_eq] at h
  exact ⟨h.1.1, h.1.2, h.2⟩
theorem base_pl {a : E} {c : Sc} {a' : Expr} {n : Str} {env : Env} (hp : isPl a = true) (h : chkE tb a c a' = true) : attributeBase a' n env (eval a' env) = eval a' env := by
  cases a with
  | v i => obtain ⟨x, p, rfl, _⟩ := i_v h; rfl
  | ix a b => obtain ⟨x, y, p, rfl, _⟩ := i_ix h; rfl
  | _ => cases hp
theorem few {es : Es} {c : Sc} {es' : List Expr} {env : Env} {pos : Pos} (h : chkEs tb es c es' = true) (hl : es'.length < 30) : ((backTo pos (starEach es' env)).all (fun x => !x.1) && (backToKw pos (keywordEach [] env)).all (fun x => x.1.isSome)
      && decide (es'.length + ([] : List Keyword).length + (if ([] : List Keyword).isEmpty then 0 else 1) < 30)) = true := by
  have h1 := plain_star (env := env) (pos := pos) h
  rw [List.any_eq_false] at h1
  simp only [Bool.and_eq_true, List.all_eq_true, Bool.not_eq_true']
  refine ⟨⟨fun x hx => by simpa using h1 x hx, fun x hx => (List.not_mem_nil hx).elim⟩, ?_⟩
  simp only [decide_eq_true_eq]
  have z : (if ([] : List Keyword).isEmpty = true then 0 else 1) = 0 := rfl
  rw [z]
  simp
  omega
theorem ownOf_snd (N : List Str) : ∀ own : List Nat, (ownOf N own).map (·.2) = own
  | [] => rfl
  | i :: r => by unfold ownOf; rw [List.map_cons, ownOf_snd N r]
theorem i_rng {c : Sc} {es : Es} {e' : Expr} (h : chkI tb (.rng es) c e' = true) : ∃ p1 es' p, e' = .Call (.Name "range" p1) es' [] p ∧ chkB tb c "range" = true ∧ chkEs tb es c es' = true ∧ es'.length ≤ 2 ∧ es' ≠ [] := by
  cases e' with
  | Call f' es' kw p =>
    cases f' <;> cases kw <;> simp only [chkI, Bool.false_eq_true] at h
    simp only [Bool.and_eq_true, decide_eq_true_eq, Bool.not_eq_true', List.isEmpty_eq_false_iff] at h
    obtain ⟨⟨⟨⟨h0, h1⟩, h2⟩, h3⟩, h4⟩ := h
    subst h0
    exact ⟨_, _, _, rfl, h1, h2, h3, h4⟩
  | _ => simp [chkI] at h
theorem chkI_fold {it : DV.It} {c : Sc} {e' : Expr} {env : Env} (h : chkI tb it c e' = true) : ∀ x, foldedSetIterable e' env x = pure x := by
  cases it with
  | seq e => exact okF_fold (chkE_okF h)
  | rng es =>
    obtain ⟨p1, es', p, rfl, _⟩ := i_rng h
    exact fun _ => rfl
mutual
theorem sE : ∀ (e : E) {W : WX} {X : Cx} {c : Sc} {e' : Expr}, XOk tb G EX W k X c → chkE tb e c e' = true → Snd tb G EX W X c e e'
  | .v i, W, X, c, e', o, h => by
    obtain ⟨x, p, rfl, h1⟩ := i_v h
    obtain ⟨a1, a2, a3, a4⟩ := o.vis h1
    exact ⟨v_ok a1 a2 a3 a4, fun _ => truthT (v_ok a1 a2 a3 a4) fun _ => rfl, fun _ => pv_ok a1 a2 a3 a4⟩
  | .mv i, W, X, c, e', o, h => by
    obtain ⟨x, p, rfl, h1⟩ := i_mv h
    obtain ⟨a1, a2, a3, a4⟩ := o.vis h1
    exact Snd.of (mv_ok a1 a2 a3 a4) (fun _ => rfl) rfl
  | .fz i, W, X, c, e', o, h => by
    obtain ⟨x, p, rfl, h1⟩ := i_fz h
    obtain ⟨a1, a2, a3, a4⟩ := o.vis h1
    exact Snd.of (fz_ok a1 a2 a3 a4) (fun _ => rfl) rfl
  | .k i, W, X, c, e', o, h => by
    obtain ⟨x, p, rfl, h1, h2⟩ := i_k h
    obtain ⟨g1, g2⟩ := o.gl h2
    exact Snd.of (k_ok g1 g2 fun t ht => o.pk.ks i x t h1 ht) (fun _ => rfl) rfl
  | .c x, W, X, c, e', o, h => by
    obtain ⟨kk, j, p, rfl, h1⟩ := i_c h
    cases x with
    | int i =>
      cases kk <;> simp [chkC] at h1
      subst h1
      exact Snd.of c_int (fun _ => rfl) rfl
    | bl i =>
      cases kk <;> simp [chkC] at h1
      subst h1
      exact Snd.of c_bl (fun _ => rfl) rfl
    | non =>
      cases kk <;> simp [chkC] at h1
      exact Snd.of c_non (fun _ => rfl) rfl
    | str i =>
      cases kk <;> simp [chkC] at h1
      subst h1
      exact Snd.of c_str (fun _ => rfl) rfl
    | tup xs => cases kk <;> simp [chkC] at h1
  | .bin op a b, W, X, c, e', o, h => by
    obtain ⟨a', b', p, rfl, h1, h2⟩ := i_bin h
    exact Snd.of (bin_ok (sE a o h1).1 (sE b o h2).1) (fun _ => rfl) rfl
  | .neg a, W, X, c, e', o, h => by
    obtain ⟨a', p, rfl, h1⟩ := i_neg h
    exact Snd.of (neg_ok (sE a o h1).1) (fun _ => rfl) rfl
  | .cmp op a b, W, X, c, e', o, h => by
    obtain ⟨a', b', p, rfl, h1, h2⟩ := i_cmp h
    have hm := behind_of (op := op) (notSet h2)
    exact ⟨cmp_ok o.units hm (sE a o h1).1 (sE b o h2).1, fun _ => cmpT o.units hm (sE a o h1).1 (sE b o h2).1, fun q => by cases q⟩
  | .chn op op' x y z, W, X, c, e', o, h => by
    obtain ⟨x', y', z', p, rfl, h1, h2, h3⟩ := i_chn h
    have hm := behind_of (op := op') (notSet h3)
    exact ⟨chn_ok o.units hm (sE x o h1).1 (sE y o h2).1 (sE z o h3).1, fun _ => chnT o.units hm (sE x o h1).1 (sE y o h2).1 (sE z o h3).1, fun q => by cases q⟩
  | .and a b, W, X, c, e', o, h => by
    obtain ⟨a', b', r, p, rfl, h1, h2⟩ := i_and h
    have ia := sE a o h1
    have ib := sE b o h2
    have pb : PE X (.BoolOp .And (b' :: r) p) (tE X.K G EX W b) := by
      cases r with
      | nil => exact pe_one ib.1
      | cons r0 r => exact ib.1
    refine ⟨and_ok ia.1 pb, fun ht => ?_, fun q => by cases q⟩
    simp only [tstE, Bool.and_eq_true] at ht
    refine andT (ia.2.1 ht.1) ?_
    cases r with
    | nil => exact pw_and1 (ib.2.1 ht.2)
    | cons r0 r => exact PW.of_and (ib.2.1 ht.2)
  | .or a b, W, X, c, e', o, h => by
    obtain ⟨a', b', r, p, rfl, h1, h2⟩ := i_or h
    have ia := sE a o h1
    have ib := sE b o h2
    have pb : PE X (.BoolOp .Or (b' :: r) p) (tE X.K G EX W b) := by
      cases r with
      | nil => exact pe_one ib.1
      | cons r0 r => exact ib.1
    refine ⟨or_ok ia.1 pb, fun ht => ?_, fun q => by cases q⟩
    simp only [tstE, Bool.and_eq_true] at ht
    refine orT (ia.2.1 ht.1) ?_
    cases r with
    | nil => exact pw_or1 (ib.2.1 ht.2)
    | cons r0 r => exact PW.of_and (ib.2.1 ht.2)
  | .not a, W, X, c, e', o, h => by
    obtain ⟨a', p, rfl, h1⟩ := i_not h
    have ia := sE a o h1
    exact ⟨not_ok ia.1, fun ht => notT (ia.2.1 ht), fun q => by cases q⟩
  | .ite x a b, W, X, c, e', o, h => by
    obtain ⟨x', a', b', p, rfl, h1, h2, h3, h4⟩ := i_ite h
    exact ⟨ite_ok ((sE x o h1).2.1 h2) (sE a o h3).1 (sE b o h4).1, fun q => (by cases q), fun q => by cases q⟩
  | .tup es, W, X, c, e', o, h => by
    obtain ⟨es', j, p, rfl, h1⟩ := i_tup h
    exact Snd.of (tup_ok (sEs es o h1)) (fun _ => rfl) rfl
  | .lst es, W, X, c, e', o, h => by
    obtain ⟨es', p, rfl, h1⟩ := i_lst h
    exact Snd.of (lst_ok (sEs es o h1)) (fun _ => rfl) rfl
  | .ix a b, W, X, c, e', o, h => by
    obtain ⟨a', b', p, rfl, h1, h2⟩ := i_ix h
    have ia := sE a o h1
    have ib := sE b o h2
    have hs := okF_slice (chkE_okF h2)
    exact ⟨ix_ok hs ia.1 ib.1, fun _ => truthT (ix_ok hs ia.1 ib.1) fun _ => rfl, fun q => pix_ok hs (ia.2.2 q) ib.1⟩
  | .sl a lo hi, W, X, c, e', o, h => by
    obtain ⟨a', lo', hi', p2, p, rfl, h1, h2, h3⟩ := i_sl h
    have ia := sE a o h1
    have part : ∀ (l : E) (l' : Option Expr), (match l' with | none => l.isNo | some q => chkE tb l c q) = true → (∀ q, l' = some q → chkE tb l c q = true → PE X q (tE X.K G EX W l)) → ∃ to, PO X l' to ∧ ((l' = none ∧ to = tNoPart ∧ l.isNo = true) ∨ ∃ q, l' = some q ∧ l.isNo = false ∧ to = tPart (tE X.K G EX W l)) := fun l l' hh hq => by
      cases l' with
      | none => exact ⟨tNoPart, po_none, .inl ⟨rfl, rfl, hh⟩⟩
      | some q =>
        refine ⟨_, po_some (hq q rfl hh), .inr ⟨q, rfl, ?_, rfl⟩⟩
        cases l <;> first | rfl | exact (i_no hh).elim
    obtain ⟨tl, l1, l2⟩ := part lo lo' h2 fun q _ hq => (sE lo o hq).1
    obtain ⟨th, u1, u2⟩ := part hi hi' h3 fun q _ hq => (sE hi o hq).1
    exact Snd.of (sl_ok ia.1 l1 u1 l2 u2) (fun _ => rfl) rfl
  | .no, W, X, c, e', o, h => (i_no h).elim
  | .call f es, W, X, c, e', o, h => by
    obtain ⟨x, p1, es', p, rfl, h1, h2, h3⟩ := i_call h
    obtain ⟨g1, g2⟩ := o.gl h2
    obtain ⟨q1, a, fd, ps, q2, q3, q4, q5⟩ := o.pk.fns f x _ h1
    refine Snd.of (call_ok q1 ?_) (fun _ => rfl) rfl
    have hx : ∀ σ, PassesAt (L2.CX X.prog X.w) X σ (WE W σ) := fun σ => passAt o.tk σ
    have ie := sEs es o h3
    have hp := plain_star (env := X.env) (pos := p) h3
    cases es' with
    | nil =>
      refine ⟨fun pins s σ H Q I hq => ?_⟩
      refine wpAny_Call_Name_kw (ld_glob I g1 q2 ?_ g2)
      refine PySem.W.callWith_K0 I.kIn q3 ?_
      have hq2 : spI X.K G EX f 0 [] H Q (WE W σ) := by
        cases es with
        | nil =>
          obtain ⟨Z, δ, Fs, r, S, e1, R⟩ := hq
          simp only [denEs] at e1
          cases some_ok e1
          exact R [] Z Fs H S Tr.refl ⟨[], ⟨rfl, rfl, rfl⟩, OwnA.nil⟩
        | cons e es => simp [chkEs] at h3
      exact run_fnSD (dvs := []) (ds := []) (vs := []) (us := []) q5 o.room q4 .nil (hx σ) I .nil hq2
    | cons e0 es' =>
      have hst : starEach (e0 :: es') X.env = (false, eval e0 X.env) :: starEach es' X.env := by
        cases es with
        | nil => simp [chkEs] at h3
        | cons e es =>
          simp only [chkEs, Bool.and_eq_true] at h3
          exact okF_star (chkE_okF h3.1)
      refine pe_callSD q5 o.room g1 q2 q3 q4 .nil hx ie g2 hst ?_
      cases es with
      | nil => simp [chkEs] at h3
      | cons e es =>
        simp only [chkEs, Bool.and_eq_true] at h3
        exact plain_star h3.2
  | .bi b es, W, X, c, e', o, h => by
    obtain ⟨p1, e0, es', p, rfl, h1, h2⟩ := i_bi h
    have ie := sEs es o h2
    cases es with
    | nil => simp [chkEs] at h2
    | cons e1 es1 =>
      have h3 := h2
      simp only [chkEs, Bool.and_eq_true] at h3
      have hst : starEach (e0 :: es') X.env = (false, eval e0 X.env) :: starEach es' X.env := okF_star (chkE_okF h3.1)
      have hpl := plain_star (env := X.env) (pos := p) h3.2
      have hc := biR_ok (X := X) o.calm b
      have hb := boot_fn b
      refine Snd.of (bi_ok (fun t ht => ?_) ie) (fun _ => rfl) rfl
      cases hk : biKd b with
      | fn id =>
        rw [hk] at h1 hc hb
        obtain ⟨g0, g1, g2⟩ := glb h1
        obtain ⟨g3, g4⟩ := o.gl g0
        exact pe_callB hc g3 (o.pk.bs _ g1) hb ht g2 g4 hst hpl
      | ty T =>
        rw [hk] at h1 hc hb
        obtain ⟨g0, g1, g2⟩ := glb h1
        obtain ⟨g3, g4⟩ := o.gl g0
        exact pe_callTy hc g3 (o.pk.bs _ g1) hb ht g2 g4 hst hpl
      | mod id =>
        rw [hk] at h1 hc
        simp only [Bool.and_eq_true, decide_eq_true_eq] at h1
        obtain ⟨g3, g4⟩ := o.gl h1.2
        exact pe_callBfun hc g3 (o.pk.ms _ _ h1.1) ht g4 hst hpl
  | .isi a ty, W, X, c, e', o, h => by
    obtain ⟨p1, a', p2, p, rfl, h1, h2, h3⟩ := i_isi h
    have ia := sE a o h2
    obtain ⟨g0, g1, g2⟩ := glb h1
    obtain ⟨g3, g4⟩ := o.gl g0
    obtain ⟨k0, k1, k2⟩ := glb h3
    obtain ⟨k3, k4⟩ := o.gl k0
    have hst : starEach (a' :: [Expr.Name (tyStr ty) p2]) X.env = (false, eval a' X.env) :: starEach [Expr.Name (tyStr ty) p2] X.env := okF_star (chkE_okF h2)
    refine Snd.of (isi_ok (fun t ht => ?_) ia.1) (fun _ => rfl) rfl
    exact pe_callB call_isi g3 (o.pk.bs _ g1) boot_isi (pa_cons ht (pa_cons (pe_bltn k3 (o.pk.bs _ k1) (boot_ty ty) rfl k2 k4) pa_nil) hst) g2 g4 hst rfl
  | .mth m a es, W, X, c, e', o, h => (i_mth h).elim
  | .mut m a es, W, X, c, e', o, h => by
    obtain ⟨a', apos, es', p, rfl, h0, h1, h2, h3, h4, h5⟩ := i_mut h
    have hta := (sE a o h2).2.2 h1
    have ia := sE a o h2
    have ie := sEs es o h3
    have hb := base_pl (n := mtName m) (env := X.env) h1 h2
    refine Snd.of (mut_ok ?_ fun δ rp δ1 hd => denP_root hd) (fun _ => rfl) rfl
    cases es' with
    | nil =>
      cases es with
      | cons e es => simp [chkEs] at h3
      | nil =>
        have z : ∀ {id : String}, Slot "list" (mtName m) id → typeOf (.builtin id) = pure (.type "method_descriptor") → MtR X id (mtR m) → PE X (.Call (.Attribute a' (mtName m) apos) [] [] p) (tBM X.K "list" (mtR m) (tP X.K G EX W a) (tEs X.K G EX W .nil)) := fun sl ty hm =>
          PE.imp (pe_bm0 F.plainAttrs_list sl ty hm hta hb h4) fun σ H Q hq => by
            obtain ⟨Z, δ, Fs, r, S, e1, R⟩ := hq
            refine ⟨Z, δ, Fs, r, S, e1, ?_⟩
            cases r with
            | ex x δ1 => exact R
            | ok rp δ1 =>
              intro v Z' Fs' H' S' t q
              obtain ⟨q1, Z2, δ2, Fs2, r2, S2, e2, R2⟩ := R v Z' Fs' H' S' t q
              simp only [denEs] at e2
              cases some_ok e2
              exact ⟨q1, R2 [] Z2 Fs2 H' S2 Tr.refl ⟨[], ⟨rfl, rfl, rfl⟩, OwnA.nil⟩⟩
        cases m with
        | append => exact z F.slot_list_append F.type_list_append (mtR_ok .append)
        | pop => exact z F.slot_list_pop F.type_list_pop (mtR_ok .pop)
        | extend => exact z F.slot_list_extend F.type_list_extend (mtR_ok .extend)
        | _ => cases h0
    | cons e0 es' =>
      cases es with
      | nil => simp [chkEs] at h3
      | cons e1 es1 =>
        have h6 := h3
        simp only [chkEs, Bool.and_eq_true] at h6
        have hst : starEach (e0 :: es') X.env = (false, eval e0 X.env) :: starEach es' X.env := okF_star (chkE_okF h6.1)
        have hpl := plain_star (env := X.env) (pos := p) h6.2
        have z : ∀ {id : String}, Slot "list" (mtName m) id → typeOf (.builtin id) = pure (.type "method_descriptor") → MtR X id (mtR m) → PE X (.Call (.Attribute a' (mtName m) apos) (e0 :: es') [] p) (tBM X.K "list" (mtR m) (tP X.K G EX W a) (tEs X.K G EX W (.cons e1 es1))) := fun sl ty hm =>
          pe_bm F.plainAttrs_list sl ty hm hta ie hb (few h3 h5) h4 hst hpl
        cases m with
        | append => exact z F.slot_list_append F.type_list_append (mtR_ok .append)
        | pop => exact z F.slot_list_pop F.type_list_pop (mtR_ok .pop)
        | extend => exact z F.slot_list_extend F.type_list_extend (mtR_ok .extend)
        | _ => cases h0
  | .lc elt tg it cs own, W, X, c, e', o, h => by
    obtain ⟨elt', tg', it', cs', scope, p, rfl, h1, h2, h3, h4, h5, h6, h7⟩ := i_lc h
    have blk : BlkOk X.N X.env.scope scope (ownOf X.N own) := by rw [o.N, o.sc]; exact blkOk_by h2
    refine Snd.of (lc_ok o.calm o.nd (sI it o h1) blk (ownOf_snd _ own) (fun i hi => ?_) (fun s H C cl fp => ?_) (fun s H C cl fp => ?_) (fun s H C cl fp => ?_) (chkI_fold h1)) (fun _ => rfl) rfl
    · rw [List.all_eq_true] at h4
      simpa using h4 i hi
    · exact sG (o.blk (H := H) blk.kind) tg h3
    · have ob := o.blk (s := s) (H := H) (C := C) (cl := cl) (fp := fp) blk.kind
      cases cs with
      | nil =>
        cases cs' with
        | nil => exact tC_nil
        | cons _ _ => simp [chkEs] at h5
      | cons e1 cs1 =>
        cases cs1 with
        | cons _ _ => simp [tstEs] at h6
        | nil =>
          cases cs' with
          | nil => simp [chkEs] at h5
          | cons e1' cs1' =>
            simp only [chkEs, Bool.and_eq_true] at h5
            cases cs1' with
            | cons _ _ => simp [chkEs] at h5
            | nil => exact tC_one ((sE e1 ob h5.1).2.1 h6)
    · exact (sE elt (o.blk (s := s) (H := H) (C := C) (cl := cl) (fp := fp) blk.kind) h7).1
termination_by structural e => e
theorem sEs : ∀ (es : Es) {W : WX} {X : Cx} {c : Sc} {es' : List Expr}, XOk tb G EX W k X c → chkEs tb es c es' = true → PA X es' (tEs X.K G EX W es)
  | .nil, W, X, c, [], o, h => esNil
  | .nil, W, X, c, _ :: _, o, h => by simp [chkEs] at h
  | .cons _ _, W, X, c, [], o, h => by simp [chkEs] at h
  | .cons e es, W, X, c, e' :: es', o, h => by
    simp only [chkEs, Bool.and_eq_true] at h
    refine esCons (sE e o h.1).1 (sEs es o h.2) (okF_star (chkE_okF h.1)) fun i hi => ?_
    subst hi
    obtain ⟨x, p, rfl, h1⟩ := i_v h.1
    exact ⟨x, p, rfl, o.vis h1⟩
termination_by structural es => es
theorem sI : ∀ (it : DV.It) {W : WX} {X : Cx} {c : Sc} {it' : Expr} {tg : Expr}, XOk tb G EX W k X c → chkI tb it c it' = true → PI X tg it' (tI X.K G EX W it)
  | .seq e, W, X, c, it', tg, o, h => seqI_ok (sE e o h).1
  | .rng es, W, X, c, it', tg, o, h => by
    obtain ⟨p1, es', p, rfl, h1, h2, h3, h4⟩ := i_rng h
    obtain ⟨g0, g1, g2⟩ := glb h1
    obtain ⟨g3, g4⟩ := o.gl g0
    have ie := sEs es o h2
    rcases es' with _ | ⟨e1', _ | ⟨e2', _ | ⟨e3', es'⟩⟩⟩
    · exact absurd rfl h4
    · cases es with
      | nil => simp [chkEs] at h2
      | cons e1 es1 =>
        simp only [chkEs, Bool.and_eq_true] at h2
        cases es1 with
        | cons _ _ => simp [chkEs] at h2
        | nil => exact rngI1_ok g3 (o.pk.bs _ g1) (okF_star (chkE_okF h2.1)) ie
    · cases es with
      | nil => simp [chkEs] at h2
      | cons e1 es1 =>
        simp only [chkEs, Bool.and_eq_true] at h2
        cases es1 with
        | nil => simp [chkEs] at h2
        | cons e2 es2 =>
          simp only [chkEs, Bool.and_eq_true] at h2
          cases es2 with
          | cons _ _ => simp [chkEs] at h2
          | nil => exact rngI2_ok g3 (o.pk.bs _ g1) (by rw [okF_star (chkE_okF h2.1), okF_star (chkE_okF h2.2.1)]; rfl) (okF_star (chkE_okF h2.2.1)) ie
    · simp at h3
termination_by structural it => it
end
end
end DV


set_option Elab.async false
set_option linter.all false
set_option maxRecDepth 100000
set_option maxHeartbeats 2000000
/-! DW: statements are sound; functions. -/
namespace DV
open PySem L2
def notTup : Expr → Bool
  | .Tuple .. => false
  | _ => true
def notLc : E → Bool
  | .lc .. => false
  | _ => true
def oneOf : List Expr → Option Expr
  | [t] => some t
  | _ => none
theorem oneOf_ok : ∀ {ts : List Expr} {t : Expr}, oneOf ts = some t → ts = [t]
  | [t], _, h => by cases h; rfl
  | [], _, h => by cases h
  | _ :: _ :: _, _, h => by cases h
def namOf : Expr → Option (Str × Pos)
  | .Name x p => some (x, p)
  | _ => none
def tupOf : Expr → Option (List Expr)
  | .Tuple es _ _ => some es
  | _ => none
theorem namOf_ok {e : Expr} {x : Str} {p : Pos} (h : namOf e = some (x, p)) : e = .Name x p := by cases e <;> cases h; rfl
theorem tupOf_ok {e : Expr} {es : List Expr} (h : tupOf e = some es) : ∃ j p, e = .Tuple es j p := by cases e <;> cases h; exact ⟨_, _, rfl⟩
def twoOf : List Expr → Option (Expr × Expr)
  | [a, b] => some (a, b)
  | _ => none
theorem twoOf_ok : ∀ {ts : List Expr} {t u : Expr}, twoOf ts = some (t, u) → ts = [t, u]
  | [t, u], _, _, h => by cases h; rfl
  | [], _, _, h => by cases h
  | [_], _, _, h => by cases h
  | _ :: _ :: _ :: _, _, _, h => by cases h
def parOf (ts : List Expr) (e : Expr) : Option (Str × Pos × Str × Pos × Expr × Expr) :=
  match ((oneOf ts).bind tupOf).bind twoOf, (tupOf e).bind twoOf with
  | some (t, u), some (a, b) => match namOf t, namOf u with
    | some (x, px), some (y, py) => some (x, px, y, py, a, b)
    | _, _ => none
  | _, _ => none
theorem parOf_ok {ts : List Expr} {e : Expr} {x y : Str} {px py : Pos} {a b : Expr} (h : parOf ts e = some (x, px, y, py, a, b)) : ∃ kt pt k2 pt2, ts = [.Tuple [.Name x px, .Name y py] kt pt] ∧ e = .Tuple [a, b] k2 pt2 := by
  unfold parOf at h
  split at h
  case h_2 => cases h
  rename_i t u a2 b2 h1 h2
  split at h
  case h_2 => cases h
  rename_i x2 px2 y2 py2 h3 h4
  cases h
  rw [Option.bind_eq_some_iff] at h1 h2
  obtain ⟨es, h5, h6⟩ := h1
  obtain ⟨es2, h7, h8⟩ := h2
  rw [Option.bind_eq_some_iff] at h5
  obtain ⟨t1, h9, h10⟩ := h5
  have q1 := oneOf_ok h9
  obtain ⟨j, p, q2⟩ := tupOf_ok h10
  have q3 := twoOf_ok h6
  have q4 := namOf_ok h3
  have q5 := namOf_ok h4
  obtain ⟨j2, p2, q6⟩ := tupOf_ok h7
  have q7 := twoOf_ok h8
  subst q1 q2 q3 q4 q5 q6 q7
  exact ⟨_, _, _, _, rfl, rfl⟩
def subOf : Expr → Option (Expr × Expr)
  | .Subscript a i _ => some (a, i)
  | _ => none
theorem subOf_ok {e a i : Expr} (h : subOf e = some (a, i)) : ∃ p, e = .Subscript a i p := by cases e <;> cases h; exact ⟨_, rfl⟩
def sixOf (ts : List Expr) : Option (Expr × Expr) := (oneOf ts).bind subOf
theorem sixOf_ok {ts : List Expr} {a i : Expr} (h : sixOf ts = some (a, i)) : ∃ p, ts = [.Subscript a i p] := by
  unfold sixOf at h
  rw [Option.bind_eq_some_iff] at h
  obtain ⟨t, h1, h2⟩ := h
  have q := oneOf_ok h1
  obtain ⟨p, q2⟩ := subOf_ok h2
  subst q q2
  exact ⟨p, rfl⟩
def chkTg (c : Sc) (tg : Tg) (t : Expr) (e' : Expr) : Bool :=
  match tg, t with
  | .n i, .Name x _ => decide (c.N[i]? = some x) && locB c x
  | .tp ts, .Tuple es j p => chkG c (.tp ts) (.Tuple es j p) && notTup e'
  | _, _ => false
section
variable (tb : Tb)
mutual
def chkS : S → Sc → Stmt → Bool
  | .asg tg e, c, .Assign ts e' _ => (match oneOf ts with | some t => chkTg c tg t e' && chkE tb e c e' | none => false)
  | .par i j a b, c, .Assign ts e' _ => (match parOf ts e' with
      | some (x, px, y, py, a', b') => decide (c.N[i]? = some x) && decide (c.N[j]? = some y) && decide (i ≠ j) && decide (x ≠ y) && decide (c.sc.names.lookup x = some .local) && decide (c.sc.names.lookup y = some .local) &&
        chkE tb a c a' && chkE tb b c b' && decide (px.line = py.line) && !(foldedForSure 8 a' && foldedForSure 8 b') && !(constantsAlone 8 a' && constantsAlone 8 b')
      | none => false)
  | .six a i e, c, .Assign ts e' _ => (match sixOf ts with | some (a', i') => isPl a && chkE tb a c a' && chkE tb i c i' && chkE tb e c e' | none => false)
  | .aug i op e, c, .AugAssign (.Name x _) op' e' _ => decide (op = op') && decide (c.N[i]? = some x) && locB c x && chkE tb e c e'
  | .ex e, c, .Expr e' _ => notLc e && chkE tb e c e'
  | .pass, _, .Expr (.Constant (.str _) _ _) _ => true
  | .pass, _, .Pass _ => true
  | .ret e, c, .Return (some e') _ => chkE tb e c e'
  | .retn, _, .Return none _ => true
  | .iff q a b, c, .If q' a' b' _ => chkE tb q c q' && tstE q && chkSs a c a' && chkSs b c b'
  | .wh _ q b, c, .While q' b' [] _ => chkE tb q c q' && tstE q && chkSs b c b'
  | .for tg it b, c, .For tg' it' b' [] _ => chkI tb it c it' && chkG c tg tg' && chkSs b c b'
  | .brk, _, .Break _ => true
  | .cont, _, .Continue _ => true
  | _, _, _ => false
termination_by structural s => s
def chkSs : Ss → Sc → List Stmt → Bool
  | .nil, _, [] => true
  | .cons s ss, c, s' :: ss' => chkS s c s' && chkSs ss c ss'
  | _, _, _ => false
termination_by structural s => s
end
end
section
variable {tb : Tb} {G : GCtx} {EX : Exn → XK} {k : Nat} {W : WX} {X : Cx} {c : Sc}
theorem swaps_no {e : E} {e' : Expr} {t : Option Expr} {l : Nat} {env : Env} (h : chkE tb e c e' = true) (n : notLc e = true) : swapsWith e' t l env = pure false := by
  have q : ∀ (a : Expr) (b : List Comprehension) (s : Scope) (p : Pos), e' ≠ .ListComp a b s p := fun a b s p q => by
    subst q
    cases e <;> first | (cases n; done) | (simp [chkE] at h; done)
  have q2 : ∀ (a : Expr) (b : List Comprehension) (s : Scope) (p : Pos), e' ≠ .SetComp a b s p := fun a b s p q => by
    subst q
    cases e <;> simp [chkE] at h
  have q3 : ∀ a0 (a : Expr) (b : List Comprehension) (s : Scope) (p : Pos), e' ≠ .DictComp a0 a b s p := fun a0 a b s p q => by
    subst q
    cases e <;> simp [chkE] at h
  cases e' <;> first | rfl | exact absurd rfl (q _ _ _ _) | exact absurd rfl (q2 _ _ _ _) | exact absurd rfl (q3 _ _ _ _ _)
theorem swaps_tup {e' : Expr} {t : Expr} {l : Nat} {env : Env} (ht : ∀ x p, t ≠ .Name x p) : swapsWithSole [t] e' l env = pure false := by
  show swapsWith e' (some t) l env = pure false
  cases e' <;> first | rfl | (cases t <;> first | rfl | exact absurd rfl (ht _ _))
theorem stores_tup {es : List Expr} {j : Nat} {p : Pos} {e' : Expr} {env : Env} (h : notTup e' = true) : swappedStores [.Tuple es j p] e' env = pure none := by
  cases e' <;> first | rfl | cases h
theorem stores_par {x y : Str} {px py pt pt2 : Pos} {kt k2 : Nat} {a' b' : Expr} {env : Env} (hk : env.blockKind = .function) (ha : okF a' = true) (hb : okF b' = true) (hx : env.kindOf x = some .local) (hy : env.kindOf y = some .local) (hl : px.line = py.line) (hne : x ≠ y)
    (h1 : (foldedForSure 8 a' && foldedForSure 8 b') = false) (h2 : (constantsAlone 8 a' && constantsAlone 8 b') = false) : swappedStores [.Tuple [.Name x px, .Name y py] kt pt] (.Tuple [a', b'] k2 pt2) env = pure (some [x, y]) := by
  have key : ([a', b'] : List Expr).any (fun | .Starred .. => true | _ => false) = false := by
    rw [List.any_cons, List.any_cons, List.any_nil, Bool.or_false]
    refine Bool.or_eq_false_iff.mpr ⟨?_, ?_⟩
    · cases a' <;> first | rfl | cases ha
    · cases b' <;> first | rfl | cases hb
  have h1' : ([a', b'] : List Expr).all (foldedForSure 8) = false := by simpa using h1
  have h2' : ([a', b'] : List Expr).all (constantsAlone 8) = false := by simpa using h2
  have nm : (([Expr.Name x px, Expr.Name y py] : List Expr).filterMap fun
    | .Name id pos => if env.kindOf id == some .local && pos.line == px.line then some id else none
    | _ => none) = [x, y] := by
    rw [List.filterMap_cons, List.filterMap_cons, List.filterMap_nil]
    simp only [hx, hy, hl, beq_self_eq_true, Bool.and_self, if_true]
  have ed : ([x, y] : List Str).eraseDups.length = 2 := by
    simp [List.eraseDups_cons, Ne.symm hne]
  unfold swappedStores
  simp only [hk]
  rw [if_neg (fun q => by simp at q)]
  generalize hA : (List.any [a', b'] _) = bA
  have eA : bA = false := hA.symm.trans key
  subst eA
  rw [if_neg Bool.false_ne_true]
  generalize hn : (List.filterMap _ [Expr.Name x px, Expr.Name y py]) = names
  have e1 : names = [x, y] := hn.symm.trans nm
  subst e1
  rw [if_neg (fun q => by simp [ed] at q), if_neg (fun q => by rw [h1'] at q; cases q), if_neg (fun q => by rw [h2'] at q; cases q)]
/-! ### what the check says of statements -/
theorem i_asg {i : Nat} {e : E} {s' : Stmt} (h : chkS tb (.asg (.n i) e) c s' = true) : ∃ x p2 e' p, s' = .Assign [.Name x p2] e' p ∧ c.N[i]? = some x ∧ locB c x = true ∧ chkE tb e c e' = true := by
  cases s' with
  | Assign ts e' p =>
    simp only [chkS] at h
    split at h
    case h_2 => cases h
    rename_i t ht
    have q := oneOf_ok ht
    subst q
    simp only [Bool.and_eq_true] at h
    cases t <;> simp [chkTg] at h
    exact ⟨_, _, _, _, rfl, h.1.1, h.1.2, h.2⟩
  | _ => simp [chkS] at h
theorem i_asgT {ts : Tgs} {e : E} {s' : Stmt} (h : chkS tb (.asg (.tp ts) e) c s' = true) : ∃ es j p2 e' p, s' = .Assign [.Tuple es j p2] e' p ∧ chkG c (.tp ts) (.Tuple es j p2) = true ∧ chkE tb e c e' = true ∧ notTup e' = true := by
  cases s' with
  | Assign us e' p =>
    simp only [chkS] at h
    split at h
    case h_2 => cases h
    rename_i t ht
    have q := oneOf_ok ht
    subst q
    simp only [Bool.and_eq_true] at h
    cases t <;> simp [chkTg] at h
    exact ⟨_, _, _, _, _, rfl, h.1.1, h.2, h.1.2⟩
  | _ => simp [chkS] at h
theorem i_par {i j : Nat} {a b : E} {s' : Stmt} (h : chkS tb (.par i j a b) c s' = true) : ∃ x y px py kt pt a' b' k2 pt2 p, s' = .Assign [.Tuple [.Name x px, .Name y py] kt pt] (.Tuple [a', b'] k2 pt2) p ∧ c.N[i]? = some x ∧ c.N[j]? = some y ∧ i ≠ j ∧ x ≠ y ∧ c.sc.names.lookup x = some .local ∧ c.sc.names.lookup y = some .local ∧
    chkE tb a c a' = true ∧ chkE tb b c b' = true ∧ px.line = py.line ∧ (foldedForSure 8 a' && foldedForSure 8 b') = false ∧ (constantsAlone 8 a' && constantsAlone 8 b') = false := by
  cases s' with
  | Assign ts e' p =>
    simp only [chkS] at h
    split at h
    case h_2 => cases h
    rename_i x px y py a' b' ht
    obtain ⟨kt, pt, k2, pt2, q1, q2⟩ := parOf_ok ht
    subst q1 q2
    simp only [Bool.and_eq_true, decide_eq_true_eq, Bool.not_eq_true'] at h
    obtain ⟨⟨⟨⟨⟨⟨⟨⟨⟨⟨h0, h1⟩, h2⟩, h3⟩, h4⟩, h5⟩, h6⟩, h7⟩, h8⟩, h9⟩, h10⟩ := h
    exact ⟨_, _, _, _, _, _, _, _, _, _, _, rfl, h0, h1, h2, h3, h4, h5, h6, h7, h8, h9, h10⟩
  | _ => simp [chkS] at h
theorem i_six {a i e : E} {s' : Stmt} (h : chkS tb (.six a i e) c s' = true) : ∃ a' i' p2 e' p, s' = .Assign [.Subscript a' i' p2] e' p ∧ isPl a = true ∧ chkE tb a c a' = true ∧ chkE tb i c i' = true ∧ chkE tb e c e' = true := by
  cases s' with
  | Assign ts e' p =>
    simp only [chkS] at h
    split at h
    case h_2 => cases h
    rename_i a' i' ht
    obtain ⟨p2, q⟩ := sixOf_ok ht
    subst q
    simp only [Bool.and_eq_true] at h
    exact ⟨_, _, _, _, _, rfl, h.1.1.1, h.1.1.2, h.1.2, h.2⟩
  | _ => simp [chkS] at h
theorem i_aug {i : Nat} {op : Operator} {e : E} {s' : Stmt} (h : chkS tb (.aug i op e) c s' = true) : ∃ x p2 e' p, s' = .AugAssign (.Name x p2) op e' p ∧ c.N[i]? = some x ∧ locB c x = true ∧ chkE tb e c e' = true := by
  cases s' with
  | AugAssign t op' e' p =>
    cases t <;> simp [chkS] at h
    obtain ⟨⟨⟨h0, h1⟩, h2⟩, h3⟩ := h
    subst h0
    exact ⟨_, _, _, _, rfl, h1, h2, h3⟩
  | _ => simp [chkS] at h
theorem i_ex {e : E} {s' : Stmt} (h : chkS tb (.ex e) c s' = true) : ∃ e' p, s' = .Expr e' p ∧ notLc e = true ∧ chkE tb e c e' = true := by
  cases s' <;> simp [chkS] at h <;> exact ⟨_, _, rfl, h.1, h.2⟩
theorem i_pass {s' : Stmt} (h : chkS tb .pass c s' = true) : (∃ p, s' = .Pass p) ∨ ∃ x j p1 p, s' = .Expr (.Constant (.str x) j p1) p := by
  cases s' with
  | Pass p => exact .inl ⟨_, rfl⟩
  | Expr e' p =>
    cases e' with
    | Constant k j p1 => cases k <;> simp [chkS] at h <;> exact .inr ⟨_, _, _, _, rfl⟩
    | _ => simp [chkS] at h
  | _ => simp [chkS] at h
theorem i_ret {e : E} {s' : Stmt} (h : chkS tb (.ret e) c s' = true) : ∃ e' p, s' = .Return (some e') p ∧ chkE tb e c e' = true := by
  cases s' with
  | Return e' p => cases e' <;> simp [chkS] at h; exact ⟨_, _, rfl, h⟩
  | _ => simp [chkS] at h
theorem i_retn {s' : Stmt} (h : chkS tb .retn c s' = true) : ∃ p, s' = .Return none p := by
  cases s' with
  | Return e' p => cases e' <;> simp [chkS] at h; exact ⟨_, rfl⟩
  | _ => simp [chkS] at h
theorem i_iff {q : E} {a b : Ss} {s' : Stmt} (h : chkS tb (.iff q a b) c s' = true) : ∃ q' a' b' p, s' = .If q' a' b' p ∧ chkE tb q c q' = true ∧ tstE q = true ∧ chkSs tb a c a' = true ∧ chkSs tb b c b' = true := by
  cases s' <;> simp [chkS] at h <;> (obtain ⟨⟨⟨h0, h1⟩, h2⟩, h3⟩ := h; exact ⟨_, _, _, _, rfl, h0, h1, h2, h3⟩)
theorem i_wh {n : Nat} {q : E} {b : Ss} {s' : Stmt} (h : chkS tb (.wh n q b) c s' = true) : ∃ q' b' p, s' = .While q' b' [] p ∧ chkE tb q c q' = true ∧ tstE q = true ∧ chkSs tb b c b' = true := by
  cases s' with
  | While q' b' o' p => cases o' <;> simp [chkS] at h; exact ⟨_, _, _, rfl, h.1.1, h.1.2, h.2⟩
  | _ => simp [chkS] at h
theorem i_for {tg : Tg} {it : DV.It} {b : Ss} {s' : Stmt} (h : chkS tb (.for tg it b) c s' = true) : ∃ tg' it' b' p, s' = .For tg' it' b' [] p ∧ chkI tb it c it' = true ∧ chkG c tg tg' = true ∧ chkSs tb b c b' = true := by
  cases s' with
  | For tg' it' b' o' p => cases o' <;> simp [chkS] at h; exact ⟨_, _, _, _, rfl, h.1.1, h.1.2, h.2⟩
  | _ => simp [chkS] at h
theorem i_brk {s' : Stmt} (h : chkS tb .brk c s' = true) : ∃ p, s' = .Break p := by
  cases s' <;> simp [chkS] at h <;> exact ⟨_, rfl⟩
theorem i_cont {s' : Stmt} (h : chkS tb .cont c s' = true) : ∃ p, s' = .Continue p := by
  cases s' <;> simp [chkS] at h <;> exact ⟨_, rfl⟩
theorem sSetLc {i : Nat} {y : Str} {py : Pos} {elt : E} {tg : Tg} {it : DV.It} {cs : Es} {own : List Nat} {e' : Expr} {spos : Pos} (o : XOk tb G EX W k X c) (hy : X.N[i]? = some y) (hyl : X.env.scope.names.lookup y = some .local) (h : chkE tb (.lc elt tg it cs own) c e' = true)
    (hsw : swapsWith e' (some (.Name y py)) spos.line X.env = pure true) : PS X (.Assign [.Name y py] e' spos) (tS X.K G EX W (.asg (.n i) (.lc elt tg it cs own))) := by
  obtain ⟨elt', tg', it', cs', scope, p, rfl, h1, h2, h3, h4, h5, h6, h7⟩ := i_lc h
  have blk : BlkOk X.N X.env.scope scope (ownOf X.N own) := by rw [o.N, o.sc]; exact blkOk_by h2
  refine PS.imp (ps_setLc (g := tG X.K tg) (tt := tC X.K G EX WF cs) (te := tE X.K G EX WF elt) o.calm o.nd hy hyl hsw (sI it o h1) blk (fun s H C cl fp => ?_) (fun s H C cl fp => ?_) (fun s H C cl fp => ?_) (chkI_fold h1)) fun En σ H hq => ?_
  · exact sG (o.blk (H := H) blk.kind) tg h3
  · have ob := o.blk (s := s) (H := H) (C := C) (cl := cl) (fp := fp) blk.kind
    cases cs with
    | nil =>
      cases cs' with
      | nil => exact tC_nil
      | cons _ _ => simp [chkEs] at h5
    | cons e1 cs1 =>
      cases cs1 with
      | cons _ _ => simp [tstEs] at h6
      | nil =>
        cases cs' with
        | nil => simp [chkEs] at h5
        | cons e1' cs1' =>
          simp only [chkEs, Bool.and_eq_true] at h5
          cases cs1' with
          | cons _ _ => simp [chkEs] at h5
          | nil => exact tC_one ((sE e1 ob h5.1).2.1 h6)
  · exact (sE elt (o.blk (s := s) (H := H) (C := C) (cl := cl) (fp := fp) blk.kind) h7).1
  · have hq := asg_imp hq
    refine lc_imp (ownOf_snd _ own) (fun i hi => ?_) (W := W) ?_
    · rw [List.all_eq_true] at h4
      simpa using h4 i hi
    · obtain ⟨Z, δ, Fs, r, S, e, R⟩ := hq
      refine ⟨Z, δ, Fs, r, S, e, ?_⟩
      cases r with
      | ok va δ' => exact fun v Z' Fs' H' S' t q => gName_imp (R v Z' Fs' H' S' t q)
      | ex x δ' => exact R
mutual
theorem sS (hp : PassesOwn (model X.prog X.w) X.A X.env X.xe) (o : XOk tb G EX W k X c) : ∀ (s : S) {s' : Stmt}, chkS tb s c s' = true → PS X s' (tS X.K G EX W s)
  | .asg (.n i) e, s', h => by
    obtain ⟨x, p2, e', p, rfl, h1, h2, h3⟩ := i_asg h
    obtain ⟨l1, l2⟩ := o.loc h2
    have hN : X.N[i]? = some x := by rw [o.N]; exact h1
    by_cases n : notLc e = true
    · exact sSet o.nd hN l1 l2 (sE e o h3).1 (swaps_no h3 n)
    · cases e with
      | lc elt tg it cs own =>
        have h4 := h3
        obtain ⟨elt', tg', it', cs', scope, p3, rfl, _⟩ := i_lc h4
        have hb : ∃ b, swapsWith (.ListComp elt' [⟨tg', it', cs', 0⟩] scope p3) (some (.Name x p2)) p.line X.env = pure b ∧ (b = true → X.env.kindOf x = some .local) := by
          refine ⟨X.env.blockKind == .function && X.env.kindOf x == some .local && p2.line == (Expr.ListComp elt' [⟨tg', it', cs', 0⟩] scope p3).pos.line && !(scope.names.any fun (n, k) => n == x && (k == .local || k == .cell)), rfl, fun q => ?_⟩
          simp only [Bool.and_eq_true] at q
          exact eq_of_beq q.1.1.2
        obtain ⟨b, hb1, hb2⟩ := hb
        cases b with
        | false => exact sSet o.nd hN l1 l2 (sE _ o h3).1 hb1
        | true => exact sSetLc o hN (hb2 rfl) h3 hb1
      | _ => exact absurd rfl n
  | .asg (.tp ts) e, s', h => by
    obtain ⟨es, j, p2, e', p, rfl, h1, h2, h3⟩ := i_asgT h
    refine sAsg (sE e o h2).1 (sG o _ h1) (swaps_tup fun _ _ q => by cases q) (stores_tup h3) rfl
  | .par i j a b, s', h => by
    obtain ⟨x, y, px, py, kt, pt, a', b', k2, pt2, p, rfl, h1, h2, h3, h4, h5, h6, h7, h8, h9, h10, h11⟩ := i_par h
    rw [← o.N] at h1 h2
    rw [← o.sc] at h5 h6
    have bk : X.env.blockKind = .function := by
      unfold Env.blockKind
      rw [o.kind]
      rfl
    exact sPar o.calm o.nd h1 h2 h3 h5 h6 (sE a o h7).1 (sE b o h8).1 (okF_star (chkE_okF h7)) (okF_star (chkE_okF h8)) (stores_par bk (chkE_okF h7) (chkE_okF h8) h5 h6 h9 h4 h10 h11)
  | .six a i e, s', h => by
    obtain ⟨a', i', p2, e', p, rfl, h1, h2, h3, h4⟩ := i_six h
    refine sSix ?_ ((sE a o h2).2.2 h1) (sE i o h3).1 (sE e o h4).1 (swaps_tup fun _ _ q => by cases q) rfl rfl
    have hs := okF_slice (chkE_okF h3)
    intro v
    cases i' <;> first | rfl | exact absurd rfl (hs _ _ _ _)
  | .aug i op e, s', h => by
    obtain ⟨x, p2, e', p, rfl, h1, h2, h3⟩ := i_aug h
    obtain ⟨l1, l2⟩ := o.loc h2
    exact sAug o.nd (by rw [o.N]; exact h1) l1 l2 (sE e o h3).1
  | .ex e, s', h => by
    obtain ⟨e', p, rfl, h1, h2⟩ := i_ex h
    exact sEx (swaps_no h2 h1) (sE e o h2).1
  | .pass, s', h => by
    rcases i_pass h with ⟨p, rfl⟩ | ⟨x, j, p1, p, rfl⟩
    · exact sPass
    · exact sDoc
  | .ret e, s', h => by
    obtain ⟨e', p, rfl, h1⟩ := i_ret h
    exact sRet (sE e o h1).1
  | .retn, s', h => by
    obtain ⟨p, rfl⟩ := i_retn h
    exact sRetN
  | .iff q a b, s', h => by
    obtain ⟨q', a', b', p, rfl, h1, h2, h3, h4⟩ := i_iff h
    exact sIf ((sE q o h1).2.1 h2) (sSs hp o a h3) (sSs hp o b h4)
  | .wh n q b, s', h => by
    obtain ⟨q', b', p, rfl, h1, h2, h3⟩ := i_wh h
    exact sWh hp ((sE q o h1).2.1 h2) (sSs hp o b h3)
  | .for tg it b, s', h => by
    obtain ⟨tg', it', b', p, rfl, h1, h2, h3⟩ := i_for h
    exact sFor hp o.calm (sI it o h1) (sG o tg h2) (sSs hp o b h3) (chkI_fold h1)
  | .brk, s', h => by
    obtain ⟨p, rfl⟩ := i_brk h
    exact sBrk
  | .cont, s', h => by
    obtain ⟨p, rfl⟩ := i_cont h
    exact sCont
termination_by structural s => s
theorem sSs (hp : PassesOwn (model X.prog X.w) X.A X.env X.xe) (o : XOk tb G EX W k X c) : ∀ (s : Ss) {s' : List Stmt}, chkSs tb s c s' = true → PSs X s' (tSs X.K G EX W s)
  | .nil, [], h => sNil
  | .nil, _ :: _, h => by simp [chkSs] at h
  | .cons _ _, [], h => by simp [chkSs] at h
  | .cons s ss, s' :: ss', h => by
    simp only [chkSs, Bool.and_eq_true] at h
    exact sCons (sS hp o s h.1) (sSs hp o ss h.2)
termination_by structural s => s
end
end
end DV


set_option Elab.async false
set_option linter.all false
set_option maxRecDepth 100000
set_option maxHeartbeats 2000000
/-! DX: functions, programs. -/
namespace DV
open PySem L2
/-- a function: its changed parameters, its other slots, its body -/
structure FD where
  mask : List Bool
  loc : Nat
  body : Ss
def outMs (δ : Ev) : List Nat → Option (List D)
  | [] => some []
  | i :: is => match δ.getD i none, outMs δ is with
    | some d, some ds => some (d :: ds)
    | _, _ => none
def runF (G : GCtx) (f : FD) (ds : List D) : Option Rf :=
  match denSs G f.body (ds.map some ++ List.replicate f.loc none) with
  | some (.ok .nx δ') => (outMs δ' (lentIx 0 f.mask)).map fun ms => .ok (.t .non) ms
  | some (.ok (.rt d none) δ') => (outMs δ' (lentIx 0 f.mask)).map fun ms => .ok d ms
  | some (.ex x δ') => (outMs δ' (lentIx 0 f.mask)).map fun ms => .ex x ms
  | _ => none
def muOf (fds : List FD) : Masks := fun f => match fds[f]? with
  | some d => d.mask
  | none => []
def fnK (ks : List T) (fds : List FD) : Nat → Fns
  | 0 => fun _ _ => none
  | k + 1 => fun f ds => match fds[f]? with
    | some d => runF ⟨muOf fds, ks, fnK ks fds k⟩ d ds
    | none => none
def GC (ks : List T) (fds : List FD) (k : Nat) : GCtx := ⟨muOf fds, ks, fnK ks fds k⟩
theorem outMs_at {δ : Ev} : ∀ {L : List Nat} {ms : List D} {δ0 : Ev}, outMs δ L = some ms → L.Nodup → (∀ i, i ∈ L → i < δ0.length) → ∀ i, i ∈ L → ∃ d, δ.getD i none = some d ∧ (setMs δ0 L ms).getD i none = some d
  | [], ms, δ0, h, nd, hl, i, hi => (List.not_mem_nil hi).elim
  | j :: L, ms, δ0, h, nd, hl, i, hi => by
    simp only [outMs] at h
    split at h
    case h_2 => cases h
    rename_i d ds e1 e2
    injection h with h
    subst h
    have nd' := List.nodup_cons.mp nd
    simp only [setMs]
    rw [getD_set _ _ _ _ (.inr (by rw [setMs_length]; exact hl j List.mem_cons_self))]
    rcases List.mem_cons.mp hi with q | q
    · subst q
      rw [if_pos rfl]
      exact ⟨d, e1, rfl⟩
    · have ne : ¬ i = j := fun e => nd'.1 (e ▸ q)
      rw [if_neg ne]
      exact outMs_at e2 nd'.2 (fun i hi => hl i (List.mem_cons_of_mem _ hi)) i q
section
variable {tb : Tb} {EX : Exn → XK} {P : Program} {w : World} {K : PySem.W.Frag} {mg : Str → Option Value} {base : Heap} {k : Nat}
/-- what stands behind a body, as the caller sees it -/
theorem behind_fn {G : GCtx} {L M As : List Nat} {ds ms : List D} {vs : List V} {n loc : Nat} {Z Z' : Addr → Prop} {δ' : Ev} {Fs Fs' : Fp} {σ' : St} {H H' : Hp} (S : SR K Z (ds.map some) Fs (vs.map some) H) (hf : ∀ i d, ds[i]? = some d → i ∉ L → d.free = true)
    (hL : ∀ i, i ∈ L → i < ds.length) (nL : L.Nodup) (hA : ∀ i, i ∈ L → i ∉ As) (ho : outMs δ' L = some ms) (S' : SR K Z' δ' Fs' σ' H') (t : Tr M Z (ds.map some ++ List.replicate loc none) Fs H Z' δ' Fs' H') (ag : Agree As (vs.map some ++ List.replicate loc none) σ') :
    ∃ Fs'', SR K Z' (setMs (ds.map some) L ms) Fs'' (vs.map some) H' ∧ Tr L Z (ds.map some) Fs H Z' (setMs (ds.map some) L ms) Fs'' H' ∧ ∀ F, OwnA M Fs H Z' Fs' H' F → OwnA L Fs H Z' Fs'' H' F := by
  have hlen : ds.length = vs.length := by simpa using S.len
  have fe : ∀ i, i ∉ L → Fs i = [] := fun i hi => by
    cases e : ds[i]? with
    | none => exact S.no i (by rw [List.getD_eq_getElem?_getD, List.getElem?_map, e]; rfl)
    | some d =>
      obtain ⟨v, _, r⟩ := S.rep i d (mapSome_get.mpr e)
      exact r.free (hf i d e hi)
  have up : ∀ {a}, At M Fs a → At L Fs a := fun {a} ⟨i, hi, ha⟩ => by
    by_cases m : i ∈ L
    · exact ⟨i, m, ha⟩
    · rw [fe i m] at ha; exact (List.not_mem_nil ha).elim
  have hl2 : ∀ i, i ∈ L → i < (ds.map some).length := fun i hi => by rw [List.length_map]; exact hL i hi
  have gd := outMs_at (δ0 := ds.map some) ho nL hl2
  have z0 : SR K Z (ds.map some) Fs (vs.map some) H := S
  have g0 : Go (At L Fs) Z H Z' H' := ⟨t.z, fun a o e nn => t.k a o e fun q => nn (up q), fun a ⟨i, _, ha⟩ => S.mu i a ha⟩
  refine ⟨fun i => if i ∈ L then Fs' i else [], ?_, ?_, fun F o => ?_⟩
  · refine ⟨by rw [setMs_length]; exact S.len, fun i d e => ?_, fun i e => ?_, fun i => ?_, fun i j a ha hb => ?_, fun i a ha => ?_, S'.zd⟩
    · by_cases m : i ∈ L
      · simp only [if_pos m]
        obtain ⟨d2, h1, h2⟩ := gd i m
        rw [h2] at e
        cases e
        obtain ⟨v, h3, r⟩ := S'.rep i d h1
        have h4 := ag.2 i (hA i m)
        rw [h3] at h4
        have hlt : i < (vs.map some).length := by rw [List.length_map, ← hlen]; exact hL i m
        rw [List.getElem?_append_left hlt] at h4
        exact ⟨v, h4.symm, r⟩
      · simp only [if_neg m]
        rw [setMs_ne m] at e
        obtain ⟨v, h3, r⟩ := S.rep i d e
        rw [fe i m] at r
        exact ⟨v, h3, RepF.go g0 v d _ r fun _ h => (List.not_mem_nil h).elim⟩
    · by_cases m : i ∈ L
      · obtain ⟨d2, h1, h2⟩ := gd i m
        rw [h2] at e; cases e
      · simp only [if_neg m]
    · by_cases m : i ∈ L
      · simp only [if_pos m]; exact S'.nd i
      · simp only [if_neg m]; exact List.nodup_nil
    · by_cases m : i ∈ L
      · simp only [if_pos m] at ha
        by_cases m2 : j ∈ L
        · simp only [if_pos m2] at hb; exact S'.dj i j a ha hb
        · simp only [if_neg m2] at hb; exact (List.not_mem_nil hb).elim
      · simp only [if_neg m] at ha; exact (List.not_mem_nil ha).elim
    · by_cases m : i ∈ L
      · simp only [if_pos m] at ha; exact S'.mu i a ha
      · simp only [if_neg m] at ha; exact (List.not_mem_nil ha).elim
  · refine ⟨t.z, fun a z => (t.zf a z).imp id (Or.imp id up), fun a o e nn => t.k a o e fun q => nn (up q), fun i a ha => ?_, fun i hi => ?_, by rw [setMs_length]⟩
    · by_cases m : i ∈ L
      · simp only [if_pos m] at ha
        exact (t.ff i a ha).imp id (Or.imp id up)
      · simp only [if_neg m] at ha; exact (List.not_mem_nil ha).elim
    · simp only [if_neg hi]
      exact ⟨(fe i hi).symm, setMs_ne hi⟩
  · refine ⟨o.nd, o.mu, fun a ha i q => ?_, fun a ha => (o.org a ha).imp id up⟩
    by_cases m : i ∈ L
    · simp only [if_pos m] at q; exact o.ni a ha i q
    · simp only [if_neg m] at q; exact (List.not_mem_nil q).elim
theorem fn_ok {ks : List T} {fds : List FD} {fi : Nat} {d : FD} {x qual : Str} {st : Stmt} {f : Addr} {fd : FuncData} {N ps : List Str} (pk : POk tb (GC ks fds k) EX P w K mg base k) (F : L2.Fun K x qual st f fd) (S : FnScope N ps (defScope st))
    (hd : fds[fi]? = some d) (hm : d.mask.length = ps.length) (hN : N.length = ps.length + d.loc) (hc : chkSs tb d.body ⟨N, defScope st, fun _ => true⟩ (defBody st) = true) (ha : ∀ i, i ∈ lentIx 0 d.mask → i ∉ d.body.asgs) :
    FnOk P w K mg base (L2.CX P w) (k + 1) f fd ps (spI K (GC ks fds (k + 1)) EX fi ps.length) := by
  have hmu : muOf fds fi = d.mask := by unfold muOf; rw [hd]
  refine L2.Fun.okX F S (fun vs H Q E h => h.1) fun cdv A outer s H vs Q E hr h => ?_
  obtain ⟨hlen, Z, ds, Fs, r, SRc, hfree, hfn, R⟩ := h
  have hdl : ds.length = vs.length := by simpa using SRc.len
  have hmu2 : (GC ks fds (k + 1)).mu fi = d.mask := hmu
  rw [hmu2] at R hfree
  have hfn : runF (GC ks fds k) d ds = some r := by
    have : fnK ks fds (k + 1) fi ds = some r := hfn
    unfold fnK at this
    rw [hd] at this
    exact this
  have hL : ∀ i, i ∈ lentIx 0 d.mask → i < ds.length := fun i hi => by
    have h2 := (mem_lentIx.mp hi).2
    rw [Nat.sub_zero, List.getD_eq_getElem?_getD] at h2
    cases q : d.mask[i]? with
    | none => rw [q] at h2; cases h2
    | some b =>
      have := (List.getElem?_eq_some_iff.mp q).1
      omega
  have hfr : ∀ i e, ds[i]? = some e → i ∉ lentIx 0 d.mask → e.free = true := fun i e h1 h2 => hfree i e h1 (by
    cases q : d.mask.getD i false with
    | false => rfl
    | true => exact absurd (mem_lentIx.mpr ⟨Nat.zero_le _, by rw [Nat.sub_zero]; exact q⟩) h2)
  have hst : L2.start N vs = vs.map some ++ List.replicate d.loc none := by
    unfold L2.start
    rw [hN, hlen, Nat.add_sub_cancel_left]
  have bk := fun {M : List Nat} {ms : List D} {Z' : Addr → Prop} {δ' : Ev} {Fs' : Fp} {σ' : St} {H' : Hp} (ho : outMs δ' (lentIx 0 d.mask) = some ms) (S' : SR K Z' δ' Fs' σ' H') (t : Tr M Z (ds.map some ++ List.replicate d.loc none) Fs H Z' δ' Fs' H') (ag : Agree d.body.asgs (vs.map some ++ List.replicate d.loc none) σ') =>
    behind_fn (G := GC ks fds k) (n := 0) (loc := d.loc) SRc hfr hL nodup_lentIx ha ho S' t ag
  refine ⟨tSs K (GC ks fds k) EX (fun cls dd _ H' => E cls dd H') d.body, ?_, ?_⟩
  · refine sSs (tb := tb) (k := k) (c := ⟨N, defScope st, fun _ => true⟩) (passes_of rfl) ⟨pk, rfl, S.nd, rfl, fun _ _ => rfl, rfl, hr, takes_of rfl rfl rfl rfl, S.kind⟩ d.body hc
  · rw [hst]
    unfold runF at hfn
    have hden : ∃ rb, denSs (GC ks fds k) d.body (ds.map some ++ List.replicate d.loc none) = some rb := by
      cases q : denSs (GC ks fds k) d.body (ds.map some ++ List.replicate d.loc none) with
      | none => rw [q] at hfn; cases hfn
      | some rb => exact ⟨rb, rfl⟩
    obtain ⟨rb, hden⟩ := hden
    rw [hden] at hfn
    have SR0 : SR K Z (ds.map some ++ List.replicate d.loc none) Fs (vs.map some ++ List.replicate d.loc none) H := by
      have gl : ∀ i, (ds.map some ++ List.replicate d.loc none).getD i none = (ds.map some).getD i none := fun i => by
        rw [List.getD_eq_getElem?_getD, List.getD_eq_getElem?_getD]
        by_cases hi : i < (ds.map some).length
        · rw [List.getElem?_append_left hi]
        · rw [List.getElem?_append_right (Nat.le_of_not_lt hi), List.getElem?_eq_none (Nat.le_of_not_lt hi), List.getElem?_replicate]
          split <;> rfl
      refine ⟨by simp [hdl], fun i e h => ?_, fun i h => SRc.no i (by rw [← gl]; exact h), SRc.nd, SRc.dj, SRc.mu, SRc.zd⟩
      rw [gl] at h
      obtain ⟨v, h1, r1⟩ := SRc.rep i e h
      exact ⟨v, by rw [List.getElem?_append_left (List.getElem?_eq_some_iff.mp h1).1]; exact h1, r1⟩
    refine ⟨Z, _, Fs, rb, SR0, hden, ?_⟩
    cases rb with
    | ex x δ' =>
      simp only [Option.map_eq_some_iff] at hfn
      obtain ⟨ms, ho, e1⟩ := hfn
      subst e1
      intro σ' Z' Fs' H' cls dd S' t ag hx
      obtain ⟨Fs2, S2, t2, o2⟩ := bk ho S' t ag
      exact R Z' Fs2 H' cls dd S2 t2 hx
    | ok fl δ' =>
      cases fl with
      | nx =>
        simp only [Option.map_eq_some_iff] at hfn
        obtain ⟨ms, ho, e1⟩ := hfn
        subst e1
        intro σ' Z' Fs' H' S' t ag
        obtain ⟨Fs2, S2, t2, o2⟩ := bk ho S' t ag
        exact R .non Z' Fs2 H' S2 t2 (relV.freeT (by unfold RepT; rfl))
      | rt dv κ =>
        cases κ with
        | some q => cases hfn
        | none =>
          simp only [Option.map_eq_some_iff] at hfn
          obtain ⟨ms, ho, e1⟩ := hfn
          subst e1
          intro v σ' Z' Fs' H' S' t ag ⟨F1, r1, o1⟩
          obtain ⟨Fs2, S2, t2, o2⟩ := bk ho S' t ag
          exact R v Z' Fs2 H' S2 t2 ⟨F1, r1, o2 F1 o1⟩
      | bk => cases hfn
      | ct => cases hfn
/-- what the text and the top give of a function -/
structure FS (tb : Tb) (fds : List FD) (K : PySem.W.Frag) (mg : Str → Option Value) (fi : Nat) (x : Str) (n : Nat) : Prop where
  ex : ∃ (a : Addr) (fd : FuncData) (ps N : List Str) (st : Stmt) (qual : Str) (d : FD), mg x = some (.ref a) ∧ L2.Fun K x qual st a fd ∧ Binds K fd ps [] ∧ ps.length = n ∧ fds[fi]? = some d ∧ d.mask.length = n ∧ FnScope N ps (defScope st) ∧ N.length = n + d.loc ∧
    chkSs tb d.body ⟨N, defScope st, fun _ => true⟩ (defBody st) = true ∧ (lentIx 0 d.mask).all (fun i => !d.body.asgs.contains i) = true
theorem all_ok {ks : List T} {fds : List FD} (hk : ∀ (i : Nat) (x : Str) (t : T), tb.ks[i]? = some x → ks[i]? = some t → ∃ v u, mg x = some u ∧ RelV v u ∧ ∀ H, RepT K H v t) (hb : ∀ (x : Str), x ∈ tb.bs → mg x = none) (hms : ∀ (x : Str) (id : String), (x, id) ∈ tb.ms → mg x = some (.builtin id))
    (hf : ∀ (f : Nat) (x : Str) (n : Nat), tb.fns[f]? = some (x, n) → FS tb fds K mg f x n) : ∀ k, POk tb (GC ks fds k) EX P w K mg base k
  | 0 => by
    refine ⟨hk, hb, hms, fun f x n h => ?_⟩
    obtain ⟨a, fd, ps, N, st, qual, d, h1, h2, h3, h4, h5, h6, _⟩ := (hf f x n h).ex
    refine ⟨?_, a, fd, ps, h1, h2.kp, h3, fun vs H Q E q => by rw [h4]; exact q.1, fun A outer s H args us vs Q E _ _ _ _ q => ?_⟩
    · show (muOf fds f).length = n
      unfold muOf; rw [h5]; exact h6
    · obtain ⟨_, _, _, _, _, _, _, q, _⟩ := q
      cases q
  | k + 1 => by
    have ih := all_ok hk hb hms hf k
    refine ⟨hk, hb, hms, fun f x n h => ?_⟩
    obtain ⟨a, fd, ps, N, st, qual, d, h1, h2, h3, h4, h5, h6, h7, h8, h9, h10⟩ := (hf f x n h).ex
    subst h4
    refine ⟨?_, a, fd, ps, h1, h2.kp, h3, fn_ok ih h2 h7 h5 h6 h8 h9 fun i hi => ?_⟩
    · show (muOf fds f).length = _
      unfold muOf; rw [h5]; exact h6
    · rw [List.all_eq_true] at h10
      simpa using h10 i hi
end
end DV


set_option Elab.async false
set_option linter.all false
set_option maxRecDepth 100000
set_option maxHeartbeats 2000000
/-! DY: the end. -/
namespace DV
open PySem L2
/-- what the law is handed in, and that it answers True -/
def spLawI (K : PySem.W.Frag) : Sp := fun vs H Q _ => ∃ (a : Addr) (ns : List Int), vs = [.ref a] ∧ SqL K H a (ns.map V.int) ∧ ns.length ≤ 63 ∧ (∀ z ∈ ns, Builtin.Int.intBits z ≤ 1048576) ∧ ∀ H', Q (.bl true) H'
def EX0 : Exn → XK := fun _ _ _ _ => False
theorem spLaw_imp {ks : List T} {fds : List FD} {k fi : Nat} {EX : Exn → XK} {K : PySem.W.Frag} (hm : muOf fds fi = [false]) (plain : ∀ ns : List Int, ns.length ≤ 63 → (∀ z ∈ ns, Builtin.Int.intBits z ≤ 1048576) → fnK ks fds k fi [.scr ns] = some (.ok (.t (.bl true)) [])) :
    ∀ vs H Q E, spLawI K vs H Q E → spI K (GC ks fds k) EX fi 1 vs H Q E := by
  rintro vs H Q E ⟨a, ns, rfl, hS, hl, hb, hq⟩
  have hmu : (GC ks fds k).mu fi = [false] := hm
  have rep : RepF K (fun b => b = a ∧ (H b).isSome = true) H (.ref a) (.scr ns) [] := by
    unfold RepF
    refine ⟨rfl, a, rfl, ?_⟩
    rcases hS with h | h
    · refine .inl ⟨h, fun m => ⟨rfl, ?_⟩⟩
      obtain ⟨u, e⟩ := mut_some m
      rw [e]; rfl
    · exact .inr h
  refine ⟨rfl, fun b => b = a ∧ (H b).isSome = true, [.scr ns], fun _ => [], _, ⟨rfl, fun i d e => ?_, fun _ _ => rfl, fun _ => List.nodup_nil, fun _ _ _ h => (List.not_mem_nil h).elim, fun _ _ h => (List.not_mem_nil h).elim, fun b z h => ?_⟩, fun i d e _ => ?_, plain ns hl hb, ?_⟩
  · cases i with
    | zero =>
      have e : some (D.scr ns) = some d := e
      cases e
      exact ⟨_, rfl, rep⟩
    | succ i => simp at e
  · rw [h] at z; exact absurd z.2 (by simp)
  · cases i with
    | zero =>
      have e : some (D.scr ns) = some d := e
      cases e
      rfl
    | succ i => simp at e
  · intro v Z' Fs' H' S' t ⟨F, r, _⟩
    rw [dbl r]
    exact hq H'
theorem noCX {P : Program} {w : World} {H : Hp} {s s' : Shared} {e : Value} (h : L2.CX P w [] H s (fun _ _ _ => False) e s') : False := by
  obtain ⟨_, _, _, _, _, _, _, _, _, _, _, _, z⟩ := h
  exact z
theorem walkI {l : PySem.W.OpenLaw} {q : Program} {loose : List Str} {XP : (Str → Option Value) → Heap → Prop} {YP : World → Heap → Prop} {d : DefRec} {K : Params → PySem.W.Frag} {k : Nat} (hn : l.most = some 63) (hdf : d.params.defaults = []) (hr : Room k callerA)
    (hY : ∀ (w : World) (h : Heap), YP w h → (K w.params).In h)
    (F : ∀ (w : World) (mg : Str → Option Value) (fa : Addr) (h : Heap), (K w.params).In h → h.Ns mainGlobals mg → mg d.name = some (.ref fa) →
      ∃ fd : FuncData, (∀ (s : Shared) (u : Value), BindsTo s fd ⟨[u], []⟩ [("script", u)]) ∧ ∀ base : Heap, (K w.params).In base → base.Ns mainGlobals mg → FnOk l.prog w (K w.params) mg base (L2.CX l.prog w) k fa fd ["script"] (spLawI (K w.params))) :
    PySem.W.WalkO q loose XP YP l.row.toRowW d [] (fun f vs => PySem.call f vs) :=
  L2.walk_ofB (n := 63) (k := k) (x := "script") (CX := fun w => L2.CX l.prog w) (sp := fun w => spLawI (K w.params)) hn (by decide) hdf hr hY F (fun _ _ a ns hl hb _ hS => ⟨a, ns, rfl, hS, hl, hb, fun _ => rfl⟩) fun _ _ _ _ _ z => noCX z
end DV


set_option Elab.async false
set_option linter.all false
set_option maxRecDepth 100000
set_option maxHeartbeats 2000000
/-! DZ: rewriting denotations. -/
namespace DV
open PySem
@[simp] theorem bnd_ok {α β : Type} (a : α) (δ : Ev) (f : α → Ev → M β) : bnd (some (.ok a δ)) f = f a δ := rfl
@[simp] theorem bnd_ex {α β : Type} (x : Exn) (δ : Ev) (f : α → Ev → M β) : bnd (some (.ex x δ) : M α) f = some (.ex x δ) := rfl
@[simp] theorem bnd_none {α β : Type} (f : α → Ev → M β) : bnd (none : M α) f = none := rfl
@[simp] theorem okPeek_none (ms : List Nat) : okPeek none ms = true := rfl
@[simp] theorem okPeek_nil (r : Nat) : okPeek (some r) [] = true := rfl
@[simp] theorem kap_t (x : T) (κ : Option Nat) : kap (.t x) κ = none := rfl
@[simp] theorem kap_sh (x : D) (κ : Option Nat) : kap (.sh x) κ = none := rfl
@[simp] theorem kap_scr (x : List Int) (κ : Option Nat) : kap (.scr x) κ = none := rfl
@[simp] theorem kap_lst (xs : List D) (κ : Option Nat) : kap (.lst xs) κ = κ := rfl
@[simp] theorem binD_ii (op : Operator) (i j : Int) : binD op (.t (.int i)) (.t (.int j)) = (binI op i j).map fun k => .t (.int k) := rfl
@[simp] theorem binI_add (i j : Int) : binI .Add i j = some (i + j) := rfl
@[simp] theorem binI_sub (i j : Int) : binI .Sub i j = some (i - j) := rfl
theorem binI_mod {i j : Int} (h : j ≠ 0) : binI .Mod i j = some (i.fmod j) := if_pos h
theorem binI_div {i j : Int} (h : j ≠ 0) (h2 : j.natAbs.log2 < 9000) : binI .FloorDiv i j = some (i.fdiv j) := if_pos ⟨h, h2⟩
theorem binI_mul {i j : Int} (h : i.natAbs.log2 + j.natAbs.log2 < 1000000) : binI .Mult i j = some (i * j) := if_pos h
@[simp] theorem ixD_lst (xs : List D) (k : Int) : ixD (.lst xs) (.t (.int k)) = L2.atI xs k := rfl
@[simp] theorem ixD_tup (xs : List T) (k : Int) : ixD (.t (.tup xs)) (.t (.int k)) = (L2.atI xs k).map .t := rfl
@[simp] theorem ixD_sh (xs : List D) (k : Int) : ixD (.sh (.lst xs)) (.t (.int k)) = (L2.atI xs k).map D.frz := rfl
@[simp] theorem truth_bl (b : Bool) : truth (.t (.bl b)) = some b := rfl
@[simp] theorem truth_int (i : Int) : truth (.t (.int i)) = some (i != 0) := rfl
@[simp] theorem truth_non : truth (.t .non) = some false := rfl
@[simp] theorem truth_tup (xs : List T) : truth (.t (.tup xs)) = some (!xs.isEmpty) := rfl
@[simp] theorem cmpD_lt (i j : Int) : cmpD .Lt (.t (.int i)) (.t (.int j)) = some (decide (i < j)) := rfl
@[simp] theorem cmpD_le (i j : Int) : cmpD .LtE (.t (.int i)) (.t (.int j)) = some (decide (i ≤ j)) := rfl
@[simp] theorem cmpD_gt (i j : Int) : cmpD .Gt (.t (.int i)) (.t (.int j)) = some (decide (j < i)) := rfl
@[simp] theorem cmpD_ge (i j : Int) : cmpD .GtE (.t (.int i)) (.t (.int j)) = some (decide (j ≤ i)) := rfl
@[simp] theorem cmpD_eq (i j : Int) : cmpD .Eq (.t (.int i)) (.t (.int j)) = some (decide (i = j)) := rfl
@[simp] theorem cmpD_ne (i j : Int) : cmpD .NotEq (.t (.int i)) (.t (.int j)) = some (!decide (i = j)) := rfl
@[simp] theorem len_lst (xs : List D) : biD .len [.lst xs] = some (.t (.int xs.length)) := rfl
@[simp] theorem len_sh (xs : List D) : biD .len [.sh (.lst xs)] = some (.t (.int xs.length)) := rfl
@[simp] theorem len_tup (xs : List T) : biD .len [.t (.tup xs)] = some (.t (.int xs.length)) := rfl
@[simp] theorem len_scr (xs : List Int) : biD .len [.scr xs] = some (.t (.int xs.length)) := rfl
@[simp] theorem abs_int (i : Int) : biD .abs [.t (.int i)] = some (.t (.int (if i < 0 then -i else i))) := rfl
@[simp] theorem int_int (i : Int) : biD .int [.t (.int i)] = some (.t (.int i)) := rfl
@[simp] theorem int_bl (i : Bool) : biD .int [.t (.bl i)] = some (.t (.int (if i then 1 else 0))) := rfl
@[simp] theorem gcd_int (i j : Int) : biD .gcd [.t (.int i), .t (.int j)] = some (.t (.int (Nat.gcd i.natAbs j.natAbs : Nat))) := rfl
@[simp] theorem list_scr (ns : List Int) : biD .list [.scr ns] = some (.lst (ns.map fun i => .t (.int i))) := rfl
@[simp] theorem isiD_t (x : T) (ty : Ty) : isiD (.t x) ty = some (isiT x ty) := rfl
@[simp] theorem isiT_int_int (i : Int) : isiT (.int i) .int = true := rfl
@[simp] theorem isiT_int_bool (i : Int) : isiT (.int i) .bool = false := rfl
@[simp] theorem isiT_tup (xs : List T) : isiT (.tup xs) .tup = true := rfl
@[simp] theorem D_free_t (x : T) : D.free (.t x) = true := rfl
@[simp] theorem D_frz_t (x : T) : D.frz (.t x) = .t x := rfl
@[simp] theorem D_frz_sh (x : D) : D.frz (.sh x) = .sh x := rfl
@[simp] theorem D_frz_scr (x : List Int) : D.frz (.scr x) = .scr x := rfl
@[simp] theorem D_frz_lst (x : List D) : D.frz (.lst x) = .sh (.lst x) := rfl
theorem log2_small {i : Int} {k : Nat} (h : i.natAbs < 2 ^ k) (hk : 0 < k) : i.natAbs.log2 < k := by
  by_cases z : i.natAbs = 0
  · rw [z]; simpa using hk
  · exact (Nat.log2_lt z).mpr h
def forB (G : GCtx) (tg : Tg) (b : Ss) : D → Ev → M Fl := fun x δ => match bindT tg x δ with
  | some δ2 => denSs G b δ2
  | none => none
theorem denS_for (G : GCtx) (tg : Tg) (it : It) (b : Ss) (δ : Ev) : denS G (.for tg it b) δ = bnd (denI G it δ) fun w δ1 => if okPeek w.2 (tg.slots ++ b.muts G.mu) then forLoop (forB G tg b) w.1 δ1 else none := rfl
theorem for_inv {f : D → Ev → M Fl} (Inv : Nat → Ev → Prop) : ∀ (xs : List D) (i : Nat) (δ : Ev), Inv i δ → (∀ j x δ, xs[j]? = some x → Inv (i + j) δ → ∃ δ', f x δ = some (.ok .nx δ') ∧ Inv (i + j + 1) δ') → ∃ δ', forLoop f xs δ = some (.ok .nx δ') ∧ Inv (i + xs.length) δ'
  | [], i, δ, h, _ => ⟨δ, rfl, h⟩
  | x :: xs, i, δ, h, hs => by
    obtain ⟨δ', h1, h2⟩ := hs 0 x δ rfl h
    obtain ⟨δ2, h3, h4⟩ := for_inv Inv xs (i + 1) δ' h2 fun j y δ e q => by
      have := hs (j + 1) y δ (by simpa using e) (by rw [show i + (j + 1) = i + 1 + j by omega]; exact q)
      rw [show i + (j + 1) + 1 = i + 1 + j + 1 by omega] at this
      exact this
    refine ⟨δ2, ?_, by rw [show i + (x :: xs).length = i + 1 + xs.length by simp; omega]; exact h4⟩
    show bnd (f x δ) _ = _
    rw [h1]
    exact h3
/-- the state that draws are made of -/
def St (cs : List Int) (i b n : Int) : D := .lst [.lst (cs.map fun z => .t (.int z)), .t (.int i), .t (.int b), .t (.int n)]
end DV


set_option Elab.async false
set_option linter.all false
set_option maxRecDepth 100000
set_option maxHeartbeats 4000000
/-! EA: what each law draws. -/
namespace DV
open PySem
def START : FD := ⟨[false], 0,
    (.cons (.ret (.lst (.cons (.bi .list (.cons (.v 0) .nil)) (.cons (.c (.int (0))) (.cons (.c (.int (0))) (.cons (.c (.int (0))) .nil))))))
      .nil)⟩
def drawTail : Ss :=
    (.cons (.iff (.cmp .GtE (.v 2) (.bin .Pow (.c (.int (10))) (.c (.int (18))))) (.cons (.six (.v 0) (.c (.int (2))) (.bin .FloorDiv (.v 2) (.v 1)))
      (.cons (.ret (.bin .Mod (.bi .int (.cons (.v 2) .nil)) (.v 1)))
      .nil)) .nil)
      (.cons (.asg (.n 3) (.bin .Mod (.bi .int (.cons (.bin .Add (.bin .Mult (.bin .Add (.v 2) (.c (.int (1)))) (.c (.int (48271)))) (.bin .Mult (.ix (.v 0) (.c (.int (3)))) (.c (.int (69621))))) .nil)) (.c (.int (2147483647)))))
      (.cons (.asg (.n 3) (.bin .Mod (.bi .int (.cons (.bin .Add (.bin .Add (.bin .Mult (.v 3) (.c (.int (16807)))) (.bin .FloorDiv (.v 2) (.c (.int (97))))) (.ix (.v 0) (.c (.int (3))))) .nil)) (.c (.int (2147483629)))))
      (.cons (.ret (.bin .Mod (.bin .FloorDiv (.v 3) (.c (.int (11)))) (.v 1)))
      .nil))))
def DRAW : FD := ⟨[true, false], 3,
    (.cons (.six (.v 0) (.c (.int (3))) (.bin .Add (.ix (.v 0) (.c (.int (3)))) (.c (.int (1)))))
      (.cons (.iff (.cmp .Gt (.ix (.v 0) (.c (.int (2)))) (.c (.int (0)))) (.cons (.asg (.n 4) (.bin .Mod (.bi .int (.cons (.ix (.v 0) (.c (.int (2)))) .nil)) (.v 1)))
      (.cons (.six (.v 0) (.c (.int (2))) (.bin .FloorDiv (.ix (.v 0) (.c (.int (2)))) (.v 1)))
      (.cons (.ret (.v 4))
      .nil))) .nil)
      (.cons (.asg (.n 2) (.c (.int (0))))
      (.cons (.iff (.cmp .Gt (.bi .len (.cons (.ix (.v 0) (.c (.int (0)))) .nil)) (.c (.int (0)))) (.cons (.asg (.n 2) (.bi .abs (.cons (.ix (.ix (.v 0) (.c (.int (0)))) (.bin .Mod (.bi .int (.cons (.ix (.v 0) (.c (.int (1)))) .nil)) (.bi .len (.cons (.ix (.v 0) (.c (.int (0)))) .nil)))) .nil)))
      .nil) .nil)
      (.cons (.six (.v 0) (.c (.int (1))) (.bin .Add (.ix (.v 0) (.c (.int (1)))) (.c (.int (1)))))
      drawTail)))))⟩
def ISINT : FD := ⟨[false], 0,
    (.cons (.ret (.and (.isi (.v 0) .int) (.not (.isi (.v 0) .bool))))
      .nil)⟩
theorem pow18 : binI .Pow 10 18 = some (10 ^ 18) := by decide +kernel
theorem start_run (G : GCtx) (ns : List Int) : runF G START [.scr ns] = some (.ok (St ns 0 0 0) []) := by
  simp [runF, START, St, denSs, denS, denE, denEs, outMs, lentIx, sizeLine]
theorem isint_run (G : GCtx) (x : T) : runF G ISINT [.t x] = some (.ok (.t (.bl (isiT x .int && !isiT x .bool))) []) := by
  cases h : isiT x .int <;> simp [runF, ISINT, denSs, denS, denE, denEs, outMs, lentIx, h]
theorem fdiv_nn {a b : Int} (h : 0 < b) : a.fdiv b = a / b := Int.fdiv_eq_ediv_of_nonneg a (Int.le_of_lt h)
theorem fmod_nn {a b : Int} (h : 0 < b) : a.fmod b = a % b := Int.fmod_eq_emod_of_nonneg a (Int.le_of_lt h)
theorem small_log2 {m : Int} (hm : 0 < m) (hm2 : m < 10 ^ 18) : m.natAbs.log2 < 9000 := by
  have : m.natAbs < 2 ^ 60 := by omega
  have := log2_small this (by decide)
  omega
theorem mul_ok {i j : Int} (a b : Nat) (hi : i.natAbs < 2 ^ a) (hj : j.natAbs < 2 ^ b) (ha : 0 < a) (hb : 0 < b) (h : a + b ≤ 1000000) : binI .Mult i j = some (i * j) :=
  binI_mul (by have := log2_small hi ha; have := log2_small hj hb; omega)
theorem draw1 (G : GCtx) (cs : List Int) (i b n m : Int) (hb : 0 < b) (hm : 0 < m) (hm2 : m < 10 ^ 18) :
    runF G DRAW [St cs i b n, .t (.int m)] = some (.ok (.t (.int (b % m))) [St cs i (b / m) (n + 1)]) := by
  have h1 : m ≠ 0 := by omega
  have h2 := small_log2 hm hm2
  simp [runF, DRAW, St, denSs, denS, denE, denP, denEs, denT, truR, L2.atI, L2.ixN, getP, setP, bindT, E.muts, Es.muts, E.root, outMs, lentIx, binI_mod h1, binI_div h1 h2, hb, fdiv_nn hm, fmod_nn hm]
theorem at0 (a b c d : D) : L2.atI [a, b, c, d] 0 = some a := rfl
theorem at1 (a b c d : D) : L2.atI [a, b, c, d] 1 = some b := rfl
theorem at2 (a b c d : D) : L2.atI [a, b, c, d] 2 = some c := rfl
theorem at3 (a b c d : D) : L2.atI [a, b, c, d] 3 = some d := rfl
theorem ix41 : L2.ixN 4 1 = some 1 := rfl
theorem ix42 : L2.ixN 4 2 = some 2 := rfl
theorem ix43 : L2.ixN 4 3 = some 3 := rfl
theorem draw_cell (G : GCtx) (cs : List Int) (i b n m cell : Int) (hb : ¬ 0 < b) (hm : 0 < m) (hm2 : m < 10 ^ 18) (hn : 0 ≤ n ∧ n < 10 ^ 15) (hc : 0 ≤ cell)
    (δ : Ev) (hδ : δ = [some (St cs (i + 1) b (n + 1)), some (.t (.int m)), some (.t (.int cell)), none, none]) :
    ∃ v b' e3 e4, denSs G drawTail δ = some (.ok (.rt (.t (.int v)) none) [some (St cs (i + 1) b' (n + 1)), some (.t (.int m)), some (.t (.int cell)), e3, e4]) ∧ 0 ≤ v ∧ v < m := by
  have h1 : m ≠ 0 := by omega
  have h2 := small_log2 hm hm2
  subst hδ
  by_cases hbig : (1000000000000000000 : Int) ≤ cell
  · refine ⟨cell % m, cell / m, none, none, ?_, Int.emod_nonneg _ h1, Int.emod_lt_of_pos _ hm⟩
    simp [drawTail, St, denSs, denS, denE, denP, denEs, denT, truR, getP, setP, bindT, E.muts, Es.muts, E.root, binI_mod h1, binI_div h1 h2, fdiv_nn hm, fmod_nn hm, pow18, hbig, at0, at1, at2, at3, ix41, ix42, ix43]
  · have hs : cell < 1000000000000000000 := by omega
    have m1 : binI .Mult (cell + 1) 48271 = some ((cell + 1) * 48271) := mul_ok 61 16 (by omega) (by decide) (by decide) (by decide) (by decide)
    have m2 : binI .Mult (n + 1) 69621 = some ((n + 1) * 69621) := mul_ok 61 17 (by omega) (by decide) (by decide) (by decide) (by decide)
    have q1 : ∀ x : Int, binI .Mod x 2147483647 = some (x % 2147483647) := fun x => by rw [binI_mod (by decide), fmod_nn (by decide)]
    have q2 : ∀ x : Int, binI .Mod x 2147483629 = some (x % 2147483629) := fun x => by rw [binI_mod (by decide), fmod_nn (by decide)]
    have q3 : ∀ x : Int, binI .FloorDiv x 97 = some (x / 97) := fun x => by rw [binI_div (by decide) (by decide +kernel), fdiv_nn (by decide)]
    have q4 : ∀ x : Int, binI .FloorDiv x 11 = some (x / 11) := fun x => by rw [binI_div (by decide) (by decide +kernel), fdiv_nn (by decide)]
    have m3 : binI .Mult (((cell + 1) * 48271 + (n + 1) * 69621) % 2147483647) 16807 = some (((cell + 1) * 48271 + (n + 1) * 69621) % 2147483647 * 16807) := mul_ok 61 15 (by omega) (by decide) (by decide) (by decide) (by decide)
    refine ⟨(((cell + 1) * 48271 + (n + 1) * 69621) % 2147483647 * 16807 + cell / 97 + (n + 1)) % 2147483629 / 11 % m, b, some (.t (.int ((((cell + 1) * 48271 + (n + 1) * 69621) % 2147483647 * 16807 + cell / 97 + (n + 1)) % 2147483629))), none, ?_, Int.emod_nonneg _ h1, Int.emod_lt_of_pos _ hm⟩
    simp [drawTail, St, denSs, denS, denE, denP, denEs, denT, truR, getP, setP, bindT, E.muts, Es.muts, E.root, binI_mod h1, binI_div h1 h2, fdiv_nn hm, fmod_nn hm, pow18, hbig, at0, at1, at2, at3, ix41, ix42, ix43, m1, m2, m3, q1, q2, q3, q4]
theorem at_map {cs : List Int} {i : Int} (h : cs ≠ []) : ∃ z, L2.atI (cs.map fun z => D.t (.int z)) (i % (cs.length : Int)) = some (.t (.int z)) := by
  have hl : 0 < (cs.length : Int) := by
    have := List.length_pos_iff.mpr h
    omega
  have h1 := Int.emod_nonneg i (b := (cs.length : Int)) (by omega)
  have h2 := Int.emod_lt_of_pos i hl
  have h3 : (i % (cs.length : Int)).toNat < cs.length := by omega
  refine ⟨cs[(i % (cs.length : Int)).toNat], ?_⟩
  unfold L2.atI L2.ixN
  rw [List.length_map, if_pos h1, if_pos h2]
  show (cs.map fun z => D.t (.int z))[_]? = _
  rw [List.getElem?_map, List.getElem?_eq_getElem h3]
  rfl
theorem draw2 (G : GCtx) (cs : List Int) (i b n m : Int) (hb : ¬ 0 < b) (hm : 0 < m) (hm2 : m < 10 ^ 18) (hn : 0 ≤ n ∧ n < 10 ^ 15) :
    ∃ v i' b', runF G DRAW [St cs i b n, .t (.int m)] = some (.ok (.t (.int v)) [St cs i' b' (n + 1)]) ∧ 0 ≤ v ∧ v < m := by
  by_cases hcs : cs = []
  · subst hcs
    obtain ⟨v, b', e3, e4, h1, h2, h3⟩ := draw_cell G [] i b n m 0 hb hm hm2 hn (by omega) _ rfl
    refine ⟨v, i + 1, b', ?_, h2, h3⟩
    unfold St at h1 ⊢
    simp [runF, DRAW, denSs, denS, denE, denP, denEs, denT, truR, getP, setP, bindT, E.muts, Es.muts, E.root, hb, at0, at1, at2, at3, ix41, ix42, ix43, h1, outMs, lentIx] at h1 ⊢
    simp [h1, outMs]
  · obtain ⟨z, hz⟩ := at_map (i := i) hcs
    have hl : 0 < (cs.length : Int) := by
      have := List.length_pos_iff.mpr hcs
      omega
    have hl2 : 0 < cs.length := List.length_pos_iff.mpr hcs
    have hmod : binI .Mod i (cs.length : Int) = some (i % (cs.length : Int)) := by rw [binI_mod (by omega), fmod_nn hl]
    obtain ⟨v, b', e3, e4, h1, h2, h3⟩ := draw_cell G cs i b n m (if z < 0 then -z else z) hb hm hm2 hn (by split <;> omega) _ rfl
    refine ⟨v, i + 1, b', ?_, h2, h3⟩
    unfold St at h1 ⊢
    simp [runF, DRAW, denSs, denS, denE, denP, denEs, denT, truR, getP, setP, bindT, E.muts, Es.muts, E.root, hb, at0, at1, at2, at3, ix41, ix42, ix43, h1, outMs, lentIx, hmod, hz, hl2, hcs]
theorem draw (G : GCtx) (cs : List Int) (i b n m : Int) (hm : 0 < m) (hm2 : m < 10 ^ 18) (hn : 0 ≤ n ∧ n < 10 ^ 15) :
    ∃ v i' b', runF G DRAW [St cs i b n, .t (.int m)] = some (.ok (.t (.int v)) [St cs i' b' (n + 1)]) ∧ 0 ≤ v ∧ v < m := by
  by_cases hb : 0 < b
  · exact ⟨_, _, _, draw1 G cs i b n m hb hm hm2, Int.emod_nonneg _ (by omega), Int.emod_lt_of_pos _ hm⟩
  · exact draw2 G cs i b n m hb hm hm2 hn
end DV



set_option Elab.async false
set_option linter.all false
set_option maxRecDepth 100000
set_option maxHeartbeats 4000000
/-! k02: the text in the layer's syntax (printed by prn.py). -/
namespace DV.K02
open PySem DV
/-- fraction: 0=p 1=q 2=factor -/
def b_fraction : FD := ⟨[false, false], 1,
    (.cons (.asg (.n 2) (.bi .gcd (.cons (.v 0) (.cons (.v 1) .nil))))
      (.cons (.iff (.cmp .Lt (.v 1) (.c (.int (0)))) (.cons (.asg (.n 2) (.neg (.v 2)))
      .nil) .nil)
      (.cons (.ret (.tup (.cons (.bin .FloorDiv (.v 0) (.v 2)) (.cons (.bin .FloorDiv (.v 1) (.v 2)) .nil))))
      .nil)))⟩
/-- compare_fractions: 0=f 1=g 2=left 3=right -/
def b_compare_fractions : FD := ⟨[false, false], 2,
    (.cons (.asg (.n 2) (.bin .Mult (.ix (.v 0) (.c (.int (0)))) (.ix (.v 1) (.c (.int (1))))))
      (.cons (.asg (.n 3) (.bin .Mult (.ix (.v 1) (.c (.int (0)))) (.ix (.v 0) (.c (.int (1))))))
      (.cons (.iff (.cmp .Eq (.v 2) (.v 3)) (.cons (.ret (.c (.int (0))))
      .nil) .nil)
      (.cons (.ret (.ite (.cmp .Lt (.v 2) (.v 3)) (.neg (.c (.int (1)))) (.c (.int (1)))))
      .nil))))⟩
def b_law_start : FD := START
def b_law_draw : FD := DRAW
def b_law_is_int : FD := ISINT
/-- _law_number: 0=state 1=pick 2=number -/
def b_law_number : FD := ⟨[true], 2,
    (.cons (.asg (.n 1) (.call 3 (.cons (.v 0) (.cons (.c (.int (6))) .nil))))
      (.cons (.asg (.n 2) (.bin .Sub (.call 3 (.cons (.v 0) (.cons (.c (.int (61))) .nil))) (.c (.int (30)))))
      (.cons (.iff (.cmp .Eq (.v 1) (.c (.int (0)))) (.cons (.ret (.bin .Add (.bin .Mult (.v 2) (.bin .Pow (.c (.int (10))) (.c (.int (38))))) (.call 3 (.cons (.v 0) (.cons (.bin .Pow (.c (.int (10))) (.c (.int (9)))) .nil)))))
      .nil) .nil)
      (.cons (.iff (.cmp .Eq (.v 1) (.c (.int (1)))) (.cons (.ret (.bin .Mult (.v 2) (.c (.int (60)))))
      .nil) .nil)
      (.cons (.ret (.v 2))
      .nil)))))⟩
def b_law_divisor_l1b : Ss := (.cons (.iff (.cmp .Eq (.v 1) (.c (.int (0)))) (.cons (.ret (.v 0))
      .nil) .nil)
      (.cons (.par 0 1 (.v 1) (.bin .Sub (.v 0) (.bin .Mult (.bin .FloorDiv (.v 0) (.v 1)) (.v 1))))
      .nil))
def b_law_divisor_l1 : S := (.for (.n 2) (.rng (.cons (.c (.int (2000))) .nil)) b_law_divisor_l1b)
/-- _law_divisor: 0=p 1=q 2=turn -/
def b_law_divisor : FD := ⟨[false, false], 1,
    (.cons (.asg (.n 0) (.bi .abs (.cons (.v 0) .nil)))
      (.cons (.asg (.n 1) (.bi .abs (.cons (.v 1) .nil)))
      (.cons b_law_divisor_l1
      (.cons (.ret (.v 0))
      .nil))))⟩
/-- _law_is_fraction: 0=told 1=p 2=q -/
def b_law_is_fraction : FD := ⟨[false, false, false], 0,
    (.cons (.iff (.or (.not (.isi (.v 0) .tup)) (.or (.cmp .NotEq (.bi .len (.cons (.v 0) .nil)) (.c (.int (2)))) (.or (.not (.call 4 (.cons (.ix (.v 0) (.c (.int (0)))) .nil))) (.not (.call 4 (.cons (.ix (.v 0) (.c (.int (1)))) .nil)))))) (.cons (.ret (.c (.bl false)))
      .nil) .nil)
      (.cons (.ret (.and (.cmp .GtE (.ix (.v 0) (.c (.int (1)))) (.c (.int (1)))) (.and (.cmp .Eq (.bin .Mult (.ix (.v 0) (.c (.int (0)))) (.v 2)) (.bin .Mult (.v 1) (.ix (.v 0) (.c (.int (1)))))) (.cmp .Eq (.call 6 (.cons (.ix (.v 0) (.c (.int (0)))) (.cons (.ix (.v 0) (.c (.int (1)))) .nil))) (.c (.int (1)))))))
      .nil))⟩
/-- _law_order: 0=f 1=g 2=left 3=right -/
def b_law_order : FD := ⟨[false, false], 2,
    (.cons (.asg (.n 2) (.bin .Mult (.ix (.v 0) (.c (.int (0)))) (.ix (.v 1) (.c (.int (1))))))
      (.cons (.asg (.n 3) (.bin .Mult (.ix (.v 1) (.c (.int (0)))) (.ix (.v 0) (.c (.int (1))))))
      (.cons (.ret (.bin .Sub (.bi .int (.cons (.cmp .Gt (.v 2) (.v 3)) .nil)) (.bi .int (.cons (.cmp .Lt (.v 2) (.v 3)) .nil))))
      .nil)))⟩
def b_law_l1b : Ss := (.cons (.asg (.n 14) (.call 1 (.cons (.v 12) (.cons (.v 13) .nil))))
      (.cons (.iff (.or (.not (.call 4 (.cons (.v 14) .nil))) (.cmp .NotEq (.v 14) (.call 8 (.cons (.v 12) (.cons (.v 13) .nil))))) (.cons (.ret (.c (.bl false)))
      .nil) .nil)
      .nil))
def b_law_l1 : S := (.for (.tp (.cons (.n 12) (.cons (.n 13) .nil))) (.seq (.lst (.cons (.tup (.cons (.ix (.v 2) (.v 4)) (.cons (.v 11) .nil))) (.cons (.tup (.cons (.v 11) (.cons (.ix (.v 2) (.v 4)) .nil))) (.cons (.tup (.cons (.ix (.v 2) (.v 4)) (.cons (.ix (.v 2) (.bin .Sub (.v 4) (.bin .Mult (.bin .FloorDiv (.v 4) (.c (.int (4)))) (.c (.int (4)))))) .nil))) .nil))))) b_law_l1b)
def b_law_l2b : Ss := (.cons (.asg (.n 11) (.ix (.v 2) (.call 3 (.cons (.v 1) (.cons (.bi .len (.cons (.v 2) .nil)) .nil)))))
      (.cons b_law_l1
      .nil))
def b_law_l2 : S := (.for (.n 4) (.rng (.cons (.bi .len (.cons (.v 2) .nil)) .nil)) b_law_l2b)
def b_law_l3b : Ss := (.cons (.asg (.n 5) (.call 5 (.cons (.v 1) .nil)))
      (.cons (.asg (.n 6) (.call 5 (.cons (.v 1) .nil)))
      (.cons (.iff (.cmp .Eq (.v 6) (.c (.int (0)))) (.cons (.asg (.n 6) (.ix (.lst (.cons (.c (.int (1))) (.cons (.neg (.c (.int (1)))) .nil))) (.call 3 (.cons (.v 1) (.cons (.c (.int (2))) .nil)))))
      .nil) .nil)
      (.cons (.asg (.n 7) (.ix (.lst (.cons (.c (.int (2))) (.cons (.neg (.c (.int (3)))) (.cons (.bin .Pow (.c (.int (10))) (.c (.int (20)))) (.cons (.neg (.c (.int (1)))) .nil))))) (.call 3 (.cons (.v 1) (.cons (.c (.int (4))) .nil)))))
      (.cons (.asg (.n 8) (.call 0 (.cons (.v 5) (.cons (.v 6) .nil))))
      (.cons (.asg (.n 9) (.call 0 (.cons (.bin .Mult (.v 5) (.v 7)) (.cons (.bin .Mult (.v 6) (.v 7)) .nil))))
      (.cons (.iff (.or (.not (.call 7 (.cons (.v 8) (.cons (.v 5) (.cons (.v 6) .nil))))) (.or (.not (.call 7 (.cons (.v 9) (.cons (.v 5) (.cons (.v 6) .nil))))) (.cmp .NotEq (.v 8) (.v 9)))) (.cons (.ret (.c (.bl false)))
      .nil) .nil)
      (.cons (.asg (.n 10) (.call 0 (.cons (.bin .Add (.bin .Mult (.v 5) (.c (.int (1000)))) (.ix (.lst (.cons (.c (.int (1))) (.cons (.neg (.c (.int (1)))) .nil))) (.call 3 (.cons (.v 1) (.cons (.c (.int (2))) .nil))))) (.cons (.bin .Mult (.v 6) (.c (.int (1000)))) .nil))))
      (.cons (.asg (.n 2) (.bin .Add (.v 2) (.lst (.cons (.v 8) (.cons (.v 9) (.cons (.v 10) (.cons (.call 0 (.cons (.bin .Add (.v 5) (.v 6)) (.cons (.v 6) .nil))) .nil)))))))
      .nil)))))))))
def b_law_l3 : S := (.for (.n 3) (.rng (.cons (.c (.int (3))) .nil)) b_law_l3b)
/-- law: 0=script 1=state 2=found 3=turn 4=k 5=p 6=q 7=factor 8=one 9=same 10=near 11=other 12=f 13=g 14=told -/
def b_law : FD := ⟨[false], 14,
    (.cons (.asg (.n 1) (.call 2 (.cons (.v 0) .nil)))
      (.cons (.asg (.n 2) (.lst .nil))
      (.cons b_law_l3
      (.cons b_law_l2
      (.cons (.ret (.c (.bl true)))
      .nil)))))⟩
def fds : List FD := [b_fraction, b_compare_fractions, b_law_start, b_law_draw, b_law_is_int, b_law_number, b_law_divisor, b_law_is_fraction, b_law_order, b_law]
def ks : List T := []
def tb : Tb := ⟨[("fraction", 2), ("compare_fractions", 2), ("_law_start", 1), ("_law_draw", 2), ("_law_is_int", 1), ("_law_number", 1), ("_law_divisor", 2), ("_law_is_fraction", 3), ("_law_order", 2), ("law", 1)], [], ["abs", "bool", "int", "isinstance", "len", "list", "range", "tuple"], [("gcd", "math.gcd")]⟩
end DV.K02

set_option Elab.async false
set_option linter.all false
set_option maxRecDepth 100000
set_option maxHeartbeats 4000000
namespace DV.K02
open PySem DV
def IsSt (n : Int) (d : D) : Prop := ∃ cs i b, d = St cs i b n
@[simp] theorem mu0 (j : Nat) : (GC ks fds j).mu 0 = [false, false] := rfl
@[simp] theorem mu1 (j : Nat) : (GC ks fds j).mu 1 = [false, false] := rfl
@[simp] theorem mu2 (j : Nat) : (GC ks fds j).mu 2 = [false] := rfl
@[simp] theorem mu3 (j : Nat) : (GC ks fds j).mu 3 = [true, false] := rfl
@[simp] theorem mu4 (j : Nat) : (GC ks fds j).mu 4 = [false] := rfl
@[simp] theorem mu5 (j : Nat) : (GC ks fds j).mu 5 = [true] := rfl
@[simp] theorem mu6 (j : Nat) : (GC ks fds j).mu 6 = [false, false] := rfl
@[simp] theorem mu7 (j : Nat) : (GC ks fds j).mu 7 = [false, false, false] := rfl
@[simp] theorem mu8 (j : Nat) : (GC ks fds j).mu 8 = [false, false] := rfl
@[simp] theorem fnG (j f : Nat) (ds : List D) : (GC ks fds j).fn f ds = fnK ks fds j f ds := rfl
theorem fdraw {j : Nat} {s : D} {n m : Int} (h : IsSt n s) (hm : 0 < m) (hm2 : m < 10 ^ 18) (hn : 0 ≤ n ∧ n < 10 ^ 15) : ∃ v s', fnK ks fds (j + 1) 3 [s, .t (.int m)] = some (.ok (.t (.int v)) [s']) ∧ IsSt (n + 1) s' ∧ 0 ≤ v ∧ v < m := by
  obtain ⟨cs, i, b, rfl⟩ := h
  obtain ⟨v, i', b', h1, h2, h3⟩ := draw (GC ks fds j) cs i b n m hm hm2 hn
  exact ⟨v, _, h1, ⟨cs, i', b', rfl⟩, h2, h3⟩
theorem IsSt.lst {n : Int} {d : D} (h : IsSt n d) : ∃ xs, d = .lst xs := by
  obtain ⟨cs, i, b, rfl⟩ := h
  exact ⟨_, rfl⟩
theorem IsSt.kap {n : Int} {d : D} (h : IsSt n d) (κ : Option Nat) : DV.kap d κ = κ := by
  obtain ⟨cs, i, b, rfl⟩ := h
  rfl
theorem pow9 : binI .Pow 10 9 = some 1000000000 := by decide +kernel
theorem pow38 : binI .Pow 10 38 = some 100000000000000000000000000000000000000 := by decide +kernel
theorem fnumber {j : Nat} {s : D} {n : Int} (h : IsSt n s) (hn : 0 ≤ n ∧ n < 10 ^ 14) : ∃ v s' n', fnK ks fds (j + 2) 5 [s] = some (.ok (.t (.int v)) [s']) ∧ IsSt n' s' ∧ n ≤ n' ∧ n' ≤ n + 3 ∧ v.natAbs < 2 ^ 140 := by
  obtain ⟨v1, s1, h1, i1, a1, b1⟩ := fdraw (j := j) h (m := 6) (by decide) (by decide) (by omega)
  obtain ⟨v2, s2, h2, i2, a2, b2⟩ := fdraw (j := j) i1 (m := 61) (by decide) (by decide) (by omega)
  obtain ⟨v3, s3, h3, i3, a3, b3⟩ := fdraw (j := j) i2 (m := 1000000000) (by decide) (by decide) (by omega)
  have m1 : binI .Mult (v2 - 30) 100000000000000000000000000000000000000 = some ((v2 - 30) * 100000000000000000000000000000000000000) := mul_ok 61 130 (by omega) (by decide +kernel) (by decide) (by decide) (by decide)
  have m2 : binI .Mult (v2 - 30) 60 = some ((v2 - 30) * 60) := mul_ok 61 130 (by omega) (by decide +kernel) (by decide) (by decide) (by decide)
  by_cases c0 : v1 = 0
  · refine ⟨(v2 - 30) * 100000000000000000000000000000000000000 + v3, s3, n + 1 + 1 + 1, ?_, i3, by omega, by omega, by omega⟩
    subst c0
    show runF (GC ks fds (j + 1)) b_law_number [s] = _
    simp [runF, b_law_number, denSs, denS, denE, denEs, denT, truR, bindT, E.muts, Es.muts, Es.lent, E.root, outMs, lentIx, Es.okLent, isV, lend, nodupB, setMs, h.kap, i1.kap, i2.kap, i3.kap, h1, h2, h3, pow9, pow38, m1]
  · by_cases c1 : v1 = 1
    · refine ⟨(v2 - 30) * 60, s2, n + 1 + 1, ?_, i2, by omega, by omega, by omega⟩
      subst c1
      show runF (GC ks fds (j + 1)) b_law_number [s] = _
      simp [runF, b_law_number, denSs, denS, denE, denEs, denT, truR, bindT, E.muts, Es.muts, Es.lent, E.root, outMs, lentIx, Es.okLent, isV, lend, nodupB, setMs, h.kap, i1.kap, i2.kap, i3.kap, h1, h2, h3, m2]
    · refine ⟨v2 - 30, s2, n + 1 + 1, ?_, i2, by omega, by omega, by omega⟩
      show runF (GC ks fds (j + 1)) b_law_number [s] = _
      simp [runF, b_law_number, denSs, denS, denE, denEs, denT, truR, bindT, E.muts, Es.muts, Es.lent, E.root, outMs, lentIx, Es.okLent, isV, lend, nodupB, setMs, h.kap, i1.kap, i2.kap, i3.kap, h1, h2, h3, c0, c1]
/-! ### fractions -/
def fac (p q : Int) : Int := if q < 0 then -((Nat.gcd p.natAbs q.natAbs : Nat) : Int) else (Nat.gcd p.natAbs q.natAbs : Nat)
def num (p q : Int) : Int := p.fdiv (fac p q)
def den (p q : Int) : Int := q.fdiv (fac p q)
theorem fac_ne {p q : Int} (h : q ≠ 0) : fac p q ≠ 0 := by
  have : 0 < Nat.gcd p.natAbs q.natAbs := Nat.gcd_pos_of_pos_right _ (by omega)
  unfold fac
  split <;> omega
theorem fac_abs (p q : Int) : (fac p q).natAbs = Nat.gcd p.natAbs q.natAbs := by
  unfold fac
  split <;> omega
theorem fac_le {p q : Int} (h : q ≠ 0) : (fac p q).natAbs ≤ q.natAbs := by
  rw [fac_abs]
  exact Nat.le_of_dvd (by omega) (Nat.gcd_dvd_right _ _)
theorem ffraction {j : Nat} {p q : Int} (h : q ≠ 0) (hs : q.natAbs < 2 ^ 255) : fnK ks fds (j + 1) 0 [.t (.int p), .t (.int q)] = some (.ok (.t (.tup [.int (num p q), .int (den p q)])) []) := by
  have h0 := fac_ne (p := p) h
  have h2 : (fac p q).natAbs.log2 < 9000 := by
    have := log2_small (Nat.lt_of_le_of_lt (fac_le (p := p) h) hs) (by decide)
    omega
  have d1 := binI_div (i := p) h0 h2
  have d2 := binI_div (i := q) h0 h2
  show runF (GC ks fds j) b_fraction [_, _] = _
  unfold num den
  by_cases c : q < 0
  · have e : fac p q = -((Nat.gcd p.natAbs q.natAbs : Nat) : Int) := if_pos c
    rw [e] at d1 d2 ⊢
    simp [runF, b_fraction, denSs, denS, denE, denEs, denT, truR, bindT, outMs, lentIx, d1, d2, c, D.ts?, sizeLine]
  · have e : fac p q = ((Nat.gcd p.natAbs q.natAbs : Nat) : Int) := if_neg c
    rw [e] at d1 d2 ⊢
    simp [runF, b_fraction, denSs, denS, denE, denEs, denT, truR, bindT, outMs, lentIx, d1, d2, c, D.ts?, sizeLine]
theorem fac_parts {p q : Int} (h : q ≠ 0) : ∃ a b, p = fac p q * a ∧ q = fac p q * b ∧ num p q = a ∧ den p q = b ∧ 1 ≤ b ∧ Nat.gcd a.natAbs b.natAbs = 1 := by
  have h0 := fac_ne (p := p) h
  have g1 : ((Nat.gcd p.natAbs q.natAbs : Nat) : Int) ∣ p := Int.ofNat_dvd_left.mpr (Nat.gcd_dvd_left _ _)
  have g2 : ((Nat.gcd p.natAbs q.natAbs : Nat) : Int) ∣ q := Int.ofNat_dvd_left.mpr (Nat.gcd_dvd_right _ _)
  have f1 : fac p q ∣ p := by
    unfold fac
    split
    · exact Int.neg_dvd.mpr g1
    · exact g1
  have f2 : fac p q ∣ q := by
    unfold fac
    split
    · exact Int.neg_dvd.mpr g2
    · exact g2
  obtain ⟨a, ha⟩ := f1
  obtain ⟨b, hb⟩ := f2
  refine ⟨a, b, ha, hb, ?_, ?_, ?_, ?_⟩
  · unfold num
    generalize fac p q = f at *
    subst ha
    exact Int.mul_fdiv_cancel_left _ h0
  · unfold den
    generalize fac p q = f at *
    subst hb
    exact Int.mul_fdiv_cancel_left _ h0
  · have hb0 : b ≠ 0 := fun e => h (by rw [hb, e, Int.mul_zero])
    have hg : 0 < ((Nat.gcd p.natAbs q.natAbs : Nat) : Int) := by
      have : 0 < Nat.gcd p.natAbs q.natAbs := Nat.gcd_pos_of_pos_right _ (by omega)
      omega
    by_cases hn : b < 0
    · exfalso
      unfold fac at hb
      generalize ((Nat.gcd p.natAbs q.natAbs : Nat) : Int) = g at *
      split at hb
      · have := Int.mul_pos hg (show 0 < -b by omega)
        rw [Int.mul_neg] at this
        rw [Int.neg_mul] at hb
        omega
      · have := Int.mul_pos hg (show 0 < -b by omega)
        rw [Int.mul_neg] at this
        omega
    · omega
  · have e1 : p.natAbs = (fac p q).natAbs * a.natAbs := by rw [← Int.natAbs_mul, ← ha]
    have e2 : q.natAbs = (fac p q).natAbs * b.natAbs := by rw [← Int.natAbs_mul, ← hb]
    have e3 := fac_abs p q
    have hp : 0 < (fac p q).natAbs := by omega
    rw [e1, e2, Nat.gcd_mul_left] at e3
    generalize (fac p q).natAbs = f at *
    exact Nat.eq_of_mul_eq_mul_left hp (by omega)
theorem frac_scale {p q f : Int} (h : q ≠ 0) (hf : f ≠ 0) : num (p * f) (q * f) = num p q ∧ den (p * f) (q * f) = den p q := by
  obtain ⟨a, b, ha, hb, hn, hd, _, _⟩ := fac_parts (p := p) h
  have h0 := fac_ne (p := p) h
  have e : fac (p * f) (q * f) = fac p q * f := by
    have eg : Nat.gcd (p * f).natAbs (q * f).natAbs = Nat.gcd p.natAbs q.natAbs * f.natAbs := by rw [Int.natAbs_mul, Int.natAbs_mul, Nat.gcd_mul_right]
    unfold fac
    rw [eg]
    by_cases hq : q < 0
    · by_cases hf0 : f < 0
      · have := Int.mul_pos_of_neg_of_neg hq hf0
        rw [if_neg (by omega), if_pos hq]
        have : ((f.natAbs : Nat) : Int) = -f := by omega
        rw [Int.natCast_mul, this, Int.mul_neg, Int.neg_mul]
      · have := Int.mul_neg_of_neg_of_pos hq (show 0 < f by omega)
        rw [if_pos (by omega), if_pos hq]
        have : ((f.natAbs : Nat) : Int) = f := by omega
        rw [Int.natCast_mul, this, Int.neg_mul]
    · by_cases hf0 : f < 0
      · have := Int.mul_neg_of_pos_of_neg (show 0 < q by omega) hf0
        rw [if_pos (by omega), if_neg hq]
        have : ((f.natAbs : Nat) : Int) = -f := by omega
        rw [Int.natCast_mul, this, Int.mul_neg, Int.neg_neg]
      · have := Int.mul_pos (show 0 < q by omega) (show 0 < f by omega)
        rw [if_neg (by omega), if_neg hq]
        have : ((f.natAbs : Nat) : Int) = f := by omega
        rw [Int.natCast_mul, this]
  have h1 : fac p q * f ≠ 0 := Int.mul_ne_zero h0 hf
  rw [hn, hd]
  unfold num den
  rw [e]
  constructor
  · have : p * f = fac p q * f * a := by
      conv => lhs; rw [ha]
      ac_rfl
    rw [this]
    exact Int.mul_fdiv_cancel_left _ h1
  · have : q * f = fac p q * f * b := by
      conv => lhs; rw [hb]
      ac_rfl
    rw [this]
    exact Int.mul_fdiv_cancel_left _ h1
/-! ### the law's divisor -/
theorem eu_stop (G : GCtx) (x : D) (p : Int) (t : Option D) : forB G (.n 2) b_law_divisor_l1b x [some (.t (.int p)), some (.t (.int 0)), t] = some (.ok (.rt (.t (.int p)) none) [some (.t (.int p)), some (.t (.int 0)), some x]) := by
  simp [forB, b_law_divisor_l1b, denSs, denS, denE, denT, truR, bindT]
theorem eu_step (G : GCtx) (x : D) (p q : Int) (t : Option D) (hp : p.natAbs < 2 ^ 255) (h0 : 0 ≤ p) (hq : q.natAbs < 2 ^ 255) (h1 : 0 < q) : forB G (.n 2) b_law_divisor_l1b x [some (.t (.int p)), some (.t (.int q)), t] = some (.ok .nx [some (.t (.int q)), some (.t (.int (p % q))), some x]) := by
  have n0 : q ≠ 0 := by omega
  have d1 : binI .FloorDiv p q = some (p / q) := by
    rw [binI_div n0 (by have := log2_small hq (by decide); omega), fdiv_nn h1]
  have hd : (p / q).natAbs < 2 ^ 255 := by
    have h2 : 0 ≤ p / q := Int.ediv_nonneg h0 (by omega)
    have h3 : p / q ≤ p := Int.ediv_le_self q h0
    omega
  have m1 : binI .Mult (p / q) q = some (p / q * q) := mul_ok 255 255 hd hq (by decide) (by decide) (by decide)
  have e : p - p / q * q = p % q := by
    have := Int.mul_ediv_add_emod p q
    rw [Int.mul_comm] at this
    omega
  simp [forB, b_law_divisor_l1b, denSs, denS, denE, denT, truR, bindT, n0, d1, m1, e]
theorem eu_loop (G : GCtx) : ∀ (J : Nat) (xs : List D) (p q : Int) (t : Option D), 0 ≤ p → 0 ≤ q → p.natAbs < 2 ^ 255 → q.natAbs < 2 ^ J → J ≤ 250 → 2 * J + 1 ≤ xs.length →
    ∃ δ', forLoop (forB G (.n 2) b_law_divisor_l1b) xs [some (.t (.int p)), some (.t (.int q)), t] = some (.ok (.rt (.t (.int (Nat.gcd p.natAbs q.natAbs : Nat))) none) δ')
  | J, [], p, q, t, _, _, _, _, _, hl => by simp at hl
  | J, x :: xs, p, q, t, h0, h1, hp, hq, hJ, hl => by
    by_cases z : q = 0
    · subst z
      refine ⟨[some (.t (.int p)), some (.t (.int 0)), some x], ?_⟩
      simp only [forLoop]
      rw [eu_stop]
      have e : ((Nat.gcd p.natAbs (0 : Int).natAbs : Nat) : Int) = p := by
        simp <;> omega
      simp only [bnd]
      rw [e]
    · have hq0 : 0 < q := by omega
      have hq1 : q.natAbs < 2 ^ 255 := Nat.lt_of_lt_of_le hq (Nat.pow_le_pow_right (by decide) (by omega))
      have r0 := Int.emod_nonneg p z
      have r1 := Int.emod_lt_of_pos p hq0
      have eg : Nat.gcd q.natAbs (p % q).natAbs = Nat.gcd p.natAbs q.natAbs := by
        have e1 : (p % q).natAbs = p.natAbs % q.natAbs := by
          rw [Int.natAbs_emod_of_nonneg h0]
        rw [e1, Nat.gcd_comm, ← Nat.gcd_rec, Nat.gcd_comm]
      cases J with
      | zero => exact absurd hq (by simp; omega)
      | succ J =>
        cases xs with
        | nil => simp at hl
        | cons y xs =>
          simp only [forLoop]
          rw [eu_step G x p q t hp h0 hq1 hq0]
          simp only [bnd, forLoop]
          by_cases z2 : p % q = 0
          · refine ⟨[some (.t (.int q)), some (.t (.int 0)), some y], ?_⟩
            rw [z2, eu_stop]
            have e : ((Nat.gcd p.natAbs q.natAbs : Nat) : Int) = q := by
              rw [← eg, z2]
              simp <;> omega
            rw [e]
          · have r2 : 0 < p % q := by omega
            have r3 : (p % q).natAbs < 2 ^ 255 := by omega
            rw [eu_step G y q (p % q) _ hq1 h1 r3 r2]
            have s0 := Int.emod_nonneg q z2
            have s1 := Int.emod_lt_of_pos q r2
            have hh : 2 * (q % (p % q)) < q := by
              have := Int.mul_ediv_add_emod q (p % q)
              have hd : 1 ≤ q / (p % q) := by
                rw [Int.le_ediv_iff_mul_le r2]
                omega
              have : p % q * 1 ≤ p % q * (q / (p % q)) := Int.mul_le_mul_of_nonneg_left hd (by omega)
              omega
            have eg2 : Nat.gcd (p % q).natAbs (q % (p % q)).natAbs = Nat.gcd p.natAbs q.natAbs := by
              have e1 : (q % (p % q)).natAbs = q.natAbs % (p % q).natAbs := by
                rw [Int.natAbs_emod_of_nonneg h1]
              rw [e1, Nat.gcd_comm, ← Nat.gcd_rec, Nat.gcd_comm, eg]
            have hb : (q % (p % q)).natAbs < 2 ^ J := by
              have : 2 ^ (J + 1) = 2 * 2 ^ J := by rw [Nat.pow_succ]; omega
              omega
            obtain ⟨δ', h⟩ := eu_loop G J xs (p % q) (q % (p % q)) (some y) (by omega) s0 r3 hb (by omega) (by simp at hl; omega)
            rw [eg2] at h
            exact ⟨δ', h⟩
theorem fdivisor {j : Nat} {a b : Int} (ha : a.natAbs < 2 ^ 250) (hb : b.natAbs < 2 ^ 250) : fnK ks fds (j + 1) 6 [.t (.int a), .t (.int b)] = some (.ok (.t (.int (Nat.gcd a.natAbs b.natAbs : Nat))) []) := by
  have e1 : (if a < 0 then -a else a) = (a.natAbs : Int) := by split <;> omega
  have e2 : (if b < 0 then -b else b) = (b.natAbs : Int) := by split <;> omega
  obtain ⟨δ', h⟩ := eu_loop (GC ks fds j) 250 (rngL 0 2000 1) (a.natAbs : Int) (b.natAbs : Int) none (by omega) (by omega) (by
    have : 2 ^ 250 ≤ 2 ^ 255 := Nat.pow_le_pow_right (by decide) (by decide)
    omega) (by omega) (by decide) (by simp [rngL])
  rw [Int.natAbs_natCast, Int.natAbs_natCast] at h
  show runF (GC ks fds j) b_law_divisor [_, _] = _
  have hl : denS (GC ks fds j) b_law_divisor_l1 [some (.t (.int (a.natAbs : Int))), some (.t (.int (b.natAbs : Int))), none] = some (.ok (.rt (.t (.int (Nat.gcd a.natAbs b.natAbs : Nat))) none) δ') := by
    unfold b_law_divisor_l1
    rw [denS_for]
    simp only [denI, denEs, denE, bnd_ok, okPeek_none, if_true, List.map_cons, List.map_nil]
    exact h
  simp [runF, b_law_divisor, denSs, denS, denE, denEs, denT, truR, bindT, outMs, lentIx, e1, e2, hl]
/-! ### the law's tests -/
theorem fisint {j : Nat} {x : T} : fnK ks fds (j + 1) 4 [.t x] = some (.ok (.t (.bl (isiT x .int && !isiT x .bool))) []) := isint_run (GC ks fds j) x
theorem fis {j : Nat} {a b p q : Int} (ha : a.natAbs < 2 ^ 250) (hb : b.natAbs < 2 ^ 250) (hp : p.natAbs < 2 ^ 250) (hq : q.natAbs < 2 ^ 250) (h1 : 1 ≤ b) (h2 : a * q = p * b) (h3 : Nat.gcd a.natAbs b.natAbs = 1) :
    fnK ks fds (j + 2) 7 [.t (.tup [.int a, .int b]), .t (.int p), .t (.int q)] = some (.ok (.t (.bl true)) []) := by
  have l9 : 2 ^ 250 ≤ 2 ^ 250 := Nat.pow_le_pow_right (by decide) (by decide)
  have d := fdivisor (j := j) (a := a) (b := b) (by omega) (by omega)
  rw [h3] at d
  have m1 : binI .Mult a q = some (a * q) := mul_ok 250 250 ha hq (by decide) (by decide) (by decide)
  have m2 : binI .Mult p b = some (p * b) := mul_ok 250 250 hp hb (by decide) (by decide) (by decide)
  show runF (GC ks fds (j + 1)) b_law_is_fraction [_, _, _] = _
  simp [runF, b_law_is_fraction, denSs, denS, denE, denEs, denT, truR, bindT, outMs, lentIx, Es.okLent, isV, lend, nodupB, setMs, L2.atI, L2.ixN, fisint, d, m1, m2, h1, h2]
def cmpF (a b c d : Int) : Int := if a * d = c * b then 0 else if a * d < c * b then -1 else 1
theorem fcompare {j : Nat} {a b c d : Int} (ha : a.natAbs < 2 ^ 250) (hb : b.natAbs < 2 ^ 250) (hc : c.natAbs < 2 ^ 250) (hd : d.natAbs < 2 ^ 250) :
    fnK ks fds (j + 1) 1 [.t (.tup [.int a, .int b]), .t (.tup [.int c, .int d])] = some (.ok (.t (.int (cmpF a b c d))) []) := by
  have m1 : binI .Mult a d = some (a * d) := mul_ok 250 250 ha hd (by decide) (by decide) (by decide)
  have m2 : binI .Mult c b = some (c * b) := mul_ok 250 250 hc hb (by decide) (by decide) (by decide)
  show runF (GC ks fds j) b_compare_fractions [_, _] = _
  unfold cmpF
  by_cases e1 : a * d = c * b
  · simp [runF, b_compare_fractions, denSs, denS, denE, denEs, denT, truR, bindT, outMs, lentIx, L2.atI, L2.ixN, m1, m2, e1]
  · by_cases e2 : a * d < c * b
    · simp [runF, b_compare_fractions, denSs, denS, denE, denEs, denT, truR, bindT, outMs, lentIx, L2.atI, L2.ixN, m1, m2, e1, e2]
    · simp [runF, b_compare_fractions, denSs, denS, denE, denEs, denT, truR, bindT, outMs, lentIx, L2.atI, L2.ixN, m1, m2, e1, e2]
theorem forder {j : Nat} {a b c d : Int} (ha : a.natAbs < 2 ^ 250) (hb : b.natAbs < 2 ^ 250) (hc : c.natAbs < 2 ^ 250) (hd : d.natAbs < 2 ^ 250) :
    fnK ks fds (j + 1) 8 [.t (.tup [.int a, .int b]), .t (.tup [.int c, .int d])] = some (.ok (.t (.int (cmpF a b c d))) []) := by
  have m1 : binI .Mult a d = some (a * d) := mul_ok 250 250 ha hd (by decide) (by decide) (by decide)
  have m2 : binI .Mult c b = some (c * b) := mul_ok 250 250 hc hb (by decide) (by decide) (by decide)
  show runF (GC ks fds j) b_law_order [_, _] = _
  have e : cmpF a b c d = (if c * b < a * d then 1 else 0) - (if a * d < c * b then 1 else 0) := by
    unfold cmpF
    split <;> split <;> split <;> omega
  rw [e]
  simp [runF, b_law_order, denSs, denS, denE, denEs, denT, truR, bindT, outMs, lentIx, L2.atI, L2.ixN, m1, m2]
end DV.K02

set_option Elab.async false
set_option linter.all false
set_option maxRecDepth 100000
set_option maxHeartbeats 1000000
namespace DV.K02
open PySem DV
/-! ### the law -/
def tps (fs : List (Int × Int)) : List D := fs.map fun x => .t (.tup [.int x.1, .int x.2])
def Sm (fs : List (Int × Int)) : Prop := ∀ x, x ∈ fs → x.1.natAbs < 2 ^ 250 ∧ x.2.natAbs < 2 ^ 250
theorem eqv2 (a b : Int) : cmpD .NotEq (.t (.tup [.int a, .int b])) (.t (.tup [.int a, .int b])) = some false := by
  have h1 : SeqAt.shaped (PyData.tuple [PyData.int a, PyData.int b]) = true := rfl
  have h2 : PyData.eqv (PyData.tuple [PyData.int a, PyData.int b]) (PyData.tuple [PyData.int a, PyData.int b]) = true := by simp [PyData.eqv, PyData.eqvAll]
  simp [cmpD, eqD, T.scal, T.py, T.pys, h1, h2]
theorem pow20 : binI .Pow 10 20 = some 100000000000000000000 := by decide +kernel
theorem num_le {p q : Int} (h : q ≠ 0) : (num p q).natAbs ≤ p.natAbs ∧ (den p q).natAbs ≤ q.natAbs := by
  obtain ⟨a, b, ha, hb, hn, hd, _, _⟩ := fac_parts (p := p) h
  have h0 := fac_ne (p := p) h
  have e1 : p.natAbs = (fac p q).natAbs * a.natAbs := by rw [← Int.natAbs_mul, ← ha]
  have e2 : q.natAbs = (fac p q).natAbs * b.natAbs := by rw [← Int.natAbs_mul, ← hb]
  have hp : 1 ≤ (fac p q).natAbs := by omega
  rw [hn, hd]
  have t1 := Nat.mul_le_mul_right a.natAbs hp
  have t2 := Nat.mul_le_mul_right b.natAbs hp
  omega
theorem fis_frac {j : Nat} {p q : Int} (h : q ≠ 0) (hp : p.natAbs < 2 ^ 250) (hq : q.natAbs < 2 ^ 250) : fnK ks fds (j + 2) 7 [.t (.tup [.int (num p q), .int (den p q)]), .t (.int p), .t (.int q)] = some (.ok (.t (.bl true)) []) := by
  obtain ⟨a, b, ha, hb, hn, hd, h1, h2⟩ := fac_parts (p := p) h
  have hle := num_le (p := p) h
  refine fis (by omega) (by omega) hp hq (by rw [hd]; exact h1) ?_ (by rw [hn, hd]; exact h2)
  rw [hn, hd]
  conv => lhs; rw [hb]
  conv => rhs; rw [ha]
  ac_rfl
theorem pick2 (v : Int) (h : 0 ≤ v ∧ v < 2) : ∃ f : Int, L2.atI [D.t (.int 1), D.t (.int (-1))] v = some (.t (.int f)) ∧ (f = 1 ∨ f = -1) := by
  have : v = 0 ∨ v = 1 := by omega
  rcases this with e | e <;> subst e
  · exact ⟨1, rfl, .inl rfl⟩
  · exact ⟨-1, rfl, .inr rfl⟩
theorem pick4 (v : Int) (h : 0 ≤ v ∧ v < 4) : ∃ f : Int, L2.atI [D.t (.int 2), D.t (.int (-3)), D.t (.int 100000000000000000000), D.t (.int (-1))] v = some (.t (.int f)) ∧ f ≠ 0 ∧ f.natAbs < 2 ^ 70 := by
  have : v = 0 ∨ v = 1 ∨ v = 2 ∨ v = 3 := by omega
  rcases this with e | e | e | e <;> subst e
  · exact ⟨2, rfl, by decide, by decide⟩
  · exact ⟨-3, rfl, by decide, by decide⟩
  · exact ⟨100000000000000000000, rfl, by decide, by decide⟩
  · exact ⟨-1, rfl, by decide, by decide⟩
theorem free_tps (fs : List (Int × Int)) : D.allFree (tps fs) = true := by
  induction fs with
  | nil => rfl
  | cons x fs ih => simp only [tps, List.map_cons, D.allFree, D_free_t, Bool.true_and]; exact ih
theorem add_tps (fs : List (Int × Int)) (ys : List D) (hy : D.allFree ys = true) (hl : fs.length + ys.length ≤ 1000) : binD .Add (.lst (tps fs)) (.lst ys) = some (.lst (tps fs ++ ys)) := by
  have : (tps fs).length = fs.length := by simp [tps]
  simp [binD, D.items, free_tps, hy, this]
  have := sizeLine_eq
  omega
def l3tail : Ss := match b_law_l3b with
  | .cons _ (.cons _ (.cons _ r)) => r
  | r => r
theorem l3_eq : b_law_l3b = .cons (.asg (.n 5) (.call 5 (.cons (.v 1) .nil))) (.cons (.asg (.n 6) (.call 5 (.cons (.v 1) .nil))) (.cons (.iff (.cmp .Eq (.v 6) (.c (.int 0))) (.cons (.asg (.n 6) (.ix (.lst (.cons (.c (.int 1)) (.cons (.neg (.c (.int 1))) .nil))) (.call 3 (.cons (.v 1) (.cons (.c (.int 2)) .nil))))) .nil) .nil) l3tail)) := rfl
theorem bnds (p q g : Int) (hp : p.natAbs < 2 ^ 141) (hq : q.natAbs < 2 ^ 141) (hq0 : q ≠ 0) (g0 : g = 1 ∨ g = -1) : ((num p q).natAbs < 2 ^ 250 ∧ (den p q).natAbs < 2 ^ 250) ∧ ((num (p * 1000 + g) (q * 1000)).natAbs < 2 ^ 250 ∧ (den (p * 1000 + g) (q * 1000)).natAbs < 2 ^ 250) ∧ ((num (p + q) q).natAbs < 2 ^ 250 ∧ (den (p + q) q).natAbs < 2 ^ 250) := by
  have w1 := num_le (p := p) hq0
  have w3 := num_le (p := p * 1000 + g) (q := q * 1000) (by omega)
  have w4 := num_le (p := p + q) hq0
  have e : 2 ^ 141 * 2000 ≤ 2 ^ 250 := by decide +kernel
  have b1 : (p * 1000 + g).natAbs ≤ p.natAbs * 1000 + 1 := by omega
  have b2 : (q * 1000).natAbs ≤ q.natAbs * 1000 := by omega
  have b3 : (p + q).natAbs ≤ p.natAbs + q.natAbs := by omega
  generalize 2 ^ 141 = A at *
  generalize 2 ^ 250 = B at *
  generalize (num p q).natAbs = x1 at *
  generalize (den p q).natAbs = x2 at *
  generalize (num (p * 1000 + g) (q * 1000)).natAbs = x3 at *
  generalize (den (p * 1000 + g) (q * 1000)).natAbs = x4 at *
  generalize (num (p + q) q).natAbs = x5 at *
  generalize (den (p + q) q).natAbs = x6 at *
  omega
/-- behind p and q -/
theorem turn_tail {j : Nat} {x : D} {n : Int} {s : D} {p q : Int} {fs : List (Int × Int)} {e0 e3 e4 e7 e8 e9 e10 e11 e12 e13 e14 : Option D} (hp : p.natAbs < 2 ^ 141) (hq : q.natAbs < 2 ^ 141) (hq0 : q ≠ 0) (h : IsSt n s) (hn : 0 ≤ n ∧ n < 10 ^ 13) (hf : Sm fs) (hl : fs.length < 100) :
    ∃ s' n' fs' o7 o8 o9 o10, denSs (GC ks fds (j + 3)) l3tail [e0, some s, some (.lst (tps fs)), e3, e4, some (.t (.int p)), some (.t (.int q)), e7, e8, e9, e10, e11, e12, e13, e14] =
        some (.ok .nx [e0, some s', some (.lst (tps fs')), e3, e4, some (.t (.int p)), some (.t (.int q)), o7, o8, o9, o10, e11, e12, e13, e14]) ∧
      IsSt n' s' ∧ n ≤ n' ∧ n' ≤ n + 5 ∧ Sm fs' ∧ fs'.length = fs.length + 4 := by
  obtain ⟨v1, s1, h1, i1, a1, b1⟩ := fdraw (j := j + 2) h (m := 4) (by decide) (by decide) (by omega)
  obtain ⟨f, p1, f0, fl⟩ := pick4 v1 ⟨a1, b1⟩
  obtain ⟨v2, s2, h2, i2, a2, b2⟩ := fdraw (j := j + 2) i1 (m := 2) (by decide) (by decide) (by omega)
  obtain ⟨g, p2, g0⟩ := pick2 v2 ⟨a2, b2⟩
  have hqf : q * f ≠ 0 := Int.mul_ne_zero hq0 f0
  have hpow : 2 ^ 141 * 2 ^ 70 = 2 ^ 211 := by decide +kernel
  have bpf : (p * f).natAbs < 2 ^ 211 := by
    rw [Int.natAbs_mul, ← hpow]
    exact Nat.mul_lt_mul'' hp fl
  have bqf : (q * f).natAbs < 2 ^ 211 := by
    rw [Int.natAbs_mul, ← hpow]
    exact Nat.mul_lt_mul'' hq fl
  have u8 : 2 ^ 211 ≤ 2 ^ 250 := Nat.pow_le_pow_right (by decide) (by decide)
  have u9 : 2 ^ 250 ≤ 2 ^ 255 := Nat.pow_le_pow_right (by decide) (by decide)
  have u0 : 2 ^ 160 ≤ 2 ^ 250 := Nat.pow_le_pow_right (by decide) (by decide)
  have k1 := ffraction (j := j + 2) (p := p) hq0 (by omega)
  have k2 := ffraction (j := j + 2) (p := p * f) hqf (by omega)
  obtain ⟨sc1, sc2⟩ := frac_scale (p := p) hq0 f0
  rw [sc1, sc2] at k2
  have k3 := ffraction (j := j + 2) (p := p * 1000 + g) (q := q * 1000) (by omega) (by omega)
  have k4 := ffraction (j := j + 2) (p := p + q) hq0 (by omega)
  have t1 := fis_frac (j := j + 1) (p := p) hq0 (by omega) (by omega)
  have m1 : binI .Mult p f = some (p * f) := mul_ok 141 70 hp fl (by decide) (by decide) (by decide)
  have m2 : binI .Mult q f = some (q * f) := mul_ok 141 70 hq fl (by decide) (by decide) (by decide)
  have m3 : binI .Mult p 1000 = some (p * 1000) := mul_ok 141 70 hp (by decide) (by decide) (by decide) (by decide)
  have m4 : binI .Mult q 1000 = some (q * 1000) := mul_ok 141 70 hq (by decide) (by decide) (by decide) (by decide)
  have w1 := num_le (p := p) hq0
  have w3 := num_le (p := p * 1000 + g) (q := q * 1000) (by omega)
  have w4 := num_le (p := p + q) hq0
  refine ⟨s2, n + 1 + 1, fs ++ [(num p q, den p q), (num p q, den p q), (num (p * 1000 + g) (q * 1000), den (p * 1000 + g) (q * 1000)), (num (p + q) q, den (p + q) q)], some (.t (.int f)), some (.t (.tup [.int (num p q), .int (den p q)])), some (.t (.tup [.int (num p q), .int (den p q)])), some (.t (.tup [.int (num (p * 1000 + g) (q * 1000)), .int (den (p * 1000 + g) (q * 1000))])), ?_, i2, by omega, by omega, ?_, by simp⟩
  · have ad := add_tps fs [.t (.tup [.int (num p q), .int (den p q)]), .t (.tup [.int (num p q), .int (den p q)]), .t (.tup [.int (num (p * 1000 + g) (q * 1000)), .int (den (p * 1000 + g) (q * 1000))]), .t (.tup [.int (num (p + q) q), .int (den (p + q) q)])] rfl (by simp; omega)
    have et : tps (fs ++ [(num p q, den p q), (num p q, den p q), (num (p * 1000 + g) (q * 1000), den (p * 1000 + g) (q * 1000)), (num (p + q) q, den (p + q) q)]) = tps fs ++ [.t (.tup [.int (num p q), .int (den p q)]), .t (.tup [.int (num p q), .int (den p q)]), .t (.tup [.int (num (p * 1000 + g) (q * 1000)), .int (den (p * 1000 + g) (q * 1000))]), .t (.tup [.int (num (p + q) q), .int (den (p + q) q)])] := by simp [tps]
    rw [et]
    simp [l3tail, b_law_l3b, denSs, denS, denE, denEs, denT, truR, bindT, E.muts, Es.muts, Es.lent, E.root, Es.okLent, isV, lend, nodupB, setMs, okPeek, h.kap, i1.kap, i2.kap, h1, h2, p1, p2, pow20, k1, k2, k3, k4, t1, m1, m2, m3, m4, ad, eqv2, sizeLine_eq]
  · obtain ⟨z1, z3, z4⟩ := bnds p q g hp hq hq0 g0
    intro y hy
    rcases List.mem_append.mp hy with w | w
    · exact hf y w
    · simp only [List.mem_cons, List.not_mem_nil, or_false] at w
      rcases w with e | e | e | e
      · rw [e]; exact z1
      · rw [e]; exact z1
      · rw [e]; exact z3
      · rw [e]; exact z4
end DV.K02

set_option Elab.async false
set_option linter.all false
set_option maxRecDepth 100000
set_option maxHeartbeats 1000000
namespace DV.K02
open PySem DV
theorem one_turn {j : Nat} {x : D} {n : Int} {s : D} {fs : List (Int × Int)} {e0 e3 e4 e5 e6 e7 e8 e9 e10 e11 e12 e13 e14 : Option D} (h : IsSt n s) (hn : 0 ≤ n ∧ n < 10 ^ 12) (hf : Sm fs) (hl : fs.length < 100) :
    ∃ s' n' fs' o3 o5 o6 o7 o8 o9 o10, forB (GC ks fds (j + 3)) (.n 3) b_law_l3b x [e0, some s, some (.lst (tps fs)), e3, e4, e5, e6, e7, e8, e9, e10, e11, e12, e13, e14] = some (.ok .nx [e0, some s', some (.lst (tps fs')), o3, e4, o5, o6, o7, o8, o9, o10, e11, e12, e13, e14]) ∧
      IsSt n' s' ∧ n ≤ n' ∧ n' ≤ n + 20 ∧ Sm fs' ∧ fs'.length = fs.length + 4 := by
  obtain ⟨p, s1, n1, h1, i1, a1, b1, c1⟩ := fnumber (j := j + 1) h (by omega)
  obtain ⟨q, s2, n2, h2, i2, a2, b2, c2⟩ := fnumber (j := j + 1) i1 (by omega)
  by_cases hq : q = 0
  · obtain ⟨v3, s3, h3, i3, a3, b3⟩ := fdraw (j := j + 2) i2 (m := 2) (by decide) (by decide) (by omega)
    obtain ⟨g, p3, g0⟩ := pick2 v3 ⟨a3, b3⟩
    obtain ⟨s', n', fs', f7, f8, f9, f10, t, q1, q2, q3, q4, q5⟩ := turn_tail (j := j) (x := x) (p := p) (q := g) (e0 := e0) (e3 := some x) (e4 := e4) (e7 := e7) (e8 := e8) (e9 := e9) (e10 := e10) (e11 := e11) (e12 := e12) (e13 := e13) (e14 := e14) (by omega) (by omega) (by omega) i3 (by omega) hf hl
    refine ⟨s', n', fs', some x, some (.t (.int p)), some (.t (.int g)), f7, f8, f9, f10, ?_, q1, by omega, by omega, q4, q5⟩
    subst hq
    rw [l3_eq]
    simp [forB, bindT, denS, denSs, denE, denEs, denT, truR, E.muts, Es.muts, Es.lent, E.root, Es.okLent, isV, lend, nodupB, setMs, okPeek, h.kap, i1.kap, i2.kap, h1, h2, h3, p3, sizeLine_eq, t]
  · obtain ⟨s', n', fs', f7, f8, f9, f10, t, q1, q2, q3, q4, q5⟩ := turn_tail (j := j) (x := x) (p := p) (q := q) (e0 := e0) (e3 := some x) (e4 := e4) (e7 := e7) (e8 := e8) (e9 := e9) (e10 := e10) (e11 := e11) (e12 := e12) (e13 := e13) (e14 := e14) (by omega) (by omega) hq i2 (by omega) hf hl
    refine ⟨s', n', fs', some x, some (.t (.int p)), some (.t (.int q)), f7, f8, f9, f10, ?_, q1, by omega, by omega, q4, q5⟩
    rw [l3_eq]
    simp [forB, bindT, denS, denSs, denE, denEs, denT, truR, E.muts, Es.muts, Es.lent, E.root, Es.okLent, isV, lend, nodupB, setMs, okPeek, h.kap, i1.kap, i2.kap, h1, h2, hq, sizeLine_eq, t]
end DV.K02

set_option Elab.async false
set_option linter.all false
set_option maxRecDepth 100000
set_option maxHeartbeats 1000000
namespace DV.K02
open PySem DV
theorem loop3 {j : Nat} {s : D} {e0 : Option D} (h : IsSt 0 s) : ∃ s' n fs e3 e5 e6 e7 e8 e9 e10, denS (GC ks fds (j + 3)) b_law_l3 [e0, some s, some (.lst []), none, none, none, none, none, none, none, none, none, none, none, none] =
    some (.ok .nx [e0, some s', some (.lst (tps fs)), e3, none, e5, e6, e7, e8, e9, e10, none, none, none, none]) ∧ IsSt n s' ∧ 0 ≤ n ∧ n ≤ 60 ∧ Sm fs ∧ fs.length = 12 := by
  have hI := for_inv (f := forB (GC ks fds (j + 3)) (.n 3) b_law_l3b)
    (fun i δ => ∃ s n fs e3 e5 e6 e7 e8 e9 e10, δ = [e0, some s, some (.lst (tps fs)), e3, none, e5, e6, e7, e8, e9, e10, none, none, none, none] ∧ IsSt n s ∧ 0 ≤ n ∧ n ≤ 20 * (i : Int) ∧ Sm fs ∧ fs.length = 4 * i ∧ i ≤ 3)
    (rngL 0 3 1) 0 [e0, some s, some (.lst []), none, none, none, none, none, none, none, none, none, none, none, none]
    ⟨s, 0, [], none, none, none, none, none, none, none, rfl, h, by omega, by omega, fun _ h => (List.not_mem_nil h).elim, rfl, by omega⟩ ?_
  · obtain ⟨δ', h1, s', n, fs, e3, e5, e6, e7, e8, e9, e10, rfl, h2, h3, h4, h5, h6, _⟩ := hI
    refine ⟨s', n, fs, e3, e5, e6, e7, e8, e9, e10, ?_, h2, h3, ?_, h5, ?_⟩
    · unfold b_law_l3
      rw [denS_for]
      simp only [denI, denEs, denE, bnd_ok, okPeek_none, if_true, List.map_cons, List.map_nil]
      exact h1
    · simp [rngL] at h4
      omega
    · simp [rngL] at h6
      omega
  · rintro i x δ hx ⟨s, n, fs, e3, e5, e6, e7, e8, e9, e10, rfl, q1, q2, q3, q4, q5, q6⟩
    have hi : i < 3 := by
      have := (List.getElem?_eq_some_iff.mp hx).1
      simpa [rngL] using this
    obtain ⟨s', n', fs', f3, f5, f6, f7, f8, f9, f10, t, r1, r2, r3, r4, r5⟩ := one_turn (j := j) (x := x) (e0 := e0) (e3 := e3) (e4 := none) (e5 := e5) (e6 := e6) (e7 := e7) (e8 := e8) (e9 := e9) (e10 := e10) (e11 := none) (e12 := none) (e13 := none) (e14 := none) q1 (by omega) q4 (by omega)
    exact ⟨_, t, s', n', fs', f3, f5, f6, f7, f8, f9, f10, rfl, r1, by omega, by omega, r4, by omega, by omega⟩
theorem at_tps {fs : List (Int × Int)} {k : Int} (h0 : 0 ≤ k) (h1 : k < fs.length) : ∃ x, x ∈ fs ∧ L2.atI (tps fs) k = some (.t (.tup [.int x.1, .int x.2])) := by
  have h3 : k.toNat < fs.length := by omega
  refine ⟨fs[k.toNat], List.getElem_mem h3, ?_⟩
  have hl : (tps fs).length = fs.length := by simp [tps]
  unfold L2.atI L2.ixN
  rw [hl, if_pos h0, if_pos h1]
  show (tps fs)[_]? = _
  unfold tps
  rw [List.getElem?_map, List.getElem?_eq_getElem h3]
  rfl
theorem l1_step {j : Nat} {a b c d : Int} {e0 e1 e2 e3 e4 e5 e6 e7 e8 e9 e10 e11 e12 e13 e14 : Option D} (ha : a.natAbs < 2 ^ 250) (hb : b.natAbs < 2 ^ 250) (hc : c.natAbs < 2 ^ 250) (hd : d.natAbs < 2 ^ 250) :
    forB (GC ks fds (j + 1)) (.tp (.cons (.n 12) (.cons (.n 13) .nil))) b_law_l1b (.t (.tup [.tup [.int a, .int b], .tup [.int c, .int d]])) [e0, e1, e2, e3, e4, e5, e6, e7, e8, e9, e10, e11, e12, e13, e14] =
      some (.ok .nx [e0, e1, e2, e3, e4, e5, e6, e7, e8, e9, e10, e11, some (.t (.tup [.int a, .int b])), some (.t (.tup [.int c, .int d])), some (.t (.int (cmpF a b c d)))]) := by
  have k1 := fcompare (j := j) ha hb hc hd
  have k2 := forder (j := j) ha hb hc hd
  have k3 := fisint (j := j) (x := .int (cmpF a b c d))
  simp [forB, b_law_l1b, bindT, bindTs, denS, denSs, denE, denEs, denT, truR, E.muts, Es.muts, Es.lent, E.root, Es.okLent, isV, lend, nodupB, setMs, okPeek, k1, k2, k3]
theorem loop1 {j : Nat} {k : Int} {y : Int × Int} {fs : List (Int × Int)} {e0 e1 e3 e5 e6 e7 e8 e9 e10 e12 e13 e14 : Option D} (h0 : 0 ≤ k) (h1 : k < fs.length) (hl : fs.length = 12) (hf : Sm fs) (hy : y ∈ fs) :
    ∃ o12 o13 o14, denS (GC ks fds (j + 1)) b_law_l1 [e0, e1, some (.lst (tps fs)), e3, some (.t (.int k)), e5, e6, e7, e8, e9, e10, some (.t (.tup [.int y.1, .int y.2])), e12, e13, e14] =
      some (.ok .nx [e0, e1, some (.lst (tps fs)), e3, some (.t (.int k)), e5, e6, e7, e8, e9, e10, some (.t (.tup [.int y.1, .int y.2])), o12, o13, o14]) := by
  obtain ⟨x, hx, ax⟩ := at_tps h0 h1
  obtain ⟨z, hz, az⟩ := at_tps (fs := fs) (k := k - k / 4 * 4) (by omega) (by omega)
  have d1 : binI .FloorDiv k 4 = some (k / 4) := by rw [binI_div (by decide) (by decide +kernel), fdiv_nn (by decide)]
  have m1 : binI .Mult (k / 4) 4 = some (k / 4 * 4) := mul_ok 61 10 (by omega) (by decide) (by decide) (by decide) (by decide)
  obtain ⟨x1, x2⟩ := hf x hx
  obtain ⟨y1, y2⟩ := hf y hy
  obtain ⟨z1, z2⟩ := hf z hz
  have hd : denI (GC ks fds (j + 1)) (.seq (.lst (.cons (.tup (.cons (.ix (.v 2) (.v 4)) (.cons (.v 11) .nil))) (.cons (.tup (.cons (.v 11) (.cons (.ix (.v 2) (.v 4)) .nil))) (.cons (.tup (.cons (.ix (.v 2) (.v 4)) (.cons (.ix (.v 2) (.bin .Sub (.v 4) (.bin .Mult (.bin .FloorDiv (.v 4) (.c (.int 4))) (.c (.int 4))))) .nil))) .nil)))))
      [e0, e1, some (.lst (tps fs)), e3, some (.t (.int k)), e5, e6, e7, e8, e9, e10, some (.t (.tup [.int y.1, .int y.2])), e12, e13, e14] =
      some (.ok ([.t (.tup [.tup [.int x.1, .int x.2], .tup [.int y.1, .int y.2]]), .t (.tup [.tup [.int y.1, .int y.2], .tup [.int x.1, .int x.2]]), .t (.tup [.tup [.int x.1, .int x.2], .tup [.int z.1, .int z.2]])], none) [e0, e1, some (.lst (tps fs)), e3, some (.t (.int k)), e5, e6, e7, e8, e9, e10, some (.t (.tup [.int y.1, .int y.2])), e12, e13, e14]) := by
    simp [denI, denE, denEs, E.muts, Es.muts, ax, az, d1, m1, D.ts?, sizeLine_eq, walkD]
  refine ⟨some (.t (.tup [.int x.1, .int x.2])), some (.t (.tup [.int z.1, .int z.2])), some (.t (.int (cmpF x.1 x.2 z.1 z.2))), ?_⟩
  unfold b_law_l1
  rw [denS_for, hd]
  simp only [bnd_ok, okPeek_none, if_true, forLoop]
  rw [l1_step x1 x2 y1 y2]
  simp only [bnd_ok]
  rw [l1_step y1 y2 x1 x2]
  simp only [bnd_ok]
  rw [l1_step x1 x2 z1 z2]
  simp only [bnd_ok]
theorem loop2 {j : Nat} {n : Int} {s : D} {fs : List (Int × Int)} {e0 e3 e5 e6 e7 e8 e9 e10 : Option D} (h : IsSt n s) (hn : 0 ≤ n ∧ n ≤ 60) (hf : Sm fs) (hl : fs.length = 12) :
    ∃ δ', denS (GC ks fds (j + 3)) b_law_l2 [e0, some s, some (.lst (tps fs)), e3, none, e5, e6, e7, e8, e9, e10, none, none, none, none] = some (.ok .nx δ') := by
  have ht : (tps fs).length = 12 := by simp [tps, hl]
  have hI := for_inv (f := forB (GC ks fds (j + 3)) (.n 4) b_law_l2b)
    (fun i δ => ∃ s n e4 e11 e12 e13 e14, δ = [e0, some s, some (.lst (tps fs)), e3, e4, e5, e6, e7, e8, e9, e10, e11, e12, e13, e14] ∧ IsSt n s ∧ 0 ≤ n ∧ n ≤ 60 + (i : Int) ∧ i ≤ 12)
    (rngL 0 12 1) 0 [e0, some s, some (.lst (tps fs)), e3, none, e5, e6, e7, e8, e9, e10, none, none, none, none]
    ⟨s, n, none, none, none, none, none, rfl, h, by omega, by omega, by omega⟩ ?_
  · obtain ⟨δ', h1, _⟩ := hI
    refine ⟨δ', ?_⟩
    have hd : denI (GC ks fds (j + 3)) (.rng (.cons (.bi .len (.cons (.v 2) .nil)) .nil)) [e0, some s, some (.lst (tps fs)), e3, none, e5, e6, e7, e8, e9, e10, none, none, none, none] = some (.ok (rngL 0 12 1, none) [e0, some s, some (.lst (tps fs)), e3, none, e5, e6, e7, e8, e9, e10, none, none, none, none]) := by
      simp [denI, denEs, denE, Es.muts, ht, rngD]
    unfold b_law_l2
    rw [denS_for, hd]
    simp only [bnd_ok, okPeek_none, if_true]
    exact h1
  · rintro i x δ hx ⟨s, n, e4, e11, e12, e13, e14, rfl, q1, q2, q3, q4⟩
    have hx2 : i < 12 ∧ x = .t (.int i) := by
      have h1 := (List.getElem?_eq_some_iff.mp hx).1
      have h2 : i < 12 := by simpa [rngL] using h1
      unfold rngL at hx
      rw [List.getElem?_map, List.getElem?_range h2] at hx
      injection hx with hx
      exact ⟨h2, by rw [← hx]; simp⟩
    obtain ⟨hi, rfl⟩ := hx2
    obtain ⟨v, s1, h1, i1, a1, b1⟩ := fdraw (j := j + 2) q1 (m := 12) (by decide) (by decide) (by omega)
    obtain ⟨y, hy, ay⟩ := at_tps (fs := fs) (k := v) a1 (by omega)
    obtain ⟨f12, f13, f14, t⟩ := loop1 (j := j + 2) (k := (i : Int)) (y := y) (fs := fs) (e0 := e0) (e1 := some s1) (e3 := e3) (e5 := e5) (e6 := e6) (e7 := e7) (e8 := e8) (e9 := e9) (e10 := e10) (e12 := e12) (e13 := e13) (e14 := e14) (by omega) (by omega) hl hf hy
    refine ⟨_, ?_, s1, n + 1, some (.t (.int i)), some (.t (.tup [.int y.1, .int y.2])), f12, f13, f14, rfl, i1, by omega, by omega, by omega⟩
    simp [forB, b_law_l2b, bindT, denS, denSs, denE, denEs, denT, truR, E.muts, Es.muts, Es.lent, E.root, Es.okLent, isV, lend, nodupB, setMs, okPeek, q1.kap, i1.kap, ht, h1, ay, t]
end DV.K02



set_option Elab.async false
set_option linter.all false
set_option maxRecDepth 100000
set_option maxHeartbeats 1000000
namespace DV.K02
open PySem DV
theorem hs0 (j : Nat) (ns : List Int) : fnK ks fds (j + 3) 2 [.scr ns] = some (.ok (St ns 0 0 0) []) := start_run (GC ks fds (j + 2)) ns
theorem shw (j : Nat) (ns : List Int) : fnK ks fds (j + 4) 9 [.scr ns] = runF (GC ks fds (j + 3)) b_law [.scr ns] := rfl
theorem cons_nx {G : GCtx} {s : S} {ss : Ss} {δ δ1 : Ev} {r : Option (R Fl)} (h : denS G s δ = some (.ok .nx δ1)) (h2 : denSs G ss δ1 = r) : denSs G (.cons s ss) δ = r := by
  have e : denSs G (.cons s ss) δ = bnd (denS G s δ) fun fl δ1 => match fl with
      | .nx => denSs G ss δ1
      | fl => some (.ok fl δ1) := rfl
  rw [e, h]
  exact h2
theorem c1 (G : GCtx) (ns : List Int) (s0 : D) (h2 : G.mu 2 = [false]) (hs : G.fn 2 [.scr ns] = some (.ok s0 [])) : denS G (.asg (.n 1) (.call 2 (.cons (.v 0) .nil))) [some (.scr ns), none, none, none, none, none, none, none, none, none, none, none, none, none, none] = some (.ok .nx [some (.scr ns), some s0, none, none, none, none, none, none, none, none, none, none, none, none, none]) := by
  simp [bindT, denS, denE, denEs, E.muts, Es.muts, Es.lent, E.root, Es.okLent, isV, lend, nodupB, setMs, okPeek, h2, hs]
theorem c2 (G : GCtx) (ns : List Int) (s0 : D) : denS G (.asg (.n 2) (.lst .nil)) [some (.scr ns), some s0, none, none, none, none, none, none, none, none, none, none, none, none, none] = some (.ok .nx [some (.scr ns), some s0, some (.lst []), none, none, none, none, none, none, none, none, none, none, none, none]) := by
  simp [bindT, denS, denE, denEs]
theorem c3 : b_law.body = .cons (.asg (.n 1) (.call 2 (.cons (.v 0) .nil))) (.cons (.asg (.n 2) (.lst .nil)) (.cons b_law_l3 (.cons b_law_l2 (.cons (.ret (.c (.bl true))) .nil)))) := rfl
theorem c5 (G : GCtx) (f : FD) (ds : List D) (d : D) (δ' : Ev) (hm : f.mask = [false]) (h : denSs G f.body (ds.map some ++ List.replicate f.loc none) = some (.ok (.rt d none) δ')) : runF G f ds = some (.ok d []) := by
  unfold runF
  rw [h, hm]
  rfl
theorem c4 (G : GCtx) (ns : List Int) (s0 s1 : D) (fs : List D) (e3 e5 e6 e7 e8 e9 e10 : Option D) (δ' : Ev) (h2 : G.mu 2 = [false]) (hs : G.fn 2 [.scr ns] = some (.ok s0 [])) (t : denS G b_law_l3 [some (.scr ns), some s0, some (.lst []), none, none, none, none, none, none, none, none, none, none, none, none] = some (.ok .nx [some (.scr ns), some s1, some (.lst fs), e3, none, e5, e6, e7, e8, e9, e10, none, none, none, none]))
    (t2 : denS G b_law_l2 [some (.scr ns), some s1, some (.lst fs), e3, none, e5, e6, e7, e8, e9, e10, none, none, none, none] = some (.ok .nx δ')) : denSs G b_law.body [some (.scr ns), none, none, none, none, none, none, none, none, none, none, none, none, none, none] = some (.ok (.rt (.t (.bl true)) none) δ') := by
  rw [c3]
  exact cons_nx (c1 G ns s0 h2 hs) (cons_nx (c2 G ns s0) (cons_nx t (cons_nx t2 (by simp [denSs, denS, denE]))))
theorem lawrun (G : GCtx) (ns : List Int) (s0 s1 : D) (fs : List D) (e3 e5 e6 e7 e8 e9 e10 : Option D) (δ' : Ev) (h2 : G.mu 2 = [false]) (hs : G.fn 2 [.scr ns] = some (.ok s0 [])) (t : denS G b_law_l3 [some (.scr ns), some s0, some (.lst []), none, none, none, none, none, none, none, none, none, none, none, none] = some (.ok .nx [some (.scr ns), some s1, some (.lst fs), e3, none, e5, e6, e7, e8, e9, e10, none, none, none, none]))
    (t2 : denS G b_law_l2 [some (.scr ns), some s1, some (.lst fs), e3, none, e5, e6, e7, e8, e9, e10, none, none, none, none] = some (.ok .nx δ')) : runF G b_law [.scr ns] = some (.ok (.t (.bl true)) []) :=
  c5 G b_law [.scr ns] _ δ' rfl (c4 G ns s0 s1 fs e3 e5 e6 e7 e8 e9 e10 δ' h2 hs t t2)
theorem plainJ (j : Nat) (ns : List Int) : fnK ks fds (j + 4) 9 [.scr ns] = some (.ok (.t (.bl true)) []) := by
  obtain ⟨s', n, fs, e3, e5, e6, e7, e8, e9, e10, t, r1, r2, r3, r4, r5⟩ := loop3 (j := j) (s := St ns 0 0 0) (e0 := some (.scr ns)) ⟨ns, 0, 0, rfl⟩
  obtain ⟨δ', t2⟩ := loop2 (j := j) (e0 := some (.scr ns)) (e3 := e3) (e5 := e5) (e6 := e6) (e7 := e7) (e8 := e8) (e9 := e9) (e10 := e10) r1 ⟨r2, r3⟩ r4 r5
  rw [shw]
  exact lawrun _ ns _ _ _ _ _ _ _ _ _ _ _ (mu2 _) (hs0 j ns) t t2
theorem plain (ns : List Int) (hl : ns.length ≤ 63) (hb : ∀ z ∈ ns, Builtin.Int.intBits z ≤ 1048576) : fnK ks fds 40 9 [.scr ns] = some (.ok (.t (.bl true)) []) := by
  have h := plainJ 36 ns
  rw [show 36 + 4 = 40 from rfl] at h
  exact h
end DV.K02


set_option Elab.async false
set_option linter.all false
set_option maxRecDepth 100000
set_option maxHeartbeats 4000000
/-! k02: the facts of the text, the end (printed by prn.py). -/
namespace DV.K02
open PySem L2 DV
def top (i : Nat) : Stmt := PySem.Challenge.pw_leastwait_k02_fraction_and_compare_fract.main.body.getD i (.Pass ⟨0, 0, 0, 0⟩)
abbrev s0 : Stmt := top 2
theorem sc0 : FnScope ["p", "q", "factor"] ["p", "q"] (defScope s0) := ⟨rfl, rfl, rfl, by decide +kernel, rfl, by decide +kernel, by decide +kernel⟩
theorem ck0 : chkSs tb b_fraction.body ⟨["p", "q", "factor"], defScope s0, fun _ => true⟩ (defBody s0) = true := by decide +kernel
theorem bd0 {K : PySem.W.Frag} {a : Addr} {fd : FuncData} (F : L2.Fun K "fraction" "fraction" s0 a fd) : Binds K fd ["p", "q"] [] := F.binds (ps := ["p", "q"]) fun _ _ _ _ _ _ us hl => match us, hl with | [_, _], _ => rfl
theorem fs0 {K : PySem.W.Frag} {mg : Str → Option Value} {a : Addr} {fd : FuncData} (h : mg "fraction" = some (.ref a)) (F : L2.Fun K "fraction" "fraction" s0 a fd) : FS tb fds K mg 0 "fraction" 2 :=
  ⟨a, fd, ["p", "q"], ["p", "q", "factor"], s0, "fraction", b_fraction, h, F, bd0 F, rfl, rfl, rfl, sc0, rfl, ck0, by decide +kernel⟩
abbrev s1 : Stmt := top 3
theorem sc1 : FnScope ["f", "g", "left", "right"] ["f", "g"] (defScope s1) := ⟨rfl, rfl, rfl, by decide +kernel, rfl, by decide +kernel, by decide +kernel⟩
theorem ck1 : chkSs tb b_compare_fractions.body ⟨["f", "g", "left", "right"], defScope s1, fun _ => true⟩ (defBody s1) = true := by decide +kernel
theorem bd1 {K : PySem.W.Frag} {a : Addr} {fd : FuncData} (F : L2.Fun K "compare_fractions" "compare_fractions" s1 a fd) : Binds K fd ["f", "g"] [] := F.binds (ps := ["f", "g"]) fun _ _ _ _ _ _ us hl => match us, hl with | [_, _], _ => rfl
theorem fs1 {K : PySem.W.Frag} {mg : Str → Option Value} {a : Addr} {fd : FuncData} (h : mg "compare_fractions" = some (.ref a)) (F : L2.Fun K "compare_fractions" "compare_fractions" s1 a fd) : FS tb fds K mg 1 "compare_fractions" 2 :=
  ⟨a, fd, ["f", "g"], ["f", "g", "left", "right"], s1, "compare_fractions", b_compare_fractions, h, F, bd1 F, rfl, rfl, rfl, sc1, rfl, ck1, by decide +kernel⟩
abbrev s2 : Stmt := top 5
theorem sc2 : FnScope ["script"] ["script"] (defScope s2) := ⟨rfl, rfl, rfl, by decide +kernel, rfl, by decide +kernel, by decide +kernel⟩
theorem ck2 : chkSs tb b_law_start.body ⟨["script"], defScope s2, fun _ => true⟩ (defBody s2) = true := by decide +kernel
theorem bd2 {K : PySem.W.Frag} {a : Addr} {fd : FuncData} (F : L2.Fun K "_law_start" "_law_start" s2 a fd) : Binds K fd ["script"] [] := F.binds (ps := ["script"]) fun _ _ _ _ _ _ us hl => match us, hl with | [_], _ => rfl
theorem fs2 {K : PySem.W.Frag} {mg : Str → Option Value} {a : Addr} {fd : FuncData} (h : mg "_law_start" = some (.ref a)) (F : L2.Fun K "_law_start" "_law_start" s2 a fd) : FS tb fds K mg 2 "_law_start" 1 :=
  ⟨a, fd, ["script"], ["script"], s2, "_law_start", b_law_start, h, F, bd2 F, rfl, rfl, rfl, sc2, rfl, ck2, by decide +kernel⟩
abbrev s3 : Stmt := top 6
theorem sc3 : FnScope ["state", "most", "cell", "mixed", "found"] ["state", "most"] (defScope s3) := ⟨rfl, rfl, rfl, by decide +kernel, rfl, by decide +kernel, by decide +kernel⟩
theorem ck3 : chkSs tb b_law_draw.body ⟨["state", "most", "cell", "mixed", "found"], defScope s3, fun _ => true⟩ (defBody s3) = true := by decide +kernel
theorem bd3 {K : PySem.W.Frag} {a : Addr} {fd : FuncData} (F : L2.Fun K "_law_draw" "_law_draw" s3 a fd) : Binds K fd ["state", "most"] [] := F.binds (ps := ["state", "most"]) fun _ _ _ _ _ _ us hl => match us, hl with | [_, _], _ => rfl
theorem fs3 {K : PySem.W.Frag} {mg : Str → Option Value} {a : Addr} {fd : FuncData} (h : mg "_law_draw" = some (.ref a)) (F : L2.Fun K "_law_draw" "_law_draw" s3 a fd) : FS tb fds K mg 3 "_law_draw" 2 :=
  ⟨a, fd, ["state", "most"], ["state", "most", "cell", "mixed", "found"], s3, "_law_draw", b_law_draw, h, F, bd3 F, rfl, rfl, rfl, sc3, rfl, ck3, by decide +kernel⟩
abbrev s4 : Stmt := top 7
theorem sc4 : FnScope ["x"] ["x"] (defScope s4) := ⟨rfl, rfl, rfl, by decide +kernel, rfl, by decide +kernel, by decide +kernel⟩
theorem ck4 : chkSs tb b_law_is_int.body ⟨["x"], defScope s4, fun _ => true⟩ (defBody s4) = true := by decide +kernel
theorem bd4 {K : PySem.W.Frag} {a : Addr} {fd : FuncData} (F : L2.Fun K "_law_is_int" "_law_is_int" s4 a fd) : Binds K fd ["x"] [] := F.binds (ps := ["x"]) fun _ _ _ _ _ _ us hl => match us, hl with | [_], _ => rfl
theorem fs4 {K : PySem.W.Frag} {mg : Str → Option Value} {a : Addr} {fd : FuncData} (h : mg "_law_is_int" = some (.ref a)) (F : L2.Fun K "_law_is_int" "_law_is_int" s4 a fd) : FS tb fds K mg 4 "_law_is_int" 1 :=
  ⟨a, fd, ["x"], ["x"], s4, "_law_is_int", b_law_is_int, h, F, bd4 F, rfl, rfl, rfl, sc4, rfl, ck4, by decide +kernel⟩
abbrev s5 : Stmt := top 8
theorem sc5 : FnScope ["state", "pick", "number"] ["state"] (defScope s5) := ⟨rfl, rfl, rfl, by decide +kernel, rfl, by decide +kernel, by decide +kernel⟩
theorem ck5 : chkSs tb b_law_number.body ⟨["state", "pick", "number"], defScope s5, fun _ => true⟩ (defBody s5) = true := by decide +kernel
theorem bd5 {K : PySem.W.Frag} {a : Addr} {fd : FuncData} (F : L2.Fun K "_law_number" "_law_number" s5 a fd) : Binds K fd ["state"] [] := F.binds (ps := ["state"]) fun _ _ _ _ _ _ us hl => match us, hl with | [_], _ => rfl
theorem fs5 {K : PySem.W.Frag} {mg : Str → Option Value} {a : Addr} {fd : FuncData} (h : mg "_law_number" = some (.ref a)) (F : L2.Fun K "_law_number" "_law_number" s5 a fd) : FS tb fds K mg 5 "_law_number" 1 :=
  ⟨a, fd, ["state"], ["state", "pick", "number"], s5, "_law_number", b_law_number, h, F, bd5 F, rfl, rfl, rfl, sc5, rfl, ck5, by decide +kernel⟩
abbrev s6 : Stmt := top 9
theorem sc6 : FnScope ["p", "q", "turn"] ["p", "q"] (defScope s6) := ⟨rfl, rfl, rfl, by decide +kernel, rfl, by decide +kernel, by decide +kernel⟩
theorem ck6 : chkSs tb b_law_divisor.body ⟨["p", "q", "turn"], defScope s6, fun _ => true⟩ (defBody s6) = true := by decide +kernel
theorem bd6 {K : PySem.W.Frag} {a : Addr} {fd : FuncData} (F : L2.Fun K "_law_divisor" "_law_divisor" s6 a fd) : Binds K fd ["p", "q"] [] := F.binds (ps := ["p", "q"]) fun _ _ _ _ _ _ us hl => match us, hl with | [_, _], _ => rfl
theorem fs6 {K : PySem.W.Frag} {mg : Str → Option Value} {a : Addr} {fd : FuncData} (h : mg "_law_divisor" = some (.ref a)) (F : L2.Fun K "_law_divisor" "_law_divisor" s6 a fd) : FS tb fds K mg 6 "_law_divisor" 2 :=
  ⟨a, fd, ["p", "q"], ["p", "q", "turn"], s6, "_law_divisor", b_law_divisor, h, F, bd6 F, rfl, rfl, rfl, sc6, rfl, ck6, by decide +kernel⟩
abbrev s7 : Stmt := top 10
theorem sc7 : FnScope ["told", "p", "q"] ["told", "p", "q"] (defScope s7) := ⟨rfl, rfl, rfl, by decide +kernel, rfl, by decide +kernel, by decide +kernel⟩
theorem ck7 : chkSs tb b_law_is_fraction.body ⟨["told", "p", "q"], defScope s7, fun _ => true⟩ (defBody s7) = true := by decide +kernel
theorem bd7 {K : PySem.W.Frag} {a : Addr} {fd : FuncData} (F : L2.Fun K "_law_is_fraction" "_law_is_fraction" s7 a fd) : Binds K fd ["told", "p", "q"] [] := F.binds (ps := ["told", "p", "q"]) fun _ _ _ _ _ _ us hl => match us, hl with | [_, _, _], _ => rfl
theorem fs7 {K : PySem.W.Frag} {mg : Str → Option Value} {a : Addr} {fd : FuncData} (h : mg "_law_is_fraction" = some (.ref a)) (F : L2.Fun K "_law_is_fraction" "_law_is_fraction" s7 a fd) : FS tb fds K mg 7 "_law_is_fraction" 3 :=
  ⟨a, fd, ["told", "p", "q"], ["told", "p", "q"], s7, "_law_is_fraction", b_law_is_fraction, h, F, bd7 F, rfl, rfl, rfl, sc7, rfl, ck7, by decide +kernel⟩
abbrev s8 : Stmt := top 11
theorem sc8 : FnScope ["f", "g", "left", "right"] ["f", "g"] (defScope s8) := ⟨rfl, rfl, rfl, by decide +kernel, rfl, by decide +kernel, by decide +kernel⟩
theorem ck8 : chkSs tb b_law_order.body ⟨["f", "g", "left", "right"], defScope s8, fun _ => true⟩ (defBody s8) = true := by decide +kernel
theorem bd8 {K : PySem.W.Frag} {a : Addr} {fd : FuncData} (F : L2.Fun K "_law_order" "_law_order" s8 a fd) : Binds K fd ["f", "g"] [] := F.binds (ps := ["f", "g"]) fun _ _ _ _ _ _ us hl => match us, hl with | [_, _], _ => rfl
theorem fs8 {K : PySem.W.Frag} {mg : Str → Option Value} {a : Addr} {fd : FuncData} (h : mg "_law_order" = some (.ref a)) (F : L2.Fun K "_law_order" "_law_order" s8 a fd) : FS tb fds K mg 8 "_law_order" 2 :=
  ⟨a, fd, ["f", "g"], ["f", "g", "left", "right"], s8, "_law_order", b_law_order, h, F, bd8 F, rfl, rfl, rfl, sc8, rfl, ck8, by decide +kernel⟩
abbrev s9 : Stmt := top 12
theorem sc9 : FnScope ["script", "state", "found", "turn", "k", "p", "q", "factor", "one", "same", "near", "other", "f", "g", "told"] ["script"] (defScope s9) := ⟨rfl, rfl, rfl, by decide +kernel, rfl, by decide +kernel, by decide +kernel⟩
theorem ck9 : chkSs tb b_law.body ⟨["script", "state", "found", "turn", "k", "p", "q", "factor", "one", "same", "near", "other", "f", "g", "told"], defScope s9, fun _ => true⟩ (defBody s9) = true := by decide +kernel
theorem bd9 {K : PySem.W.Frag} {a : Addr} {fd : FuncData} (F : L2.Fun K "law" "law" s9 a fd) : Binds K fd ["script"] [] := F.binds (ps := ["script"]) fun _ _ _ _ _ _ us hl => match us, hl with | [_], _ => rfl
theorem fs9 {K : PySem.W.Frag} {mg : Str → Option Value} {a : Addr} {fd : FuncData} (h : mg "law" = some (.ref a)) (F : L2.Fun K "law" "law" s9 a fd) : FS tb fds K mg 9 "law" 1 :=
  ⟨a, fd, ["script"], ["script", "state", "found", "turn", "k", "p", "q", "factor", "one", "same", "near", "other", "f", "g", "told"], s9, "law", b_law, h, F, bd9 F, rfl, rfl, rfl, sc9, rfl, ck9, by decide +kernel⟩
theorem all_mk {l : PySem.W.OpenLaw} {w : World} {K : PySem.W.Frag} {mg : Str → Option Value} {h : Heap} {fa : Addr} (X : K.In h) (G : h.Ns mainGlobals mg) (hfa : mg "law" = some (.ref fa))
    {f0 : Addr} {od0 an0 : Option Addr} {sl0 : Array (Option Value)} {oc0 kV0 dc0 pm0 cd0 ct0 : Value}
    {f1 : Addr} {od1 an1 : Option Addr} {sl1 : Array (Option Value)} {oc1 kV1 dc1 pm1 cd1 ct1 : Value}
    {f2 : Addr} {od2 an2 : Option Addr} {sl2 : Array (Option Value)} {oc2 kV2 dc2 pm2 cd2 ct2 : Value}
    {f3 : Addr} {od3 an3 : Option Addr} {sl3 : Array (Option Value)} {oc3 kV3 dc3 pm3 cd3 ct3 : Value}
    {f4 : Addr} {od4 an4 : Option Addr} {sl4 : Array (Option Value)} {oc4 kV4 dc4 pm4 cd4 ct4 : Value}
    {f5 : Addr} {od5 an5 : Option Addr} {sl5 : Array (Option Value)} {oc5 kV5 dc5 pm5 cd5 ct5 : Value}
    {f6 : Addr} {od6 an6 : Option Addr} {sl6 : Array (Option Value)} {oc6 kV6 dc6 pm6 cd6 ct6 : Value}
    {f7 : Addr} {od7 an7 : Option Addr} {sl7 : Array (Option Value)} {oc7 kV7 dc7 pm7 cd7 ct7 : Value}
    {f8 : Addr} {od8 an8 : Option Addr} {sl8 : Array (Option Value)} {oc8 kV8 dc8 pm8 cd8 ct8 : Value}
    {f9 : Addr} {od9 an9 : Option Addr} {sl9 : Array (Option Value)} {oc9 kV9 dc9 pm9 cd9 ct9 : Value}
    (a0 : PySem.W.nsIn K mainGlobals "fraction" = some (some (.ref f0))) (l0 : K.lookup f0 = some ⟨oc0, od0, .func (PySem.W.fnOf "fraction" "fraction" (defArgs s0) (defBody s0) (defScope s0) .none kV0 dc0 pm0 an0 cd0 ct0), sl0⟩) (c0 : PySem.W.codeIn K cd0 "fraction" = true) (k0 : PySem.W.keepIn K (.ref f0) = true)
    (a1 : PySem.W.nsIn K mainGlobals "compare_fractions" = some (some (.ref f1))) (l1 : K.lookup f1 = some ⟨oc1, od1, .func (PySem.W.fnOf "compare_fractions" "compare_fractions" (defArgs s1) (defBody s1) (defScope s1) .none kV1 dc1 pm1 an1 cd1 ct1), sl1⟩) (c1 : PySem.W.codeIn K cd1 "compare_fractions" = true) (k1 : PySem.W.keepIn K (.ref f1) = true)
    (a2 : PySem.W.nsIn K mainGlobals "_law_start" = some (some (.ref f2))) (l2 : K.lookup f2 = some ⟨oc2, od2, .func (PySem.W.fnOf "_law_start" "_law_start" (defArgs s2) (defBody s2) (defScope s2) .none kV2 dc2 pm2 an2 cd2 ct2), sl2⟩) (c2 : PySem.W.codeIn K cd2 "_law_start" = true) (k2 : PySem.W.keepIn K (.ref f2) = true)
    (a3 : PySem.W.nsIn K mainGlobals "_law_draw" = some (some (.ref f3))) (l3 : K.lookup f3 = some ⟨oc3, od3, .func (PySem.W.fnOf "_law_draw" "_law_draw" (defArgs s3) (defBody s3) (defScope s3) .none kV3 dc3 pm3 an3 cd3 ct3), sl3⟩) (c3 : PySem.W.codeIn K cd3 "_law_draw" = true) (k3 : PySem.W.keepIn K (.ref f3) = true)
    (a4 : PySem.W.nsIn K mainGlobals "_law_is_int" = some (some (.ref f4))) (l4 : K.lookup f4 = some ⟨oc4, od4, .func (PySem.W.fnOf "_law_is_int" "_law_is_int" (defArgs s4) (defBody s4) (defScope s4) .none kV4 dc4 pm4 an4 cd4 ct4), sl4⟩) (c4 : PySem.W.codeIn K cd4 "_law_is_int" = true) (k4 : PySem.W.keepIn K (.ref f4) = true)
    (a5 : PySem.W.nsIn K mainGlobals "_law_number" = some (some (.ref f5))) (l5 : K.lookup f5 = some ⟨oc5, od5, .func (PySem.W.fnOf "_law_number" "_law_number" (defArgs s5) (defBody s5) (defScope s5) .none kV5 dc5 pm5 an5 cd5 ct5), sl5⟩) (c5 : PySem.W.codeIn K cd5 "_law_number" = true) (k5 : PySem.W.keepIn K (.ref f5) = true)
    (a6 : PySem.W.nsIn K mainGlobals "_law_divisor" = some (some (.ref f6))) (l6 : K.lookup f6 = some ⟨oc6, od6, .func (PySem.W.fnOf "_law_divisor" "_law_divisor" (defArgs s6) (defBody s6) (defScope s6) .none kV6 dc6 pm6 an6 cd6 ct6), sl6⟩) (c6 : PySem.W.codeIn K cd6 "_law_divisor" = true) (k6 : PySem.W.keepIn K (.ref f6) = true)
    (a7 : PySem.W.nsIn K mainGlobals "_law_is_fraction" = some (some (.ref f7))) (l7 : K.lookup f7 = some ⟨oc7, od7, .func (PySem.W.fnOf "_law_is_fraction" "_law_is_fraction" (defArgs s7) (defBody s7) (defScope s7) .none kV7 dc7 pm7 an7 cd7 ct7), sl7⟩) (c7 : PySem.W.codeIn K cd7 "_law_is_fraction" = true) (k7 : PySem.W.keepIn K (.ref f7) = true)
    (a8 : PySem.W.nsIn K mainGlobals "_law_order" = some (some (.ref f8))) (l8 : K.lookup f8 = some ⟨oc8, od8, .func (PySem.W.fnOf "_law_order" "_law_order" (defArgs s8) (defBody s8) (defScope s8) .none kV8 dc8 pm8 an8 cd8 ct8), sl8⟩) (c8 : PySem.W.codeIn K cd8 "_law_order" = true) (k8 : PySem.W.keepIn K (.ref f8) = true)
    (a9 : PySem.W.nsIn K mainGlobals "law" = some (some (.ref f9))) (l9 : K.lookup f9 = some ⟨oc9, od9, .func (PySem.W.fnOf "law" "law" (defArgs s9) (defBody s9) (defScope s9) .none kV9 dc9 pm9 an9 cd9 ct9), sl9⟩) (c9 : PySem.W.codeIn K cd9 "law" = true) (k9 : PySem.W.keepIn K (.ref f9) = true)
    (z0 : PySem.W.nsIn K mainGlobals "abs" = some none)
    (z1 : PySem.W.nsIn K mainGlobals "bool" = some none)
    (z2 : PySem.W.nsIn K mainGlobals "int" = some none)
    (z3 : PySem.W.nsIn K mainGlobals "isinstance" = some none)
    (z4 : PySem.W.nsIn K mainGlobals "len" = some none)
    (z5 : PySem.W.nsIn K mainGlobals "list" = some none)
    (z6 : PySem.W.nsIn K mainGlobals "range" = some none)
    (z7 : PySem.W.nsIn K mainGlobals "tuple" = some none)
    (m0 : PySem.W.nsIn K mainGlobals "gcd" = some (some (.builtin "math.gcd")))
    : ∃ fd : FuncData, (∀ (s : Shared) (v : Value), BindsTo s fd ⟨[v], []⟩ [("script", v)]) ∧ ∀ base : Heap, K.In base → base.Ns mainGlobals mg → FnOk l.prog w K mg base (L2.CX l.prog w) 40 fa fd ["script"] (spLawI K) := by
  have e := hfa.symm.trans (PySem.W.mg_of X G a9)
  cases e
  have F0 := fun_mk (st := s0) l0 c0 k0
  have F1 := fun_mk (st := s1) l1 c1 k1
  have F2 := fun_mk (st := s2) l2 c2 k2
  have F3 := fun_mk (st := s3) l3 c3 k3
  have F4 := fun_mk (st := s4) l4 c4 k4
  have F5 := fun_mk (st := s5) l5 c5 k5
  have F6 := fun_mk (st := s6) l6 c6 k6
  have F7 := fun_mk (st := s7) l7 c7 k7
  have F8 := fun_mk (st := s8) l8 c8 k8
  have F9 := fun_mk (st := s9) l9 c9 k9
  refine ⟨PySem.W.fnOf "law" "law" (defArgs s9) (defBody s9) (defScope s9) .none kV9 dc9 pm9 an9 cd9 ct9, fun s v => .of_eq rfl, fun base _ _ => ?_⟩
  have pk : POk tb (GC ks fds 39) EX0 l.prog w K mg base 39 := by
    refine all_ok (fun i x t h1 h2 => ?_) (fun x hx => ?_) (fun x id hx => ?_) (fun f x n hf => ?_) 39
    · cases h2
    · simp only [tb, List.mem_cons, List.not_mem_nil, or_false] at hx
      rcases hx with rfl | rfl | rfl | rfl | rfl | rfl | rfl | rfl
      · exact PySem.W.mg_none_of X G z0
      · exact PySem.W.mg_none_of X G z1
      · exact PySem.W.mg_none_of X G z2
      · exact PySem.W.mg_none_of X G z3
      · exact PySem.W.mg_none_of X G z4
      · exact PySem.W.mg_none_of X G z5
      · exact PySem.W.mg_none_of X G z6
      · exact PySem.W.mg_none_of X G z7
    · simp only [tb, List.mem_cons, List.not_mem_nil, or_false, Prod.mk.injEq] at hx
      rcases hx with ⟨rfl, rfl⟩
      · exact PySem.W.mg_of X G m0
    · match f, hf with
      | 0, hf => cases (show some (("fraction" : Str), 2) = some (x, n) from hf); exact fs0 (PySem.W.mg_of X G a0) F0
      | 1, hf => cases (show some (("compare_fractions" : Str), 2) = some (x, n) from hf); exact fs1 (PySem.W.mg_of X G a1) F1
      | 2, hf => cases (show some (("_law_start" : Str), 1) = some (x, n) from hf); exact fs2 (PySem.W.mg_of X G a2) F2
      | 3, hf => cases (show some (("_law_draw" : Str), 2) = some (x, n) from hf); exact fs3 (PySem.W.mg_of X G a3) F3
      | 4, hf => cases (show some (("_law_is_int" : Str), 1) = some (x, n) from hf); exact fs4 (PySem.W.mg_of X G a4) F4
      | 5, hf => cases (show some (("_law_number" : Str), 1) = some (x, n) from hf); exact fs5 (PySem.W.mg_of X G a5) F5
      | 6, hf => cases (show some (("_law_divisor" : Str), 2) = some (x, n) from hf); exact fs6 (PySem.W.mg_of X G a6) F6
      | 7, hf => cases (show some (("_law_is_fraction" : Str), 3) = some (x, n) from hf); exact fs7 (PySem.W.mg_of X G a7) F7
      | 8, hf => cases (show some (("_law_order" : Str), 2) = some (x, n) from hf); exact fs8 (PySem.W.mg_of X G a8) F8
      | 9, hf => cases (show some (("law" : Str), 1) = some (x, n) from hf); exact fs9 (PySem.W.mg_of X G a9) F9
      | j + 10, hf => exact absurd (show (none : Option (Str × Nat)) = some (x, n) from hf) (by simp)
  exact (fn_ok (fi := 9) pk F9 sc9 rfl rfl rfl ck9 (fun i hi => (List.not_mem_nil hi).elim)).imp (spLaw_imp rfl (fun ns hl hb => plain ns hl hb))
end DV.K02
open PySem PySem.W PyProof.Rows
set_option maxRecDepth 100000 in
set_option maxHeartbeats 0 in
theorem PySem.Challenge.cw_leastwait_k02_fraction_and_compare_fract_holds : PySem.Challenge.rw_leastwait_k02_fraction_and_compare_fract.Holds := by
  w_on; o_law; k_head; (case hw => w_witness2)
  k_fill
  refine DV.walkI (l := PySem.Challenge.rw_leastwait_k02_fraction_and_compare_fract) (k := 40) rfl rfl ⟨rfl, by decide, by decide⟩ (fun w h Y => PySem.W.kIn_of Y) ?F
  case F =>
    intro w mg fa h KX G hmg
    refine' DV.K02.all_mk KX G hmg ?a0 ?l0 ?c0 ?k0 ?a1 ?l1 ?c1 ?k1 ?a2 ?l2 ?c2 ?k2 ?a3 ?l3 ?c3 ?k3 ?a4 ?l4 ?c4 ?k4 ?a5 ?l5 ?c5 ?k5 ?a6 ?l6 ?c6 ?k6 ?a7 ?l7 ?c7 ?k7 ?a8 ?l8 ?c8 ?k8 ?a9 ?l9 ?c9 ?k9 ?z0 ?z1 ?z2 ?z3 ?z4 ?z5 ?z6 ?z7 ?m0
    (case a0 => k_is); (case l0 => k_is); (case c0 => k_is); (case k0 => k_is); (case a1 => k_is); (case l1 => k_is); (case c1 => k_is); (case k1 => k_is); (case a2 => k_is); (case l2 => k_is); (case c2 => k_is); (case k2 => k_is); (case a3 => k_is); (case l3 => k_is); (case c3 => k_is); (case k3 => k_is); (case a4 => k_is); (case l4 => k_is); (case c4 => k_is); (case k4 => k_is); (case a5 => k_is); (case l5 => k_is); (case c5 => k_is); (case k5 => k_is); (case a6 => k_is); (case l6 => k_is); (case c6 => k_is); (case k6 => k_is); (case a7 => k_is); (case l7 => k_is); (case c7 => k_is); (case k7 => k_is); (case a8 => k_is); (case l8 => k_is); (case c8 => k_is); (case k8 => k_is); (case a9 => k_is); (case l9 => k_is); (case c9 => k_is); (case k9 => k_is); (case z0 => k_is); (case z1 => k_is); (case z2 => k_is); (case z3 => k_is); (case z4 => k_is); (case z5 => k_is); (case z6 => k_is); (case z7 => k_is); (case m0 => k_is)

