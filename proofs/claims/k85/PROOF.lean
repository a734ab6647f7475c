import PyProof.Rows.All
import Wide.All
import OpenK.AllK
import Wide.FinOn
import HandS.ForMost
import HandS.Walk
import HandS.Wide
import HandS.IsInst
import HandS.FStr
import HandS.Defaults
import HandS.TupAny
import HandS.Deep
import KE.KIntText
import PyProof.Rows.StrOr
import PyProof.Rows.Digits
import HandS.HeadEnd
import HandS.Head0
import HandS.Head1
import HandS.Head2
import HandS.Head3
import HandS.HeadHook1
import HandS.HeadHook2
import PySem.Challenge.RW_steadyhands_k85_machines_and_plays_as_te
set_option Elab.async false
set_option linter.all false
set_option maxRecDepth 100000
/-! Ir1: data, stores, a small language of expressions and statements (the intermediate form of the program's defs), and what it computes. -/
namespace Ir
open PySem L2

/-! ### data -/
inductive D where
  | non | bl (b : Bool) | int (i : Int) | str (s : Str) | ty (n : String)
  | tup (xs : List D)
deriving Inhabited
mutual
def D.beq : D → D → Bool
  | .non, .non => true
  | .bl a, .bl b => a == b
  | .int a, .int b => decide (a = b)
  | .str a, .str b => decide (a = b)
  | .ty a, .ty b => decide (a = b)
  | .tup xs, .tup ys => D.beqs xs ys
  | _, _ => false
termination_by structural x => x
def D.beqs : List D → List D → Bool
  | [], [] => true
  | x :: xs, y :: ys => D.beq x y && D.beqs xs ys
  | _, _ => false
termination_by structural x => x
end
mutual
theorem D.beq_iff : ∀ a b : D, D.beq a b = true ↔ a = b := by
  intro a b
  cases a <;> cases b <;> simp [D.beq]
  exact D.beqs_iff _ _
termination_by structural a => a
theorem D.beqs_iff : ∀ a b : List D, D.beqs a b = true ↔ a = b := by
  intro a b
  match a, b with
  | [], [] => simp [D.beqs]
  | x :: xs, y :: ys => simp [D.beqs, D.beq_iff x y, D.beqs_iff xs ys]
  | [], _ :: _ => simp [D.beqs]
  | _ :: _, [] => simp [D.beqs]
termination_by structural a => a
end
instance : DecidableEq D := fun a b => if h : D.beq a b = true then isTrue ((D.beq_iff a b).1 h) else isFalse fun e => h ((D.beq_iff a b).2 e)

/-- a value: data, a list or dict of the store, a tuple that holds such -/
inductive U where
  | d (x : D) | ref (n : Nat) | mix (us : List U)
/-- what stands in the store -/
inductive Ob where
  | lst (xs : List D) | rd (xs : List D)
deriving DecidableEq
def Ob.mut : Ob → Bool
  | .lst _ => true
  | .rd _ => false
abbrev Store := List Ob
abbrev Env := List (Option U)
/-- an expression's value: a value, or a new list that has no place in the store yet -/
inductive R where
  | u (x : U) | tmp (xs : List D)

mutual
/-- no reference from n on -/
def U.low (n : Nat) : U → Bool
  | .d _ => true
  | .ref m => decide (m < n)
  | .mix us => U.lows n us
termination_by structural x => x
def U.lows (n : Nat) : List U → Bool
  | [] => true
  | u :: us => U.low n u && U.lows n us
termination_by structural x => x
end
def R.low (n : Nat) : R → Bool
  | .u x => x.low n
  | .tmp _ => true

/-- the data of values, where all are data -/
def allD : List U → Option (List D)
  | [] => some []
  | .d x :: us => (allD us).map (x :: ·)
  | _ :: _ => none
def mkTup (us : List U) : U := match allD us with
  | some ds => .d (.tup ds)
  | none => .mix us
/-- a place for a new list -/
def force (r : R) (S : Store) : U × Store := match r with
  | .u x => (x, S)
  | .tmp xs => (.ref S.length, S ++ [.lst xs])
/-- what stands from n on goes, but what the value needs -/
def gcU (n : Nat) (u : U) (S : Store) : Option (U × Store) := match u with
  | .d x => some (.d x, S.take n)
  | .ref m => if m < n then some (.ref m, S.take n) else
      (match S[m]? with
        | some ob => some (.ref n, S.take n ++ [ob])
        | none => none)
  | .mix us => some (.mix us, S)
def gcR (n : Nat) (r : R) (S : Store) : Option (R × Store) := match r with
  | .u x => (gcU n x S).map fun p => (.u p.1, p.2)
  | .tmp xs => some (.tmp xs, S.take n)
/-- the items of a list, a tuple -/
def seqR (r : R) (S : Store) : Option (List D) := match r with
  | .tmp xs => some xs
  | .u (.d (.tup xs)) => some xs
  | .u (.ref n) => (match S[n]? with
      | some (.lst xs) => some xs
      | some (.rd xs) => some xs
      | none => none)
  | _ => none

/-- the items of a list -/
def lstR (r : R) (S : Store) : Option (List D) := match r with
  | .tmp xs => some xs
  | .u (.ref n) => (match S[n]? with
      | some (.lst xs) => some xs
      | some (.rd xs) => some xs
      | none => none)
  | _ => none

/-! ### the language -/
inductive Bop where | add | sub | mul | fdiv | mod | pow
deriving DecidableEq
inductive Cop where | eq | ne | lt | le | gt | ge | is_ | isnot | in_ | notin
deriving DecidableEq
/-- built-in functions -/
inductive Bi where | len | int | str | abs | max | min | tuple | list | all | any | sum | isin
deriving DecidableEq
/-- methods -/
inductive Me where | append | join | split | partition
deriving DecidableEq
inductive Arg where | a (n : Nat) | c (x : D)
mutual
inductive Tg where
  | n (i : Nat) | t (ts : Tgs)
inductive Tgs where
  | nil | cons (t : Tg) (ts : Tgs)
end
mutual
inductive E where
  | lit (x : D)
  | var (i : Nat)
  | tup (es : Es)
  | lst (es : Es)
  | bin (op : Bop) (a b : E)
  | neg (a : E)
  | cmp (op : Cop) (a b : E)
  | chain (o1 o2 : Cop) (a b c : E)
  | band (a b : E)
  | bor (a b : E)
  | bnot (a : E)
  | ite (t : T) (a b : E)
  | idx (a i : E)
  | sl (a : E) (lo hi : Oe)
  | call (f : Nat) (arr : List Arg) (es : Es)
  | bi (b : Bi) (es : Es)
  | me (m : Me) (o : E) (es : Es)
  | comp (own : List Nat) (tg : Tg) (it : It) (c : Ot) (e : E)
  | fs (es : Es)
inductive Es where
  | nil | cons (e : E) (es : Es)
inductive Oe where
  | none | some (e : E)
inductive Ot where
  | none | some (t : T)
inductive T where
  | v (e : E) | tr (e : E) | and (a b : T) | or (a b : T) | not (a : T)
inductive It where
  | rng1 (a : E) | rng2 (a b : E) | seq (e : E)
end
mutual
inductive St where
  | asg (t : Tg) (e : E)
  | par (i j : Nat) (a b : E)
  | aug (i : Nat) (op : Bop) (e : E)
  | setix (o i e : E)
  | expr (e : E)
  | ite (t : T) (a b : Ss)
  | for_ (tg : Tg) (it : It) (b : Ss) (kill : List Nat)
  | while_ (fuel : Nat) (t : T) (b : Ss) (kill : List Nat)
  | ret (e : E)
  | pass | brk | ct | never
inductive Ss where
  | nil | cons (s : St) (ss : Ss)
end

/-! ### operations on data -/
abbrev lim : Nat := 16777216
def mulOk (i j : Int) : Bool := decide (i.natAbs.log2 + j.natAbs.log2 < 1000000) || (decide (-(2 ^ 64) < i ∧ i < 2 ^ 64) || decide (-(2 ^ 64) < j ∧ j < 2 ^ 64))
/-- a text n times -/
def strRep (x : Str) (n : Nat) : Str := ⟨((List.replicate n x.cps.toList).flatten).toArray⟩
def bopD : Bop → D → D → Option D
  | .add, .int a, .int b => some (.int (a + b))
  | .add, .str a, .str b => if a.length + b.length ≤ lim then some (.str (a ++ b)) else none
  | .add, .tup a, .tup b => if a.length + b.length ≤ lim then some (.tup (a ++ b)) else none
  | .sub, .int a, .int b => some (.int (a - b))
  | .mul, .int a, .int b => if mulOk a b = true then some (.int (a * b)) else none
  | .mul, .str x, .int n => if 1 ≤ n ∧ n ≤ 1000000 ∧ x.length * n.toNat ≤ lim then some (.str (strRep x n.toNat)) else none
  | .fdiv, .int a, .int b => if 0 < b ∧ b.natAbs.log2 < 9000 then some (.int (a / b)) else if b ≠ 0 ∧ b.natAbs < 1073741824 then some (.int (a.fdiv b)) else none
  | .mod, .int a, .int b => if 0 < b then some (.int (a % b)) else none
  | .pow, .int a, .int b => if 0 ≤ b ∧ b ≤ 1000000 ∧ a.natAbs < 2 ^ 64 then some (.int (a ^ b.toNat)) else none
  | _, _, _ => none
/-- the in-place forms -/
def augD : Bop → D → D → Option D
  | .add, .int a, .int b => some (.int (a + b))
  | .add, .str a, .str b => if a.length + b.length ≤ lim then some (.str (a ++ b)) else none
  | .sub, .int a, .int b => some (.int (a - b))
  | _, _, _ => none
def bopR (op : Bop) (ra rb : R) (S : Store) : Option R := match ra, rb with
  | .u (.d a), .u (.d b) => (bopD op a b).map fun x => .u (.d x)
  | _, _ => none

mutual
def D.pd : D → PyData
  | .non => .none
  | .bl b => .bool b
  | .int i => .int i
  | .str s => .str s
  | .ty _ => .none
  | .tup xs => .tuple (D.pds xs)
termination_by structural x => x
def D.pds : List D → List PyData
  | [] => []
  | x :: xs => D.pd x :: D.pds xs
termination_by structural x => x
end
mutual
def pyeq : D → D → Bool
  | .non, .non => true
  | .bl a, .bl b => a == b
  | .bl a, .int j => (if a then 1 else 0) == j
  | .int i, .bl b => i == (if b then 1 else 0)
  | .int i, .int j => decide (i = j)
  | .str x, .str y => decide (x = y)
  | .tup xs, .tup ys => pyeqs xs ys
  | _, _ => false
termination_by structural x => x
def pyeqs : List D → List D → Bool
  | [], [] => true
  | x :: xs, y :: ys => pyeq x y && pyeqs xs ys
  | _, _ => false
termination_by structural x => x
end
/-- data that == is told of: at most n deep, the texts' signs in range -/
def okd : Nat → D → Bool
  | _, .non => true
  | _, .bl _ => true
  | _, .int _ => true
  | _, .str s => s.cps.all (· < 0x110000)
  | _, .ty _ => false
  | 0, .tup _ => false
  | n + 1, .tup xs => xs.all (okd n)
/-- scalars that == tells apart as data -/
def scalD : D → D → Bool
  | .non, .non => true | .non, .int _ => true | .int _, .non => true | .non, .bl _ => true | .bl _, .non => true | .non, .str _ => true | .str _, .non => true
  | .int _, .int _ => true | .bl _, .bl _ => true | .str _, .str _ => true
  | .int _, .str _ => true | .str _, .int _ => true | .bl _, .str _ => true | .str _, .bl _ => true
  | _, _ => false
def flatD : D → Bool
  | .non => true | .bl _ => true | .int _ => true | .str _ => true
  | _ => false
/-- a list or not, as a tuple -/
def kindR (r : R) (S : Store) : Option (Bool × D) := match r with
  | .u (.d x) => some (false, x)
  | .u (.ref n) => (match S[n]? with
      | some (.lst xs) => some (true, .tup xs)
      | some (.rd xs) => some (true, .tup xs)
      | none => none)
  | .u (.mix _) => none
  | .tmp xs => some (true, .tup xs)
/-- == -/
def eqOk (a b : D) : Bool := scalD a b || (okd 40 a && okd 40 b)
def eqR (ra rb : R) (S : Store) : Option Bool := (kindR ra S).bind fun a => (kindR rb S).bind fun b =>
  if a.1 = b.1 ∧ eqOk a.2 b.2 = true then some (pyeq a.2 b.2) else none
/-- in -/
def inOk (x : D) (ds : List D) : Bool := (flatD x && ds.all flatD) || (okd 40 x && ds.all (okd 40))
def inR (ra rb : R) (S : Store) : Option Bool := match ra, rb with
  | .u (.d (.str i)), .u (.d (.str j)) => some (!(Builtin.Str.occurrences j i 0 j.length 1).isEmpty)
  | .u (.d x), r => (seqR r S).bind fun ds => if inOk x ds = true then some (ds.any fun y => pyeq y x) else none
  | _, _ => none
def copD : Cop → D → D → Option Bool
  | .lt, .int a, .int b => some (decide (a < b))
  | .le, .int a, .int b => some (decide (a ≤ b))
  | .gt, .int a, .int b => some (decide (b < a))
  | .ge, .int a, .int b => some (decide (b ≤ a))
  | _, _, _ => none
def isNonU : U → Bool
  | .d .non => true
  | _ => false
def isNonR : R → Bool
  | .u x => isNonU x
  | .tmp _ => false
def copR (op : Cop) (ra rb : R) (S : Store) : Option Bool := match op with
  | .eq => eqR ra rb S
  | .ne => (eqR ra rb S).map not
  | .in_ => inR ra rb S
  | .notin => (inR ra rb S).map not
  | .is_ => if isNonR rb = true then some (isNonR ra) else none
  | .isnot => if isNonR rb = true then some (!isNonR ra) else none
  | _ => (match ra, rb with
      | .u (.d a), .u (.d b) => copD op a b
      | _, _ => none)
def blU (b : Bool) : R := .u (.d (.bl b))

/-- a[i] -/
def idxR (ra rb : R) (S : Store) : Option R := match rb with
  | .u (.d (.int i)) => (match ra with
      | .u (.d (.str s)) => if s.length ≤ lim then (atI s.cps.toList i).map fun c => .u (.d (.str ⟨#[c]⟩)) else none
      | .u (.mix us) => (atI us i).map .u
      | _ => (seqR ra S).bind fun ds => (atI ds i).map fun x => .u (.d x))
  | _ => none
/-- a[lo:hi] -/
def cutD {α : Type} (xs : List α) (lo hi : Option Int) : List α := (xs.drop (HT.sIx xs.length 0 lo)).take (HT.sIx xs.length xs.length hi - HT.sIx xs.length 0 lo)
def slR (ra : R) (lo hi : Option Int) (S : Store) : Option R := match ra with
  | .u (.d (.str s)) => if s.length ≤ lim then some (.u (.d (.str (cutS s lo hi)))) else none
  | .u (.d (.tup xs)) => some (.u (.d (.tup (cutD xs lo hi))))
  | r => (lstR r S).map fun xs => .tmp (cutD xs lo hi)

/-! ### built-ins -/
def tyName : D → String
  | .non => "NoneType" | .bl _ => "bool" | .int _ => "int" | .str _ => "str" | .ty _ => "type" | .tup _ => "tuple"
def isiTab (a b : String) : Option Bool :=
  if b = "int" then (if a = "int" ∨ a = "bool" then some true else if a = "NoneType" ∨ a = "str" ∨ a = "tuple" ∨ a = "list" then some false else none)
  else if b = "bool" ∨ b = "str" ∨ b = "tuple" ∨ b = "list" then (if a = b then some true else if a = "NoneType" ∨ a = "bool" ∨ a = "int" ∨ a = "str" ∨ a = "tuple" ∨ a = "list" then some false else none)
  else none
def tyR (r : R) (S : Store) : Option String := match r with
  | .tmp _ => some "list"
  | .u (.d (.ty _)) => none
  | .u (.d x) => some (tyName x)
  | .u (.ref n) => (match S[n]? with
      | some (.lst _) => some "list"
      | _ => none)
  | .u (.mix _) => some "tuple"
def boolsD : List D → Option (List Bool)
  | [] => some []
  | .bl b :: xs => (boolsD xs).map (b :: ·)
  | _ :: _ => none
def intsD : List D → Option (List Int)
  | [] => some []
  | .int b :: xs => (intsD xs).map (b :: ·)
  | _ :: _ => none
def strsD : List D → Option (List Str)
  | [] => some []
  | .str b :: xs => (strsD xs).map (b :: ·)
  | _ :: _ => none
def digOk (i : Int) : Bool := decide (i.natAbs.log2 < 1920) || decide (i.natAbs < 10 ^ 4300)
/-- texts that int reads: short ones, or figures and minus signs within the limit -/
def intLen (s : Str) : Bool := decide (s.length ≤ 640) || (decide (s.length ≤ 4300) && s.cps.toList.all fun c => decide (c = 45 ∨ (48 ≤ c ∧ c ≤ 57)))
def lenR (r : R) (S : Store) : Option Nat := match r with
  | .u (.d (.str s)) => if s.length ≤ lim then some s.length else none
  | .u (.mix us) => some us.length
  | r => (seqR r S).map List.length
def biR (b : Bi) (rs : List R) (S : Store) : Option R := match b, rs with
  | .len, [r] => (lenR r S).map fun (n : Nat) => .u (.d (.int (n : Int)))
  | .int, [.u (.d (.int i))] => some (.u (.d (.int i)))
  | .int, [.u (.d (.bl k))] => some (.u (.d (.int (if k then 1 else 0))))
  | .int, [.u (.d (.str s))] => if intLen s = true then (PySem.intText? s).map fun n => .u (.d (.int n)) else none
  | .str, [.u (.d (.int i))] => if digOk i = true then some (.u (.d (.str (toString i)))) else none
  | .abs, [.u (.d (.int i))] => some (.u (.d (.int (if i < 0 then -i else i))))
  | .max, [.u (.d (.int i)), .u (.d (.int j))] => some (.u (.d (.int (if j > i then j else i))))
  | .min, [.u (.d (.int i)), .u (.d (.int j))] => some (.u (.d (.int (if j < i then j else i))))
  | .tuple, [r] => (seqR r S).map fun ds => .u (.d (.tup ds))
  | .list, [r] => (seqR r S).map fun ds => .tmp ds
  | .all, [r] => (lstR r S).bind fun ds => (boolsD ds).map fun bs => blU (bs.all id)
  | .any, [r] => (lstR r S).bind fun ds => (boolsD ds).map fun bs => blU (bs.any id)
  | .sum, [r] => (lstR r S).bind fun ds => (intsD ds).map fun ns => .u (.d (.int ns.sum))
  | .isin, [r, .u (.d (.ty t))] => (tyR r S).bind fun a => (isiTab a t).map blU
  | _, _ => none
/-- a text's parts, as data -/
def strD (ss : List Str) : List D := ss.map .str
/-- what a method is asked of -/
def mePre (m : Me) (x : U) (S : Store) : Bool := match m, x with
  | .append, .ref n => (match S[n]? with
      | some (.lst _) => true
      | _ => false)
  | .append, _ => false
  | _, .d (.str _) => true
  | _, _ => false
def meR (m : Me) (ro : R) (rs : List R) (S : Store) : Option (R × Store) := match m, ro, rs with
  | .append, .u (.ref n), [.u (.d x)] => (match S[n]? with
      | some (.lst xs) => if xs.length < lim then some (.u (.d .non), S.set n (.lst (xs ++ [x]))) else none
      | _ => none)
  | .join, .u (.d (.str a)), [r] => (seqR r S).bind fun ds => (strsD ds).bind fun ys => if (ys.map (·.length)).sum + ys.length * a.length ≤ lim then some (.u (.d (.str (Txt.join a ys))), S) else none
  | .split, .u (.d (.str a)), [.u (.d (.str b))] => if (b.length == 0) = false ∧ a.length + 2 ≤ lim then some (.tmp (strD (Txt.split a b)), S) else none
  | .partition, .u (.d (.str a)), [.u (.d (.str b))] => if (b.length == 0) = false ∧ a.length ≤ lim then
      some (.u (.d (.tup [.str (Txt.partition a b).1, .str (Txt.partition a b).2.1, .str (Txt.partition a b).2.2])), S) else none
  | _, _, _ => none

/-! ### truth -/
def truD : D → Option Bool
  | .non => some false
  | .bl b => some b
  | .int i => some (i != 0)
  | .str s => if s.length ≤ lim then some ((s.length : Int) != 0) else none
  | .tup xs => some (!xs.isEmpty)
  | .ty _ => none
def truR (r : R) (S : Store) : Option Bool := match r with
  | .u (.d x) => truD x
  | .u (.mix us) => some (!us.isEmpty)
  | r => (seqR r S).map fun xs => !xs.isEmpty

/-! ### targets -/
mutual
def bindT : Tg → U → Env → Option Env
  | .n i, u, ρ => some (ρ.set i (some u))
  | .t ts, .d (.tup ds), ρ => bindTs ts (ds.map .d) ρ
  | .t ts, .mix us, ρ => bindTs ts us ρ
  | .t _, _, _ => none
termination_by structural t => t
def bindTs : Tgs → List U → Env → Option Env
  | .nil, [], ρ => some ρ
  | .cons t ts, u :: us, ρ => (bindT t u ρ).bind fun ρ' => bindTs ts us ρ'
  | _, _, _ => none
termination_by structural t => t
end
def Tgs.len : Tgs → Nat
  | .nil => 0
  | .cons _ ts => ts.len + 1

/-! ### loops -/
/-- where the items come from: the items, the list's place in the store (to be as it was) -/
abbrev Src := List D × Option Nat
def held (h : Option Nat) (ds : List D) (S : Store) : Bool := match h with
  | none => true
  | some n => decide (S[n]? = some (.lst ds))
def wipeE (ρ : Env) : List Nat → Env
  | [] => ρ
  | v :: vs => (wipeE ρ vs).set v none
/-- a comprehension's items, one behind the other; the list that is made stands at place n -/
def compL (turn : D → Store → Option (Option D × Store)) (ok : Store → Bool) (n : Nat) : List D → Store → Option Store
  | [], S => some S
  | x :: xs, S => (turn x S).bind fun p => match p.1 with
      | none => if ok p.2 = true then compL turn ok n xs p.2 else none
      | some y => (match p.2[n]? with
          | some (.lst acc) => if acc.length < lim ∧ ok (p.2.set n (.lst (acc ++ [y]))) = true then compL turn ok n xs (p.2.set n (.lst (acc ++ [y]))) else none
          | _ => none)
inductive Out where | nx | brk | ct | rt (u : U)
def lowO (n : Nat) : Option U → Bool
  | some u => u.low n
  | none => true
/-- at a turn's end: slots that are not needed are forgotten, then what stands from n on, if no slot leads there -/
def tidy (kill : List Nat) (n : Nat) (ρ : Env) (S : Store) : Env × Store :=
  if (wipeE ρ kill).all (lowO n) = true then (wipeE ρ kill, S.take n) else (wipeE ρ kill, S)
def forL (turn : D → Env → Store → Option (Out × Env × Store)) (ok : Store → Bool) (kill : List Nat) (n : Nat) : List D → Env → Store → Option (Out × Env × Store)
  | [], ρ, S => some (.nx, ρ, S)
  | x :: xs, ρ, S => (turn x ρ S).bind fun p => match p.1 with
      | .rt u => some (.rt u, p.2.1, p.2.2)
      | .brk => some (.nx, p.2.1, p.2.2)
      | _ => if ok (tidy kill n p.2.1 p.2.2).2 = true then forL turn ok kill n xs (tidy kill n p.2.1 p.2.2).1 (tidy kill n p.2.1 p.2.2).2 else none
def whileL (test : Env → Store → Option (Bool × Store)) (turn : Env → Store → Option (Out × Env × Store)) (kill : List Nat) (n : Nat) : Nat → Env → Store → Option (Out × Env × Store)
  | 0, _, _ => none
  | k + 1, ρ, S => (test ρ S).bind fun q => if q.1 = true then
      (turn ρ q.2).bind fun p => match p.1 with
        | .rt u => some (.rt u, p.2.1, p.2.2)
        | .brk => some (.nx, p.2.1, p.2.2)
        | _ => whileL test turn kill n k (tidy kill n p.2.1 p.2.2).1 (tidy kill n p.2.1 p.2.2).2
      else some (.nx, ρ, q.2)

/-! ### what an expression, a statement computes -/
abbrev Callee := Nat → List U → Store → Option (U × Store)
/-- two expressions in a row; a new list that the first one gives stands in the store meanwhile -/
def ev2 (m1 m2 : Store → Option (R × Store)) (S : Store) : Option ((R × R) × Store) :=
  (m1 S).bind fun p => match p.1 with
    | .u x => (m2 p.2).map fun q => ((.u x, q.1), q.2)
    | .tmp xs => (m2 (p.2 ++ [.lst xs])).bind fun q =>
        if q.2.length = p.2.length + 1 ∧ q.1.low p.2.length = true then
          (match q.2[p.2.length]? with
            | some (.lst ys) => some ((.tmp ys, q.1), q.2.take p.2.length)
            | _ => none)
        else none
def arrU (arr : List Arg) (us : List U) : Option (List U) := match arr with
  | [] => some []
  | .a n :: r => (us[n]?).bind fun u => (arrU r us).map (u :: ·)
  | .c x :: r => (arrU r us).map (.d x :: ·)
def srcR (r : R) (S : Store) : Option (Src × Store) := match r with
  | .tmp xs => some ((xs, some S.length), S ++ [.lst xs])
  | .u (.d (.tup xs)) => some ((xs, none), S)
  | .u (.d (.str s)) => some ((s.cps.toList.map fun c => .str ⟨#[c]⟩, none), S)
  | .u (.ref n) => (match S[n]? with
      | some (.lst xs) => some ((xs, some n), S)
      | some (.rd xs) => some ((xs, none), S)
      | none => none)
  | _ => none
def inR62 (i : Int) : Bool := decide (-(2 ^ 62) ≤ i ∧ i < 2 ^ 62)
def rngD (lo : Int) (n : Nat) : List D := (List.range n).map fun (i : Nat) => D.int (lo + (i : Int))
/-- the parts of an f-string, one behind the other -/
def fsJoin : List D → Str → Option Str
  | [], acc => some acc
  | .str y :: r, acc => if y.length ≤ lim ∧ (acc ++ y).length ≤ lim then fsJoin r (acc ++ y) else none
  | .int i :: r, acc => if digOk i = true ∧ (acc ++ toString i).length ≤ lim then fsJoin r (acc ++ toString i) else none
  | _ :: _, _ => none
mutual
def evE (C : Callee) : E → Env → Store → Option (R × Store)
  | .lit x, _, S => some (.u (.d x), S)
  | .var i, ρ, S => (match ρ[i]? with
      | some (some u) => some (.u u, S)
      | _ => none)
  | .tup es, ρ, S => (evEs C es ρ S).map fun p => (.u (mkTup p.1), p.2)
  | .lst es, ρ, S => (evEs C es ρ S).bind fun p => (allD p.1).map fun ds => (.tmp ds, p.2)
  | .bin op a b, ρ, S => (ev2 (evE C a ρ) (evE C b ρ) S).bind fun p => (bopR op p.1.1 p.1.2 p.2).map fun r => (r, p.2)
  | .neg a, ρ, S => (evE C a ρ S).bind fun p => (match p.1 with
      | .u (.d (.int i)) => some (.u (.d (.int (-i))), p.2)
      | _ => none)
  | .cmp op a b, ρ, S => (ev2 (evE C a ρ) (evE C b ρ) S).bind fun p => (copR op p.1.1 p.1.2 p.2).map fun k => (blU k, p.2)
  | .chain o1 o2 a b c, ρ, S => (evE C a ρ S).bind fun p => (evE C b ρ p.2).bind fun q => (match p.1, q.1 with
      | .u (.d x), .u (.d y) => (copD o1 x y).bind fun k => if k = true then (evE C c ρ q.2).bind fun r => (match r.1 with
          | .u (.d z) => (copD o2 y z).map fun k2 => (blU k2, r.2)
          | _ => none) else some (blU false, q.2)
      | _, _ => none)
  | .band a b, ρ, S => (evE C a ρ S).bind fun p => (match p.1 with
      | .u (.d (.bl k)) => if k = true then evE C b ρ p.2 else some (blU false, p.2)
      | _ => none)
  | .bor a b, ρ, S => (evE C a ρ S).bind fun p => (match p.1 with
      | .u (.d (.bl k)) => if k = true then some (blU true, p.2) else evE C b ρ p.2
      | _ => none)
  | .bnot a, ρ, S => (evE C a ρ S).bind fun p => (match p.1 with
      | .u (.d (.bl k)) => some (blU (!k), p.2)
      | _ => none)
  | .ite t a b, ρ, S => (evT C t ρ S).bind fun p => if p.1 = true then evE C a ρ p.2 else evE C b ρ p.2
  | .idx a i, ρ, S => (ev2 (evE C a ρ) (evE C i ρ) S).bind fun p => (idxR p.1.1 p.1.2 p.2).bind fun r => gcR S.length r p.2
  | .sl a lo hi, ρ, S => (evE C a ρ S).bind fun p => (match p.1 with
      | .u x => (evO C lo ρ p.2).bind fun q => (evO C hi ρ q.2).bind fun q2 => (slR (.u x) q.1 q2.1 q2.2).bind fun r => gcR S.length r q2.2
      | .tmp _ => none)
  | .call f arr es, ρ, S => (evEs C es ρ S).bind fun p => (arrU arr p.1).bind fun us => (C f us p.2).bind fun q => (gcU S.length q.1 q.2).map fun z => (.u z.1, z.2)
  | .bi b es, ρ, S => (evRs C es ρ S).bind fun p => (biR b p.1 p.2).bind fun r => gcR S.length r p.2
  | .me m o es, ρ, S => (evE C o ρ S).bind fun p => (match p.1 with
      | .u x => if mePre m x p.2 = true then (evRs C es ρ p.2).bind fun q => (meR m (.u x) q.1 q.2).bind fun r => gcR S.length r.1 r.2 else none
      | .tmp _ => none)
  | .comp own tg it c e, ρ, S => (evI C it ρ S).bind fun p =>
      (compL (fun x S1 => (bindT tg (.d x) (wipeE ρ own)).bind fun ρ2 => (evOt C c ρ2 S1).bind fun q => if q.1 = true then (evE C e ρ2 q.2).bind fun r => (match r.1 with
          | .u (.d y) => some (some y, r.2)
          | _ => none) else some (none, q.2)) (held p.1.2 p.1.1) p.2.length p.1.1 (p.2 ++ [.lst []])).bind fun S2 => (match S2[p.2.length]? with
            | some (.lst ds) => some (.tmp ds, S2.take S.length)
            | _ => none)
  | .fs es, ρ, S => (evEs C es ρ S).bind fun p => (allD p.1).bind fun ds => (fsJoin ds Str.empty).map fun s => (.u (.d (.str s)), p.2)
termination_by structural e => e
def evEs (C : Callee) : Es → Env → Store → Option (List U × Store)
  | .nil, _, S => some ([], S)
  | .cons e es, ρ, S => (evE C e ρ S).bind fun p => (evEs C es ρ (force p.1 p.2).2).map fun q => ((force p.1 p.2).1 :: q.1, q.2)
termination_by structural e => e
/-- the last one may be a new list without a place -/
def evRs (C : Callee) : Es → Env → Store → Option (List R × Store)
  | .nil, _, S => some ([], S)
  | .cons e .nil, ρ, S => (evE C e ρ S).map fun p => ([p.1], p.2)
  | .cons e es, ρ, S => (evE C e ρ S).bind fun p => (evRs C es ρ (force p.1 p.2).2).map fun q => (.u (force p.1 p.2).1 :: q.1, q.2)
termination_by structural e => e
def evO (C : Callee) : Oe → Env → Store → Option (Option Int × Store)
  | .none, _, S => some (none, S)
  | .some e, ρ, S => (evE C e ρ S).bind fun p => (match p.1 with
      | .u (.d (.int i)) => some (some i, p.2)
      | _ => none)
termination_by structural e => e
def evOt (C : Callee) : Ot → Env → Store → Option (Bool × Store)
  | .none, _, S => some (true, S)
  | .some t, ρ, S => evT C t ρ S
termination_by structural e => e
def evT (C : Callee) : T → Env → Store → Option (Bool × Store)
  | .v e, ρ, S => (evE C e ρ S).bind fun p => (match p.1 with
      | .u (.d (.bl k)) => some (k, p.2)
      | _ => none)
  | .tr e, ρ, S => (evE C e ρ S).bind fun p => (truR p.1 p.2).map fun k => (k, p.2)
  | .and a b, ρ, S => (evT C a ρ S).bind fun p => if p.1 = true then evT C b ρ p.2 else some (false, p.2)
  | .or a b, ρ, S => (evT C a ρ S).bind fun p => if p.1 = true then some (true, p.2) else evT C b ρ p.2
  | .not a, ρ, S => (evT C a ρ S).map fun p => (!p.1, p.2)
termination_by structural e => e
def evI (C : Callee) : It → Env → Store → Option (Src × Store)
  | .rng1 a, ρ, S => (evE C a ρ S).bind fun p => (match p.1 with
      | .u (.d (.int j)) => if inR62 j = true then some ((rngD 0 j.toNat, none), p.2) else none
      | _ => none)
  | .rng2 a b, ρ, S => (evE C a ρ S).bind fun p => (evE C b ρ p.2).bind fun q => (match p.1, q.1 with
      | .u (.d (.int i)), .u (.d (.int j)) => if inR62 i = true ∧ inR62 j = true then some ((rngD i (j - i).toNat, none), q.2) else none
      | _, _ => none)
  | .seq e, ρ, S => (evE C e ρ S).bind fun p => srcR p.1 p.2
termination_by structural e => e
end
mutual
def evS (C : Callee) : St → Env → Store → Option (Out × Env × Store)
  | .asg t e, ρ, S => (evE C e ρ S).bind fun p => (bindT t (force p.1 p.2).1 ρ).map fun ρ' => (.nx, ρ', (force p.1 p.2).2)
  | .par i j a b, ρ, S => (evE C a ρ S).bind fun p => (evE C b ρ (force p.1 p.2).2).map fun q => (.nx, (ρ.set i (some (force p.1 p.2).1)).set j (some (force q.1 q.2).1), (force q.1 q.2).2)
  | .aug i op e, ρ, S => (match ρ[i]? with
      | some (some (.d x)) => (evE C e ρ S).bind fun p => (match p.1 with
          | .u (.d y) => (augD op x y).map fun z => (.nx, ρ.set i (some (.d z)), p.2)
          | _ => none)
      | _ => none)
  | .setix o i e, ρ, S => (evE C e ρ S).bind fun p => (match p.1 with
      | .u (.d x) => (evE C o ρ p.2).bind fun q => (match q.1 with
          | .u (.ref n) => (evE C i ρ q.2).bind fun r => (match r.1 with
              | .u (.d (.int k)) => (match r.2[n]? with
                  | some (.lst xs) => (ixN xs.length k).map fun j => (.nx, ρ, r.2.set n (.lst (xs.set j x)))
                  | _ => none)
              | _ => none)
          | _ => none)
      | _ => none)
  | .expr e, ρ, S => (evE C e ρ S).map fun p => (.nx, ρ, p.2)
  | .ite t a b, ρ, S => (evT C t ρ S).bind fun p => if p.1 = true then evSs C a ρ p.2 else evSs C b ρ p.2
  | .for_ tg it b kill, ρ, S => (evI C it ρ S).bind fun p =>
      (forL (fun x ρ1 S1 => (bindT tg (.d x) ρ1).bind fun ρ2 => evSs C b ρ2 S1) (held p.1.2 p.1.1) kill p.2.length p.1.1 ρ p.2).map fun q => (match q.1 with
        | .rt u => (.rt u, q.2.1, q.2.2)
        | o => (o, tidy [] S.length q.2.1 q.2.2))
  | .while_ fuel t b kill, ρ, S => whileL (evT C t) (evSs C b) kill S.length fuel ρ S
  | .ret e, ρ, S => (evE C e ρ S).map fun p => (.rt (force p.1 p.2).1, ρ, (force p.1 p.2).2)
  | .pass, ρ, S => some (.nx, ρ, S)
  | .brk, ρ, S => some (.brk, ρ, S)
  | .ct, ρ, S => some (.ct, ρ, S)
  | .never, _, _ => none
termination_by structural s => s
def evSs (C : Callee) : Ss → Env → Store → Option (Out × Env × Store)
  | .nil, ρ, S => some (.nx, ρ, S)
  | .cons s .nil, ρ, S => evS C s ρ S
  | .cons s ss, ρ, S => (evS C s ρ S).bind fun p => (match p.1 with
      | .nx => evSs C ss p.2.1 p.2.2
      | o => some (o, p.2.1, p.2.2))
termination_by structural s => s
end
/-- a def: how many parameters, how many slots, the body -/
structure Fd where
  np : Nat
  ns : Nat
  body : Ss
def startE (ns : Nat) (us : List U) : Env := us.map some ++ List.replicate (ns - us.length) none
/-- the defs, at most k calls deep -/
def run (P : List Fd) : Nat → Nat → List U → Store → Option (U × Store)
  | 0, _, _, _ => none
  | k + 1, f, us, S => match P[f]? with
    | none => none
    | some fd => if us.length = fd.np then (evSs (run P k) fd.body (startE fd.ns us) S).bind fun p => (match p.1 with
        | .rt u => gcU S.length u p.2.2
        | .nx => gcU S.length (.d .non) p.2.2
        | _ => none) else none
end Ir

set_option Elab.async false
set_option linter.all false
set_option maxRecDepth 100000
/-! Ir2: how data and stores stand for what lies in the heap. -/
namespace Ir
open PySem L2

/-- tuples and locked things stay -/
structure Fr (H H' : Hp) : Prop where
  t : ∀ a xs, H a = some (.tup xs) → H' a = some (.tup xs)
  z : ∀ a o u, H a = some (.frz o u) → H' a = some (.frz o u)
theorem Fr.refl (H : Hp) : Fr H H := ⟨fun _ _ h => h, fun _ _ _ h => h⟩
theorem Fr.trans {H H1 H2 : Hp} (a : Fr H H1) (b : Fr H1 H2) : Fr H H2 := ⟨fun x xs h => b.t x xs (a.t x xs h), fun x o u h => b.z x o u (a.z x o u h)⟩
theorem Fr.new {H : Hp} {p : Addr} {o : HO} (h : H p = none) : Fr H (upd H p o) :=
  ⟨fun a xs e => by rw [upd_ne (ne_of_none e h)]; exact e, fun a o' u e => by rw [upd_ne (ne_of_none e h)]; exact e⟩
theorem Fr.wr {H : Hp} {p : Addr} {xs : List V} {o : HO} (h : H p = some (.lst xs)) : Fr H (upd H p o) :=
  ⟨fun a ys e => by rw [upd_ne (ne_of e h (by intro q; cases q))]; exact e, fun a o' u e => by rw [upd_ne (ne_of e h (by intro q; cases q))]; exact e⟩
theorem Fr.sqt {K : PySem.W.Frag} {H H' : Hp} {a : Addr} {xs : List V} (f : Fr H H') (h : SqT K H a xs) : SqT K H' a xs := by
  rcases h with (h | ⟨o, h⟩) | h
  · exact .inl (.inl (f.t _ _ h))
  · exact .inl (.inr ⟨o, f.z _ _ _ h⟩)
  · exact .inr h

section
variable (K : PySem.W.Frag) (H : Hp)
mutual
inductive RD : V → D → Prop
  | non : RD .non .non
  | bl (b : Bool) : RD (.bl b) (.bl b)
  | int (i : Int) : RD (.int i) (.int i)
  | str (s : Str) : RD (.str s) (.str s)
  | ty (n : String) : RD (.ty n) (.ty n)
  | tup {a : Addr} {vs : List V} {ds : List D} : SqT K H a vs → RDs vs ds → RD (.ref a) (.tup ds)
inductive RDs : List V → List D → Prop
  | nil : RDs [] []
  | cons {v : V} {vs : List V} {d : D} {ds : List D} : RD v d → RDs vs ds → RDs (v :: vs) (d :: ds)
end
end
mutual
theorem RD.mono {K : PySem.W.Frag} {H H' : Hp} (f : Fr H H') : ∀ {v : V} {d : D}, RD K H v d → RD K H' v d
  | _, _, .non => .non
  | _, _, .bl b => .bl b
  | _, _, .int i => .int i
  | _, _, .str s => .str s
  | _, _, .ty n => .ty n
  | _, _, .tup h hs => .tup (f.sqt h) (RDs.mono f hs)
theorem RDs.mono {K : PySem.W.Frag} {H H' : Hp} (f : Fr H H') : ∀ {vs : List V} {ds : List D}, RDs K H vs ds → RDs K H' vs ds
  | _, _, .nil => .nil
  | _, _, .cons h hs => .cons (RD.mono f h) (RDs.mono f hs)
end
section
variable {K : PySem.W.Frag} {H : Hp}
theorem RDs.len : ∀ {vs : List V} {ds : List D}, RDs K H vs ds → vs.length = ds.length
  | _, _, .nil => rfl
  | _, _, .cons _ hs => congrArg (· + 1) (RDs.len hs)
theorem RDs.get : ∀ {vs : List V} {ds : List D} {i : Nat} {d : D}, RDs K H vs ds → ds[i]? = some d → ∃ v, vs[i]? = some v ∧ RD K H v d
  | _, _, 0, _, .cons h _, e => ⟨_, rfl, by cases e; exact h⟩
  | _, _, i + 1, _, .cons _ hs, e => RDs.get (i := i) hs e
theorem RDs.getV : ∀ {vs : List V} {ds : List D} {i : Nat} {v : V}, RDs K H vs ds → vs[i]? = some v → ∃ d, ds[i]? = some d ∧ RD K H v d
  | _, _, 0, _, .cons h _, e => ⟨_, rfl, by cases e; exact h⟩
  | _, _, i + 1, _, .cons _ hs, e => RDs.getV (i := i) hs e
theorem RDs.app : ∀ {vs ws : List V} {ds es : List D}, RDs K H vs ds → RDs K H ws es → RDs K H (vs ++ ws) (ds ++ es)
  | _, _, _, _, .nil, h => h
  | _, _, _, _, .cons h hs, h2 => .cons h (RDs.app hs h2)
theorem RDs.set : ∀ {vs : List V} {ds : List D} (i : Nat) {v : V} {d : D}, RD K H v d → RDs K H vs ds → RDs K H (vs.set i v) (ds.set i d)
  | _, _, _, _, _, _, .nil => .nil
  | _, _, 0, _, _, r, .cons _ hs => .cons r hs
  | _, _, i + 1, _, _, r, .cons h hs => .cons h (RDs.set i r hs)
theorem RDs.take : ∀ {vs : List V} {ds : List D} (n : Nat), RDs K H vs ds → RDs K H (vs.take n) (ds.take n)
  | _, _, 0, _ => by simp only [List.take_zero]; exact .nil
  | _, _, n + 1, .nil => by simp only [List.take_nil]; exact .nil
  | _, _, n + 1, .cons h hs => by simp only [List.take_succ_cons]; exact .cons h (RDs.take n hs)
theorem RDs.drop : ∀ {vs : List V} {ds : List D} (n : Nat), RDs K H vs ds → RDs K H (vs.drop n) (ds.drop n)
  | _, _, 0, h => by simp only [List.drop_zero]; exact h
  | _, _, n + 1, .nil => by simp only [List.drop_nil]; exact .nil
  | _, _, n + 1, .cons h hs => by simp only [List.drop_succ_cons]; exact RDs.drop n hs
end

/-! ### the store -/
/-- a list that is read, never written -/
def RdL (K : PySem.W.Frag) (H : Hp) (a : Addr) (vs : List V) : Prop := (∃ o, H a = some (.frz o (.lst vs))) ∨
  ∃ (o : Obj) (its : Array Value) (n : Nat), K.lookup a = some o ∧ o.cls = .type "list" ∧ o.dict = none ∧ o.data = .seq its n ∧ its.size ≤ sizeLine ∧ Vals vs its.toList
theorem RdL.sq {K : PySem.W.Frag} {H : Hp} {a : Addr} {vs : List V} (h : RdL K H a vs) : SqL K H a vs := by
  rcases h with h | h
  · exact .inl (.inr h)
  · exact .inr h
theorem Fr.rdl {K : PySem.W.Frag} {H H' : Hp} {a : Addr} {vs : List V} (f : Fr H H') (h : RdL K H a vs) : RdL K H' a vs := by
  rcases h with ⟨o, h⟩ | h
  · exact .inl ⟨o, f.z _ _ _ h⟩
  · exact .inr h
def RO (K : PySem.W.Frag) (H : Hp) (p : Addr) : Ob → Prop
  | .lst ds => ∃ vs, H p = some (.lst vs) ∧ RDs K H vs ds
  | .rd ds => ∃ vs, RdL K H p vs ∧ RDs K H vs ds
structure RS (K : PySem.W.Frag) (H : Hp) (φ : Nat → Addr) (S : Store) : Prop where
  obj : ∀ i ob, S[i]? = some ob → RO K H (φ i) ob
  inj : ∀ i j a b, S[i]? = some a → S[j]? = some b → a.mut = true → b.mut = true → φ i = φ j → i = j
section
variable (K : PySem.W.Frag) (H : Hp) (φ : Nat → Addr) (N : Nat)
mutual
inductive RU : V → U → Prop
  | d {v : V} {x : D} : RD K H v x → RU v (.d x)
  | ref {n : Nat} {v : V} : n < N → v = .ref (φ n) → RU v (.ref n)
  | mix {a : Addr} {vs : List V} {us : List U} : SqT K H a vs → RUs vs us → RU (.ref a) (.mix us)
inductive RUs : List V → List U → Prop
  | nil : RUs [] []
  | cons {v : V} {vs : List V} {u : U} {us : List U} : RU v u → RUs vs us → RUs (v :: vs) (u :: us)
end
end
section
variable {K : PySem.W.Frag} {H H' : Hp} {φ φ' : Nat → Addr} {N N' : Nat}
mutual
theorem RU.mono (f : Fr H H') (g : ∀ i, i < N → φ' i = φ i) (l : N ≤ N') : ∀ {v : V} {u : U}, RU K H φ N v u → RU K H' φ' N' v u
  | _, _, .d h => .d (h.mono f)
  | _, _, .ref h e => .ref (Nat.lt_of_lt_of_le h l) (by rw [g _ h]; exact e)
  | _, _, .mix h hs => .mix (f.sqt h) (RUs.mono f g l hs)
theorem RUs.mono (f : Fr H H') (g : ∀ i, i < N → φ' i = φ i) (l : N ≤ N') : ∀ {vs : List V} {us : List U}, RUs K H φ N vs us → RUs K H' φ' N' vs us
  | _, _, .nil => .nil
  | _, _, .cons h hs => .cons (RU.mono f g l h) (RUs.mono f g l hs)
end
theorem RUs.len : ∀ {vs : List V} {us : List U}, RUs K H φ N vs us → vs.length = us.length
  | _, _, .nil => rfl
  | _, _, .cons _ hs => congrArg (· + 1) (RUs.len hs)
theorem RUs.get : ∀ {vs : List V} {ds : List U} {i : Nat} {d : U}, RUs K H φ N vs ds → ds[i]? = some d → ∃ v, vs[i]? = some v ∧ RU K H φ N v d
  | _, _, 0, _, .cons h _, e => ⟨_, rfl, by cases e; exact h⟩
  | _, _, i + 1, _, .cons _ hs, e => RUs.get (i := i) hs e
theorem RUs.app : ∀ {vs ws : List V} {ds es : List U}, RUs K H φ N vs ds → RUs K H φ N ws es → RUs K H φ N (vs ++ ws) (ds ++ es)
  | _, _, _, _, .nil, h => h
  | _, _, _, _, .cons h hs, h2 => .cons h (RUs.app hs h2)
/-- what is told by lower references holds in a shorter store -/
theorem RU.lower {n : Nat} : ∀ {v : V} {u : U}, RU K H φ N v u → u.low n = true → RU K H φ n v u
  | _, _, .d h, _ => .d h
  | _, _, .ref h e, l => .ref (by simpa [U.low] using l) e
  | _, _, .mix h hs, l => .mix h (lowers hs (by simpa [U.low] using l))
where lowers : ∀ {vs : List V} {us : List U}, RUs K H φ N vs us → U.lows n us = true → RUs K H φ n vs us
  | _, _, .nil, _ => .nil
  | _, _, .cons h hs, l => by
    simp only [U.lows, Bool.and_eq_true] at l
    exact .cons (RU.lower h l.1) (lowers hs l.2)
theorem RDs.us : ∀ {vs : List V} {ds : List D}, RDs K H vs ds → RUs K H φ N vs (ds.map .d)
  | _, _, .nil => .nil
  | _, _, .cons h hs => .cons (.d h) (RDs.us hs)
theorem allD_ok : ∀ {vs : List V} {us : List U} {ds : List D}, RUs K H φ N vs us → allD us = some ds → RDs K H vs ds
  | _, _, ds, .nil, e => by
    cases e
    exact .nil
  | _, _, ds, .cons (u := .d x) h hs, e => by
    simp only [allD, Option.map_eq_some_iff] at e
    obtain ⟨ds', e1, rfl⟩ := e
    cases h with
    | d h => exact .cons h (allD_ok hs e1)
  | _, _, ds, .cons (u := .ref n) h hs, e => by simp [allD] at e
  | _, _, ds, .cons (u := .mix us) h hs, e => by simp [allD] at e
end
/-- the slots -/
structure RE (K : PySem.W.Frag) (H : Hp) (φ : Nat → Addr) (N : Nat) (σ : L2.St) (ρ : Env) : Prop where
  len : σ.length = ρ.length
  at_ : ∀ (i : Nat) (u : U), ρ[i]? = some (some u) → ∃ v, σ[i]? = some (some v) ∧ RU K H φ N v u
/-- from a state to a later one -/
structure Step (K : PySem.W.Frag) (φ : Nat → Addr) (S : Store) (H : Hp) (φ' : Nat → Addr) (S' : Store) (H' : Hp) : Prop where
  rs : RS K H' φ' S'
  fr : Fr H H'
  ag : ∀ i, i < S.length → φ' i = φ i
  le : S.length ≤ S'.length
section
variable {K : PySem.W.Frag} {H H' H1 H2 : Hp} {φ φ' φ1 φ2 : Nat → Addr} {S S' S1 S2 : Store} {σ : L2.St} {ρ : Env} {N : Nat}
theorem Step.refl (h : RS K H φ S) : Step K φ S H φ S H := ⟨h, .refl H, fun _ _ => rfl, Nat.le_refl _⟩
theorem Step.trans (a : Step K φ S H φ1 S1 H1) (b : Step K φ1 S1 H1 φ2 S2 H2) : Step K φ S H φ2 S2 H2 :=
  ⟨b.rs, a.fr.trans b.fr, fun i h => (b.ag i (Nat.lt_of_lt_of_le h a.le)).trans (a.ag i h), Nat.le_trans a.le b.le⟩
theorem Step.ru (a : Step K φ S H φ' S' H') {v : V} {u : U} (h : RU K H φ S.length v u) : RU K H' φ' S'.length v u := h.mono a.fr a.ag a.le
theorem Step.rus (a : Step K φ S H φ' S' H') {v : List V} {u : List U} (h : RUs K H φ S.length v u) : RUs K H' φ' S'.length v u := RUs.mono a.fr a.ag a.le h
theorem Step.re (a : Step K φ S H φ' S' H') (h : RE K H φ S.length σ ρ) : RE K H' φ' S'.length σ ρ :=
  ⟨h.len, fun i u e => by obtain ⟨v, e1, r⟩ := h.at_ i u e; exact ⟨v, e1, a.ru r⟩⟩
theorem RE.set (h : RE K H φ N σ ρ) {v : V} {u : U} (r : RU K H φ N v u) (i : Nat) : RE K H φ N (σ.set i (some v)) (ρ.set i (some u)) := by
  refine ⟨by rw [List.length_set, List.length_set]; exact h.len, fun j w e => ?_⟩
  rw [List.getElem?_set] at e
  rw [List.getElem?_set]
  by_cases c : i = j
  · subst c
    rw [if_pos rfl] at e
    rw [if_pos rfl]
    by_cases l : i < ρ.length
    · rw [if_pos l] at e
      rw [if_pos (by rw [h.len]; exact l)]
      cases e
      exact ⟨v, rfl, r⟩
    · rw [if_neg l] at e
      cases e
  · rw [if_neg c] at e
    rw [if_neg c]
    exact h.at_ j w e
theorem RE.forget (h : RE K H φ N σ ρ) : ∀ (vs : List Nat), RE K H φ N σ (wipeE ρ vs)
  | [] => h
  | v :: vs => by
    have g := RE.forget h vs
    refine ⟨by show σ.length = ((wipeE ρ vs).set v none).length; rw [List.length_set]; exact g.len, fun j w e => ?_⟩
    have e' : ((wipeE ρ vs).set v none)[j]? = some (some w) := e
    rw [List.getElem?_set] at e'
    by_cases c : v = j
    · rw [if_pos c] at e'
      split at e' <;> cases e'
    · rw [if_neg c] at e'
      exact g.at_ j w e'
theorem wipe_get {ρ : Env} {vs : List Nat} {j : Nat} {w : U} (e : (wipeE ρ vs)[j]? = some (some w)) : ρ[j]? = some (some w) ∧ j ∉ vs := by
  induction vs with
  | nil => exact ⟨e, by simp⟩
  | cons v vs ih =>
    have e' : ((wipeE ρ vs).set v none)[j]? = some (some w) := e
    rw [List.getElem?_set] at e'
    by_cases c : v = j
    · rw [if_pos c] at e'
      split at e' <;> cases e'
    · rw [if_neg c] at e'
      obtain ⟨a, b⟩ := ih e'
      exact ⟨a, by simp [b, Ne.symm c]⟩
theorem wipeE_len (ρ : Env) : ∀ vs, (wipeE ρ vs).length = ρ.length
  | [] => rfl
  | v :: vs => by show ((wipeE ρ vs).set v none).length = _; rw [List.length_set]; exact wipeE_len ρ vs
/-- a comprehension's own slots forgotten on both sides -/
theorem RE.wipe (h : RE K H φ N σ ρ) (vs : List Nat) : RE K H φ N (L2.wipe σ vs) (wipeE ρ vs) := by
  refine ⟨by rw [L2.wipe_length, wipeE_len]; exact h.len, fun j w e => ?_⟩
  obtain ⟨e1, nj⟩ := wipe_get e
  obtain ⟨v, e2, r⟩ := h.at_ j w e1
  exact ⟨v, by rw [L2.wipe_out nj]; exact e2, r⟩
/-! ### stores that grow, shrink, change -/
theorem RS.take (h : RS K H φ S) (n : Nat) : RS K H φ (S.take n) :=
  ⟨fun i ob e => h.obj i ob (by rw [List.getElem?_take] at e; split at e; exact e; cases e),
    fun i j a b e1 e2 m1 m2 q => h.inj i j a b (by rw [List.getElem?_take] at e1; split at e1; exact e1; cases e1) (by rw [List.getElem?_take] at e2; split at e2; exact e2; cases e2) m1 m2 q⟩
def ext (φ : Nat → Addr) (n : Nat) (p : Addr) : Nat → Addr := fun i => if i = n then p else φ i
theorem ext_at {φ : Nat → Addr} {n : Nat} {p : Addr} : ext φ n p n = p := if_pos rfl
theorem ext_ne {φ : Nat → Addr} {n i : Nat} {p : Addr} (h : i ≠ n) : ext φ n p i = φ i := if_neg h
/-- a new cell at an address that no mutable cell has -/
theorem RS.push (h : RS K H φ S) {p : Addr} {ob : Ob} (r : RO K H p ob) (new : ob.mut = true → ∀ i a, S[i]? = some a → a.mut = true → φ i ≠ p) : RS K H (ext φ S.length p) (S ++ [ob]) := by
  refine ⟨fun i o e => ?_, fun i j a b e1 e2 m1 m2 q => ?_⟩
  · rcases Nat.lt_or_ge i S.length with l | l
    · rw [List.getElem?_append_left l] at e
      rw [ext_ne (Nat.ne_of_lt l)]
      exact h.obj i o e
    · rw [List.getElem?_append_right l] at e
      have e0 : i = S.length := by
        rcases Nat.eq_or_lt_of_le l with l | l
        · exact l.symm
        · rw [List.getElem?_eq_none (by simp; omega)] at e
          cases e
      subst e0
      rw [Nat.sub_self] at e
      cases e
      rw [ext_at]
      exact r
  · have key : ∀ (k : Nat) (c : Ob), (S ++ [ob])[k]? = some c → (k < S.length ∧ S[k]? = some c) ∨ (k = S.length ∧ c = ob) := by
      intro k c e
      rcases Nat.lt_or_ge k S.length with l | l
      · rw [List.getElem?_append_left l] at e
        exact .inl ⟨l, e⟩
      · rw [List.getElem?_append_right l] at e
        have e0 : k = S.length := by
          rcases Nat.eq_or_lt_of_le l with l | l
          · exact l.symm
          · rw [List.getElem?_eq_none (by simp; omega)] at e
            cases e
        subst e0
        rw [Nat.sub_self] at e
        cases e
        exact .inr ⟨rfl, rfl⟩
    rcases key i a e1 with ⟨l1, g1⟩ | ⟨rfl, rfl⟩ <;> rcases key j b e2 with ⟨l2, g2⟩ | ⟨rfl, rfl⟩
    · rw [ext_ne (Nat.ne_of_lt l1), ext_ne (Nat.ne_of_lt l2)] at q
      exact h.inj i j a b g1 g2 m1 m2 q
    · rw [ext_ne (Nat.ne_of_lt l1), ext_at] at q
      exact absurd q (new m2 i a g1 m1)
    · rw [ext_at, ext_ne (Nat.ne_of_lt l2)] at q
      exact absurd q.symm (new m1 j b g2 m2)
    · rfl
theorem Step.push (h : RS K H φ S) {p : Addr} {ob : Ob} (r : RO K H p ob) (new : ob.mut = true → ∀ i a, S[i]? = some a → a.mut = true → φ i ≠ p) : Step K φ S H (ext φ S.length p) (S ++ [ob]) H :=
  ⟨h.push r new, .refl H, fun i l => ext_ne (Nat.ne_of_lt l), by simp⟩
/-- what was not there is no mutable cell -/
theorem RS.fresh (h : RS K H φ S) {p : Addr} (hp : H p = none) : ∀ i a, S[i]? = some a → a.mut = true → φ i ≠ p := by
  intro i a e m q
  cases a with
  | rd xs => cases m
  | lst xs =>
    obtain ⟨vs, h1, _⟩ := h.obj i _ e
    rw [q, hp] at h1
    cases h1
theorem RO.mono (f : Fr H H') {p : Addr} {ob : Ob} (keep : ob.mut = true → ∀ o, H p = some o → H' p = some o) (h : RO K H p ob) : RO K H' p ob := by
  cases ob with
  | lst xs =>
    obtain ⟨vs, h1, h2⟩ := h
    exact ⟨vs, keep rfl _ h1, h2.mono f⟩
  | rd xs =>
    obtain ⟨vs, h1, h2⟩ := h
    exact ⟨vs, f.rdl h1, h2.mono f⟩
/-- the heap grows by a new object -/
theorem RS.new (h : RS K H φ S) {p : Addr} {o : HO} (hp : H p = none) : RS K (upd H p o) φ S :=
  ⟨fun i ob e => RO.mono (Fr.new hp) (fun m o' q => by rw [upd_ne (fun z => h.fresh hp i ob e m z)]; exact q) (h.obj i ob e), h.inj⟩
theorem Step.new (h : RS K H φ S) {p : Addr} {o : HO} (hp : H p = none) : Step K φ S H φ S (upd H p o) := ⟨h.new hp, .new hp, fun _ _ => rfl, Nat.le_refl _⟩
/-- a list is written -/
theorem RS.wr (h : RS K H φ S) {n : Nat} {xs ys : List D} {vs ws : List V} (e : S[n]? = some (.lst xs)) (hv : H (φ n) = some (.lst vs)) (r : RDs K H ws ys) : RS K (upd H (φ n) (.lst ws)) φ (S.set n (.lst ys)) := by
  have f : Fr H (upd H (φ n) (.lst ws)) := Fr.wr hv
  have ln : n < S.length := by
    rcases Nat.lt_or_ge n S.length with l | l
    · exact l
    · rw [List.getElem?_eq_none l] at e; cases e
  have key : ∀ (k : Nat) (c : Ob), (S.set n (.lst ys))[k]? = some c → (k ≠ n ∧ S[k]? = some c) ∨ (k = n ∧ c = .lst ys) := by
    intro k c q
    rw [List.getElem?_set] at q
    by_cases c0 : n = k
    · subst c0
      rw [if_pos rfl, if_pos ln] at q
      cases q
      exact .inr ⟨rfl, rfl⟩
    · rw [if_neg c0] at q
      exact .inl ⟨Ne.symm c0, q⟩
  refine ⟨fun i ob q => ?_, fun i j a b e1 e2 m1 m2 q => ?_⟩
  · rcases key i ob q with ⟨ne, q1⟩ | ⟨rfl, rfl⟩
    · refine RO.mono f (fun m o' q2 => ?_) (h.obj i ob q1)
      rw [upd_ne (fun z => ne (h.inj i n ob _ q1 e m rfl z))]
      exact q2
    · exact ⟨ws, upd_same, r.mono f⟩
  · have old : ∀ (k : Nat) (c : Ob), (S.set n (.lst ys))[k]? = some c → c.mut = true → ∃ c', S[k]? = some c' ∧ c'.mut = true := by
      intro k c q m
      rcases key k c q with ⟨_, q1⟩ | ⟨rfl, rfl⟩
      · exact ⟨c, q1, m⟩
      · exact ⟨_, e, rfl⟩
    obtain ⟨a', g1, n1⟩ := old i a e1 m1
    obtain ⟨b', g2, n2⟩ := old j b e2 m2
    exact h.inj i j a' b' g1 g2 n1 n2 q
theorem Step.wr (h : RS K H φ S) {n : Nat} {xs ys : List D} {vs ws : List V} (e : S[n]? = some (.lst xs)) (hv : H (φ n) = some (.lst vs)) (r : RDs K H ws ys) : Step K φ S H φ (S.set n (.lst ys)) (upd H (φ n) (.lst ws)) :=
  ⟨h.wr e hv r, .wr hv, fun _ _ => rfl, by simp⟩
theorem Step.take (h : Step K φ S H φ' S' H') {n : Nat} (l : S.length ≤ n) (l2 : n ≤ S'.length) : Step K φ S H φ' (S'.take n) H' := ⟨h.rs.take n, h.fr, h.ag, by rw [List.length_take, Nat.min_eq_left l2]; exact l⟩

/-! ### results -/
def RR (K : PySem.W.Frag) (H : Hp) (φ : Nat → Addr) (S : Store) (v : V) : R → Prop
  | .u x => RU K H φ S.length v x
  | .tmp ds => ∃ p vs, v = .ref p ∧ H p = some (.lst vs) ∧ RDs K H vs ds ∧ ∀ i a, S[i]? = some a → a.mut = true → φ i ≠ p
/-- a new list gets a place -/
theorem force_ok (h : RS K H φ S) {v : V} {r : R} (q : RR K H φ S v r) : ∃ φ', Step K φ S H φ' (force r S).2 H ∧ RU K H φ' (force r S).2.length v (force r S).1 := by
  cases r with
  | u x => exact ⟨φ, .refl h, q⟩
  | tmp ds =>
    obtain ⟨p, vs, rfl, h1, h2, h3⟩ := q
    refine ⟨ext φ S.length p, Step.push h (ob := .lst ds) ⟨vs, h1, h2⟩ (fun _ => h3), ?_⟩
    show RU K H (ext φ S.length p) (S ++ [Ob.lst ds]).length (.ref p) (.ref S.length)
    exact .ref (by simp) (by rw [ext_at])
/-- what went is forgotten -/
theorem gcU_ok {n : Nat} (st : Step K φ S H φ' S' H') (hn : n = S.length) {v : V} {u u2 : U} {S2 : Store} (r : RU K H' φ' S'.length v u) (e : gcU n u S' = some (u2, S2)) : ∃ φ2, Step K φ S H φ2 S2 H' ∧ RU K H' φ2 S2.length v u2 := by
  subst hn
  have ll : (S'.take S.length).length = S.length := by rw [List.length_take, Nat.min_eq_left st.le]
  cases u with
  | d x =>
    cases e
    refine ⟨φ', st.take (Nat.le_refl _) st.le, ?_⟩
    cases r with
    | d r => exact .d r
  | ref m =>
    simp only [gcU] at e
    by_cases c : m < S.length
    · rw [if_pos c] at e
      cases e
      refine ⟨φ', st.take (Nat.le_refl _) st.le, ?_⟩
      cases r with
      | ref _ q => exact .ref (by rw [ll]; exact c) q
    · rw [if_neg c] at e
      cases q : S'[m]? with
      | none => rw [q] at e; cases e
      | some ob =>
        rw [q] at e
        cases e
        have h0 := st.rs.take S.length
        refine ⟨ext φ' (S'.take S.length).length (φ' m), ⟨h0.push (st.rs.obj m ob q) (fun mu i a e2 ma z => ?_), st.fr, fun i l => ?_, by simp [ll]⟩, ?_⟩
        · rw [List.getElem?_take] at e2
          split at e2
          · rename_i l
            have := st.rs.inj i m a ob e2 q ma mu z
            omega
          · cases e2
        · rw [ext_ne (by rw [ll]; exact Nat.ne_of_lt l)]
          exact st.ag i l
        · cases r with
          | ref _ q => exact .ref (by simp [ll]) (by rw [q, ll, ext_at])
  | mix us =>
    cases e
    exact ⟨φ', st, r⟩
theorem gcR_ok {n : Nat} (st : Step K φ S H φ' S' H') (hn : n = S.length) {v : V} {r r2 : R} {S2 : Store} (q : RR K H' φ' S' v r) (e : gcR n r S' = some (r2, S2)) : ∃ φ2, Step K φ S H φ2 S2 H' ∧ RR K H' φ2 S2 v r2 := by
  cases r with
  | u x =>
    simp only [gcR, Option.map_eq_some_iff] at e
    obtain ⟨⟨u2, S3⟩, e1, e2⟩ := e
    cases e2
    exact gcU_ok st hn q e1
  | tmp ds =>
    cases e
    subst hn
    obtain ⟨p, vs, h1, h2, h3, h4⟩ := q
    refine ⟨φ', st.take (Nat.le_refl _) st.le, p, vs, h1, h2, h3, fun i a e m => h4 i a ?_ m⟩
    rw [List.getElem?_take] at e
    split at e
    · exact e
    · cases e
/-- a sequence's items -/
theorem seqR_ok (h : RS K H φ S) {v : V} {r : R} {ds : List D} (q : RR K H φ S v r) (e : seqR r S = some ds) : ∃ p vs, v = .ref p ∧ RDs K H vs ds ∧ (SqL K H p vs ∨ SqT K H p vs) := by
  cases r with
  | tmp xs =>
    cases e
    obtain ⟨p, vs, h1, h2, h3, _⟩ := q
    exact ⟨p, vs, h1, h3, .inl (.of h2)⟩
  | u x =>
    cases x with
    | d x =>
      cases x with
      | tup xs =>
        cases e
        cases q with
        | d q =>
          cases q with
          | tup h1 h2 => exact ⟨_, _, rfl, h2, .inr h1⟩
      | _ => cases e
    | ref n =>
      simp only [seqR] at e
      cases q with
      | ref l e0 =>
        cases z : S[n]? with
        | none => rw [z] at e; cases e
        | some ob =>
          rw [z] at e
          have ho := h.obj n ob z
          cases ob with
          | lst xs =>
            cases e
            obtain ⟨vs, h1, h2⟩ := ho
            exact ⟨φ n, vs, e0, h2, .inl (.of h1)⟩
          | rd xs =>
            cases e
            obtain ⟨vs, h1, h2⟩ := ho
            exact ⟨φ n, vs, e0, h2, .inl h1.sq⟩
    | mix us => cases e
end
end Ir

set_option Elab.async false
set_option linter.all false
set_option maxRecDepth 100000
set_option autoImplicit false
/-! Ir3: the operators, subscripts, built-in functions and methods keep to the data. -/
namespace Ir
open PySem L2 PySem.Spec PyProof.Rows

theorem lim_line : lim = sizeLine := sizeLine_eq.symm
theorem PE.imp {X : Cx} {e : Expr} {t t' : TE} (h : PE X e t) (w : ∀ σ H Q, t' σ H Q → t σ H Q) : PE X e t' := ⟨fun pins s σ H Q I q => h.run pins s σ H Q I (w σ H Q q)⟩
theorem PT.imp {X : Cx} {e : Expr} {t t' : TT} (h : PT X e t) (w : ∀ σ H Q, t' σ H Q → t σ H Q) : PT X e t' := ⟨fun pins s σ H Q I q => h.run pins s σ H Q I (w σ H Q q)⟩
theorem PW.imp {X : Cx} {e : Expr} {t t' : TT} (h : PW X e t) (w : ∀ σ H Q, t' σ H Q → t σ H Q) : PW X e t' := ⟨fun whole pins s σ H Q I q => h.run whole pins s σ H Q I (w σ H Q q)⟩
theorem PA.imp {X : Cx} {es : List Expr} {t t' : TA} (h : PA X es t) (w : ∀ σ H Q, t' σ H Q → t σ H Q) : PA X es t' := ⟨fun pos pins s σ H Q I q => h.run pos pins s σ H Q I (w σ H Q q)⟩
theorem PS.imp {X : Cx} {st : Stmt} {t t' : TS} (h : PS X st t) (w : ∀ D σ H, t' D σ H → t D σ H) : PS X st t' := ⟨fun pins s σ H D I q => h.run pins s σ H D I (w D σ H q)⟩
theorem PSs.imp {X : Cx} {st : List Stmt} {t t' : TS} (h : PSs X st t) (w : ∀ D σ H, t' D σ H → t D σ H) : PSs X st t' := ⟨fun pins s σ H D I q => h.run pins s σ H D I (w D σ H q)⟩
theorem PI.imp {X : Cx} {tg it : Expr} {t t' : TI} (h : PI X tg it t) (w : ∀ σ H R, t' σ H R → t σ H R) : PI X tg it t' := ⟨fun pins s σ H R I q => h.run pins s σ H R I (w σ H R q)⟩
theorem PI.or {X : Cx} {tg it : Expr} {t t' : TI} (h : PI X tg it t) (h' : PI X tg it t') : PI X tg it (fun σ H R => t σ H R ∨ t' σ H R) :=
  ⟨fun pins s σ H R I q => q.elim (h.run pins s σ H R I) (h'.run pins s σ H R I)⟩

/-- a two-place rule keeps to f -/
def OpOk (K : PySem.W.Frag) (r : R2) (f : R → R → Store → Option R) : Prop :=
  ∀ (v w : V) (H : Hp) (φ : Nat → Addr) (S : Store) (ra rb rr : R) (Q : VK), RS K H φ S → RR K H φ S v ra → RR K H φ S w rb → f ra rb S = some rr →
    (∀ z H', Step K φ S H φ S H' → RR K H' φ S z rr → Q z H') → r v w H Q
def pyBop : Bop → Operator
  | .add => .Add | .sub => .Sub | .mul => .Mult | .fdiv => .FloorDiv | .mod => .Mod | .pow => .Pow
def pyCop : Cop → CmpOp
  | .eq => .Eq | .ne => .NotEq | .lt => .Lt | .le => .LtE | .gt => .Gt | .ge => .GtE | .is_ => .Is | .isnot => .IsNot | .in_ => .In | .notin => .NotIn

theorem flatten_rep (x : Array Nat) : ∀ n, (List.replicate n x).foldl (· ++ ·) #[] = ((List.replicate n x.toList).flatten).toArray := by
  have key : ∀ (n : Nat) (acc : Array Nat), (List.replicate n x).foldl (· ++ ·) acc = acc ++ ((List.replicate n x.toList).flatten).toArray := by
    intro n
    induction n with
    | zero => intro acc; simp
    | succ n ih =>
      intro acc
      rw [List.replicate_succ, List.foldl_cons, ih, List.replicate_succ, List.flatten_cons]
      apply Array.ext'
      simp
  intro n
  rw [key]
  apply Array.ext'
  simp
theorem Str.ext' {x y : Str} (h : x.cps = y.cps) : x = y := by
  cases x; cases y; cases h; rfl
section
variable {X : Cx}
theorem op_mul_str : OpR X (binaryOp .Mult) (fun x y H Q => ∃ z n, x = .str z ∧ y = .int n ∧ 1 ≤ n ∧ n ≤ 1000000 ∧ z.length * n.toNat ≤ lim ∧ Q (.str (strRep z n.toNat)) H) := by
  intro pins s σ H x y v u Q I rx ry h
  obtain ⟨z, n, rfl, rfl, h1, h2, h3, q⟩ := h
  obtain ⟨t, rfl⟩ := rx
  obtain ⟨t', rfl⟩ := ry
  have e : (⟨(List.replicate n.toNat z.cps).foldl (· ++ ·) #[]⟩ : Str) = strRep z n.toNat := by
    unfold strRep
    rw [flatten_rep]
  refine PySem.P.mul_str (by
      have a : ¬ n < -(2 ^ 63 : Int) := by omega
      have b : ¬ n ≥ (2 ^ 63 : Int) := by omega
      rw [decide_eq_false a, decide_eq_false b]; rfl) (fun _ _ => ?_) (fun _ _ => ?_) ?_
  · have a : (z.length : Int) ≤ (2 ^ 63 - 1 : Int) / n := by
      apply Int.le_ediv_of_mul_le (by omega)
      have e1 : (n.toNat : Int) = n := Int.toNat_of_nonneg (by omega)
      have e2 : ((z.length * n.toNat : Nat) : Int) = (z.length : Int) * n := by rw [Int.natCast_mul, e1]
      have d : lim = 16777216 := rfl
      omega
    omega
  · have : sizeLine = 16777216 := sizeLine_eq
    have d : lim = 16777216 := rfl
    unfold Builtin.Str.tooLong
    apply decide_eq_false
    omega
  · rw [if_neg (by omega)]
    by_cases c : (n == 1 || z.length == 0) = true
    · rw [if_pos c]
      have e2 : strRep z n.toNat = z := by
        rw [Bool.or_eq_true] at c
        apply Str.ext'
        unfold strRep
        rcases c with c | c
        · have : n = 1 := by simpa using c
          subst this
          apply Array.ext'
          simp
        · have : z.cps.toList = [] := by
            have : z.length = 0 := by simpa using c
            have h0 : z.cps.size = 0 := this
            simpa using h0
          rw [this]
          apply Array.ext'
          simp [this]
      rw [e2] at q
      exact ⟨.str z, H, I, ⟨_, rfl⟩, q⟩
    · rw [if_neg c, e]
      refine ⟨?_, ⟨.str _, H, I.tok _, ⟨_, rfl⟩, q⟩⟩
      have l : (strRep z n.toNat).length = z.length * n.toNat := by
        unfold strRep
        show (((List.replicate n.toNat z.cps.toList).flatten).toArray).size = _
        simp [List.length_flatten]
        rw [Nat.mul_comm]
        rfl
      have := sizeLine_eq
      have d : lim = 16777216 := rfl
      omega
end

section
variable {K : PySem.W.Frag} {H : Hp} {φ : Nat → Addr} {S : Store}
theorem RR.d {v : V} {x : D} (h : RR K H φ S v (.u (.d x))) : RD K H v x := by
  cases h with
  | d h => exact h
theorem RR.mk {v : V} {x : D} (h : RD K H v x) : RR K H φ S v (.u (.d x)) := RU.d h
theorem RDs.nil_iff {vs : List V} {ds : List D} (h : RDs K H vs ds) : vs = [] ↔ ds = [] := by
  constructor
  · rintro rfl; cases h; rfl
  · rintro rfl; cases h; rfl
end
/-! ### operators -/
def rBop (K : PySem.W.Frag) : Bop → R2
  | .add => fun x y H Q => rI0 (fun i j => .int (i + j)) x y H Q ∨ ((∃ i j, x = .str i ∧ y = .str j ∧ i.length + j.length ≤ sizeLine ∧ Q (.str (i ++ j)) H) ∨ rCatA K x y H Q)
  | .sub => rI0 fun i j => .int (i - j)
  | .mul => fun x y H Q => rI CMul (fun i j => .int (i * j)) x y H Q ∨ (rI CMulW (fun i j => .int (i * j)) x y H Q ∨ ∃ z n, x = .str z ∧ y = .int n ∧ 1 ≤ n ∧ n ≤ 1000000 ∧ z.length * n.toNat ≤ lim ∧ Q (.str (strRep z n.toNat)) H)
  | .fdiv => fun x y H Q => rI CDivW (fun i j => .int (i / j)) x y H Q ∨ rI CDivN (fun i j => .int (i.fdiv j)) x y H Q
  | .mod => rI (fun _ j => 0 < j) fun i j => .int (i % j)
  | .pow => rI CPow fun i j => .int (i ^ j.toNat)
theorem opr_bop {X : Cx} : ∀ op : Bop, OpR X (binaryOp (pyBop op)) (rBop X.K op)
  | .add => op_add.or (op_add_str.or op_catA)
  | .sub => op_sub
  | .mul => op_mul.or (op_mulW.or op_mul_str)
  | .fdiv => op_fdivW.or op_fdivN
  | .mod => op_mod
  | .pow => op_pow
theorem bopD_ok {K : PySem.W.Frag} {op : Bop} {v w : V} {H : Hp} {φ : Nat → Addr} {S : Store} {a b x : D} {Q : VK} (hs : RS K H φ S) (r1 : RD K H v a) (r2 : RD K H w b) (e : bopD op a b = some x)
    (hQ : ∀ z H', Step K φ S H φ S H' → RD K H' z x → Q z H') : rBop K op v w H Q := by
  have s0 : Step K φ S H φ S H := .refl hs
  unfold bopD at e
  split at e
  · cases e; cases r1; cases r2
    exact .inl ⟨_, _, rfl, rfl, hQ _ _ s0 (.int _)⟩
  · split at e
    · rename_i c
      cases e; cases r1; cases r2
      exact .inr (.inl ⟨_, _, rfl, rfl, by rw [← lim_line]; exact c, hQ _ _ s0 (.str _)⟩)
    · cases e
  · split at e
    · rename_i c
      cases e
      cases r1 with
      | tup h1 g1 =>
        cases r2 with
        | tup h2 g2 =>
          refine .inr (.inr ⟨_, _, _, _, rfl, rfl, h1, h2, by rw [g1.len, g2.len, ← lim_line]; exact c, fun z => ?_, fun _ z => ?_, fun _ _ p hp => ?_⟩)
          · have := g1.nil_iff.1 z
            subst this
            exact hQ _ _ s0 (.tup h2 g2)
          · have := g2.nil_iff.1 z
            subst this
            rw [List.append_nil] at hQ
            exact hQ _ _ s0 (.tup h1 g1)
          · exact hQ _ _ (Step.new hs hp) (.tup (.of upd_same) ((RDs.mono (Fr.new hp) g1).app (RDs.mono (Fr.new hp) g2)))
    · cases e
  · cases e; cases r1; cases r2
    exact ⟨_, _, rfl, rfl, hQ _ _ s0 (.int _)⟩
  · split at e
    · rename_i c
      cases e; cases r1; cases r2
      unfold mulOk at c
      rw [Bool.or_eq_true, Bool.or_eq_true] at c
      rcases c with c | c | c
      · have c' := of_decide_eq_true c
        exact .inr (.inl ⟨_, _, rfl, rfl, c', hQ _ _ s0 (.int _)⟩)
      · have c' := of_decide_eq_true c
        exact .inl ⟨_, _, rfl, rfl, .inl c', hQ _ _ s0 (.int _)⟩
      · have c' := of_decide_eq_true c
        exact .inl ⟨_, _, rfl, rfl, .inr c', hQ _ _ s0 (.int _)⟩
    · cases e
  · split at e
    · rename_i c
      cases e; cases r1; cases r2
      exact .inr (.inr ⟨_, _, rfl, rfl, c.1, c.2.1, c.2.2, hQ _ _ s0 (.str _)⟩)
    · cases e
  · split at e
    · rename_i c
      cases e; cases r1; cases r2
      exact .inl ⟨_, _, rfl, rfl, c, hQ _ _ s0 (.int _)⟩
    · split at e
      · rename_i c
        cases e; cases r1; cases r2
        exact .inr ⟨_, _, rfl, rfl, c, hQ _ _ s0 (.int _)⟩
      · cases e
  · split at e
    · rename_i c
      cases e; cases r1; cases r2
      exact ⟨_, _, rfl, rfl, c, hQ _ _ s0 (.int _)⟩
    · cases e
  · split at e
    · rename_i c
      cases e; cases r1; cases r2
      exact ⟨_, _, rfl, rfl, c, hQ _ _ s0 (.int _)⟩
    · cases e
  · cases e
theorem bop_ok {K : PySem.W.Frag} (op : Bop) : OpOk K (rBop K op) (bopR op) := by
  intro v w H φ S ra rb rr Q hs h1 h2 e hQ
  unfold bopR at e
  split at e
  · rw [Option.map_eq_some_iff] at e
    obtain ⟨x, e, rfl⟩ := e
    exact bopD_ok hs h1.d h2.d e fun z H' st r => hQ z H' st (.mk r)
  · cases e
/-! ### in place -/
def rAug (K : PySem.W.Frag) : Bop → R2
  | .add => fun x y H Q => rI0 (fun i j => .int (i + j)) x y H Q ∨ (∃ i j, x = .str i ∧ y = .str j ∧ i.length + j.length ≤ sizeLine ∧ Q (.str (i ++ j)) H)
  | .sub => rI0 fun i j => .int (i - j)
  | _ => fun _ _ _ _ => False
theorem opr_aug {X : Cx} : ∀ op : Bop, OpR X (inplaceOp (pyBop op)) (rAug X.K op)
  | .add => iop_add.or iop_add_str
  | .sub => iop_sub
  | .mul => fun _ _ _ _ _ _ _ _ _ _ _ _ h => h.elim
  | .fdiv => fun _ _ _ _ _ _ _ _ _ _ _ _ h => h.elim
  | .mod => fun _ _ _ _ _ _ _ _ _ _ _ _ h => h.elim
  | .pow => fun _ _ _ _ _ _ _ _ _ _ _ _ h => h.elim
theorem augD_ok {K : PySem.W.Frag} {op : Bop} {v w : V} {H : Hp} {a b x : D} {Q : VK} (r1 : RD K H v a) (r2 : RD K H w b) (e : augD op a b = some x)
    (hQ : ∀ z, RD K H z x → Q z H) : rAug K op v w H Q := by
  unfold augD at e
  split at e
  · cases e; cases r1; cases r2
    exact .inl ⟨_, _, rfl, rfl, hQ _ (.int _)⟩
  · split at e
    · rename_i c
      cases e; cases r1; cases r2
      exact .inr ⟨_, _, rfl, rfl, by rw [← lim_line]; exact c, hQ _ (.str _)⟩
    · cases e
  · cases e; cases r1; cases r2
    exact ⟨_, _, rfl, rfl, hQ _ (.int _)⟩
  · cases e
/-! ### comparisons -/
section
variable {K : PySem.W.Frag} {H : Hp}
mutual
theorem RD.dp : ∀ {v : V} {d : D} {n : Nat}, RD K H v d → okd n d = true → Dp K H v d.pd
  | _, _, _, .non, _ => by simp only [D.pd]; exact .non
  | _, _, _, .bl b, _ => by simp only [D.pd]; exact .bl b
  | _, _, _, .int i, _ => by simp only [D.pd]; exact .int i
  | _, _, _, .str s, _ => by simp only [D.pd]; exact .str s
  | _, _, n, .ty _, h => by cases n <;> simp [okd] at h
  | _, _, 0, .tup h hs, e => by simp [okd] at e
  | _, _, n + 1, .tup h hs, e => by
    simp only [D.pd]
    exact .tup h (RDs.dp (n := n) hs (by simpa [okd] using e))
theorem RDs.dp : ∀ {vs : List V} {ds : List D} {n : Nat}, RDs K H vs ds → (∀ d ∈ ds, okd n d = true) → DpAll K H vs (D.pds ds)
  | _, _, _, .nil, _ => by simp only [D.pds]; exact .nil
  | _, _, n, .cons h hs, e => by
    simp only [D.pds]
    exact .cons (RD.dp h (e _ (by simp))) (RDs.dp hs fun d hd => e d (by simp [hd]))
end
end
theorem okd_lay : ∀ (n : Nat) (d : D), okd n d = true → d.pd.canLay0 = true ∧ d.pd.depth ≤ n := by
  intro n
  induction n with
  | zero =>
    intro d h
    cases d with
    | non => simp [D.pd, PyData.canLay0, PyData.depth]
    | bl b => simp [D.pd, PyData.canLay0, PyData.depth]
    | int i => simp [D.pd, PyData.canLay0, PyData.depth]
    | str s => exact ⟨by simpa [D.pd, PyData.canLay0, PyData.strOk, okd] using h, by simp [D.pd, PyData.depth]⟩
    | ty n => simp [okd] at h
    | tup xs => simp [okd] at h
  | succ n ih =>
    intro d h
    cases d with
    | non => simp [D.pd, PyData.canLay0, PyData.depth]
    | bl b => simp [D.pd, PyData.canLay0, PyData.depth]
    | int i => simp [D.pd, PyData.canLay0, PyData.depth]
    | str s => exact ⟨by simpa [D.pd, PyData.canLay0, PyData.strOk, okd] using h, by simp [D.pd, PyData.depth]⟩
    | ty n => simp [okd] at h
    | tup xs =>
      have h' : ∀ d ∈ xs, okd n d = true := by simpa [okd] using h
      have key : ∀ ys : List D, (∀ d ∈ ys, okd n d = true) → PyData.canLayAll0 (D.pds ys) = true ∧ PyData.depthAll (D.pds ys) ≤ n := by
        intro ys
        induction ys with
        | nil => intro _; simp [D.pds, PyData.canLayAll0, PyData.depthAll]
        | cons y ys ih2 =>
          intro hy
          obtain ⟨a1, a2⟩ := ih y (hy y (by simp))
          obtain ⟨b1, b2⟩ := ih2 fun d hd => hy d (by simp [hd])
          simp only [D.pds, PyData.canLayAll0, PyData.depthAll]
          exact ⟨by rw [a1, b1]; rfl, by omega⟩
      obtain ⟨c1, c2⟩ := key xs h'
      simp only [D.pd, PyData.canLay0, PyData.depth]
      exact ⟨c1, by omega⟩
theorem okd_shaped {d : D} (h : okd 40 d = true) : SeqAt.shaped d.pd = true := by
  obtain ⟨a, b⟩ := okd_lay 40 d h
  unfold SeqAt.shaped
  rw [a, decide_eq_true (show d.pd.depth ≤ 64 by omega)]
  rfl
theorem okds_shaped {ds : List D} (h : ds.all (okd 40) = true) : SeqAt.shaped (.list (D.pds ds)) = true ∧ SeqAt.shaped (.tuple (D.pds ds)) = true := by
  have key : ∀ ys : List D, (∀ d ∈ ys, okd 40 d = true) → PyData.canLayAll0 (D.pds ys) = true ∧ PyData.depthAll (D.pds ys) ≤ 40 := by
    intro ys
    induction ys with
    | nil => intro _; simp [D.pds, PyData.canLayAll0, PyData.depthAll]
    | cons y ys ih2 =>
      intro hy
      obtain ⟨a1, a2⟩ := okd_lay 40 y (hy y (by simp))
      obtain ⟨b1, b2⟩ := ih2 fun d hd => hy d (by simp [hd])
      simp only [D.pds, PyData.canLayAll0, PyData.depthAll]
      exact ⟨by rw [a1, b1]; rfl, by omega⟩
  obtain ⟨c1, c2⟩ := key ds (by simpa using h)
  constructor
  · unfold SeqAt.shaped
    simp only [PyData.canLay0, PyData.depth]
    rw [c1]
    simp
    omega
  · unfold SeqAt.shaped
    simp only [PyData.canLay0, PyData.depth]
    rw [c1]
    simp
    omega
end Ir

set_option Elab.async false
set_option linter.all false
set_option maxRecDepth 100000
set_option autoImplicit false
/-! Ir3b: comparisons, subscripts, slices. -/
namespace Ir
open PySem L2 PySem.Spec PyProof.Rows

mutual
theorem pyeq_eqv : ∀ (a b : D) (n m : Nat), okd n a = true → okd m b = true → PyData.eqv a.pd b.pd = pyeq a b := by
  intro a b n m ha hb
  cases a with
  | ty x => cases n <;> simp [okd] at ha
  | tup xs =>
    cases b with
    | tup ys =>
      cases n with
      | zero => simp [okd] at ha
      | succ n =>
        cases m with
        | zero => simp [okd] at hb
        | succ m =>
          simp only [D.pd, PyData.eqv, pyeq]
          exact pyeqs_eqv xs ys n m (by simpa [okd] using ha) (by simpa [okd] using hb)
    | ty y => cases m <;> simp [okd] at hb
    | _ => simp [D.pd, PyData.eqv, pyeq]
  | non => cases b with
    | ty y => cases m <;> simp [okd] at hb
    | _ => simp [D.pd, PyData.eqv, pyeq]
  | bl k => cases b with
    | ty y => cases m <;> simp [okd] at hb
    | _ => simp [D.pd, PyData.eqv, pyeq]
  | int i => cases b with
    | ty y => cases m <;> simp [okd] at hb
    | int j =>
      simp only [D.pd, PyData.eqv, pyeq]
      by_cases c : i = j
      · subst c; simp
      · rw [decide_eq_false c]; simpa using c
    | _ => simp [D.pd, PyData.eqv, pyeq]
  | str s => cases b with
    | ty y => cases m <;> simp [okd] at hb
    | str t =>
      simp only [D.pd, PyData.eqv, pyeq]
      by_cases c : s = t
      · subst c; simp
      · rw [decide_eq_false c]; simpa using c
    | _ => simp [D.pd, PyData.eqv, pyeq]
termination_by structural a => a
theorem pyeqs_eqv : ∀ (xs ys : List D) (n m : Nat), (∀ d ∈ xs, okd n d = true) → (∀ d ∈ ys, okd m d = true) → PyData.eqvAll (D.pds xs) (D.pds ys) = pyeqs xs ys := by
  intro xs ys n m hx hy
  match xs, ys with
  | [], [] => simp [D.pds, PyData.eqvAll, pyeqs]
  | [], _ :: _ => simp [D.pds, PyData.eqvAll, pyeqs]
  | _ :: _, [] => simp [D.pds, PyData.eqvAll, pyeqs]
  | x :: xs, y :: ys =>
    simp only [D.pds, PyData.eqvAll, pyeqs]
    rw [pyeq_eqv x y n m (hx x (by simp)) (hy y (by simp)), pyeqs_eqv xs ys n m (fun d hd => hx d (by simp [hd])) (fun d hd => hy d (by simp [hd]))]
termination_by structural xs => xs
end
theorem okd_up : ∀ (n : Nat) (d : D), okd n d = true → okd (n + 1) d = true := by
  intro n
  induction n with
  | zero =>
    intro d h
    cases d <;> simp [okd] at h ⊢
    exact h
  | succ n ih =>
    intro d h
    cases d with
    | tup xs =>
      simp only [okd, List.all_eq_true] at h ⊢
      intro x hx
      exact ih x (h x hx)
    | ty n => simp [okd] at h
    | _ => simpa [okd] using h
theorem any_eqv {x : D} {ds : List D} (hx : okd 40 x = true) (h : ds.all (okd 40) = true) : ((D.pds ds).any fun z => PyData.eqv z x.pd) = ds.any fun y => pyeq y x := by
  induction ds with
  | nil => rfl
  | cons y ys ih =>
    rw [List.all_cons, Bool.and_eq_true] at h
    simp only [D.pds, List.any_cons]
    rw [ih h.2, pyeq_eqv y x 40 40 h.1 hx]
def rInT (K : PySem.W.Frag) : R2 := fun x y H Q => ∃ d ds, Dp K H x d ∧ Dp K H y (.tuple ds) ∧ SeqAt.shaped d = true ∧ SeqAt.shaped (.tuple ds) = true ∧ Q (.bl (ds.any fun z => PyData.eqv z d)) H
def rNotInT (K : PySem.W.Frag) : R2 := fun x y H Q => ∃ d ds, Dp K H x d ∧ Dp K H y (.tuple ds) ∧ SeqAt.shaped d = true ∧ SeqAt.shaped (.tuple ds) = true ∧ Q (.bl (!ds.any fun z => PyData.eqv z d)) H
section
variable {X : Cx}
theorem op_inT (hu : X.A.units + 65 < cLine) : OpR X (compareOp .In) (rInT X.K) := by
  intro pins s σ H x y v u Q I rx ry h
  obtain ⟨d, ds, hd, he, sd, se, q⟩ := h
  obtain ⟨as, r1⟩ := Dp.reads I d x v hd rx
  obtain ⟨bs, r2⟩ := Dp.reads I (.tuple ds) y u he ry
  exact SeqAt.in_tuple_reads r2 r1 (SeqAt.canLay_of_shaped se) (SeqAt.canLay_of_shaped sd) (room_in_shaped sd hu) ⟨.bl _, H, I, rfl, q⟩
theorem op_notInT (hu : X.A.units + 65 < cLine) : OpR X (compareOp .NotIn) (rNotInT X.K) := by
  intro pins s σ H x y v u Q I rx ry h
  obtain ⟨d, ds, hd, he, sd, se, q⟩ := h
  obtain ⟨as, r1⟩ := Dp.reads I d x v hd rx
  obtain ⟨bs, r2⟩ := Dp.reads I (.tuple ds) y u he ry
  exact SeqAt.notIn_tuple_reads r2 r1 (SeqAt.canLay_of_shaped se) (SeqAt.canLay_of_shaped sd) (room_in_shaped sd hu) ⟨.bl _, H, I, rfl, q⟩
end
def rCop (K : PySem.W.Frag) : Cop → R2
  | .eq => fun x y H Q => rEq x y H Q ∨ rEqD K x y H Q
  | .ne => fun x y H Q => rNe x y H Q ∨ rNeD K x y H Q
  | .lt => rI0 fun i j => .bl (decide (i < j))
  | .le => rI0 fun i j => .bl (decide (i ≤ j))
  | .gt => rI0 fun i j => .bl (decide (j < i))
  | .ge => rI0 fun i j => .bl (decide (j ≤ i))
  | .is_ => fun x y H Q => y = .non ∧ Q (.bl (decide (x = .non))) H
  | .isnot => fun x y H Q => y = .non ∧ Q (.bl (!decide (x = .non))) H
  | .in_ => fun x y H Q => (∃ i j, x = .str i ∧ y = .str j ∧ Q (.bl (!(Builtin.Str.occurrences j i 0 j.length 1).isEmpty)) H) ∨ (rIn K false x y H Q ∨ (rInD K x y H Q ∨ rInT K x y H Q))
  | .notin => fun x y H Q => (∃ i j, x = .str i ∧ y = .str j ∧ Q (.bl (!(!(Builtin.Str.occurrences j i 0 j.length 1).isEmpty))) H) ∨ (rIn K true x y H Q ∨ (rNotInD K x y H Q ∨ rNotInT K x y H Q))
theorem opr_cop {X : Cx} (hu : X.A.units + 65 < cLine) : ∀ op : Cop, OpR X (compareOp (pyCop op)) (rCop X.K op)
  | .eq => op_eq.or (op_eqD (by omega))
  | .ne => op_ne.or (op_neD (by omega))
  | .lt => op_lt
  | .le => op_le
  | .gt => op_gt
  | .ge => op_ge
  | .is_ => op_isN
  | .isnot => op_notN
  | .in_ => op_in_str.or (op_in_seq.or ((op_inD hu).or (op_inT hu)))
  | .notin => op_notIn_str.or (op_notIn_seq.or ((op_notInD hu).or (op_notInT hu)))
section
variable {K : PySem.W.Frag} {H : Hp} {φ : Nat → Addr} {S : Store}
theorem scal_ok {v w : V} {a b : D} (r1 : RD K H v a) (r2 : RD K H w b) (h : scalD a b = true) : scal v w = true ∧ decide (v = w) = pyeq a b := by
  cases r1 <;> cases r2 <;> simp [scalD] at h <;> simp [scal, pyeq]
  · rename_i i j
    by_cases c : i = j <;> simp [c]
/-- a list or a tuple, its kind, as data -/
theorem kindR_ok (h : RS K H φ S) {v : V} {r : R} {k : Bool} {x : D} (q : RR K H φ S v r) (e : kindR r S = some (k, x)) :
    (k = false ∧ RD K H v x) ∨ (k = true ∧ ∃ xs vs p, x = .tup xs ∧ v = .ref p ∧ SqL K H p vs ∧ RDs K H vs xs) := by
  cases r with
  | tmp xs =>
    cases e
    obtain ⟨p, vs, h1, h2, h3, _⟩ := q
    exact .inr ⟨rfl, xs, vs, p, rfl, h1, .of h2, h3⟩
  | u x =>
    cases x with
    | d x =>
      cases e
      exact .inl ⟨rfl, q.d⟩
    | ref n =>
      simp only [kindR] at e
      cases q with
      | ref l e0 =>
        cases z : S[n]? with
        | none => rw [z] at e; cases e
        | some ob =>
          rw [z] at e
          have ho := h.obj n ob z
          cases ob with
          | lst xs =>
            cases e
            obtain ⟨vs, h1, h2⟩ := ho
            exact .inr ⟨rfl, xs, vs, φ n, rfl, e0, .of h1, h2⟩
          | rd xs =>
            cases e
            obtain ⟨vs, h1, h2⟩ := ho
            exact .inr ⟨rfl, xs, vs, φ n, rfl, e0, h1.sq, h2⟩
    | mix us => cases e
theorem eqR_ok (h : RS K H φ S) {v w : V} {ra rb : R} {k : Bool} (q1 : RR K H φ S v ra) (q2 : RR K H φ S w rb) (e : eqR ra rb S = some k) :
    (scal v w = true ∧ decide (v = w) = k) ∨ ∃ d e, Dp K H v d ∧ Dp K H w e ∧ SeqAt.shaped d = true ∧ SeqAt.shaped e = true ∧ PyData.eqv d e = k := by
  unfold eqR at e
  rw [Option.bind_eq_some_iff] at e
  obtain ⟨⟨ka, a⟩, e1, e⟩ := e
  rw [Option.bind_eq_some_iff] at e
  obtain ⟨⟨kb, b⟩, e2, e⟩ := e
  split at e
  · rename_i c
    obtain ⟨c1, c2⟩ := c
    cases e
    simp only at c1 c2
    subst c1
    unfold eqOk at c2
    rw [Bool.or_eq_true, Bool.and_eq_true] at c2
    rcases kindR_ok h q1 e1 with ⟨rfl, r1⟩ | ⟨rfl, xs, vs, p, rfl, rfl, s1, r1⟩
    · rcases kindR_ok h q2 e2 with ⟨_, r2⟩ | ⟨x, _⟩
      · rcases c2 with c2 | ⟨c2, c3⟩
        · exact .inl (scal_ok r1 r2 c2)
        · exact .inr ⟨_, _, r1.dp c2, r2.dp c3, okd_shaped c2, okd_shaped c3, pyeq_eqv a b 40 40 c2 c3⟩
      · cases x
    · rcases kindR_ok h q2 e2 with ⟨x, _⟩ | ⟨_, ys, ws, p2, rfl, rfl, s2, r2⟩
      · cases x
      · rcases c2 with c2 | ⟨c2, c3⟩
        · simp [scalD] at c2
        · have a1 : ∀ d ∈ xs, okd 39 d = true := by simpa [okd] using c2
          have a2 : ∀ d ∈ ys, okd 39 d = true := by simpa [okd] using c3
          have b1 : xs.all (okd 40) = true := by
            rw [List.all_eq_true]
            intro d hd
            exact okd_up 39 d (a1 d hd)
          have b2 : ys.all (okd 40) = true := by
            rw [List.all_eq_true]
            intro d hd
            exact okd_up 39 d (a2 d hd)
          refine .inr ⟨.list (D.pds xs), .list (D.pds ys), .lst s1 (r1.dp a1), .lst s2 (r2.dp a2), (okds_shaped b1).1, (okds_shaped b2).1, ?_⟩
          simp only [PyData.eqv, pyeq]
          exact pyeqs_eqv xs ys 39 39 a1 a2
  · cases e
theorem flat_ok {v : V} {a : D} (r : RD K H v a) (h : flatD a = true) : flatV v = true := by
  cases r <;> simp [flatD] at h <;> rfl
theorem eqV_ok {v w : V} {a b : D} (r1 : RD K H v a) (r2 : RD K H w b) (h1 : flatD a = true) (h2 : flatD b = true) : eqV v w = pyeq a b := by
  cases r1 <;> simp [flatD] at h1 <;> cases r2 <;> simp [flatD] at h2 <;> simp [eqV, pyeq]
  · rename_i i j
    by_cases c : i = j <;> simp [c]
  · rename_i i j
    by_cases c : i = j <;> simp [c]
theorem inV_ok {v : V} {a : D} (r : RD K H v a) (h : flatD a = true) : ∀ {vs : List V} {ds : List D}, RDs K H vs ds → ds.all flatD = true → inV v vs = ds.any (fun y => pyeq y a) ∧ vs.all flatV = true
  | _, _, .nil, _ => ⟨rfl, rfl⟩
  | _, _, .cons h1 hs, e => by
    rw [List.all_cons, Bool.and_eq_true] at e
    obtain ⟨a1, a2⟩ := inV_ok r h hs e.2
    refine ⟨?_, ?_⟩
    · show (eqV _ v || inV v _) = _
      rw [a1, eqV_ok h1 r e.1 h]
      rfl
    · rw [List.all_cons, flat_ok h1 e.1, a2]
      rfl
/-- what in tells -/
theorem inR_ok (h : RS K H φ S) {v w : V} {ra rb : R} {k : Bool} (q1 : RR K H φ S v ra) (q2 : RR K H φ S w rb) (e : inR ra rb S = some k) :
    (∃ i j, v = .str i ∧ w = .str j ∧ (!(Builtin.Str.occurrences j i 0 j.length 1).isEmpty) = k) ∨
    (∃ p xs, w = .ref p ∧ (SqL K H p xs ∨ SqT K H p xs) ∧ flatV v = true ∧ xs.all flatV = true ∧ inV v xs = k) ∨
    (∃ d ds, Dp K H v d ∧ (Dp K H w (.list ds) ∨ Dp K H w (.tuple ds)) ∧ SeqAt.shaped d = true ∧ SeqAt.shaped (.list ds) = true ∧ SeqAt.shaped (.tuple ds) = true ∧ (ds.any fun z => PyData.eqv z d) = k) := by
  unfold inR at e
  split at e
  · cases e
    have r1 := q1.d
    have r2 := q2.d
    cases r1; cases r2
    exact .inl ⟨_, _, rfl, rfl, rfl⟩
  · rw [Option.bind_eq_some_iff] at e
    obtain ⟨ds, e1, e⟩ := e
    split at e
    · rename_i x _ _ c
      cases e
      obtain ⟨p, vs, rfl, rs, sq⟩ := seqR_ok h q2 e1
      have r1 := q1.d
      unfold inOk at c
      rw [Bool.or_eq_true, Bool.and_eq_true, Bool.and_eq_true] at c
      rcases c with ⟨c1, c2⟩ | ⟨c1, c2⟩
      · obtain ⟨a1, a2⟩ := inV_ok r1 c1 rs c2
        exact .inr (.inl ⟨p, vs, rfl, sq, flat_ok r1 c1, a2, a1⟩)
      · obtain ⟨b1, b2⟩ := okds_shaped c2
        have a1 : ∀ d ∈ ds, okd 40 d = true := by simpa using c2
        refine .inr (.inr ⟨_, _, r1.dp c1, ?_, okd_shaped c1, b1, b2, any_eqv c1 c2⟩)
        rcases sq with sq | sq
        · exact .inl (.lst sq (rs.dp a1))
        · exact .inr (.tup sq (rs.dp a1))
    · cases e
  · cases e
theorem isNon_ok {v : V} {r : R} (q : RR K H φ S v r) : decide (v = .non) = isNonR r := by
  cases r with
  | tmp xs =>
    obtain ⟨p, vs, rfl, _⟩ := q
    simp [isNonR]
  | u x =>
    cases x with
    | d x =>
      have r := q.d
      cases r <;> simp [isNonR, isNonU]
    | ref n =>
      cases q with
      | ref _ e => rw [e]; simp [isNonR, isNonU]
    | mix us =>
      cases q with
      | mix _ _ => simp [isNonR, isNonU]
theorem cop_ok {op : Cop} {v w : V} {ra rb : R} {k : Bool} {Q : VK} (h : RS K H φ S) (q1 : RR K H φ S v ra) (q2 : RR K H φ S w rb) (e : copR op ra rb S = some k) (hQ : Q (.bl k) H) : rCop K op v w H Q := by
  cases op with
  | eq =>
    rcases eqR_ok h q1 q2 e with ⟨a, b⟩ | ⟨d, f, a1, a2, a3, a4, a5⟩
    · exact .inl ⟨a, by rw [b]; exact hQ⟩
    · exact .inr ⟨d, f, a1, a2, a3, a4, by rw [a5]; exact hQ⟩
  | ne =>
    simp only [copR, Option.map_eq_some_iff] at e
    obtain ⟨k', e, rfl⟩ := e
    rcases eqR_ok h q1 q2 e with ⟨a, b⟩ | ⟨d, f, a1, a2, a3, a4, a5⟩
    · exact .inl ⟨a, by rw [b]; exact hQ⟩
    · exact .inr ⟨d, f, a1, a2, a3, a4, by rw [a5]; exact hQ⟩
  | in_ =>
    rcases inR_ok h q1 q2 e with ⟨i, j, rfl, rfl, b⟩ | ⟨p, xs, rfl, a1, a2, a3, a4⟩ | ⟨d, ds, a1, a2, a3, a4, a5, a6⟩
    · exact .inl ⟨i, j, rfl, rfl, by rw [b]; exact hQ⟩
    · exact .inr (.inl ⟨p, xs, rfl, a1, a2, a3, by rw [a4]; exact hQ⟩)
    · rcases a2 with a2 | a2
      · exact .inr (.inr (.inl ⟨d, ds, a1, a2, a3, a4, by rw [a6]; exact hQ⟩))
      · exact .inr (.inr (.inr ⟨d, ds, a1, a2, a3, a5, by rw [a6]; exact hQ⟩))
  | notin =>
    simp only [copR, Option.map_eq_some_iff] at e
    obtain ⟨k', e, rfl⟩ := e
    rcases inR_ok h q1 q2 e with ⟨i, j, rfl, rfl, b⟩ | ⟨p, xs, rfl, a1, a2, a3, a4⟩ | ⟨d, ds, a1, a2, a3, a4, a5, a6⟩
    · exact .inl ⟨i, j, rfl, rfl, by rw [b]; exact hQ⟩
    · exact .inr (.inl ⟨p, xs, rfl, a1, a2, a3, by rw [a4]; exact hQ⟩)
    · rcases a2 with a2 | a2
      · exact .inr (.inr (.inl ⟨d, ds, a1, a2, a3, a4, by rw [a6]; exact hQ⟩))
      · exact .inr (.inr (.inr ⟨d, ds, a1, a2, a3, a5, by rw [a6]; exact hQ⟩))
  | is_ =>
    simp only [copR] at e
    split at e
    · rename_i c
      cases e
      rw [← isNon_ok q2] at c
      rw [← isNon_ok q1] at hQ
      exact ⟨of_decide_eq_true c, hQ⟩
    · cases e
  | isnot =>
    simp only [copR] at e
    split at e
    · rename_i c
      cases e
      rw [← isNon_ok q2] at c
      rw [← isNon_ok q1] at hQ
      exact ⟨of_decide_eq_true c, hQ⟩
    · cases e
  | lt =>
    simp only [copR] at e
    split at e
    · have r1 := q1.d
      have r2 := q2.d
      unfold copD at e
      split at e <;> first | (cases e; done) | skip
      all_goals (rename_i z; first | (cases z; done) | skip)
      all_goals (cases r1; cases r2; cases e; exact ⟨_, _, rfl, rfl, hQ⟩)
    · cases e
  | le =>
    simp only [copR] at e
    split at e
    · have r1 := q1.d
      have r2 := q2.d
      unfold copD at e
      split at e <;> first | (cases e; done) | skip
      all_goals (rename_i z; first | (cases z; done) | skip)
      all_goals (cases r1; cases r2; cases e; exact ⟨_, _, rfl, rfl, hQ⟩)
    · cases e
  | gt =>
    simp only [copR] at e
    split at e
    · have r1 := q1.d
      have r2 := q2.d
      unfold copD at e
      split at e <;> first | (cases e; done) | skip
      all_goals (rename_i z; first | (cases z; done) | skip)
      all_goals (cases r1; cases r2; cases e; exact ⟨_, _, rfl, rfl, hQ⟩)
    · cases e
  | ge =>
    simp only [copR] at e
    split at e
    · have r1 := q1.d
      have r2 := q2.d
      unfold copD at e
      split at e <;> first | (cases e; done) | skip
      all_goals (rename_i z; first | (cases z; done) | skip)
      all_goals (cases r1; cases r2; cases e; exact ⟨_, _, rfl, rfl, hQ⟩)
    · cases e
end
end Ir

set_option Elab.async false
set_option linter.all false
set_option maxRecDepth 100000
set_option autoImplicit false
/-! Ir3c: the limit on digits; subscripts, slices, built-in functions, methods. -/
namespace PySem.W
open PySem PySem.Calls PySem.NumText PyProof.Rows
namespace KIN
theorem wp_textB {M : Model} {A : Around} {E : Value → Shared → Prop} {s : Shared} {Q : Value → Shared → Prop} {v : Value} {text : List Nat} {n : Int} (hn : s.heap.NoDigits)
    (hs : ¬ (text.takeWhile (· != 0)).length ≤ 640) (hr : (int_private% "readNumeral") 4300 10 (text.takeWhile (· != 0)) = (int_private% "Numeral.value") n)
    (ha : ((text.takeWhile (· != 0)).length == text.length) = true) (h : Q (.int n s.toks) { s with toks := s.toks + 1 }) :
    wpAny M A ((int_private% "intFromText") v text 10) Q E s := by
  obtain ⟨mc, hns, hnone⟩ := hn
  have key : wpAny M A Builtin.intMaxStrDigits (fun l s' => l = 4300 ∧ s' = s) E s := by
    unfold Builtin.intMaxStrDigits
    refine wpAny_bind (wpAny_nsGet hns ?_)
    rw [hnone]
    exact wpAny_pure ⟨rfl, rfl⟩
  obtain ⟨hp, g, d, tk, os⟩ := s
  k_delta "intFromText"
  dsimp only
  rw [if_neg hs]
  refine wpAny_bind (L2.thn key ?_)
  rintro l s' ⟨rfl, rfl⟩
  rw [hr]
  repeat (any_goals (first
    | assumption
    | (with_reducible refine wpAny_ite_true (decide_eq_true ha) ?_)
    | wp_step))
theorem meets_textB {x : PySem.Str} {u : Tok} {n : Int} (hl : ¬ (numSeenOf x).length ≤ 640) (hx : x.length ≤ sizeLine) (hn : PySem.intText? x = some n) :
    Meets (Builtin.«int.__new__» ⟨[.type "int", .str x u], []⟩) (fun _ R s => s.heap.NoDigits ∧ R (.ok (.ret (.int n s.toks))) { s with toks := s.toks + 1 }) := by
  intro prog w A R s hh
  obtain ⟨nd, h⟩ := hh
  have hr : (int_private% "readNumeral") 4300 10 (numSeenOf x) = (int_private% "Numeral.value") n ∧ ((numSeenOf x).length == (numTextOf x).length) = true := by
    rcases read4300 x hx with ⟨m, h1, h2, h3⟩ | ⟨h1, _⟩
    · rw [hn] at h1
      injection h1 with h1
      subst h1
      exact ⟨h3, h2⟩
    · rw [hn] at h1
      cases h1
  obtain ⟨hp, g, d, tk, os⟩ := s
  have f1 := F.conv_sub_int
  have f2 := F.madeHere_int
  have f3 := str_int
  have f4 := str_idx
  have f5 := str_trunc
  have f6 : typeOf (.str x u) = pure (.type "str") := rfl
  have hk := Hid.mk (And.intro hl (And.intro hr nd))
  clear hl hr hn nd
  repeat (any_goals (first
    | assumption
    | ((with_reducible show wpAny _ _ ((int_private% "intFromText") _ _ _) _ _ _); refine wp_textB hk.out.2.2 hk.out.1 hk.out.2.1.1 hk.out.2.1.2 ?_)
    | wp_step))
end KIN
end PySem.W

set_option Elab.async false
set_option linter.all false
set_option maxRecDepth 100000
set_option autoImplicit false
/-! Ir3d: subscripts, slices, built-in functions, methods. -/
namespace Ir
open PySem L2 PySem.Spec PyProof.Rows
/-- the limit on digits is as it is at the start -/
def Dig (K : PySem.W.Frag) : Prop := PySem.W.nsIn K cStatics "sys.int_max_str_digits" = some none
theorem none_of {K : PySem.W.Frag} {h : Heap} {mg : Str → Option Value} {n : Str} {a : Addr} (X : K.In h) (G : h.Ns a mg) (e : PySem.W.nsIn K a n = some none) : mg n = none := by
  obtain ⟨o, es, ep, ho, hd, _, hf⟩ := G
  unfold PySem.W.nsIn at e
  split at e
  · rename_i q
    have z := X _ _ q
    rw [ho] at z
    cases z
    cases hd
    split at e
    · cases e
    · rename_i q2
      rw [← hf]
      unfold nsFind findBy
      rw [← Array.find?_toList, q2]
      rfl
  · cases e
theorem nodig {X : Cx} {pins : List (Addr × Obj)} {σ : L2.St} {H : Hp} {s : Shared} (d : Dig X.K) (I : Inv X pins σ H s) : s.heap.NoDigits := by
  obtain ⟨mc, h1, _⟩ := I.nolimit
  exact ⟨mc, h1, none_of I.kIn h1 d⟩
section
variable {X : Cx}
theorem digOk_cases {i : Int} (h : digOk i = true) : i.natAbs.log2 < 1920 ∨ i.natAbs < 10 ^ 4300 := by
  unfold digOk at h
  rw [Bool.or_eq_true] at h
  exact h.imp of_decide_eq_true of_decide_eq_true
theorem call_str_big (hc : X.calm = true) (d : Dig X.K) : CallR X (.type "str") (fun xs H Q => ∃ i, xs = [.int i] ∧ digOk i = true ∧ Q (.str (toString i)) H) := by
  intro pins s σ H xs us Q I r h
  obtain ⟨i, rfl, hz, q⟩ := h
  obtain ⟨u, rfl, t, rfl⟩ := vals1 r
  rcases digOk_cases hz with hz | hz
  · exact PySem.P.str_of_int hz ⟨.str _, H, I.tok _, ⟨_, rfl⟩, q⟩
  · exact str_of_int_or (I.ok.hd hc) (nodig d I) (fun _ => ⟨.str _, H, I.tok _, ⟨_, rfl⟩, q⟩) (fun z => absurd hz (Nat.not_lt.mpr z))
theorem call_int_big (d : Dig X.K) : CallR X (.type "int") (fun xs H Q => ∃ a n, xs = [.str a] ∧ PySem.intText? a = some n ∧ intLen a = true ∧ Q (.int n) H) := by
  intro pins s σ H xs us Q I rs h
  obtain ⟨a, n, rfl, hn, hl, h⟩ := h
  obtain ⟨u, rfl, t, rfl⟩ := vals1 rs
  by_cases c : a.length ≤ 640
  · exact PySem.W.KIN.call_text hn c ⟨.int n, H, I.tok _, ⟨_, rfl⟩, h⟩
  · unfold intLen at hl
    rw [decide_eq_false c, Bool.false_or, Bool.and_eq_true] at hl
    have hd : ∀ c ∈ a.cps.toList, c = 45 ∨ (48 ≤ c ∧ c ≤ 57) := by
      intro c hc
      have := List.all_eq_true.1 hl.2 c hc
      exact of_decide_eq_true this
    have h43 : a.length ≤ 4300 := of_decide_eq_true hl.1
    have e := (PySem.numText_signs hd).2
    have c2 : ¬ (PySem.numSeenOf a).length ≤ 640 := by
      rw [e]
      exact c
    exact PySem.call_int_1 (PySem.W.KIN.meets_textB c2 (by rw [sizeLine_eq]; omega) hn) ⟨nodig d I, typeIs_int _ _ _, ⟨.int n, H, I.tok _, ⟨_, rfl⟩, h⟩⟩
theorem pe_fmtB (hc : X.calm = true) (d : Dig X.K) {e : Expr} {te : TE} {pos : Pos} (he : PE X e te) : PE X (.FormattedValue e (-1) none pos)
    (fun σ H Q => te σ H fun x H1 => (∃ y : Str, x = .str y ∧ y.length ≤ sizeLine ∧ Q (.str y) H1) ∨ ∃ i : Int, x = .int i ∧ digOk i = true ∧ Q (.str (toString i)) H1) := by
  refine ⟨fun pins s σ H Q I h => ?_⟩
  refine wpAny_FormattedValue_plain (thn (he.run pins s σ H _ I h) fun v s1 hv => ?_)
  obtain ⟨x, H1, I1, r1, q⟩ := hv
  rcases q with ⟨y, rfl, hz, q⟩ | ⟨i, rfl, hz, q⟩
  · obtain ⟨t, rfl⟩ := r1
    exact wpAny_formatField_str ⟨.str y, H1, I1, ⟨t, rfl⟩, q⟩ ⟨.str y, H1, I1.tok _, ⟨_, rfl⟩, q⟩ hz
  · obtain ⟨t, rfl⟩ := r1
    rcases digOk_cases hz with hz | hz
    · exact wpAny_formatField_int hz ⟨.str (toString i), H1, I1.tok _, ⟨_, rfl⟩, q⟩
    · exact formatField_int (I1.ok.hd hc) (nodig d I1) (fun _ => ⟨.str (toString i), H1, I1.tok _, ⟨_, rfl⟩, q⟩) (fun z => absurd hz (Nat.not_lt.mpr z))
end
end Ir

set_option Elab.async false
set_option linter.all false
set_option maxRecDepth 100000
set_option autoImplicit false
/-! Ir3e: subscripts, slices, built-in functions, methods. -/
namespace Ir
open PySem L2 PySem.Spec PyProof.Rows
section
variable {K : PySem.W.Frag} {H : Hp} {φ : Nat → Addr} {S : Store}
theorem lstR_ok (h : RS K H φ S) {v : V} {r : R} {ds : List D} (q : RR K H φ S v r) (e : lstR r S = some ds) : ∃ p vs, v = .ref p ∧ RDs K H vs ds ∧ SqL K H p vs := by
  cases r with
  | tmp xs =>
    cases e
    obtain ⟨p, vs, h1, h2, h3, _⟩ := q
    exact ⟨p, vs, h1, h3, .of h2⟩
  | u x =>
    cases x with
    | d x => cases e
    | ref n =>
      simp only [lstR] at e
      cases q with
      | ref l e0 =>
        cases z : S[n]? with
        | none => rw [z] at e; cases e
        | some ob =>
          rw [z] at e
          have ho := h.obj n ob z
          cases ob with
          | lst xs =>
            cases e
            obtain ⟨vs, h1, h2⟩ := ho
            exact ⟨φ n, vs, e0, h2, .of h1⟩
          | rd xs =>
            cases e
            obtain ⟨vs, h1, h2⟩ := ho
            exact ⟨φ n, vs, e0, h2, h1.sq⟩
    | mix us => cases e
theorem RDs.atI {vs : List V} {ds : List D} (h : RDs K H vs ds) {i : Int} {x : D} (e : L2.atI ds i = some x) : ∃ v, L2.atI vs i = some v ∧ RD K H v x := by
  unfold L2.atI at e ⊢
  rw [Option.bind_eq_some_iff] at e
  obtain ⟨j, e1, e2⟩ := e
  rw [h.len, e1]
  exact h.get e2
theorem RUs.atI {N : Nat} {vs : List V} {ds : List U} (h : RUs K H φ N vs ds) {i : Int} {x : U} (e : L2.atI ds i = some x) : ∃ v, L2.atI vs i = some v ∧ RU K H φ N v x := by
  unfold L2.atI at e ⊢
  rw [Option.bind_eq_some_iff] at e
  obtain ⟨j, e1, e2⟩ := e
  rw [h.len, e1]
  exact h.get e2
/-- a[i] -/
theorem idx_ok {v w : V} {ra rb rr : R} {Q : VK} (h : RS K H φ S) (q1 : RR K H φ S v ra) (q2 : RR K H φ S w rb) (e : idxR ra rb S = some rr) (hQ : ∀ z, RR K H φ S z rr → Q z H) : rIx K v w H Q := by
  unfold idxR at e
  split at e
  · have r2 := q2.d
    cases r2
    split at e
    · split at e
      · rename_i c
        rw [Option.map_eq_some_iff] at e
        obtain ⟨y, e, rfl⟩ := e
        have r1 := q1.d
        cases r1
        exact .inr (.inr ⟨_, _, y, rfl, rfl, by rw [← lim_line]; exact c, e, hQ _ (.mk (.str _))⟩)
      · cases e
    · rw [Option.map_eq_some_iff] at e
      obtain ⟨y, e, rfl⟩ := e
      cases q1 with
      | mix h1 h2 =>
        obtain ⟨z, e2, r⟩ := h2.atI e
        exact .inr (.inl ⟨_, _, _, z, rfl, rfl, h1, e2, hQ _ r⟩)
    · rw [Option.bind_eq_some_iff] at e
      obtain ⟨ds, e1, e⟩ := e
      rw [Option.map_eq_some_iff] at e
      obtain ⟨y, e, rfl⟩ := e
      obtain ⟨p, vs, rfl, rs, sq⟩ := seqR_ok h q1 e1
      obtain ⟨z, e2, r⟩ := rs.atI e
      rcases sq with sq | sq
      · exact .inl ⟨p, vs, _, z, rfl, rfl, sq, e2, hQ _ (.mk r)⟩
      · exact .inr (.inl ⟨p, vs, _, z, rfl, rfl, sq, e2, hQ _ (.mk r)⟩)
  · cases e
/-- a[lo:hi] -/
def rSlAll (K : PySem.W.Frag) : V → Option Int → Option Int → Hp → VK → Prop := fun x lo hi H Q => rSlA K x lo hi H Q ∨ (rSlL K x lo hi H Q ∨ rSlS x lo hi H Q)
theorem RDs.cut {vs : List V} {ds : List D} (h : RDs K H vs ds) (lo hi : Option Int) : RDs K H (cutV vs lo hi) (cutD ds lo hi) := by
  unfold cutV cutD
  rw [h.len]
  exact (h.drop _).take _
theorem cutD_whole {α : Type} {xs : List α} {lo hi : Option Int} (h : HT.sIx xs.length 0 lo = 0 ∧ HT.sIx xs.length xs.length hi = xs.length) : cutD xs lo hi = xs := by
  unfold cutD
  rw [h.1, h.2]
  simp
theorem sl_ok {v : V} {ra rr : R} {lo hi : Option Int} {Q : VK} (h : RS K H φ S) (q1 : RR K H φ S v ra) (e : slR ra lo hi S = some rr)
    (hQ : ∀ z H', Step K φ S H φ S H' → RR K H' φ S z rr → Q z H') : rSlAll K v lo hi H Q := by
  unfold slR at e
  split at e
  · split at e
    · rename_i c
      cases e
      have r1 := q1.d
      cases r1
      exact .inr (.inr ⟨_, rfl, by rw [← lim_line]; exact c, hQ _ _ (.refl h) (.mk (.str _))⟩)
    · cases e
  · cases e
    have r1 := q1.d
    cases r1 with
    | tup h1 h2 =>
      refine .inl ⟨_, _, rfl, h1, fun c => ?_, fun c p hp => ?_⟩
      · rw [h2.len] at c
        rw [cutD_whole c] at hQ
        exact hQ _ _ (.refl h) (.mk (.tup h1 h2))
      · exact hQ _ _ (Step.new h hp) (.mk (.tup (.of upd_same) (RDs.mono (Fr.new hp) (h2.cut lo hi))))
  · rw [Option.map_eq_some_iff] at e
    obtain ⟨xs, e, rfl⟩ := e
    obtain ⟨p, vs, rfl, rs, sq⟩ := lstR_ok h q1 e
    refine .inr (.inl ⟨p, vs, rfl, sq, fun p hp => ?_⟩)
    exact hQ _ _ (Step.new h hp) ⟨p, _, rfl, upd_same, RDs.mono (Fr.new hp) (rs.cut lo hi), h.fresh hp⟩
end
theorem slr_all {X : Cx} : SlR X (rSlAll X.K) := sl_tupA.or (sl_list.or sl_str)

/-! ### built-in functions -/
def biName : Bi → Str
  | .len => "len" | .int => "int" | .str => "str" | .abs => "abs" | .max => "max" | .min => "min" | .tuple => "tuple" | .list => "list" | .all => "all" | .any => "any" | .sum => "sum" | .isin => "isinstance"
/-- the built-in value: a class or a function -/
def biVal : Bi → Value
  | .len => .builtin "len" | .int => .type "int" | .str => .type "str" | .abs => .builtin "abs" | .max => .builtin "max" | .min => .builtin "min" | .tuple => .type "tuple" | .list => .type "list"
  | .all => .builtin "all" | .any => .builtin "any" | .sum => .builtin "sum" | .isin => .builtin "isinstance"
def rBi (K : PySem.W.Frag) : Bi → List V → Hp → VK → Prop
  | .len => fun xs H Q => ∃ (x : V) (n : Nat), xs = [x] ∧ LenV K x H n ∧ Q (.int n) H
  | .int => fun xs H Q => ((∃ i, xs = [.int i] ∧ Q (.int i) H) ∨ ∃ k, xs = [.bl k] ∧ Q (.int (if k then 1 else 0)) H) ∨ ∃ a n, xs = [.str a] ∧ PySem.intText? a = some n ∧ intLen a = true ∧ Q (.int n) H
  | .str => fun xs H Q => ∃ i, xs = [.int i] ∧ digOk i = true ∧ Q (.str (toString i)) H
  | .abs => fun xs H Q => ∃ i, xs = [.int i] ∧ Q (.int (if i < 0 then -i else i)) H
  | .max => fun xs H Q => ∃ i j, xs = [.int i, .int j] ∧ Q (.int (if j > i then j else i)) H
  | .min => fun xs H Q => ∃ i j, xs = [.int i, .int j] ∧ Q (.int (if j < i then j else i)) H
  | .tuple => fun xs H Q => ∃ p ys, xs = [.ref p] ∧ ((SqL K H p ys ∧ ∀ l, H l = none → Q (.ref l) (upd H l (.tup ys))) ∨ (SqT K H p ys ∧ Q (.ref p) H))
  | .list => fun xs H Q => ∃ p ys, xs = [.ref p] ∧ (SqL K H p ys ∨ SqT K H p ys) ∧ ∀ l, H l = none → Q (.ref l) (upd H l (.lst ys))
  | .all => rAll K
  | .any => rAny K
  | .sum => rSum K
  | .isin => rIsi K
theorem crx {X : Cx} (hc : X.calm = true) (d : Dig X.K) : ∀ b : Bi, CallR X (biVal b) (rBi X.K b)
  | .len => call_len
  | .int => call_int1.or (call_int_big d)
  | .str => call_str_big hc d
  | .abs => call_abs
  | .max => call_max2 hc
  | .min => call_min2 hc
  | .tuple => call_tuple_of
  | .list => call_list_of
  | .all => cr_all hc
  | .any => cr_any hc
  | .sum => cr_sum hc
  | .isin => call_isi
theorem biBoot : ∀ b : Bi, bootBuiltins (biName b) = some (biVal b) := by
  intro b
  cases b <;> decide +kernel
inductive RRs (K : PySem.W.Frag) (H : Hp) (φ : Nat → Addr) (S : Store) : List V → List R → Prop
  | nil : RRs K H φ S [] []
  | cons {v : V} {vs : List V} {r : R} {rs : List R} : RR K H φ S v r → RRs K H φ S vs rs → RRs K H φ S (v :: vs) (r :: rs)
section
variable {K : PySem.W.Frag} {H : Hp} {φ : Nat → Addr} {S : Store}
theorem RRs.one {vs : List V} {r : R} (h : RRs K H φ S vs [r]) : ∃ v, vs = [v] ∧ RR K H φ S v r := by
  cases h with
  | cons h1 h2 => cases h2; exact ⟨_, rfl, h1⟩
theorem RRs.two {vs : List V} {r r' : R} (h : RRs K H φ S vs [r, r']) : ∃ v w, vs = [v, w] ∧ RR K H φ S v r ∧ RR K H φ S w r' := by
  cases h with
  | cons h1 h2 =>
    obtain ⟨w, rfl, h3⟩ := h2.one
    exact ⟨_, w, rfl, h1, h3⟩
theorem RRs.nil_ {vs : List V} (h : RRs K H φ S vs []) : vs = [] := by cases h; rfl
theorem len_ok {v : V} {r : R} {n : Nat} (h : RS K H φ S) (q : RR K H φ S v r) (e : lenR r S = some n) : LenV K v H n := by
  unfold lenR at e
  split at e
  · split at e
    · rename_i c
      cases e
      have r := q.d
      cases r
      exact ⟨by rw [← lim_line]; exact c, rfl⟩
    · cases e
  · cases e
    cases q with
    | mix h1 h2 => exact .inr ⟨_, h1, h2.len.symm⟩
  · rw [Option.map_eq_some_iff] at e
    obtain ⟨ds, e, rfl⟩ := e
    obtain ⟨p, vs, rfl, rs, sq⟩ := seqR_ok h q e
    rcases sq with sq | sq
    · exact .inl ⟨vs, sq, rs.len.symm⟩
    · exact .inr ⟨vs, sq, rs.len.symm⟩
theorem bools_ok : ∀ {vs : List V} {ds : List D} {bs : List Bool}, RDs K H vs ds → boolsD ds = some bs → vs = bs.map V.bl
  | _, _, bs, .nil, e => by cases e; rfl
  | _, _, bs, .cons (d := .bl b) h hs, e => by
    simp only [boolsD, Option.map_eq_some_iff] at e
    obtain ⟨bs', e, rfl⟩ := e
    cases h
    rw [bools_ok hs e]
    rfl
  | _, _, bs, .cons (d := .non) h hs, e => by simp [boolsD] at e
  | _, _, bs, .cons (d := .int i) h hs, e => by simp [boolsD] at e
  | _, _, bs, .cons (d := .str i) h hs, e => by simp [boolsD] at e
  | _, _, bs, .cons (d := .ty i) h hs, e => by simp [boolsD] at e
  | _, _, bs, .cons (d := .tup i) h hs, e => by simp [boolsD] at e
theorem ints_ok : ∀ {vs : List V} {ds : List D} {bs : List Int}, RDs K H vs ds → intsD ds = some bs → vs = bs.map V.int
  | _, _, bs, .nil, e => by cases e; rfl
  | _, _, bs, .cons (d := .int b) h hs, e => by
    simp only [intsD, Option.map_eq_some_iff] at e
    obtain ⟨bs', e, rfl⟩ := e
    cases h
    rw [ints_ok hs e]
    rfl
  | _, _, bs, .cons (d := .non) h hs, e => by simp [intsD] at e
  | _, _, bs, .cons (d := .bl i) h hs, e => by simp [intsD] at e
  | _, _, bs, .cons (d := .str i) h hs, e => by simp [intsD] at e
  | _, _, bs, .cons (d := .ty i) h hs, e => by simp [intsD] at e
  | _, _, bs, .cons (d := .tup i) h hs, e => by simp [intsD] at e
theorem strs_ok : ∀ {vs : List V} {ds : List D} {bs : List Str}, RDs K H vs ds → strsD ds = some bs → vs = bs.map V.str
  | _, _, bs, .nil, e => by cases e; rfl
  | _, _, bs, .cons (d := .str b) h hs, e => by
    simp only [strsD, Option.map_eq_some_iff] at e
    obtain ⟨bs', e, rfl⟩ := e
    cases h
    rw [strs_ok hs e]
    rfl
  | _, _, bs, .cons (d := .non) h hs, e => by simp [strsD] at e
  | _, _, bs, .cons (d := .bl i) h hs, e => by simp [strsD] at e
  | _, _, bs, .cons (d := .int i) h hs, e => by simp [strsD] at e
  | _, _, bs, .cons (d := .ty i) h hs, e => by simp [strsD] at e
  | _, _, bs, .cons (d := .tup i) h hs, e => by simp [strsD] at e
theorem strs_rd : ∀ ss : List Str, RDs K H (ss.map V.str) (strD ss)
  | [] => .nil
  | s :: ss => .cons (.str s) (strs_rd ss)
theorem sqt_ty {a : Addr} {vs : List V} (h : SqT K H a vs) : TyX K H (.ref a) (.type "tuple") := by
  rcases h with (h | ⟨o, h⟩) | ⟨o, its, n, h1, h2, _⟩
  · exact .base (.tup h)
  · exact .fTuple h
  · exact .kTuple h1 h2
theorem ty_ok {v : V} {r : R} {a : String} (h : RS K H φ S) (q : RR K H φ S v r) (e : tyR r S = some a) : TyX K H v (.type a) := by
  unfold tyR at e
  split at e
  · cases e
    obtain ⟨p, vs, rfl, h2, _⟩ := q
    exact .base (.lst h2)
  · cases e
  · cases e
    have r := q.d
    cases r with
    | non => exact .base .non
    | bl b => exact .base (.bl b)
    | int i => exact .base (.int i)
    | str i => exact .base (.str i)
    | ty n => rename_i hn; exact absurd rfl (hn n)
    | tup h1 h2 => exact sqt_ty h1
  · cases q with
    | ref l e0 =>
      rename_i n
      cases z : S[n]? with
      | none => rw [z] at e; cases e
      | some ob =>
        rw [z] at e
        cases ob with
        | lst xs =>
          cases e
          obtain ⟨vs, h1, h2⟩ := h.obj n _ z
          rw [e0]
          exact .base (.lst h1)
        | rd xs => cases e
  · cases e
    cases q with
    | mix h1 h2 => exact sqt_ty h1
theorem isi_ok {a b : String} {k : Bool} (h : isiTab a b = some k) : PySem.W.kitOne K (.type a) (.type b) = some k := by
  apply kit_ty
  unfold isiTab at h
  split at h
  · rename_i hb
    subst hb
    split at h
    · rename_i ha
      cases h
      rcases ha with rfl | rfl <;> decide +kernel
    · split at h
      · rename_i ha
        cases h
        rcases ha with rfl | rfl | rfl | rfl <;> decide +kernel
      · cases h
  · split at h
    · rename_i hb
      split at h
      · rename_i ha
        subst ha
        cases h
        rcases hb with rfl | rfl | rfl | rfl <;> decide +kernel
      · rename_i hab
        split at h
        · rename_i ha
          cases h
          rcases hb with rfl | rfl | rfl | rfl <;> rcases ha with rfl | rfl | rfl | rfl | rfl | rfl <;> first | (exact absurd rfl hab) | decide +kernel
        · cases h
    · cases h
theorem bi_ok {b : Bi} {vs : List V} {rs : List R} {rr : R} {Q : VK} (h : RS K H φ S) (q : RRs K H φ S vs rs) (e : biR b rs S = some rr)
    (hQ : ∀ z H', Step K φ S H φ S H' → RR K H' φ S z rr → Q z H') : rBi K b vs H Q := by
  have s0 : Step K φ S H φ S H := .refl h
  unfold biR at e
  split at e
  · obtain ⟨v, rfl, q1⟩ := q.one
    rw [Option.map_eq_some_iff] at e
    obtain ⟨n, e, rfl⟩ := e
    exact ⟨v, n, rfl, len_ok h q1 e, hQ _ _ s0 (.mk (.int _))⟩
  · obtain ⟨v, rfl, q1⟩ := q.one
    cases e
    have r := q1.d
    cases r
    exact .inl (.inl ⟨_, rfl, hQ _ _ s0 (.mk (.int _))⟩)
  · obtain ⟨v, rfl, q1⟩ := q.one
    cases e
    have r := q1.d
    cases r
    exact .inl (.inr ⟨_, rfl, hQ _ _ s0 (.mk (.int _))⟩)
  · obtain ⟨v, rfl, q1⟩ := q.one
    split at e
    · rename_i c
      rw [Option.map_eq_some_iff] at e
      obtain ⟨n, e, rfl⟩ := e
      have r := q1.d
      cases r
      exact .inr ⟨_, n, rfl, e, c, hQ _ _ s0 (.mk (.int _))⟩
    · cases e
  · obtain ⟨v, rfl, q1⟩ := q.one
    split at e
    · rename_i c
      cases e
      have r := q1.d
      cases r
      exact ⟨_, rfl, c, hQ _ _ s0 (.mk (.str _))⟩
    · cases e
  · obtain ⟨v, rfl, q1⟩ := q.one
    cases e
    have r := q1.d
    cases r
    exact ⟨_, rfl, hQ _ _ s0 (.mk (.int _))⟩
  · obtain ⟨v, w, rfl, q1, q2⟩ := q.two
    cases e
    have r := q1.d
    cases r
    have r := q2.d
    cases r
    exact ⟨_, _, rfl, hQ _ _ s0 (.mk (.int _))⟩
  · obtain ⟨v, w, rfl, q1, q2⟩ := q.two
    cases e
    have r := q1.d
    cases r
    have r := q2.d
    cases r
    exact ⟨_, _, rfl, hQ _ _ s0 (.mk (.int _))⟩
  · obtain ⟨v, rfl, q1⟩ := q.one
    rw [Option.map_eq_some_iff] at e
    obtain ⟨ds, e, rfl⟩ := e
    obtain ⟨p, vs, rfl, rs, sq⟩ := seqR_ok h q1 e
    rcases sq with sq | sq
    · exact ⟨p, vs, rfl, .inl ⟨sq, fun l hl => hQ _ _ (Step.new h hl) (.mk (.tup (.of upd_same) (RDs.mono (Fr.new hl) rs)))⟩⟩
    · exact ⟨p, vs, rfl, .inr ⟨sq, hQ _ _ s0 (.mk (.tup sq rs))⟩⟩
  · obtain ⟨v, rfl, q1⟩ := q.one
    rw [Option.map_eq_some_iff] at e
    obtain ⟨ds, e, rfl⟩ := e
    obtain ⟨p, vs, rfl, rs, sq⟩ := seqR_ok h q1 e
    exact ⟨p, vs, rfl, sq, fun l hl => hQ _ _ (Step.new h hl) ⟨l, vs, rfl, upd_same, RDs.mono (Fr.new hl) rs, h.fresh hl⟩⟩
  · obtain ⟨v, rfl, q1⟩ := q.one
    rw [Option.bind_eq_some_iff] at e
    obtain ⟨ds, e1, e⟩ := e
    rw [Option.map_eq_some_iff] at e
    obtain ⟨bs, e, rfl⟩ := e
    obtain ⟨p, vs, rfl, rs, sq⟩ := lstR_ok h q1 e1
    have := bools_ok rs e
    subst this
    exact ⟨p, bs, rfl, sq, hQ _ _ s0 (.mk (.bl _))⟩
  · obtain ⟨v, rfl, q1⟩ := q.one
    rw [Option.bind_eq_some_iff] at e
    obtain ⟨ds, e1, e⟩ := e
    rw [Option.map_eq_some_iff] at e
    obtain ⟨bs, e, rfl⟩ := e
    obtain ⟨p, vs, rfl, rs, sq⟩ := lstR_ok h q1 e1
    have := bools_ok rs e
    subst this
    exact ⟨p, bs, rfl, sq, hQ _ _ s0 (.mk (.bl _))⟩
  · obtain ⟨v, rfl, q1⟩ := q.one
    rw [Option.bind_eq_some_iff] at e
    obtain ⟨ds, e1, e⟩ := e
    rw [Option.map_eq_some_iff] at e
    obtain ⟨bs, e, rfl⟩ := e
    obtain ⟨p, vs, rfl, rs, sq⟩ := lstR_ok h q1 e1
    have := ints_ok rs e
    subst this
    exact ⟨p, bs, rfl, sq, hQ _ _ s0 (.mk (.int _))⟩
  · obtain ⟨v, w, rfl, q1, q2⟩ := q.two
    rw [Option.bind_eq_some_iff] at e
    obtain ⟨a, e1, e⟩ := e
    rw [Option.map_eq_some_iff] at e
    obtain ⟨k, e, rfl⟩ := e
    have r := q2.d
    cases r
    exact ⟨v, _, _, _, k, rfl, .ty _, ty_ok h q1 e1, isi_ok e, hQ _ _ s0 (.mk (.bl _))⟩
  · cases e
/-! ### truth -/
theorem tru_ok' {v : V} {r : R} {k : Bool} (h : RS K H φ S) (q : RR K H φ S v r) (e : truR r S = some k) : TruV K v H k := by
  unfold truR at e
  split at e
  · have r := q.d
    unfold truD at e
    split at e
    · cases e; cases r; exact rfl
    · cases e; cases r; exact rfl
    · cases e; cases r; exact rfl
    · split at e
      · rename_i c
        cases e
        cases r
        exact ⟨by rw [← lim_line]; exact c, rfl⟩
      · cases e
    · cases e
      cases r with
      | tup h1 h2 =>
        refine .inr (.inl ⟨_, h1, ?_⟩)
        cases h2 <;> rfl
    · cases e
  · cases e
    cases q with
    | mix h1 h2 =>
      refine .inr (.inl ⟨_, h1, ?_⟩)
      cases h2 <;> rfl
  · rw [Option.map_eq_some_iff] at e
    obtain ⟨ds, e, rfl⟩ := e
    obtain ⟨p, vs, rfl, rs, sq⟩ := seqR_ok h q e
    have e2 : (!ds.isEmpty) = !vs.isEmpty := by cases rs <;> rfl
    rcases sq with sq | sq
    · exact .inl ⟨vs, sq, e2⟩
    · exact .inr (.inl ⟨vs, sq, e2⟩)
end
end Ir

set_option Elab.async false
set_option linter.all false
set_option maxRecDepth 100000
set_option autoImplicit false
/-! Ir4: the readings of expressions by what they compute. -/
namespace Ir
open PySem L2 PySem.Spec PyProof.Rows
abbrev MR := Env → Store → Option (R × Store)
section
variable (K : PySem.W.Frag)
def tE (m : MR) : TE := fun σ H Q => ∃ φ S ρ r S', RS K H φ S ∧ RE K H φ S.length σ ρ ∧ m ρ S = some (r, S') ∧ ∀ v H' φ', Step K φ S H φ' S' H' → RR K H' φ' S' v r → Q v H'
def tT (m : Env → Store → Option (Bool × Store)) : TT := fun σ H Q => ∃ φ S ρ b S', RS K H φ S ∧ RE K H φ S.length σ ρ ∧ m ρ S = some (b, S') ∧ ∀ H' φ', Step K φ S H φ' S' H' → Q b H'
def tA (m : Env → Store → Option (List U × Store)) : TA := fun σ H Q => ∃ φ S ρ us S', RS K H φ S ∧ RE K H φ S.length σ ρ ∧ m ρ S = some (us, S') ∧ ∀ vs H' φ', Step K φ S H φ' S' H' → RUs K H' φ' S'.length vs us → Q vs H'
def tAR (m : Env → Store → Option (List R × Store)) : TA := fun σ H Q => ∃ φ S ρ rs S', RS K H φ S ∧ RE K H φ S.length σ ρ ∧ m ρ S = some (rs, S') ∧ ∀ vs H' φ', Step K φ S H φ' S' H' → RRs K H' φ' S' vs rs → Q vs H'
def tOo (m : Env → Store → Option (Option Int × Store)) : TO := fun σ H Q => ∃ φ S ρ o S', RS K H φ S ∧ RE K H φ S.length σ ρ ∧ m ρ S = some (o, S') ∧ ∀ H' φ', Step K φ S H φ' S' H' → Q o H'
end
section
variable {K : PySem.W.Frag} {C : Callee} {σ : L2.St} {H : Hp} {Q : VK}
theorem lit_run {x : D} {v : V} (h : ∀ H, RD K H v x) : tE K (evE C (.lit x)) σ H Q → tC v σ H Q := by
  rintro ⟨φ, S, ρ, r, S', hs, he, hm, hQ⟩
  cases hm
  exact hQ _ _ _ (.refl hs) (.mk (h H))
theorem var_run {i : Nat} : tE K (evE C (.var i)) σ H Q → tVar i σ H Q := by
  rintro ⟨φ, S, ρ, r, S', hs, he, hm, hQ⟩
  simp only [evE] at hm
  split at hm
  · rename_i u e
    cases hm
    obtain ⟨v, e1, r⟩ := he.at_ i u e
    exact ⟨v, e1, hQ _ _ _ (.refl hs) r⟩
  · cases hm
/-- two in a row -/
theorem ev2_run {ma mb : MR} {ρ : Env} {φ : Nat → Addr} {S S2 : Store} {ra rb : R} {Q2 : V → V → Hp → Prop} (hs : RS K H φ S) (he : RE K H φ S.length σ ρ) (hm : ev2 (ma ρ) (mb ρ) S = some ((ra, rb), S2))
    (hQ : ∀ v w H2 φ2, Step K φ S H φ2 S2 H2 → RR K H2 φ2 S2 v ra → RR K H2 φ2 S2 w rb → Q2 v w H2) : tE K ma σ H fun x H1 => tE K mb σ H1 fun y H2 => Q2 x y H2 := by
  unfold ev2 at hm
  rw [Option.bind_eq_some_iff] at hm
  obtain ⟨⟨r1, S1⟩, h1, hm⟩ := hm
  refine ⟨φ, S, ρ, r1, S1, hs, he, h1, fun v H1 φ1 st1 q1 => ?_⟩
  cases r1 with
  | u x =>
    simp only [Option.map_eq_some_iff] at hm
    obtain ⟨⟨r2, S2'⟩, h2, e⟩ := hm
    cases e
    exact ⟨φ1, S1, ρ, _, _, st1.rs, st1.re he, h2, fun w H2 φ2 st2 q2 => hQ v w H2 φ2 (st1.trans st2) (st2.ru q1) q2⟩
  | tmp xs =>
    simp only [Option.bind_eq_some_iff] at hm
    obtain ⟨⟨r2, S3⟩, h2, e⟩ := hm
    obtain ⟨p, vs, rfl, g1, g2, g3⟩ := q1
    have stp : Step K φ1 S1 H1 (ext φ1 S1.length p) (S1 ++ [Ob.lst xs]) H1 := Step.push st1.rs (ob := .lst xs) ⟨vs, g1, g2⟩ (fun _ => g3)
    refine ⟨_, _, ρ, r2, S3, stp.rs, stp.re (st1.re he), h2, fun w H2 φ2 st2 q2 => ?_⟩
    simp only at e
    split at e
    · rename_i c
      obtain ⟨c1, c2⟩ := c
      split at e
      · rename_i ys z
        cases e
        have ag : φ2 S1.length = p := by
          rw [st2.ag S1.length (by simp), ext_at]
        have l3 : S1.length ≤ S3.length := by omega
        have ll : (S3.take S1.length).length = S1.length := by rw [List.length_take]; omega
        obtain ⟨ws, k1, k2⟩ := st2.rs.obj _ _ z
        rw [ag] at k1
        have stf : Step K φ S H φ2 (S3.take S1.length) H2 := ((st1.trans stp).trans st2).take st1.le l3
        refine hQ _ w H2 φ2 stf ⟨p, ws, rfl, k1, k2, fun i a e m q => ?_⟩ ?_
        · rw [List.getElem?_take] at e
          split at e
          · rename_i l
            have := st2.rs.inj i S1.length a _ e z m rfl (by rw [q, ag])
            omega
          · cases e
        · cases rb with
          | u x =>
            have q2' : RU K H2 φ2 S3.length w x := q2
            show RU K H2 φ2 (S3.take S1.length).length w x
            rw [ll]
            exact q2'.lower c2
          | tmp zs =>
            obtain ⟨p2, us, j1, j2, j3, j4⟩ := q2
            refine ⟨p2, us, j1, j2, j3, fun i a e m => j4 i a ?_ m⟩
            rw [List.getElem?_take] at e
            split at e
            · exact e
            · cases e
      · cases e
    · cases e
theorem bin_run {op : Bop} {a b : E} : tE K (evE C (.bin op a b)) σ H Q → tOp (rBop K op) (tE K (evE C a)) (tE K (evE C b)) σ H Q := by
  rintro ⟨φ, S, ρ, r, S', hs, he, hm, hQ⟩
  simp only [evE, Option.bind_eq_some_iff, Option.map_eq_some_iff] at hm
  obtain ⟨⟨⟨ra, rb⟩, S2⟩, h1, rr, h2, e⟩ := hm
  cases e
  exact ev2_run hs he h1 fun v w H2 φ2 st q1 q2 => bop_ok op v w H2 φ2 _ ra rb _ Q st.rs q1 q2 h2 fun z H' st' q => hQ z H' φ2 (st.trans st') q
theorem cmp_run {op : Cop} {a b : E} : tE K (evE C (.cmp op a b)) σ H Q → tOp (rCop K op) (tE K (evE C a)) (tE K (evE C b)) σ H Q := by
  rintro ⟨φ, S, ρ, r, S', hs, he, hm, hQ⟩
  simp only [evE, Option.bind_eq_some_iff, Option.map_eq_some_iff] at hm
  obtain ⟨⟨⟨ra, rb⟩, S2⟩, h1, k, h2, e⟩ := hm
  cases e
  exact ev2_run hs he h1 fun v w H2 φ2 st q1 q2 => cop_ok st.rs q1 q2 h2 (hQ _ H2 φ2 st (.mk (.bl _)))
theorem idx_run {a b : E} : tE K (evE C (.idx a b)) σ H Q → tOp (rIx K) (tE K (evE C a)) (tE K (evE C b)) σ H Q := by
  rintro ⟨φ, S, ρ, r, S', hs, he, hm, hQ⟩
  simp only [evE, Option.bind_eq_some_iff] at hm
  obtain ⟨⟨⟨ra, rb⟩, S2⟩, h1, rr, h2, e⟩ := hm
  refine ev2_run hs he h1 fun v w H2 φ2 st q1 q2 => idx_ok st.rs q1 q2 h2 fun z q => ?_
  obtain ⟨φ3, st3, q3⟩ := gcR_ok st rfl q e
  exact hQ z H2 φ3 st3 q3
theorem neg_run {a : E} : tE K (evE C (.neg a)) σ H Q → tUn (rU fun i => .int (-i)) (tE K (evE C a)) σ H Q := by
  rintro ⟨φ, S, ρ, r, S', hs, he, hm, hQ⟩
  simp only [evE, Option.bind_eq_some_iff] at hm
  obtain ⟨⟨r1, S1⟩, h1, hm⟩ := hm
  refine ⟨φ, S, ρ, r1, S1, hs, he, h1, fun v H1 φ1 st q => ?_⟩
  simp only at hm
  split at hm
  · cases hm
    have r := q.d
    cases r
    exact ⟨_, rfl, hQ _ H1 φ1 st (.mk (.int _))⟩
  · cases hm
def rCmpI : Cop → R2
  | .lt => rI0 fun i j => .bl (decide (i < j))
  | .le => rI0 fun i j => .bl (decide (i ≤ j))
  | .gt => rI0 fun i j => .bl (decide (j < i))
  | .ge => rI0 fun i j => .bl (decide (j ≤ i))
  | _ => fun _ _ _ _ => False
theorem opr_cmpI {X : Cx} : ∀ op : Cop, OpR X (compareOp (pyCop op)) (rCmpI op)
  | .lt => op_lt
  | .le => op_le
  | .gt => op_gt
  | .ge => op_ge
  | .eq => fun _ _ _ _ _ _ _ _ _ _ _ _ h => h.elim
  | .ne => fun _ _ _ _ _ _ _ _ _ _ _ _ h => h.elim
  | .is_ => fun _ _ _ _ _ _ _ _ _ _ _ _ h => h.elim
  | .isnot => fun _ _ _ _ _ _ _ _ _ _ _ _ h => h.elim
  | .in_ => fun _ _ _ _ _ _ _ _ _ _ _ _ h => h.elim
  | .notin => fun _ _ _ _ _ _ _ _ _ _ _ _ h => h.elim
theorem copD_ok {op : Cop} {v w : V} {a b : D} {k : Bool} (r1 : RD K H v a) (r2 : RD K H w b) (e : copD op a b = some k) (hQ : Q (.bl k) H) : rCmpI op v w H Q := by
  unfold copD at e
  split at e
  · cases e; cases r1; cases r2; exact ⟨_, _, rfl, rfl, hQ⟩
  · cases e; cases r1; cases r2; exact ⟨_, _, rfl, rfl, hQ⟩
  · cases e; cases r1; cases r2; exact ⟨_, _, rfl, rfl, hQ⟩
  · cases e; cases r1; cases r2; exact ⟨_, _, rfl, rfl, hQ⟩
  · cases e
theorem chain_run {o1 o2 : Cop} {a b c : E} : tE K (evE C (.chain o1 o2 a b c)) σ H Q → tChain (rCmpI o1) (rCmpI o2) (tE K (evE C a)) (tE K (evE C b)) (tE K (evE C c)) σ H Q := by
  rintro ⟨φ, S, ρ, r, S', hs, he, hm, hQ⟩
  simp only [evE, Option.bind_eq_some_iff] at hm
  obtain ⟨⟨r1, S1⟩, h1, ⟨r2, S2⟩, h2, hm⟩ := hm
  refine ⟨φ, S, ρ, r1, S1, hs, he, h1, fun v H1 φ1 st1 q1 => ⟨φ1, S1, ρ, r2, S2, st1.rs, st1.re he, h2, fun w H2 φ2 st2 q2 => ?_⟩⟩
  simp only at hm
  split at hm
  · rename_i x y _ _
    rw [Option.bind_eq_some_iff] at hm
    obtain ⟨k, hk, hm⟩ := hm
    have q1' := q1.d.mono st2.fr
    refine copD_ok q1' q2.d hk ⟨k, rfl, ?_⟩
    split at hm
    · rename_i c
      subst c
      rw [if_pos rfl]
      rw [Option.bind_eq_some_iff] at hm
      obtain ⟨⟨r3, S3⟩, h3, hm⟩ := hm
      refine ⟨φ2, S2, ρ, r3, S3, st2.rs, st2.re (st1.re he), h3, fun w3 H3 φ3 st3 q3 => ?_⟩
      simp only at hm
      split at hm
      · rw [Option.map_eq_some_iff] at hm
        obtain ⟨k2, hk2, e⟩ := hm
        cases e
        exact copD_ok (q2.d.mono st3.fr) q3.d hk2 (hQ _ H3 φ3 ((st1.trans st2).trans st3) (.mk (.bl _)))
      · cases hm
    · rename_i c
      have : k = false := by simpa using c
      subst this
      cases hm
      rw [if_neg (by decide)]
      exact hQ _ H2 φ2 (st1.trans st2) (.mk (.bl _))
  · cases hm
theorem band_run {a b : E} : tE K (evE C (.band a b)) σ H Q → tAndV (tE K (evE C a)) (tE K (evE C b)) σ H Q := by
  rintro ⟨φ, S, ρ, r, S', hs, he, hm, hQ⟩
  simp only [evE, Option.bind_eq_some_iff] at hm
  obtain ⟨⟨r1, S1⟩, h1, hm⟩ := hm
  refine ⟨φ, S, ρ, r1, S1, hs, he, h1, fun v H1 φ1 st q => ?_⟩
  simp only at hm
  split at hm
  · rename_i k
    have r := q.d
    cases r
    refine ⟨_, rfl, ?_⟩
    split at hm
    · rename_i c
      subst c
      rw [if_pos rfl]
      exact ⟨φ1, S1, ρ, _, _, st.rs, st.re he, hm, fun w H2 φ2 st2 q2 => hQ w H2 φ2 (st.trans st2) q2⟩
    · rename_i c
      have : k = false := by simpa using c
      subst this
      cases hm
      rw [if_neg (by decide)]
      exact hQ _ H1 φ1 st (.mk (.bl _))
  · cases hm
theorem bor_run {a b : E} : tE K (evE C (.bor a b)) σ H Q → tOrV (tE K (evE C a)) (tE K (evE C b)) σ H Q := by
  rintro ⟨φ, S, ρ, r, S', hs, he, hm, hQ⟩
  simp only [evE, Option.bind_eq_some_iff] at hm
  obtain ⟨⟨r1, S1⟩, h1, hm⟩ := hm
  refine ⟨φ, S, ρ, r1, S1, hs, he, h1, fun v H1 φ1 st q => ?_⟩
  simp only at hm
  split at hm
  · rename_i k
    have r := q.d
    cases r
    refine ⟨_, rfl, ?_⟩
    split at hm
    · rename_i c
      subst c
      cases hm
      rw [if_pos rfl]
      exact hQ _ H1 φ1 st (.mk (.bl _))
    · rename_i c
      have : k = false := by simpa using c
      subst this
      rw [if_neg (by decide)]
      exact ⟨φ1, S1, ρ, _, _, st.rs, st.re he, hm, fun w H2 φ2 st2 q2 => hQ w H2 φ2 (st.trans st2) q2⟩
  · cases hm
theorem bnot_run {a : E} : tE K (evE C (.bnot a)) σ H Q → tNotV (tE K (evE C a)) σ H Q := by
  rintro ⟨φ, S, ρ, r, S', hs, he, hm, hQ⟩
  simp only [evE, Option.bind_eq_some_iff] at hm
  obtain ⟨⟨r1, S1⟩, h1, hm⟩ := hm
  refine ⟨φ, S, ρ, r1, S1, hs, he, h1, fun v H1 φ1 st q => ?_⟩
  simp only at hm
  split at hm
  · cases hm
    have r := q.d
    cases r
    exact ⟨_, rfl, hQ _ H1 φ1 st (.mk (.bl _))⟩
  · cases hm
theorem ite_run {t : T} {a b : E} : tE K (evE C (.ite t a b)) σ H Q → tIf (tT K (evT C t)) (tE K (evE C a)) (tE K (evE C b)) σ H Q := by
  rintro ⟨φ, S, ρ, r, S', hs, he, hm, hQ⟩
  simp only [evE, Option.bind_eq_some_iff] at hm
  obtain ⟨⟨k, S1⟩, h1, hm⟩ := hm
  refine ⟨φ, S, ρ, k, S1, hs, he, h1, fun H1 φ1 st => ?_⟩
  simp only at hm
  split at hm
  · rename_i c
    subst c
    rw [if_pos rfl]
    exact ⟨φ1, S1, ρ, _, _, st.rs, st.re he, hm, fun w H2 φ2 st2 q2 => hQ w H2 φ2 (st.trans st2) q2⟩
  · rename_i c
    have : k = false := by simpa using c
    subst this
    rw [if_neg (by decide)]
    exact ⟨φ1, S1, ρ, _, _, st.rs, st.re he, hm, fun w H2 φ2 st2 q2 => hQ w H2 φ2 (st.trans st2) q2⟩
/-! ### arguments -/
theorem as_nil {Q : List V → Hp → Prop} : tA K (evEs C .nil) σ H Q → tNil σ H Q := by
  rintro ⟨φ, S, ρ, r, S', hs, he, hm, hQ⟩
  cases hm
  exact hQ _ _ _ (.refl hs) .nil
theorem as_cons {e : E} {es : Es} {Q : List V → Hp → Prop} : tA K (evEs C (.cons e es)) σ H Q → tCons (tE K (evE C e)) (tA K (evEs C es)) σ H Q := by
  rintro ⟨φ, S, ρ, us, S', hs, he, hm, hQ⟩
  simp only [evEs, Option.bind_eq_some_iff, Option.map_eq_some_iff] at hm
  obtain ⟨⟨r1, S1⟩, h1, ⟨us2, S2⟩, h2, e⟩ := hm
  cases e
  refine ⟨φ, S, ρ, r1, S1, hs, he, h1, fun v H1 φ1 st q => ?_⟩
  obtain ⟨φ2, st2, q2⟩ := force_ok st.rs q
  exact ⟨φ2, _, ρ, us2, S2, st2.rs, st2.re (st.re he), h2, fun vs H3 φ3 st3 q3 => hQ _ H3 φ3 ((st.trans st2).trans st3) (.cons (st3.ru q2) q3)⟩
theorem rs_nil {Q : List V → Hp → Prop} : tAR K (evRs C .nil) σ H Q → tNil σ H Q := by
  rintro ⟨φ, S, ρ, r, S', hs, he, hm, hQ⟩
  cases hm
  exact hQ _ _ _ (.refl hs) .nil
theorem rs_one {e : E} {Q : List V → Hp → Prop} : tAR K (evRs C (.cons e .nil)) σ H Q → tCons (tE K (evE C e)) tNil σ H Q := by
  rintro ⟨φ, S, ρ, us, S', hs, he, hm, hQ⟩
  simp only [evRs, Option.map_eq_some_iff] at hm
  obtain ⟨⟨r1, S1⟩, h1, e⟩ := hm
  cases e
  exact ⟨φ, S, ρ, r1, S1, hs, he, h1, fun v H1 φ1 st q => hQ _ H1 φ1 st (.cons q .nil)⟩
theorem rs_cons {e e2 : E} {es : Es} {Q : List V → Hp → Prop} : tAR K (evRs C (.cons e (.cons e2 es))) σ H Q → tCons (tE K (evE C e)) (tAR K (evRs C (.cons e2 es))) σ H Q := by
  rintro ⟨φ, S, ρ, us, S', hs, he, hm, hQ⟩
  have hm : ((evE C e ρ S).bind fun p => (evRs C (.cons e2 es) ρ (force p.1 p.2).2).map fun q => (R.u (force p.1 p.2).1 :: q.1, q.2)) = some (us, S') := by
    rw [← hm, evRs]
    intro z; cases z
  simp only [Option.bind_eq_some_iff, Option.map_eq_some_iff] at hm
  obtain ⟨⟨r1, S1⟩, h1, ⟨us2, S2⟩, h2, e⟩ := hm
  cases e
  refine ⟨φ, S, ρ, r1, S1, hs, he, h1, fun v H1 φ1 st q => ?_⟩
  obtain ⟨φ2, st2, q2⟩ := force_ok st.rs q
  exact ⟨φ2, _, ρ, us2, S2, st2.rs, st2.re (st.re he), h2, fun vs H3 φ3 st3 q3 => hQ _ H3 φ3 ((st.trans st2).trans st3) (.cons (st3.ru q2) q3)⟩
theorem mkTup_ok {φ : Nat → Addr} {N : Nat} {vs : List V} {us : List U} {p : Addr} (h : RUs K H φ N vs us) (hp : H p = some (.tup vs)) : RU K H φ N (.ref p) (mkTup us) := by
  unfold mkTup
  split
  · rename_i ds e
    exact .d (.tup (.of hp) (allD_ok h e))
  · exact .mix (.of hp) h
theorem tup_run {es : Es} (hl : ∀ ρ S us S', evEs C es ρ S = some (us, S') → us.length ≤ sizeLine) : tE K (evE C (.tup es)) σ H Q → tTup (tA K (evEs C es)) σ H Q := by
  rintro ⟨φ, S, ρ, r, S', hs, he, hm, hQ⟩
  simp only [evE, Option.map_eq_some_iff] at hm
  obtain ⟨⟨us, S1⟩, h1, e⟩ := hm
  cases e
  refine ⟨φ, S, ρ, us, S1, hs, he, h1, fun vs H1 φ1 st q => ⟨by rw [q.len]; exact hl _ _ _ _ h1, fun p hp => ?_⟩⟩
  have st2 := Step.new (o := .tup vs) st.rs hp
  exact hQ _ _ φ1 (st.trans st2) (mkTup_ok (st2.rus q) upd_same)
theorem lst_run {es : Es} (hl : ∀ ρ S us S', evEs C es ρ S = some (us, S') → us.length ≤ sizeLine) : tE K (evE C (.lst es)) σ H Q → tLst (tA K (evEs C es)) σ H Q := by
  rintro ⟨φ, S, ρ, r, S', hs, he, hm, hQ⟩
  simp only [evE, Option.bind_eq_some_iff, Option.map_eq_some_iff] at hm
  obtain ⟨⟨us, S1⟩, h1, ds, h2, e⟩ := hm
  cases e
  refine ⟨φ, S, ρ, us, S1, hs, he, h1, fun vs H1 φ1 st q => ⟨by rw [q.len]; exact hl _ _ _ _ h1, fun p hp => ?_⟩⟩
  have st2 := Step.new (o := .lst vs) st.rs hp
  exact hQ _ _ φ1 (st.trans st2) ⟨p, vs, rfl, upd_same, (allD_ok q h2).mono st2.fr, st.rs.fresh hp⟩
def Es.len : Es → Nat
  | .nil => 0
  | .cons _ es => es.len + 1
theorem evEs_len : ∀ (es : Es) (ρ : Env) (S : Store) (us : List U) (S' : Store), evEs C es ρ S = some (us, S') → us.length = es.len
  | .nil, _, _, _, _, h => by cases h; rfl
  | .cons e es, ρ, S, us, S', h => by
    simp only [evEs, Option.bind_eq_some_iff, Option.map_eq_some_iff] at h
    obtain ⟨⟨r1, S1⟩, h1, ⟨us2, S2⟩, h2, e⟩ := h
    cases e
    rw [List.length_cons, evEs_len es _ _ _ _ h2]
    rfl
/-! ### slices -/
theorem o_none {Q : Option Int → Hp → Prop} : tOo K (evO C .none) σ H Q → tNoPart σ H Q := by
  rintro ⟨φ, S, ρ, r, S', hs, he, hm, hQ⟩
  cases hm
  exact hQ _ _ (.refl hs)
theorem o_some {e : E} {Q : Option Int → Hp → Prop} : tOo K (evO C (.some e)) σ H Q → tPart (tE K (evE C e)) σ H Q := by
  rintro ⟨φ, S, ρ, o, S', hs, he, hm, hQ⟩
  simp only [evO, Option.bind_eq_some_iff] at hm
  obtain ⟨⟨r1, S1⟩, h1, hm⟩ := hm
  refine ⟨φ, S, ρ, r1, S1, hs, he, h1, fun v H1 φ1 st q => ?_⟩
  simp only at hm
  split at hm
  · cases hm
    have r := q.d
    cases r
    exact ⟨_, rfl, hQ H1 φ1 st⟩
  · cases hm
theorem sl_run {a : E} {lo hi : Oe} : tE K (evE C (.sl a lo hi)) σ H Q → tSl (rSlAll K) (tE K (evE C a)) (tOo K (evO C lo)) (tOo K (evO C hi)) σ H Q := by
  rintro ⟨φ, S, ρ, r, S', hs, he, hm, hQ⟩
  simp only [evE, Option.bind_eq_some_iff] at hm
  obtain ⟨⟨r1, S1⟩, h1, hm⟩ := hm
  refine ⟨φ, S, ρ, r1, S1, hs, he, h1, fun v H1 φ1 st1 q1 => ?_⟩
  cases r1 with
  | tmp xs => cases hm
  | u x =>
    simp only [Option.bind_eq_some_iff] at hm
    obtain ⟨⟨o1, S2⟩, h2, ⟨o2, S3⟩, h3, rr, h4, e⟩ := hm
    refine ⟨φ1, S1, ρ, o1, S2, st1.rs, st1.re he, h2, fun H2 φ2 st2 => ⟨φ2, S2, ρ, o2, S3, st2.rs, st2.re (st1.re he), h3, fun H3 φ3 st3 => ?_⟩⟩
    have st := (st1.trans st2).trans st3
    refine sl_ok st3.rs (show RR K H3 φ3 S3 v (.u x) from (st2.trans st3).ru q1) h4 fun z H' st' q => ?_
    obtain ⟨φ4, st4, q4⟩ := gcR_ok (st.trans st') rfl q e
    exact hQ z H' φ4 st4 q4
/-! ### built-in functions -/
theorem bi_run {b : Bi} {es : Es} : tE K (evE C (.bi b es)) σ H Q → tCB (rBi K b) (tAR K (evRs C es)) σ H Q := by
  rintro ⟨φ, S, ρ, r, S', hs, he, hm, hQ⟩
  simp only [evE, Option.bind_eq_some_iff] at hm
  obtain ⟨⟨rs, S1⟩, h1, rr, h2, e⟩ := hm
  refine ⟨φ, S, ρ, rs, S1, hs, he, h1, fun vs H1 φ1 st q => bi_ok st.rs q h2 fun z H' st' q' => ?_⟩
  obtain ⟨φ4, st4, q4⟩ := gcR_ok (st.trans st') rfl q' e
  exact hQ z H' φ4 st4 q4
/-! ### tests -/
theorem tv_run {e : E} {Q : Bool → Hp → Prop} : tT K (evT C (.v e)) σ H Q → tTest (tE K (evE C e)) σ H Q := by
  rintro ⟨φ, S, ρ, b, S', hs, he, hm, hQ⟩
  simp only [evT, Option.bind_eq_some_iff] at hm
  obtain ⟨⟨r1, S1⟩, h1, hm⟩ := hm
  refine ⟨φ, S, ρ, r1, S1, hs, he, h1, fun v H1 φ1 st q => ?_⟩
  simp only at hm
  split at hm
  · cases hm
    have r := q.d
    cases r
    exact ⟨_, rfl, hQ H1 φ1 st⟩
  · cases hm
theorem ttr_run {e : E} {Q : Bool → Hp → Prop} : tT K (evT C (.tr e)) σ H Q → tE K (evE C e) σ H (fun x H' => ∃ k, TruV K x H' k ∧ Q k H') := by
  rintro ⟨φ, S, ρ, b, S', hs, he, hm, hQ⟩
  simp only [evT, Option.bind_eq_some_iff, Option.map_eq_some_iff] at hm
  obtain ⟨⟨r1, S1⟩, h1, k, h2, e⟩ := hm
  cases e
  exact ⟨φ, S, ρ, r1, S1, hs, he, h1, fun v H1 φ1 st q => ⟨b, tru_ok' st.rs q h2, hQ H1 φ1 st⟩⟩
theorem tand_run {a b : T} {Q : Bool → Hp → Prop} : tT K (evT C (.and a b)) σ H Q → tAnd (tT K (evT C a)) (tT K (evT C b)) σ H Q := by
  rintro ⟨φ, S, ρ, r, S', hs, he, hm, hQ⟩
  simp only [evT, Option.bind_eq_some_iff] at hm
  obtain ⟨⟨k, S1⟩, h1, hm⟩ := hm
  refine ⟨φ, S, ρ, k, S1, hs, he, h1, fun H1 φ1 st => ?_⟩
  simp only at hm
  split at hm
  · rename_i c
    subst c
    rw [if_pos rfl]
    exact ⟨φ1, S1, ρ, _, _, st.rs, st.re he, hm, fun H2 φ2 st2 => hQ H2 φ2 (st.trans st2)⟩
  · rename_i c
    have : k = false := by simpa using c
    subst this
    cases hm
    rw [if_neg (by decide)]
    exact hQ H1 φ1 st
theorem tor_run {a b : T} {Q : Bool → Hp → Prop} : tT K (evT C (.or a b)) σ H Q → tOr (tT K (evT C a)) (tT K (evT C b)) σ H Q := by
  rintro ⟨φ, S, ρ, r, S', hs, he, hm, hQ⟩
  simp only [evT, Option.bind_eq_some_iff] at hm
  obtain ⟨⟨k, S1⟩, h1, hm⟩ := hm
  refine ⟨φ, S, ρ, k, S1, hs, he, h1, fun H1 φ1 st => ?_⟩
  simp only at hm
  split at hm
  · rename_i c
    subst c
    cases hm
    rw [if_pos rfl]
    exact hQ H1 φ1 st
  · rename_i c
    have : k = false := by simpa using c
    subst this
    rw [if_neg (by decide)]
    exact ⟨φ1, S1, ρ, _, _, st.rs, st.re he, hm, fun H2 φ2 st2 => hQ H2 φ2 (st.trans st2)⟩
theorem tnot_run {a : T} {Q : Bool → Hp → Prop} : tT K (evT C (.not a)) σ H Q → tNot (tT K (evT C a)) σ H Q := by
  rintro ⟨φ, S, ρ, r, S', hs, he, hm, hQ⟩
  simp only [evT, Option.map_eq_some_iff] at hm
  obtain ⟨⟨k, S1⟩, h1, e⟩ := hm
  cases e
  exact ⟨φ, S, ρ, k, S1, hs, he, h1, fun H1 φ1 st => hQ H1 φ1 st⟩
end
end Ir

set_option Elab.async false
set_option linter.all false
set_option maxRecDepth 100000
set_option autoImplicit false
/-! Ir5: f-strings, methods, what is walked, comprehensions. -/
namespace Ir
open PySem L2 PySem.Spec PyProof.Rows
section
variable {K : PySem.W.Frag} {C : Callee} {σ : L2.St} {H : Hp} {Q : VK}
/-! ### f-strings -/
/-- a part: a text or an int, as a text -/
def tFmtB (te : TE) : TE := fun σ H Q => te σ H fun x H1 => (∃ y : Str, x = .str y ∧ y.length ≤ sizeLine ∧ Q (.str y) H1) ∨ ∃ i : Int, x = .int i ∧ digOk i = true ∧ Q (.str (toString i)) H1
/-- a written text as a part: .str -/
def fsParts (K : PySem.W.Frag) (C : Callee) : Es → List TE
  | .nil => []
  | .cons e es => tFmtB (tE K (evE C e)) :: fsParts K C es
theorem fs_run : ∀ (es : Es) (acc : Str) (ρ : Env) (φ : Nat → Addr) (S : Store) (H : Hp) (us : List U) (ds : List D) (S' : Store) (s : Str) (Q : Str → Hp → Prop), RS K H φ S → RE K H φ S.length σ ρ → evEs C es ρ S = some (us, S') → allD us = some ds → fsJoin ds acc = some s →
    (∀ H' φ', Step K φ S H φ' S' H' → Q s H') → tJs (fsParts K C es) acc σ H Q := by
  intro es
  cases es with
  | nil =>
    intro acc ρ φ S H us ds S' s Q hs he hm ha hj hQ
    cases hm
    cases ha
    cases hj
    exact hQ H φ (.refl hs)
  | cons e es =>
    intro acc ρ φ S H us ds S' s Q hs he hm ha hj hQ
    simp only [evEs, Option.bind_eq_some_iff, Option.map_eq_some_iff] at hm
    obtain ⟨⟨r1, S1⟩, h1, ⟨us2, S2⟩, h2, e0⟩ := hm
    cases e0
    show tFmtB (tE K (evE C e)) σ H fun x H1 => ∃ y : Str, x = .str y ∧ (acc ++ y).length ≤ sizeLine ∧ tJs (fsParts K C es) (acc ++ y) σ H1 Q
    refine ⟨φ, S, ρ, r1, S1, hs, he, h1, fun v H1 φ1 st q => ?_⟩
    cases r1 with
    | tmp xs => simp [force, allD] at ha
    | u x =>
      cases x with
      | ref n => simp [force, allD] at ha
      | mix us => simp [force, allD] at ha
      | d x =>
        simp only [force, allD, Option.map_eq_some_iff] at ha
        obtain ⟨ds2, ha, rfl⟩ := ha
        have r := q.d
        unfold fsJoin at hj
        split at hj
        · rename_i z
          cases z
        · rename_i z
          cases z
          split at hj
          · rename_i c
            cases r
            refine .inl ⟨_, rfl, by rw [← lim_line]; exact c.1, _, rfl, by rw [← lim_line]; exact c.2, ?_⟩
            exact fs_run es _ ρ φ1 S1 H1 us2 ds2 _ s Q st.rs (st.re he) h2 ha hj fun H' φ' st' => hQ H' φ' (st.trans st')
          · cases hj
        · rename_i z
          cases z
          split at hj
          · rename_i c
            cases r
            refine .inr ⟨_, rfl, c.1, _, rfl, by rw [← lim_line]; exact c.2, ?_⟩
            exact fs_run es _ ρ φ1 S1 H1 us2 ds2 _ s Q st.rs (st.re he) h2 ha hj fun H' φ' st' => hQ H' φ' (st.trans st')
          · cases hj
        · cases hj
termination_by structural es => es
theorem fsE_run {es : Es} : tE K (evE C (.fs es)) σ H Q → tJs (fsParts K C es) Str.empty σ H fun out H1 => Q (.str out) H1 := by
  rintro ⟨φ, S, ρ, r, S', hs, he, hm, hQ⟩
  simp only [evE, Option.bind_eq_some_iff, Option.map_eq_some_iff] at hm
  obtain ⟨⟨us, S1⟩, h1, ds, h2, s, h3, e⟩ := hm
  cases e
  exact fs_run es _ ρ φ S H us ds _ s _ hs he h1 h2 h3 fun H' φ' st => hQ _ H' φ' st (.mk (.str _))
/-! ### methods -/
def meTy : Me → String
  | .append => "list"
  | _ => "str"
def rMe (K : PySem.W.Frag) : Me → V → List V → Hp → VK → Prop
  | .append => rAppend
  | .join => fun x xs H Q => ∃ a p, ∃ ys : List Str, x = .str a ∧ xs = [.ref p] ∧ (SqL K H p (ys.map V.str) ∨ SqT K H p (ys.map V.str)) ∧ (ys.map (·.length)).sum + ys.length * a.length ≤ 16777216 ∧ Q (.str (Txt.join a ys)) H
  | .split => fun x xs H Q => ∃ a b, x = .str a ∧ xs = [.str b] ∧ (b.length == 0) = false ∧ a.length + 2 ≤ sizeLine ∧ rNewStrs (Txt.split a b) H Q
  | .partition => fun x xs H Q => ∃ a b, x = .str a ∧ xs = [.str b] ∧ (b.length == 0) = false ∧ a.length ≤ sizeLine ∧
    ∀ p, H p = none → Q (.ref p) (upd H p (.tup [.str (Txt.partition a b).1, .str (Txt.partition a b).2.1, .str (Txt.partition a b).2.2]))
/-- the method of a built-in type: its receiver is of the type -/
theorem mePre_ok {φ : Nat → Addr} {S : Store} {m : Me} {x : U} {v : V} (h : RS K H φ S) (q : RU K H φ S.length v x) (e : mePre m x S = true) : tyV K (meTy m) v H := by
  cases m with
  | append =>
    cases x with
    | ref n =>
      simp only [mePre] at e
      split at e
      · rename_i xs z
        cases q with
        | ref l e0 =>
          obtain ⟨vs, h1, h2⟩ := h.obj _ _ z
          rw [e0]
          exact .inl ⟨rfl, vs, .of h1⟩
      · cases e
    | d x => simp [mePre] at e
    | mix us => simp [mePre] at e
  | _ =>
    cases x with
    | d x =>
      cases x with
      | str s =>
        cases q with
        | d r => cases r; rfl
      | _ => simp [mePre] at e
    | ref n => simp [mePre] at e
    | mix us => simp [mePre] at e
theorem me_ok {φ : Nat → Addr} {S S' : Store} {m : Me} {x : U} {v : V} {vs : List V} {rs : List R} {rr : R} (h : RS K H φ S) (q : RU K H φ S.length v x) (qs : RRs K H φ S vs rs) (e : meR m (.u x) rs S = some (rr, S'))
    (hQ : ∀ z H' , Step K φ S H φ S' H' → RR K H' φ S' z rr → Q z H') : rMe K m v vs H Q := by
  unfold meR at e
  split at e
  · rename_i hx
    cases hx
    obtain ⟨w, rfl, q1⟩ := qs.one
    split at e
    · rename_i xs z
      split at e
      · rename_i c
        cases e
        obtain ⟨ws, h1, h2⟩ := h.obj _ _ z
        cases q with
        | ref l e0 =>
          refine ⟨_, ws, w, e0, rfl, h1, by rw [h2.len, ← lim_line]; exact c, ?_⟩
          exact hQ _ _ (Step.wr h z h1 (h2.app (.cons q1.d .nil))) (.mk .non)
      · cases e
    · cases e
  · rename_i hx
    cases hx
    obtain ⟨w, rfl, q1⟩ := qs.one
    rw [Option.bind_eq_some_iff] at e
    obtain ⟨ds, e1, e⟩ := e
    rw [Option.bind_eq_some_iff] at e
    obtain ⟨ys, e2, e⟩ := e
    split at e
    · rename_i c
      cases e
      obtain ⟨p, ws, rfl, rs, sq⟩ := seqR_ok h q1 e1
      have := strs_ok rs e2
      subst this
      cases q with
      | d r =>
        cases r
        exact ⟨_, p, ys, rfl, rfl, sq, c, hQ _ _ (.refl h) (.mk (.str _))⟩
    · cases e
  · rename_i hx
    cases hx
    obtain ⟨w, rfl, q1⟩ := qs.one
    split at e
    · rename_i c
      cases e
      have r1 := q1.d
      cases r1
      cases q with
      | d r =>
        cases r
        refine ⟨_, _, rfl, rfl, c.1, by rw [← lim_line]; exact c.2, fun p hp => ?_⟩
        exact hQ _ _ (Step.new h hp) ⟨p, _, rfl, upd_same, strs_rd _, h.fresh hp⟩
    · cases e
  · rename_i hx
    cases hx
    obtain ⟨w, rfl, q1⟩ := qs.one
    split at e
    · rename_i c
      cases e
      have r1 := q1.d
      cases r1
      cases q with
      | d r =>
        cases r
        refine ⟨_, _, rfl, rfl, c.1, by rw [← lim_line]; exact c.2, fun p hp => ?_⟩
        exact hQ _ _ (Step.new h hp) (.mk (.tup (.of upd_same) (.cons (.str _) (.cons (.str _) (.cons (.str _) .nil)))))
    · cases e
  · cases e
theorem me_run {m : Me} {o : E} {es : Es} : tE K (evE C (.me m o es)) σ H Q → tE K (evE C o) σ H fun x H1 => tyV K (meTy m) x H1 ∧ tAR K (evRs C es) σ H1 fun xs H2 => rMe K m x xs H2 Q := by
  rintro ⟨φ, S, ρ, r, S', hs, he, hm, hQ⟩
  simp only [evE, Option.bind_eq_some_iff] at hm
  obtain ⟨⟨r1, S1⟩, h1, hm⟩ := hm
  refine ⟨φ, S, ρ, r1, S1, hs, he, h1, fun v H1 φ1 st1 q1 => ?_⟩
  cases r1 with
  | tmp xs => cases hm
  | u x =>
    simp only at hm
    split at hm
    · rename_i c
      rw [Option.bind_eq_some_iff] at hm
      obtain ⟨⟨rs, S2⟩, h2, hm⟩ := hm
      rw [Option.bind_eq_some_iff] at hm
      obtain ⟨⟨rr, S3⟩, h3, e⟩ := hm
      refine ⟨mePre_ok st1.rs q1 c, φ1, S1, ρ, rs, S2, st1.rs, st1.re he, h2, fun vs H2 φ2 st2 q2 => ?_⟩
      refine me_ok st2.rs (st2.ru q1) q2 h3 fun z H' st' q => ?_
      obtain ⟨φ4, st4, q4⟩ := gcR_ok ((st1.trans st2).trans st') rfl q e
      exact hQ z H' φ4 st4 q4
    · cases hm
end
/-! ### what is walked -/
/-- an iterator gives the items; the list that it walks (if it is one of the store) is as it was -/
def WalkS (K : PySem.W.Frag) (φ : Nat → Addr) (N : Nat) (H0 : Hp) (src : Src) (J : L2.It) : Prop :=
  ∃ G : Hp → Prop, Walk J src.1.length G (fun i H x H' => (∃ d, src.1[i]? = some d ∧ RD K H' x d) ∧ ∀ φ S, RS K H φ S → Step K φ S H φ S H') ∧
    ∀ H φ' S, RS K H φ' S → Fr H0 H → (∀ i, i < N → φ' i = φ i) → held src.2 src.1 S = true → G H
def tI (K : PySem.W.Frag) (m : Env → Store → Option (Src × Store)) : TI := fun σ H R => ∃ φ S ρ src S', RS K H φ S ∧ RE K H φ S.length σ ρ ∧ m ρ S = some (src, S') ∧
  ∀ J H' φ', Step K φ S H φ' S' H' → WalkS K φ' S'.length H' src J → held src.2 src.1 S' = true → R J H'
section
variable {K : PySem.W.Frag} {C : Callee} {σ : L2.St} {H : Hp} {Q : VK}
theorem rng_get {lo : Int} {n i : Nat} (h : i < n) : (rngD lo n)[i]? = some (.int (lo + (i : Int))) := by
  unfold rngD
  simp [h]
theorem walkS_rng {φ : Nat → Addr} {N : Nat} {H0 : Hp} {lo : Int} {n : Nat} : WalkS K φ N H0 (rngD lo n, none) (Itr lo n) := by
  have ll : (rngD lo n).length = n := by simp [rngD]
  refine ⟨fun _ => True, ?_, fun _ _ _ _ _ _ _ => trivial⟩
  refine Walk.mono (n := (rngD lo n).length) (J := Itr lo n) (G := fun _ => True) (Y := YFn fun i => .int (lo + i)) (by rw [ll]; exact walk_range) (fun _ h => h) fun i H x H' hi _ y => ?_
  obtain ⟨rfl, rfl⟩ := y
  exact ⟨⟨_, rng_get (by rw [ll] at hi; exact hi), .int _⟩, fun φ S h => .refl h⟩
theorem in62 {i : Int} (h : inR62 i = true) : -(2 ^ 62) ≤ i ∧ i < 2 ^ 62 := of_decide_eq_true h
theorem rng1_run {a : E} {R : L2.It → Hp → Prop} : tI K (evI C (.rng1 a)) σ H R → iRng1 (tCons (tE K (evE C a)) tNil) σ H R := by
  rintro ⟨φ, S, ρ, src, S', hs, he, hm, hR⟩
  simp only [evI, Option.bind_eq_some_iff] at hm
  obtain ⟨⟨r1, S1⟩, h1, hm⟩ := hm
  refine ⟨φ, S, ρ, r1, S1, hs, he, h1, fun v H1 φ1 st q => ?_⟩
  simp only at hm
  split at hm
  · split at hm
    · rename_i c
      cases hm
      have r := q.d
      cases r
      exact ⟨_, rfl, (in62 c).1, (in62 c).2, hR _ H1 φ1 st walkS_rng rfl⟩
    · cases hm
  · cases hm
theorem rng2_run {a b : E} {R : L2.It → Hp → Prop} : tI K (evI C (.rng2 a b)) σ H R → iRng2 (tCons (tE K (evE C a)) (tCons (tE K (evE C b)) tNil)) σ H R := by
  rintro ⟨φ, S, ρ, src, S', hs, he, hm, hR⟩
  simp only [evI, Option.bind_eq_some_iff] at hm
  obtain ⟨⟨r1, S1⟩, h1, ⟨r2, S2⟩, h2, hm⟩ := hm
  refine ⟨φ, S, ρ, r1, S1, hs, he, h1, fun v H1 φ1 st1 q1 => ⟨φ1, S1, ρ, r2, S2, st1.rs, st1.re he, h2, fun w H2 φ2 st2 q2 => ?_⟩⟩
  simp only at hm
  split at hm
  · split at hm
    · rename_i c
      cases hm
      have r := q1.d
      cases r
      have r := q2.d
      cases r
      exact ⟨_, _, rfl, ⟨(in62 c.1).1, (in62 c.1).2, (in62 c.2).1, (in62 c.2).2⟩, hR _ H2 φ2 (st1.trans st2) walkS_rng rfl⟩
    · cases hm
  · cases hm
def iSeq (K : PySem.W.Frag) (te : TE) : TI := fun σ H R => iTup K te σ H R ∨ (iList K te σ H R ∨ iStr te σ H R)
/-- te gives its value at once, whatever is wanted of it: the way is chosen by what was computed -/
theorem seq_run {e : E} {R : L2.It → Hp → Prop} : tI K (evI C (.seq e)) σ H R → iSeq K (tE K (evE C e)) σ H R := by
  rintro ⟨φ, S, ρ, src, S', hs, he, hm, hR⟩
  simp only [evI, Option.bind_eq_some_iff] at hm
  obtain ⟨⟨r1, S1⟩, h1, hm⟩ := hm
  simp only at hm
  unfold srcR at hm
  split at hm
  · rename_i xs
    cases hm
    refine .inr (.inl ⟨φ, S, ρ, _, S1, hs, he, h1, fun v H1 φ1 st q => ?_⟩)
    obtain ⟨p, vs, rfl, g1, g2, g3⟩ := q
    have stp : Step K φ1 S1 H1 (ext φ1 S1.length p) (S1 ++ [Ob.lst xs]) H1 := Step.push st.rs (ob := .lst xs) ⟨vs, g1, g2⟩ (fun _ => g3)
    refine ⟨p, rfl, ⟨vs, .of g1⟩, hR _ H1 _ (st.trans stp) ⟨fun H => ∃ ws, SqL K H p ws ∧ RDs K H ws xs, ⟨?_, ?_, ?_⟩, ?_⟩ ?_⟩
    · rintro i H hi ⟨ws, w1, w2⟩
      have : i < ws.length := by rw [w2.len]; exact hi
      exact ⟨ws, ws[i], w1, by simp [this]⟩
    · rintro H ⟨ws, w1, w2⟩
      exact ⟨ws, w1, by rw [w2.len]; exact Nat.le_refl _⟩
    · rintro i H x H' hi ⟨ws, w1, w2⟩ ⟨rfl, y⟩
      obtain ⟨d, d1, d2⟩ := w2.getV (y ws w1)
      exact ⟨⟨d, d1, d2⟩, fun φ S h => .refl h⟩
    · intro H φ' S h fr ag hd
      have hd' : S[S1.length]? = some (Ob.lst xs) := of_decide_eq_true hd
      obtain ⟨ws, w1, w2⟩ := h.obj _ _ hd'
      rw [ag _ (by simp), ext_at] at w1
      exact ⟨ws, .of w1, w2⟩
    · show decide ((S1 ++ [Ob.lst xs])[S1.length]? = some (Ob.lst xs)) = true
      simp
  · rename_i xs
    cases hm
    refine .inl ⟨φ, S, ρ, _, _, hs, he, h1, fun v H1 φ1 st q => ?_⟩
    have r := q.d
    cases r with
    | tup g1 g2 =>
      rename_i a vs
      refine ⟨a, rfl, ⟨vs, g1⟩, hR _ H1 φ1 st ⟨fun H => SqT K H a vs ∧ RDs K H vs xs, ⟨?_, ?_, ?_⟩, ?_⟩ rfl⟩
      · rintro i H hi ⟨w1, w2⟩
        have : i < vs.length := by rw [w2.len]; exact hi
        exact ⟨vs, vs[i], w1, by simp [this]⟩
      · rintro H ⟨w1, w2⟩
        exact ⟨vs, w1, by rw [w2.len]; exact Nat.le_refl _⟩
      · rintro i H x H' hi ⟨w1, w2⟩ ⟨rfl, y⟩
        obtain ⟨d, d1, d2⟩ := w2.getV (y vs w1)
        exact ⟨⟨d, d1, d2⟩, fun φ S h => .refl h⟩
      · intro H φ' S h fr ag hd
        exact ⟨fr.sqt g1, g2.mono fr⟩
  · rename_i s
    cases hm
    refine .inr (.inr ⟨φ, S, ρ, _, _, hs, he, h1, fun v H1 φ1 st q => ?_⟩)
    have r := q.d
    cases r
    refine ⟨s, rfl, hR _ H1 φ1 st ⟨fun _ => True, ?_, fun _ _ _ _ _ _ _ => trivial⟩ rfl⟩
    have ll : (s.cps.toList.map fun c => D.str ⟨#[c]⟩).length = s.cps.size := by simp
    refine Walk.mono (G := fun _ => True) (Y := fun i H v H' => H' = H ∧ ∃ c, s.cps[i]? = some c ∧ v = .str ⟨#[c]⟩) (by rw [ll]; exact walk_str) (fun _ h => h) fun i H x H' hi _ y => ?_
    obtain ⟨rfl, c, hc, rfl⟩ := y
    refine ⟨⟨.str ⟨#[c]⟩, ?_, .str _⟩, fun φ S h => .refl h⟩
    show (s.cps.toList.map fun c => D.str ⟨#[c]⟩)[i]? = _
    rw [List.getElem?_map, Array.getElem?_toList, hc]
    rfl
  · rename_i n
    split at hm
    · rename_i xs z
      cases hm
      refine .inr (.inl ⟨φ, S, ρ, _, _, hs, he, h1, fun v H1 φ1 st q => ?_⟩)
      cases q with
      | ref l e0 =>
        obtain ⟨vs, g1, g2⟩ := st.rs.obj _ _ z
        refine ⟨φ1 n, e0, ⟨vs, .of g1⟩, hR _ H1 φ1 st ⟨fun H => ∃ ws, SqL K H (φ1 n) ws ∧ RDs K H ws xs, ⟨?_, ?_, ?_⟩, ?_⟩ ?_⟩
        · rintro i H hi ⟨ws, w1, w2⟩
          have : i < ws.length := by rw [w2.len]; exact hi
          exact ⟨ws, ws[i], w1, by simp [this]⟩
        · rintro H ⟨ws, w1, w2⟩
          exact ⟨ws, w1, by rw [w2.len]; exact Nat.le_refl _⟩
        · rintro i H x H' hi ⟨ws, w1, w2⟩ ⟨rfl, y⟩
          obtain ⟨d, d1, d2⟩ := w2.getV (y ws w1)
          exact ⟨⟨d, d1, d2⟩, fun φ S h => .refl h⟩
        · intro H φ' S h fr ag hd
          have hd' : S[n]? = some (Ob.lst xs) := of_decide_eq_true hd
          obtain ⟨ws, w1, w2⟩ := h.obj _ _ hd'
          rw [ag _ l] at w1
          exact ⟨ws, .of w1, w2⟩
        · exact decide_eq_true z
    · rename_i xs z
      cases hm
      refine .inr (.inl ⟨φ, S, ρ, _, _, hs, he, h1, fun v H1 φ1 st q => ?_⟩)
      cases q with
      | ref l e0 =>
        obtain ⟨vs, g1, g2⟩ := st.rs.obj _ _ z
        refine ⟨φ1 n, e0, ⟨vs, g1.sq⟩, hR _ H1 φ1 st ⟨fun H => RdL K H (φ1 n) vs ∧ RDs K H vs xs, ⟨?_, ?_, ?_⟩, ?_⟩ rfl⟩
        · rintro i H hi ⟨w1, w2⟩
          have : i < vs.length := by rw [w2.len]; exact hi
          exact ⟨vs, vs[i], w1.sq, by simp [this]⟩
        · rintro H ⟨w1, w2⟩
          exact ⟨vs, w1.sq, by rw [w2.len]; exact Nat.le_refl _⟩
        · rintro i H x H' hi ⟨w1, w2⟩ ⟨rfl, y⟩
          obtain ⟨d, d1, d2⟩ := w2.getV (y vs w1.sq)
          exact ⟨⟨d, d1, d2⟩, fun φ S h => .refl h⟩
        · intro H φ' S h fr ag hd
          exact ⟨fr.rdl g1, g2.mono fr⟩
    · cases hm
  · cases hm
/-! ### targets -/
mutual
def tgG (K : PySem.W.Frag) : Tg → TG
  | .n i => gName i
  | .t ts => gTup K ts.len (tgGs K ts)
def tgGs (K : PySem.W.Frag) : Tgs → TGs
  | .nil => gNil
  | .cons t ts => gCons (tgG K t) (tgGs K ts)
end
mutual
theorem bind_ok {φ : Nat → Addr} {N : Nat} : ∀ (t : Tg) (u : U) (ρ ρ' : Env) (σ : L2.St) (v : V) (Q : L2.St → Hp → Prop), RE K H φ N σ ρ → RU K H φ N v u → bindT t u ρ = some ρ' → (∀ σ', RE K H φ N σ' ρ' → Q σ' H) → tgG K t v σ H Q := by
  intro t u ρ ρ' σ v Q he r e hQ
  cases t with
  | n i =>
    simp only [bindT] at e
    cases e
    exact hQ _ (he.set r i)
  | t ts =>
    cases u with
    | ref n => simp [bindT] at e
    | mix us =>
      simp only [bindT] at e
      cases r with
      | mix g1 g2 => exact ⟨_, _, rfl, g1, by rw [g2.len, binds_len _ _ _ _ e], binds_ok ts _ ρ ρ' σ _ Q he g2 e hQ⟩
    | d x =>
      cases x with
      | tup ds =>
        simp only [bindT] at e
        cases r with
        | d r =>
          cases r with
          | tup g1 g2 => exact ⟨_, _, rfl, g1, by rw [g2.len, ← List.length_map (f := U.d), binds_len _ _ _ _ e], binds_ok ts _ ρ ρ' σ _ Q he g2.us e hQ⟩
      | _ => simp [bindT] at e
termination_by structural t => t
theorem binds_ok {φ : Nat → Addr} {N : Nat} : ∀ (ts : Tgs) (us : List U) (ρ ρ' : Env) (σ : L2.St) (vs : List V) (Q : L2.St → Hp → Prop), RE K H φ N σ ρ → RUs K H φ N vs us → bindTs ts us ρ = some ρ' → (∀ σ', RE K H φ N σ' ρ' → Q σ' H) → tgGs K ts vs σ H Q := by
  intro ts us ρ ρ' σ vs Q he r e hQ
  cases ts with
  | nil =>
    cases us with
    | nil =>
      simp only [bindTs] at e
      cases e
      cases r
      exact ⟨rfl, hQ _ he⟩
    | cons u us => simp [bindTs] at e
  | cons t ts =>
    cases us with
    | nil => simp [bindTs] at e
    | cons u us =>
      simp only [bindTs, Option.bind_eq_some_iff] at e
      obtain ⟨ρ1, e1, e2⟩ := e
      cases r with
      | cons r1 r2 => exact ⟨_, _, rfl, bind_ok t u ρ ρ1 σ _ _ he r1 e1 fun σ1 he1 => binds_ok ts us ρ1 ρ' σ1 _ Q he1 r2 e2 hQ⟩
termination_by structural ts => ts
theorem binds_len : ∀ (ts : Tgs) (us : List U) (ρ ρ' : Env), bindTs ts us ρ = some ρ' → us.length = ts.len
  | .nil, [], _, _, _ => rfl
  | .nil, _ :: _, _, _, e => by simp [bindTs] at e
  | .cons t ts, [], _, _, e => by simp [bindTs] at e
  | .cons t ts, u :: us, ρ, ρ', e => by
    simp only [bindTs, Option.bind_eq_some_iff] at e
    obtain ⟨ρ1, e1, e2⟩ := e
    rw [List.length_cons, binds_len ts us ρ1 ρ' e2]
    rfl
end
end
end Ir

set_option Elab.async false
set_option linter.all false
set_option maxRecDepth 100000
set_option autoImplicit false
/-! Ir6: comprehensions, statements, loops. -/
namespace Ir
open PySem L2 PySem.Spec PyProof.Rows
/-! ### a comprehension's own slots -/
theorem wipe_get? {σ : L2.St} {j : Nat} : ∀ vs : List Nat, (L2.wipe σ vs)[j]? = if j ∈ vs then σ[j]?.map (fun _ => none) else σ[j]?
  | [] => by simp [L2.wipe]
  | v :: vs => by
    show ((L2.wipe σ vs).set v none)[j]? = _
    rw [List.getElem?_set, wipe_get? vs, L2.wipe_length]
    by_cases c : v = j
    · subst c
      by_cases l : v < σ.length
      · simp [l]
      · have : σ[v]? = none := List.getElem?_eq_none (by omega)
        simp [l, this]
    · rw [if_neg c]
      have : j ≠ v := Ne.symm c
      simp [this]
theorem wipe_wipe (σ : L2.St) (vs : List Nat) : L2.wipe (L2.wipe σ vs) vs = L2.wipe σ vs := by
  apply List.ext_getElem?
  intro j
  rw [wipe_get?, wipe_get?]
  by_cases c : j ∈ vs
  · simp [c, Option.map_map, Function.comp_def]
  · simp [c]
theorem wipe_set {σ : L2.St} {i : Nat} {x : Option V} {vs : List Nat} (h : i ∈ vs) : L2.wipe (σ.set i x) vs = L2.wipe σ vs := by
  apply List.ext_getElem?
  intro j
  rw [wipe_get?, wipe_get?]
  by_cases c : j ∈ vs
  · rw [if_pos c, if_pos c, List.getElem?_set]
    by_cases e : i = j
    · subst e
      rw [if_pos rfl]
      by_cases l : i < σ.length
      · simp [l]
      · have : σ[i]? = none := List.getElem?_eq_none (by omega)
        simp [l, this]
    · rw [if_neg e]
  · rw [if_neg c, if_neg c, List.getElem?_set, if_neg (by rintro rfl; exact c h)]
mutual
/-- the target's slots are among these -/
def Tg.sub (vs : List Nat) : Tg → Bool
  | .n i => vs.contains i
  | .t ts => Tgs.sub vs ts
def Tgs.sub (vs : List Nat) : Tgs → Bool
  | .nil => true
  | .cons t ts => Tg.sub vs t && Tgs.sub vs ts
end
section
variable {K : PySem.W.Frag} {C : Callee} {σ : L2.St} {H : Hp} {Q : VK}
mutual
theorem bind_okW {φ : Nat → Addr} {N : Nat} {ws : List Nat} : ∀ (t : Tg) (u : U) (ρ ρ' : Env) (σ : L2.St) (v : V) (Q : L2.St → Hp → Prop), t.sub ws = true → RE K H φ N σ ρ → RU K H φ N v u → bindT t u ρ = some ρ' →
    (∀ σ', RE K H φ N σ' ρ' → L2.wipe σ' ws = L2.wipe σ ws → Q σ' H) → tgG K t v σ H Q := by
  intro t u ρ ρ' σ v Q hsub he r e hQ
  cases t with
  | n i =>
    simp only [bindT] at e
    cases e
    exact hQ _ (he.set r i) (wipe_set (by simpa [Tg.sub] using hsub))
  | t ts =>
    have hsub' : ts.sub ws = true := by simpa [Tg.sub] using hsub
    cases u with
    | ref n => simp [bindT] at e
    | mix us =>
      simp only [bindT] at e
      cases r with
      | mix g1 g2 => exact ⟨_, _, rfl, g1, by rw [g2.len, binds_len (K := K) (H := H) _ _ _ _ e], binds_okW ts _ ρ ρ' σ _ Q hsub' he g2 e hQ⟩
    | d x =>
      cases x with
      | tup ds =>
        simp only [bindT] at e
        cases r with
        | d r =>
          cases r with
          | tup g1 g2 => exact ⟨_, _, rfl, g1, by rw [g2.len, ← List.length_map (f := U.d), binds_len (K := K) (H := H) _ _ _ _ e], binds_okW ts _ ρ ρ' σ _ Q hsub' he g2.us e hQ⟩
      | _ => simp [bindT] at e
termination_by structural t => t
theorem binds_okW {φ : Nat → Addr} {N : Nat} {ws : List Nat} : ∀ (ts : Tgs) (us : List U) (ρ ρ' : Env) (σ : L2.St) (vs : List V) (Q : L2.St → Hp → Prop), ts.sub ws = true → RE K H φ N σ ρ → RUs K H φ N vs us → bindTs ts us ρ = some ρ' →
    (∀ σ', RE K H φ N σ' ρ' → L2.wipe σ' ws = L2.wipe σ ws → Q σ' H) → tgGs K ts vs σ H Q := by
  intro ts us ρ ρ' σ vs Q hsub he r e hQ
  cases ts with
  | nil =>
    cases us with
    | nil =>
      simp only [bindTs] at e
      cases e
      cases r
      exact ⟨rfl, hQ _ he rfl⟩
    | cons u us => simp [bindTs] at e
  | cons t ts =>
    simp only [Tgs.sub, Bool.and_eq_true] at hsub
    cases us with
    | nil => simp [bindTs] at e
    | cons u us =>
      simp only [bindTs, Option.bind_eq_some_iff] at e
      obtain ⟨ρ1, e1, e2⟩ := e
      cases r with
      | cons r1 r2 => exact ⟨_, _, rfl, bind_okW t u ρ ρ1 σ _ _ hsub.1 he r1 e1 fun σ1 he1 w1 => binds_okW ts us ρ1 ρ' σ1 _ Q hsub.2 he1 r2 e2 fun σ' he' w' => hQ σ' he' (w'.trans w1)⟩
termination_by structural ts => ts
end
/-! ### comprehensions -/
def tOt (K : PySem.W.Frag) (C : Callee) : Ot → TT
  | .none => tYes
  | .some t => tT K (evT C t)
theorem ot_run {c : Ot} {Q : Bool → Hp → Prop} : tT K (evOt C c) σ H Q → tOt K C c σ H Q := by
  cases c with
  | none =>
    rintro ⟨φ, S, ρ, b, S', hs, he, hm, hQ⟩
    cases hm
    exact hQ _ _ (.refl hs)
  | some t => exact id
theorem comp_run {own : List Nat} {tg : Tg} {it : It} {c : Ot} {e : E} (hsub : tg.sub own = true) : tE K (evE C (.comp own tg it c e)) σ H Q → tLc (tI K (evI C it)) (tgG K tg) (tOt K C c) (tE K (evE C e)) own σ H Q := by
  rintro ⟨φ, S, ρ, r, S', hs, he, hm, hQ⟩
  simp only [evE, Option.bind_eq_some_iff] at hm
  obtain ⟨⟨src, S1⟩, h1, S2, h2, hm⟩ := hm
  simp only at h2 hm
  refine ⟨φ, S, ρ, src, S1, hs, he, h1, fun J H1 φ1 st1 wS hheld Dl hD => ?_⟩
  obtain ⟨G, wk, hG⟩ := wS
  -- the new list, as a place of the store
  have sN : Step K φ1 S1 H1 φ1 S1 (upd H1 Dl (.lst [])) := Step.new st1.rs hD
  have sP : Step K φ1 S1 (upd H1 Dl (.lst [])) (ext φ1 S1.length Dl) (S1 ++ [Ob.lst []]) (upd H1 Dl (.lst [])) :=
    Step.push sN.rs (ob := .lst []) ⟨[], upd_same, .nil⟩ (fun _ => st1.rs.fresh hD)
  have s0 := sN.trans sP
  let turn : D → Store → Option (Option D × Store) := fun x S1 => (bindT tg (.d x) (wipeE ρ own)).bind fun ρ2 => (evOt C c ρ2 S1).bind fun q => if q.1 = true then (evE C e ρ2 q.2).bind fun r => (match r.1 with
          | .u (.d y) => some (some y, r.2)
          | _ => none) else some (none, q.2)
  let Pv : Nat → Hp → Prop := fun i H2 => ∃ φ2 Sx, Step K φ1 S1 H1 φ2 Sx H2 ∧ S1.length < Sx.length ∧ φ2 S1.length = Dl ∧ held src.2 src.1 Sx = true ∧ compL turn (held src.2 src.1) S1.length (src.1.drop i) Sx = some S2
  have held0 : held src.2 src.1 (S1 ++ [Ob.lst []]) = true := by
    unfold held at hheld ⊢
    split
    · rfl
    · rename_i n z
      rw [z] at hheld
      have q : S1[n]? = some (Ob.lst src.1) := of_decide_eq_true hheld
      have l : n < S1.length := (List.getElem?_eq_some_iff.1 q).1
      apply decide_eq_true
      rw [List.getElem?_append_left l]
      exact q
  refine lc_it wk Pv ⟨_, _, s0, by simp, ext_at, held0, by rw [List.drop_zero]; exact h2⟩ (fun i H2 hi p => ?_) (fun i x H2 H3 hi p y => ?_) (fun H2 p => ?_)
  · obtain ⟨φ2, Sx, st2, l2, a2, hh, _⟩ := p
    exact hG H2 φ2 Sx st2.rs st2.fr st2.ag hh
  · obtain ⟨φ2, Sx, st2, l2, a2, hh, hc⟩ := p
    obtain ⟨⟨d, hd, rd⟩, stp⟩ := y
    have st3 := st2.trans (stp φ2 Sx st2.rs)
    have ed : src.1.drop i = d :: src.1.drop (i + 1) := by
      obtain ⟨l, q⟩ := List.getElem?_eq_some_iff.1 hd
      rw [← q]
      exact List.drop_eq_getElem_cons l
    rw [ed] at hc
    unfold compL at hc
    rw [Option.bind_eq_some_iff] at hc
    obtain ⟨⟨oy, S4⟩, ht, hc⟩ := hc
    simp only at hc
    -- the turn
    have ht' : ((bindT tg (.d d) (wipeE ρ own)).bind fun ρ2 => (evOt C c ρ2 Sx).bind fun q => if q.1 = true then (evE C e ρ2 q.2).bind fun r => (match r.1 with
          | .u (.d y) => some (some y, r.2)
          | _ => none) else some (none, q.2)) = some (oy, S4) := ht
    simp only [Option.bind_eq_some_iff] at ht'
    obtain ⟨ρ2, hb, ⟨bq, S5⟩, hq, ht'⟩ := ht'
    have heW : RE K H3 φ2 Sx.length (L2.wipe σ own) (wipeE ρ own) := (st3.re (st1.re he)).wipe own
    refine bind_okW tg (.d d) _ ρ2 _ x _ hsub heW (.d rd) hb fun σ2 he2 w2 => ⟨by rw [w2, wipe_wipe], ot_run ⟨φ2, Sx, ρ2, bq, S5, st3.rs, he2, hq, fun H5 φ5 st5 => ?_⟩⟩
    simp only at ht'
    split at ht'
    · rename_i cb
      subst cb
      rw [if_pos rfl]
      rw [Option.bind_eq_some_iff] at ht'
      obtain ⟨⟨r6, S6⟩, he6, ht'⟩ := ht'
      refine ⟨φ5, S5, ρ2, r6, S6, st5.rs, st5.re he2, he6, fun z H6 φ6 st6 q6 => ?_⟩
      simp only at ht'
      split at ht'
      · rename_i yv _
        cases ht'
        dsimp only at hc
        have stA := (st3.trans st5).trans st6
        have a6 : φ6 S1.length = Dl := by
          rw [st6.ag _ (Nat.lt_of_lt_of_le l2 st5.le), st5.ag _ l2, a2]
        split at hc
        · rename_i acc zacc
          split at hc
          · rename_i cc
            obtain ⟨vs, v1, v2⟩ := stA.rs.obj _ _ zacc
            rw [a6] at v1
            have v1' : H6 (φ6 S1.length) = some (.lst vs) := by rw [a6]; exact v1
            have stw := Step.wr stA.rs zacc v1' (v2.app (.cons q6.d .nil))
            refine ⟨vs, v1, by rw [v2.len, ← lim_line]; exact cc.1, φ6, _, ?_, ?_, a6, cc.2, hc⟩
            · have := stA.trans stw
              rw [a6] at this
              exact this
            · rw [List.length_set]
              exact Nat.lt_of_lt_of_le (Nat.lt_of_lt_of_le l2 st5.le) st6.le
          · cases hc
        · cases hc
      · cases ht'
    · rename_i cb
      have : bq = false := by simpa using cb
      subst this
      rw [if_neg (by decide)]
      cases ht'
      dsimp only at hc
      split at hc
      · rename_i cc
        exact ⟨φ5, _, st3.trans st5, Nat.lt_of_lt_of_le l2 st5.le, by rw [st5.ag _ l2, a2], cc, hc⟩
      · cases hc
  · obtain ⟨φ2, Sx, st2, l2, a2, hh, hc⟩ := p
    rw [List.drop_length] at hc
    cases hc
    split at hm
    · rename_i ds z
      cases hm
      obtain ⟨vs, v1, v2⟩ := st2.rs.obj _ _ z
      rw [a2] at v1
      have stT := (st1.trans st2).take (Nat.le_refl _) (Nat.le_trans st1.le st2.le)
      refine hQ _ H2 φ2 stT ⟨Dl, vs, rfl, v1, v2, fun j a e m q => ?_⟩
      rw [List.getElem?_take] at e
      split at e
      · rename_i l
        have := st2.rs.inj j S1.length a _ e z m rfl (by rw [q, a2])
        have := st1.le
        omega
      · cases e
    · cases hm
end
end Ir

set_option Elab.async false
set_option linter.all false
set_option maxRecDepth 100000
set_option autoImplicit false
/-! Ir7: statements and loops. -/
namespace Ir
open PySem L2 PySem.Spec PyProof.Rows
abbrev MS := Env → Store → Option (Out × Env × Store)
def FinP (K : PySem.W.Frag) (D : Ends) (o : Out) (σ : L2.St) (H : Hp) (φ : Nat → Addr) (N : Nat) : Prop := match o with
  | .nx => D.nx σ H
  | .brk => D.bk σ H
  | .ct => D.ct σ H
  | .rt u => ∀ v, RU K H φ N v u → D.rt v H
def tS (K : PySem.W.Frag) (m : MS) : TS := fun D σ H => ∃ φ S ρ o ρ' S', RS K H φ S ∧ RE K H φ S.length σ ρ ∧ m ρ S = some (o, ρ', S') ∧
  ∀ σ' H' φ', Step K φ S H φ' S' H' → RE K H' φ' S'.length σ' ρ' → FinP K D o σ' H' φ' S'.length
section
variable {K : PySem.W.Frag} {C : Callee} {σ : L2.St} {H : Hp} {D : Ends}
theorem asg_run {t : Tg} {e : E} : tS K (evS C (.asg t e)) D σ H → tAsg (tE K (evE C e)) (tgG K t) D σ H := by
  rintro ⟨φ, S, ρ, o, ρ', S', hs, he, hm, hQ⟩
  simp only [evS, Option.bind_eq_some_iff, Option.map_eq_some_iff] at hm
  obtain ⟨⟨r1, S1⟩, h1, ρ2, h2, e0⟩ := hm
  cases e0
  refine ⟨φ, S, ρ, r1, S1, hs, he, h1, fun v H1 φ1 st q => ?_⟩
  obtain ⟨φ2, st2, q2⟩ := force_ok st.rs q
  exact bind_ok t _ ρ _ σ v _ (st2.re (st.re he)) q2 h2 fun σ' he' => hQ σ' H1 φ2 (st.trans st2) he'
theorem par_run {i j : Nat} {a b : E} : tS K (evS C (.par i j a b)) D σ H → tPar i j (tCons (tE K (evE C a)) (tCons (tE K (evE C b)) tNil)) D σ H := by
  rintro ⟨φ, S, ρ, o, ρ', S', hs, he, hm, hQ⟩
  simp only [evS, Option.bind_eq_some_iff, Option.map_eq_some_iff] at hm
  obtain ⟨⟨r1, S1⟩, h1, ⟨r2, S2⟩, h2, e0⟩ := hm
  cases e0
  refine ⟨φ, S, ρ, r1, S1, hs, he, h1, fun v H1 φ1 st q => ?_⟩
  obtain ⟨φ2, st2, q2⟩ := force_ok st.rs q
  refine ⟨φ2, _, ρ, r2, S2, st2.rs, st2.re (st.re he), h2, fun w H3 φ3 st3 q3 => ?_⟩
  obtain ⟨φ4, st4, q4⟩ := force_ok st3.rs q3
  have st24 := st3.trans st4
  exact ⟨v, w, rfl, hQ _ H3 φ4 ((st.trans st2).trans st24) (((st24.re (st2.re (st.re he))).set (st24.ru q2) i).set q4 j)⟩
theorem aug_run {i : Nat} {op : Bop} {e : E} : tS K (evS C (.aug i op e)) D σ H → tAug i (tE K (evE C e)) (rAug K op) D σ H := by
  rintro ⟨φ, S, ρ, o, ρ', S', hs, he, hm, hQ⟩
  simp only [evS] at hm
  split at hm
  · rename_i x ex
    rw [Option.bind_eq_some_iff] at hm
    obtain ⟨⟨r1, S1⟩, h1, hm⟩ := hm
    obtain ⟨v, ev, rv⟩ := he.at_ i _ ex
    refine ⟨v, ev, φ, S, ρ, r1, S1, hs, he, h1, fun w H1 φ1 st q => ?_⟩
    simp only at hm
    split at hm
    · rw [Option.map_eq_some_iff] at hm
      obtain ⟨z, hz, e0⟩ := hm
      cases e0
      cases rv with
      | d rv => exact augD_ok (rv.mono st.fr) q.d hz fun u ru => hQ _ H1 φ1 st ((st.re he).set (.d ru) i)
    · cases hm
  · cases hm
theorem setix_run {o i e : E} : tS K (evS C (.setix o i e)) D σ H → tAsg (tE K (evE C e)) (gSub (tE K (evE C o)) (tE K (evE C i)) rSetL) D σ H := by
  rintro ⟨φ, S, ρ, oo, ρ', S', hs, he, hm, hQ⟩
  simp only [evS, Option.bind_eq_some_iff] at hm
  obtain ⟨⟨r1, S1⟩, h1, hm⟩ := hm
  refine ⟨φ, S, ρ, r1, S1, hs, he, h1, fun v H1 φ1 st1 q1 => ?_⟩
  simp only at hm
  split at hm
  · rw [Option.bind_eq_some_iff] at hm
    obtain ⟨⟨r2, S2⟩, h2, hm⟩ := hm
    refine ⟨φ1, S1, ρ, r2, S2, st1.rs, st1.re he, h2, fun w H2 φ2 st2 q2 => ?_⟩
    simp only at hm
    split at hm
    · rename_i n
      rw [Option.bind_eq_some_iff] at hm
      obtain ⟨⟨r3, S3⟩, h3, hm⟩ := hm
      refine ⟨φ2, S2, ρ, r3, S3, st2.rs, st2.re (st1.re he), h3, fun z H3 φ3 st3 q3 => ?_⟩
      simp only at hm
      split at hm
      · split at hm
        · rename_i xs zx
          rw [Option.map_eq_some_iff] at hm
          obtain ⟨j, hj, e0⟩ := hm
          cases e0
          obtain ⟨vs, v1, v2⟩ := st3.rs.obj _ _ zx
          have r3 := q3.d
          cases r3
          cases q2 with
          | ref l e2 =>
            have e3 : φ3 n = φ2 n := st3.ag n l
            have rd := q1.d.mono (st2.fr.trans st3.fr)
            have stw := Step.wr st3.rs zx v1 (v2.set j rd)
            have st := ((st1.trans st2).trans st3).trans stw
            refine ⟨φ2 n, vs, _, j, e2, rfl, by rw [← e3]; exact v1, by rw [v2.len]; exact hj, ?_⟩
            rw [← e3]
            have := hQ σ _ φ3 st (st.re he)
            exact this
        · cases hm
      · cases hm
    · cases hm
  · cases hm
theorem expr_run {e : E} : tS K (evS C (.expr e)) D σ H → tDrop (tE K (evE C e)) D σ H := by
  rintro ⟨φ, S, ρ, o, ρ', S', hs, he, hm, hQ⟩
  simp only [evS, Option.map_eq_some_iff] at hm
  obtain ⟨⟨r1, S1⟩, h1, e0⟩ := hm
  cases e0
  exact ⟨φ, S, ρ, r1, S1, hs, he, h1, fun v H1 φ1 st q => hQ σ H1 φ1 st (st.re he)⟩
theorem ret_run {e : E} : tS K (evS C (.ret e)) D σ H → tRet (tE K (evE C e)) D σ H := by
  rintro ⟨φ, S, ρ, o, ρ', S', hs, he, hm, hQ⟩
  simp only [evS, Option.map_eq_some_iff] at hm
  obtain ⟨⟨r1, S1⟩, h1, e0⟩ := hm
  cases e0
  refine ⟨φ, S, ρ, r1, S1, hs, he, h1, fun v H1 φ1 st q => ?_⟩
  obtain ⟨φ2, st2, q2⟩ := force_ok st.rs q
  exact hQ σ H1 φ2 (st.trans st2) (st2.re (st.re he)) v q2
theorem ifs_run {t : T} {a b : Ss} : tS K (evS C (.ite t a b)) D σ H → tIfS (tT K (evT C t)) (tS K (evSs C a)) (tS K (evSs C b)) D σ H := by
  rintro ⟨φ, S, ρ, o, ρ', S', hs, he, hm, hQ⟩
  simp only [evS, Option.bind_eq_some_iff] at hm
  obtain ⟨⟨k, S1⟩, h1, hm⟩ := hm
  refine ⟨φ, S, ρ, k, S1, hs, he, h1, fun H1 φ1 st => ?_⟩
  simp only at hm
  split at hm
  · rename_i c
    subst c
    rw [if_pos rfl]
    exact ⟨φ1, S1, ρ, _, _, _, st.rs, st.re he, hm, fun σ' H2 φ2 st2 he2 => hQ σ' H2 φ2 (st.trans st2) he2⟩
  · rename_i c
    have : k = false := by simpa using c
    subst this
    rw [if_neg (by decide)]
    exact ⟨φ1, S1, ρ, _, _, _, st.rs, st.re he, hm, fun σ' H2 φ2 st2 he2 => hQ σ' H2 φ2 (st.trans st2) he2⟩
theorem pass_run : tS K (evS C .pass) D σ H → tNext D σ H := by
  rintro ⟨φ, S, ρ, o, ρ', S', hs, he, hm, hQ⟩
  cases hm
  exact hQ σ H φ (.refl hs) he
theorem brk_run : tS K (evS C .brk) D σ H → tBreak D σ H := by
  rintro ⟨φ, S, ρ, o, ρ', S', hs, he, hm, hQ⟩
  cases hm
  exact hQ σ H φ (.refl hs) he
theorem ct_run : tS K (evS C .ct) D σ H → tCont D σ H := by
  rintro ⟨φ, S, ρ, o, ρ', S', hs, he, hm, hQ⟩
  cases hm
  exact hQ σ H φ (.refl hs) he
theorem never_run : tS K (evS C .never) D σ H → tNever D σ H := by
  rintro ⟨φ, S, ρ, o, ρ', S', hs, he, hm, hQ⟩
  cases hm
theorem ssnil_run : tS K (evSs C .nil) D σ H → tNext D σ H := by
  rintro ⟨φ, S, ρ, o, ρ', S', hs, he, hm, hQ⟩
  cases hm
  exact hQ σ H φ (.refl hs) he
theorem ssone_run {s : St} : tS K (evSs C (.cons s .nil)) D σ H → tS K (evS C s) D σ H := id
theorem sscons_run {s s2 : St} {ss : Ss} : tS K (evSs C (.cons s (.cons s2 ss))) D σ H → tSeq (tS K (evS C s)) (tS K (evSs C (.cons s2 ss))) D σ H := by
  rintro ⟨φ, S, ρ, o, ρ', S', hs, he, hm, hQ⟩
  have hm : ((evS C s ρ S).bind fun p => (match p.1 with
      | .nx => evSs C (.cons s2 ss) p.2.1 p.2.2
      | o => some (o, p.2.1, p.2.2))) = some (o, ρ', S') := by
    rw [← hm, evSs]
    all_goals first | rfl | (intro z; cases z)
  rw [Option.bind_eq_some_iff] at hm
  obtain ⟨⟨o1, ρ1, S1⟩, h1, hm⟩ := hm
  refine ⟨φ, S, ρ, o1, ρ1, S1, hs, he, h1, fun σ1 H1 φ1 st1 he1 => ?_⟩
  cases o1 with
  | nx => exact ⟨φ1, S1, ρ1, o, ρ', S', st1.rs, he1, hm, fun σ2 H2 φ2 st2 he2 => hQ σ2 H2 φ2 (st1.trans st2) he2⟩
  | brk => cases hm; exact hQ σ1 H1 φ1 st1 he1
  | ct => cases hm; exact hQ σ1 H1 φ1 st1 he1
  | rt u => cases hm; exact hQ σ1 H1 φ1 st1 he1
/-! ### loops -/
theorem re_low {φ : Nat → Addr} {N n : Nat} {ρ : Env} (h : RE K H φ N σ ρ) (l : ρ.all (lowO n) = true) : RE K H φ n σ ρ := by
  refine ⟨h.len, fun i u e => ?_⟩
  obtain ⟨v, e1, r⟩ := h.at_ i u e
  exact ⟨v, e1, r.lower (List.all_eq_true.1 l _ (List.mem_of_getElem? e))⟩
theorem tidy_ok {φ φ' : Nat → Addr} {S S' : Store} {H' : Hp} {ρ : Env} {kill : List Nat} {n : Nat} (st : Step K φ S H φ' S' H') (l1 : S.length ≤ n) (l2 : n ≤ S'.length) (he : RE K H' φ' S'.length σ ρ) :
    Step K φ S H φ' (tidy kill n ρ S').2 H' ∧ RE K H' φ' (tidy kill n ρ S').2.length σ (tidy kill n ρ S').1 := by
  unfold tidy
  split
  · rename_i c
    refine ⟨st.take l1 l2, ?_⟩
    show RE K H' φ' (S'.take n).length σ (wipeE ρ kill)
    rw [List.length_take, Nat.min_eq_left l2]
    exact re_low (he.forget kill) c
  · exact ⟨st, he.forget kill⟩
theorem for_run {tg : Tg} {it : It} {b : Ss} {kill : List Nat} : tS K (evS C (.for_ tg it b kill)) D σ H → tFor (tI K (evI C it)) (tgG K tg) (tS K (evSs C b)) D σ H := by
  rintro ⟨φ, S, ρ, o, ρ', S', hs, he, hm, hQ⟩
  simp only [evS, Option.bind_eq_some_iff, Option.map_eq_some_iff] at hm
  obtain ⟨⟨src, S1⟩, h1, ⟨o2, ρ2, S2⟩, h2, hm⟩ := hm
  simp only at h2 hm
  refine ⟨φ, S, ρ, src, S1, hs, he, h1, fun J H1 φ1 st1 wS hheld => ?_⟩
  obtain ⟨G, wk, hG⟩ := wS
  -- what follows the loop
  have hEnd : ∀ σ3 H3 φ3, o2 = .nx → Step K φ1 S1 H1 φ3 S2 H3 → RE K H3 φ3 S2.length σ3 ρ2 → D.nx σ3 H3 := by
    intro σ3 H3 φ3 eo st3 he3
    subst eo
    simp only [Prod.mk.injEq] at hm
    obtain ⟨rfl, hm⟩ := hm
    obtain ⟨t1, t2⟩ := tidy_ok (kill := []) (st1.trans st3) (Nat.le_refl _) (Nat.le_trans st1.le st3.le) he3
    rw [hm] at t1 t2
    exact hQ σ3 H3 φ3 t1 t2
  have hRet : ∀ u σ3 H3 φ3, o2 = .rt u → Step K φ1 S1 H1 φ3 S2 H3 → RE K H3 φ3 S2.length σ3 ρ2 → ∀ v, RU K H3 φ3 S2.length v u → D.rt v H3 := by
    intro u σ3 H3 φ3 eo st3 he3
    subst eo
    cases hm
    exact hQ σ3 H3 φ3 (st1.trans st3) he3
  let turn : Ir.D → Env → Store → Option (Out × Env × Store) := fun x ρ1 S1 => (bindT tg (.d x) ρ1).bind fun ρ2 => evSs C b ρ2 S1
  let Pv : Nat → L2.St → Hp → Prop := fun i σx Hx => ∃ φx Sx ρx, Step K φ1 S1 H1 φx Sx Hx ∧ RE K Hx φx Sx.length σx ρx ∧ held src.2 src.1 Sx = true ∧ forL turn (held src.2 src.1) kill S1.length (src.1.drop i) ρx Sx = some (o2, ρ2, S2)
  refine for_it wk Pv ⟨φ1, S1, ρ, .refl st1.rs, st1.re he, hheld, by rw [List.drop_zero]; exact h2⟩ (fun i σx Hx hi p => ?_) (fun i x σx Hx Hy hi p y => ?_) (fun σx Hx p => ?_)
  · obtain ⟨φx, Sx, ρx, st2, _, hh, _⟩ := p
    exact hG Hx φx Sx st2.rs st2.fr st2.ag hh
  · obtain ⟨φx, Sx, ρx, st2, he2, hh, hc⟩ := p
    obtain ⟨⟨d, hd, rd⟩, stp⟩ := y
    have sty := stp φx Sx st2.rs
    have ed : src.1.drop i = d :: src.1.drop (i + 1) := by
      obtain ⟨l, q⟩ := List.getElem?_eq_some_iff.1 hd
      rw [← q]
      exact List.drop_eq_getElem_cons l
    rw [ed] at hc
    unfold forL at hc
    rw [Option.bind_eq_some_iff] at hc
    obtain ⟨⟨o3, ρ3, S3⟩, ht, hc⟩ := hc
    have ht' : ((bindT tg (.d d) ρx).bind fun ρ2 => evSs C b ρ2 Sx) = some (o3, ρ3, S3) := ht
    rw [Option.bind_eq_some_iff] at ht'
    obtain ⟨ρ4, hb, hbody⟩ := ht'
    refine bind_ok tg (.d d) ρx ρ4 σx x _ (sty.re he2) (.d rd) hb fun σ4 he4 => ⟨φx, Sx, ρ4, o3, ρ3, S3, sty.rs, he4, hbody, fun σ5 H5 φ5 st5 he5 => ?_⟩
    have stA := (st2.trans sty).trans st5
    cases o3 with
    | rt u =>
      cases hc
      exact hRet u σ5 H5 φ5 rfl stA he5
    | brk =>
      cases hc
      exact hEnd σ5 H5 φ5 rfl stA he5
    | nx =>
      dsimp only at hc
      split at hc
      · rename_i ck
        obtain ⟨t1, t2⟩ := tidy_ok (kill := kill) stA (Nat.le_refl _) stA.le he5
        exact ⟨φ5, _, _, t1, t2, ck, hc⟩
      · cases hc
    | ct =>
      dsimp only at hc
      split at hc
      · rename_i ck
        obtain ⟨t1, t2⟩ := tidy_ok (kill := kill) stA (Nat.le_refl _) stA.le he5
        exact ⟨φ5, _, _, t1, t2, ck, hc⟩
      · cases hc
  · obtain ⟨φx, Sx, ρx, st2, he2, hh, hc⟩ := p
    rw [List.drop_length] at hc
    cases hc
    exact hEnd σx Hx φx rfl st2 he2
theorem while_run {fuel : Nat} {t : T} {b : Ss} {kill : List Nat} : tS K (evS C (.while_ fuel t b kill)) D σ H → tWhile (tT K (evT C t)) (tS K (evSs C b)) D σ H := by
  rintro ⟨φ, S, ρ, o, ρ', S', hs, he, hm, hQ⟩
  simp only [evS] at hm
  refine ⟨fun m σx Hx => ∃ φx Sx ρx, Step K φ S H φx Sx Hx ∧ RE K Hx φx Sx.length σx ρx ∧ whileL (evT C t) (evSs C b) kill S.length m ρx Sx = some (o, ρ', S'), ⟨fuel, φ, S, ρ, .refl hs, he, hm⟩, ?_⟩
  rintro m σx Hx ⟨φx, Sx, ρx, st, hex, hw⟩
  cases m with
  | zero => cases hw
  | succ m =>
    unfold whileL at hw
    rw [Option.bind_eq_some_iff] at hw
    obtain ⟨⟨k, S1⟩, h1, hw⟩ := hw
    refine ⟨φx, Sx, ρx, k, S1, st.rs, hex, h1, fun H1 φ1 st1 => ?_⟩
    simp only at hw
    split at hw
    · rename_i c
      subst c
      rw [if_pos rfl]
      rw [Option.bind_eq_some_iff] at hw
      obtain ⟨⟨o3, ρ3, S3⟩, h3, hw⟩ := hw
      refine ⟨fun σy Hy => ∃ φy Sy ρy, Step K φ S H φy Sy Hy ∧ RE K Hy φy Sy.length σy ρy ∧ whileL (evT C t) (evSs C b) kill S.length m ρy Sy = some (o, ρ', S'),
        fun σy Hy p => ⟨m, Nat.lt_succ_self m, p⟩, φ1, S1, ρx, o3, ρ3, S3, st1.rs, st1.re hex, h3, fun σ5 H5 φ5 st5 he5 => ?_⟩
      have stA := (st.trans st1).trans st5
      cases o3 with
      | rt u =>
        cases hw
        exact hQ σ5 H5 φ5 stA he5
      | brk =>
        cases hw
        exact hQ σ5 H5 φ5 stA he5
      | nx =>
        obtain ⟨t1, t2⟩ := tidy_ok (kill := kill) stA (Nat.le_refl _) stA.le he5
        exact ⟨φ5, _, _, t1, t2, hw⟩
      | ct =>
        obtain ⟨t1, t2⟩ := tidy_ok (kill := kill) stA (Nat.le_refl _) stA.le he5
        exact ⟨φ5, _, _, t1, t2, hw⟩
    · rename_i c
      have : k = false := by simpa using c
      subst this
      cases hw
      rw [if_neg (by decide)]
      exact hQ σx H1 φ1 (st.trans st1) (st1.re hex)
end
end Ir

set_option Elab.async false
set_option linter.all false
set_option maxRecDepth 100000
set_option autoImplicit false
/-! Ir8: from the program's text to the small language; contexts; calls. -/
namespace Ir
open PySem L2 PySem.Spec PyProof.Rows
/-! ### the compiler's knowledge -/
structure FnI where
  name : Str
  ps : List Str
/-- a way to call a def: its number, how many positional arguments, the keywords, where each parameter's value comes from -/
structure Shape where
  f : Nat
  n : Nat
  ks : List Str
  arr : List Arg
structure CC where
  N : List Str
  sc : Scope
  fns : List FnI
  shapes : List Shape
  cons : List (Str × D)
  /-- by the line of a loop: the slots that its turns leave behind; how many turns a while may take -/
  hints : List (Nat × List Nat)
  fuel : Nat
def CC.slot (c : CC) (x : Str) : Option Nat := c.N.findIdx? (· == x)
def varK : Option NameKind → Bool
  | some .local => true
  | some .cell => true
  | some .free => true
  | _ => false
def plainName (x : Str) : Bool := !(x == ("__debug__" : Str)) && !(x == ("__classdict__" : Str))
def cVar (c : CC) (x : Str) : Option Nat := if varK (c.sc.names.lookup x) = true ∧ plainName x = true then c.slot x else none
def isG (c : CC) (x : Str) : Bool := (c.sc.names.lookup x == some .globalImplicit) && plainName x && !(x == ("__name__" : Str))
def tyNames : List (Str × String) := [("int", "int"), ("bool", "bool"), ("str", "str"), ("tuple", "tuple"), ("list", "list")]
def scalC : D → Bool
  | .non => true | .bl _ => true | .int _ => true | .str _ => true | .ty _ => true
  | _ => false
def dV : D → V
  | .non => .non | .bl b => .bl b | .int i => .int i | .str s => .str s | .ty n => .ty n
  | .tup _ => .non
def cName (c : CC) (x : Str) : Option E := match cVar c x with
  | some i => some (.var i)
  | none => if isG c x = true then (match c.cons.lookup x with
      | some d => if scalC d = true then some (.lit d) else none
      | none => (tyNames.lookup x).map fun n => .lit (.ty n)) else none
def cConst : Const → Option D
  | .none => some .non
  | .bool b => some (.bl b)
  | .int i => some (.int i)
  | .str s => some (.str s)
  | _ => none
def cBop : Operator → Option Bop
  | .Add => some .add | .Sub => some .sub | .Mult => some .mul | .FloorDiv => some .fdiv | .Mod => some .mod | .Pow => some .pow
  | _ => none
def cCop : CmpOp → Cop
  | .Eq => .eq | .NotEq => .ne | .Lt => .lt | .LtE => .le | .Gt => .gt | .GtE => .ge | .Is => .is_ | .IsNot => .isnot | .In => .in_ | .NotIn => .notin
theorem cCop_py : ∀ op : CmpOp, pyCop (cCop op) = op := by
  intro op; cases op <;> rfl
theorem cBop_py {op : Operator} {o : Bop} (h : cBop op = some o) : pyBop o = op := by
  cases op <;> cases h <;> rfl
def biNames : List (Str × Bi) := [("len", .len), ("int", .int), ("str", .str), ("abs", .abs), ("max", .max), ("min", .min), ("tuple", .tuple), ("list", .list), ("all", .all), ("any", .any), ("sum", .sum), ("isinstance", .isin)]
def meNames : List (Str × Me) := [("append", .append), ("join", .join), ("split", .split), ("partition", .partition)]
/-- the names of built-in things that the program leaves alone -/
def freeNames : List Str := ["len", "int", "str", "abs", "max", "min", "tuple", "list", "all", "any", "sum", "isinstance", "range", "bool"]
/-! ### readings of argument lists -/
def tL (K : PySem.W.Frag) (C : Callee) : Es → TA
  | .nil => tNil
  | .cons e es => tCons (tE K (evE C e)) (tL K C es)
def Es.app : Es → Es → Es
  | .nil, b => b
  | .cons e es, b => .cons e (es.app b)
section
variable {K : PySem.W.Frag} {C : Callee} {σ : L2.St} {H : Hp}
theorem tE_mono {m : MR} {Q Q' : VK} (h : tE K m σ H Q) (w : ∀ v H, Q v H → Q' v H) : tE K m σ H Q' := by
  obtain ⟨φ, S, ρ, r, S', hs, he, hm, hQ⟩ := h
  exact ⟨φ, S, ρ, r, S', hs, he, hm, fun v H' φ' st q => w _ _ (hQ v H' φ' st q)⟩
theorem tL_mono : ∀ (es : Es) (H : Hp) (Q Q' : List V → Hp → Prop), (∀ vs H, Q vs H → Q' vs H) → tL K C es σ H Q → tL K C es σ H Q'
  | .nil, H, Q, Q', w, h => w _ _ h
  | .cons e es, H, Q, Q', w, h => tE_mono h fun v H1 g => tL_mono es H1 _ _ (fun vs H2 q => w _ _ q) g
theorem tA_tL : ∀ (es : Es) (H : Hp) (Q : List V → Hp → Prop), tA K (evEs C es) σ H Q → tL K C es σ H Q
  | .nil, H, Q, h => as_nil h
  | .cons e es, H, Q, h => tE_mono (as_cons h) fun v H1 g => tA_tL es H1 _ g
theorem tAR_tL : ∀ (es : Es) (H : Hp) (Q : List V → Hp → Prop), tAR K (evRs C es) σ H Q → tL K C es σ H Q
  | .nil, H, Q, h => rs_nil h
  | .cons e .nil, H, Q, h => rs_one h
  | .cons e (.cons e2 es), H, Q, h => tE_mono (rs_cons h) fun v H1 g => tAR_tL (.cons e2 es) H1 _ g
theorem tL_app : ∀ (a b : Es) (H : Hp) (Q : List V → Hp → Prop), tL K C (a.app b) σ H Q → tL K C a σ H fun vs H1 => tL K C b σ H1 fun zs H2 => Q (vs ++ zs) H2
  | .nil, b, H, Q, h => h
  | .cons e es, b, H, Q, h => tE_mono (show tE K (evE C e) σ H fun x H1 => tL K C (es.app b) σ H1 fun xs H2 => Q (x :: xs) H2 from h) fun v H1 g => tL_app es b H1 _ g
theorem tL_len : ∀ (es : Es) (H : Hp) (Q : List V → Hp → Prop), tL K C es σ H Q → tL K C es σ H fun vs H1 => vs.length = es.len ∧ Q vs H1
  | .nil, H, Q, h => ⟨rfl, h⟩
  | .cons e es, H, Q, h => tE_mono (show tE K (evE C e) σ H fun x H1 => tL K C es σ H1 fun xs H2 => Q (x :: xs) H2 from h) fun v H1 g =>
      tL_mono es H1 _ _ (fun vs H2 q => ⟨by rw [List.length_cons, q.1]; rfl, q.2⟩) (tL_len es H1 _ g)
end
/-! ### a call of a def -/
def spC (K : PySem.W.Frag) (C : Callee) (f np : Nat) : Sp := fun vs H Q _ => ∃ φ S us r S', RS K H φ S ∧ RUs K H φ S.length vs us ∧ us.length = np ∧ C f us S = some (r, S') ∧
  ∀ v H' φ', Step K φ S H φ' S' H' → RU K H' φ' S'.length v r → Q v H'
def arrV (arr : List Arg) (xs : List V) : List V := arr.map fun a => match a with
  | .a n => (xs[n]?).getD .non
  | .c x => dV x
def arrC (arr : List Arg) : Bool := arr.all fun a => match a with
  | .a _ => true
  | .c x => scalC x
theorem dV_ok {K : PySem.W.Frag} {H : Hp} {x : D} (h : scalC x = true) : RD K H (dV x) x := by
  cases x with
  | non => exact .non
  | bl b => exact .bl b
  | int i => exact .int i
  | str s => exact .str s
  | ty n => exact .ty n
  | tup xs => cases h
theorem arr_ok {K : PySem.W.Frag} {H : Hp} {φ : Nat → Addr} {N : Nat} {xs : List V} {us : List U} (r : RUs K H φ N xs us) : ∀ {arr : List Arg} {as : List U}, arrC arr = true → arrU arr us = some as → RUs K H φ N (arrV arr xs) as ∧ as.length = arr.length
  | [], as, _, h => by
    cases h
    exact ⟨.nil, rfl⟩
  | .a n :: arr, as, hc, h => by
    simp only [arrU, Option.bind_eq_some_iff, Option.map_eq_some_iff] at h
    obtain ⟨u, h1, bs, h2, rfl⟩ := h
    obtain ⟨g1, g2⟩ := arr_ok r (arr := arr) (by simpa [arrC] using hc) h2
    obtain ⟨v, e1, e2⟩ := r.get h1
    refine ⟨.cons ?_ g1, by rw [List.length_cons, g2]; rfl⟩
    show RU K H φ N ((xs[n]?).getD .non) u
    rw [e1]
    exact e2
  | .c x :: arr, as, hc, h => by
    simp only [arrU, Option.map_eq_some_iff] at h
    obtain ⟨bs, h2, rfl⟩ := h
    have hc' : scalC x = true ∧ arrC arr = true := by
      simp only [arrC, List.all_cons, Bool.and_eq_true] at hc
      exact hc
    obtain ⟨g1, g2⟩ := arr_ok r (arr := arr) hc'.2 h2
    exact ⟨.cons (.d (dV_ok hc'.1)) g1, by rw [List.length_cons, g2]; rfl⟩
theorem call_run {K : PySem.W.Frag} {C : Callee} {σ : L2.St} {H : Hp} {Q : VK} {E0 : XK} {f : Nat} {arr : List Arg} {a b : Es} {np : Nat} (hc : arrC arr = true) (hn : arr.length = np) :
    tE K (evE C (.call f arr (a.app b))) σ H Q → tL K C a σ H fun vs H1 => tL K C b σ H1 fun zs H2 => vs.length = a.len ∧ zs.length = b.len ∧ spC K C f np (arrV arr (vs ++ zs)) H2 Q E0 := by
  rintro ⟨φ, S, ρ, r, S', hs, he, hm, hQ⟩
  simp only [evE, Option.bind_eq_some_iff, Option.map_eq_some_iff] at hm
  obtain ⟨⟨us, S1⟩, h1, as, h2, ⟨u, S2⟩, h3, ⟨u2, S3⟩, h4, e⟩ := hm
  cases e
  have g : tA K (evEs C (a.app b)) σ H fun xs H2 => spC K C f np (arrV arr xs) H2 Q E0 := by
    refine ⟨φ, S, ρ, us, S1, hs, he, h1, fun vs H1 φ1 st1 q => ?_⟩
    obtain ⟨g1, g2⟩ := arr_ok q hc h2
    refine ⟨φ1, S1, as, u, S2, st1.rs, g1, by rw [g2, hn], h3, fun v H' φ' st r => ?_⟩
    obtain ⟨φ4, st4, q4⟩ := gcU_ok (st1.trans st) rfl r h4
    exact hQ v H' φ4 st4 q4
  have g2 := tL_app a b H _ (tA_tL _ H _ g)
  refine tL_mono a H _ _ (fun vs H1 q => ?_) (tL_len a H _ g2)
  refine tL_mono b H1 _ _ (fun zs H2 q2 => ?_) (tL_len b H1 _ q.2)
  exact ⟨q.1, q2.1, q2.2⟩
/-! ### the context of a block -/
structure ShapeOk (X : Cx) (C : Callee) (k : Nat) (fns : List FnI) (sh : Shape) : Prop where
  ex : ∃ (fi : FnI) (f : Addr) (fd : FuncData) (g : List Value → List Value → List Value), fns[sh.f]? = some fi ∧ X.mg fi.name = some (.ref f) ∧ PySem.W.keepIn X.K (.ref f) = true ∧
    FnOk X.prog X.w X.K X.mg X.base CX0 k f fd fi.ps (spC X.K C sh.f fi.ps.length) ∧ KBn X.K fd fi.ps sh.n sh.ks g (fun vs zs => arrV sh.arr (vs ++ zs))
structure XOk (X : Cx) (c : CC) (C : Callee) (k : Nat) : Prop where
  hN : X.N = c.N
  nd : c.N.Nodup
  calm : X.calm = true
  xe : X.xe = fun _ _ => False
  room : Room k X.A
  dig : Dig X.K
  loc : ∀ x, c.sc.names.lookup x = some .local → X.env.scope.names.lookup x = some .local
  cel : ∀ x, c.sc.names.lookup x = some .cell → X.env.scope.names.lookup x = some .cell ∧ X.fn x = true
  fre : ∀ x, c.sc.names.lookup x = some .free → X.env.scope.names.lookup x = some .cell ∨ X.env.scope.names.lookup x = some .free
  glo : ∀ x, c.sc.names.lookup x = some .globalImplicit → X.env.scope.names.lookup x = some .globalImplicit
  shp : ∀ sh ∈ c.shapes, ShapeOk X C k c.fns sh
  con : ∀ x d, c.cons.lookup x = some d → ∃ u, X.mg x = some u ∧ RelV (dV d) u
  fr : ∀ x ∈ freeNames, X.mg x = none
section
variable {X : Cx} {c : CC} {C : Callee} {k : Nat}
theorem slot_ok {x : Str} {i : Nat} (h : c.slot x = some i) : c.N[i]? = some x := by
  unfold CC.slot at h
  obtain ⟨l, h1, _⟩ := List.findIdx?_eq_some_iff_getElem.1 h
  rw [List.getElem?_eq_getElem l, ← beq_iff_eq.1 h1]
theorem plain_ok {x : Str} (h : plainName x = true) : (x == ("__debug__" : Str)) = false ∧ (x == ("__classdict__" : Str)) = false := by
  unfold plainName at h
  rw [Bool.and_eq_true] at h
  exact ⟨by simpa using h.1, by simpa using h.2⟩
theorem XOk.vis (o : XOk X c C k) {x : Str} (h : varK (c.sc.names.lookup x) = true) : Vis X.env.scope x := by
  cases e : c.sc.names.lookup x with
  | none => rw [e] at h; cases h
  | some kd =>
    rw [e] at h
    cases kd with
    | «local» => exact .inl (o.loc x e)
    | cell => exact .inr (.inl (o.cel x e).1)
    | free => exact .inr (o.fre x e)
    | globalImplicit => cases h
    | globalExplicit => cases h
theorem isG_ok (o : XOk X c C k) {x : Str} (h : isG c x = true) : Gl X x ∧ (x == ("__debug__" : Str)) = false ∧ x ≠ "__name__" := by
  unfold isG at h
  rw [Bool.and_eq_true, Bool.and_eq_true] at h
  obtain ⟨⟨h1, h2⟩, h3⟩ := h
  refine ⟨o.glo x (beq_iff_eq.1 h1), (plain_ok h2).1, by simpa using h3⟩
theorem tyBoot : ∀ {x : Str} {n : String}, tyNames.lookup x = some n → bootBuiltins x = some (.type n) ∧ x ∈ freeNames := by
  intro x n h
  have key : ∀ p ∈ tyNames, bootBuiltins p.1 = some (.type p.2) ∧ p.1 ∈ freeNames := by decide +kernel
  have : (x, n) ∈ tyNames := by
    clear key
    unfold tyNames at h ⊢
    simp only [List.lookup] at h
    repeat (split at h; · rename_i q; cases h; rw [beq_iff_eq.1 q]; simp)
    cases h
  exact key _ this
theorem biBoot' : ∀ {x : Str} {b : Bi}, biNames.lookup x = some b → biName b = x ∧ x ∈ freeNames := by
  intro x b h
  have key : ∀ p ∈ biNames, biName p.2 = p.1 ∧ p.1 ∈ freeNames := by decide +kernel
  have : (x, b) ∈ biNames := by
    clear key
    unfold biNames at h ⊢
    simp only [List.lookup] at h
    repeat (split at h; · rename_i q; cases h; rw [beq_iff_eq.1 q]; simp)
    cases h
  exact key _ this
theorem meName' : ∀ {x : Str} {m : Me}, meNames.lookup x = some m → (x, m) ∈ meNames := by
  intro x b h
  unfold meNames at h ⊢
  simp only [List.lookup] at h
  repeat (split at h; · rename_i q; cases h; rw [beq_iff_eq.1 q]; simp)
  cases h
theorem name_ok (o : XOk X c C k) {x : Str} {pos : Pos} {e : E} (h : cName c x = some e) : PE X (.Name x pos) (tE X.K (evE C e)) := by
  unfold cName at h
  split at h
  · rename_i i hi
    cases h
    unfold cVar at hi
    split at hi
    · rename_i cc
      obtain ⟨p1, p2⟩ := plain_ok cc.2
      exact PE.imp (pe_var (i := i) (by rw [o.hN]; exact slot_ok hi) (o.vis cc.1) p1 p2) fun σ H Q q => var_run q
    · cases hi
  · split at h
    · rename_i hg
      obtain ⟨g1, g2, g3⟩ := isG_ok o hg
      split at h
      · rename_i d hd
        split at h
        · rename_i sc
          cases h
          obtain ⟨u, m1, m2⟩ := o.con x d hd
          exact PE.imp (pe_glob g1 m1 m2 g2) fun σ H Q q => lit_run (fun H => dV_ok sc) q
        · cases h
      · rw [Option.map_eq_some_iff] at h
        obtain ⟨n, hn, rfl⟩ := h
        obtain ⟨b1, b2⟩ := tyBoot hn
        exact PE.imp (pe_bltn g1 (o.fr x b2) b1 (show RelV (.ty n) (.type n) from rfl) g3 g2) fun σ H Q q => lit_run (fun H => .ty n) q
    · cases h
end
end Ir

set_option Elab.async false
set_option linter.all false
set_option maxRecDepth 100000
set_option autoImplicit false
/-! Ir9: the compiler. -/
namespace Ir
open PySem L2 PySem.Spec PyProof.Rows
def notStar : Expr → Bool
  | .Starred .. => false
  | _ => true
def notComp : Expr → Bool
  | .ListComp .. => false
  | .SetComp .. => false
  | .DictComp .. => false
  | _ => true
def notSet : Expr → Bool
  | .Set .. => false
  | _ => true
def notSlice : Expr → Bool
  | .Slice .. => false
  | _ => true
def plainBase : Expr → Bool
  | .Call (.Name ..) [] [] _ => false
  | _ => true
/-- truth by the value -/
def byVal : Expr → Bool
  | .Name .. => true
  | .Call .. => true
  | .Subscript .. => true
  | .Constant .. => true
  | _ => false
def kwOkC (kws : List Keyword) : Bool := kws.all fun k => k.arg.isSome
def kwNames (kws : List Keyword) : List Str := kws.filterMap fun k => k.arg
def findShape (c : CC) (f : Str) (n : Nat) (ks : List Str) : Option Shape := c.shapes.find? fun sh => ((c.fns[sh.f]?).map fun fi => fi.name) == some f && (sh.n == n && (sh.ks == ks && (arrC sh.arr && ((c.fns[sh.f]?).map fun fi => fi.ps.length) == some sh.arr.length)))
def ownOf (c : CC) (scope : Scope) : List (Str × Nat) := scope.names.filterMap fun p => match p.2 with
  | .local => (c.slot p.1).map fun i => (p.1, i)
  | .cell => (c.slot p.1).map fun i => (p.1, i)
  | _ => none
mutual
def cTg : Nat → CC → Expr → Option Tg
  | 0, _, _ => none
  | n + 1, c, .Name x _ => if c.sc.names.lookup x = some .local ∨ c.sc.names.lookup x = some .cell then (c.slot x).map .n else none
  | n + 1, c, .Tuple es _ _ => if es.all notStar = true then (cTgs n c es).map .t else none
  | _ + 1, _, _ => none
def cTgs : Nat → CC → List Expr → Option Tgs
  | 0, _, _ => none
  | n + 1, c, [] => some .nil
  | n + 1, c, e :: es => (cTg n c e).bind fun t => (cTgs n c es).map fun ts => .cons t ts
end
mutual
def cE : Nat → CC → Expr → Option E
  | 0, _, _ => none
  | n + 1, c, .Name x _ => cName c x
  | n + 1, c, .Constant k _ _ => (cConst k).map .lit
  | n + 1, c, .BinOp a op b _ => (cBop op).bind fun o => (cE n c a).bind fun a' => (cE n c b).map fun b' => .bin o a' b'
  | n + 1, c, .UnaryOp .USub a _ => (cE n c a).map .neg
  | n + 1, c, .UnaryOp .Not a _ => (cE n c a).map .bnot
  | n + 1, c, .BoolOp _ [a] _ => cE n c a
  | n + 1, c, .BoolOp .And (a :: b :: rest) pos => (cE n c a).bind fun a' => (cE n c (.BoolOp .And (b :: rest) pos)).map fun b' => .band a' b'
  | n + 1, c, .BoolOp .Or (a :: b :: rest) pos => (cE n c a).bind fun a' => (cE n c (.BoolOp .Or (b :: rest) pos)).map fun b' => .bor a' b'
  | n + 1, c, .Compare a [op] [b] _ => if notSet b = true then (cE n c a).bind fun a' => (cE n c b).map fun b' => .cmp (cCop op) a' b' else none
  | n + 1, c, .Compare a [o1, o2] [b, d] _ => if notSet b = true ∧ notSet d = true then (cE n c a).bind fun a' => (cE n c b).bind fun b' => (cE n c d).map fun d' => .chain (cCop o1) (cCop o2) a' b' d' else none
  | n + 1, c, .IfExp t a b _ => (cT n c t).bind fun t' => (cE n c a).bind fun a' => (cE n c b).map fun b' => .ite t' a' b'
  | n + 1, c, .Tuple es _ _ => if es.length ≤ 1000 then (cEs n c es).map .tup else none
  | n + 1, c, .List es _ => if es.length ≤ 1000 then (cEs n c es).map .lst else none
  | n + 1, c, .Subscript a (.Slice lo hi none _) _ => (cE n c a).bind fun a' => (cO n c lo).bind fun lo' => (cO n c hi).map fun hi' => .sl a' lo' hi'
  | n + 1, c, .Subscript a i _ => if notSlice i = true then (cE n c a).bind fun a' => (cE n c i).map fun i' => .idx a' i' else none
  | n + 1, c, .Call (.Name f _) args kws _ => if isG c f = true then (match findShape c f args.length (kwNames kws) with
      | some sh => if kwOkC kws = true then (cEs n c args).bind fun a => (cKs n c kws).map fun b => .call sh.f sh.arr (a.app b) else none
      | none => (match biNames.lookup f, args, kws with
          | some b, a :: as, [] => (cEs n c (a :: as)).map fun es => .bi b es
          | _, _, _ => none)) else none
  | n + 1, c, .Call (.Attribute o m apos) [a] [] cpos => if plainBase o = true ∧ (apos.endLine == cpos.line) = true then (match meNames.lookup m with
      | some me => (cE n c o).bind fun o' => (cEs n c [a]).map fun es => .me me o' es
      | none => none) else none
  | n + 1, c, .ListComp elt [⟨tg, iter, ifs, 0⟩] scope _ => if blkC c.N c.sc scope (ownOf c scope) = true ∧ notSet iter = true then
      (cI n c iter).bind fun it => (cTg n { c with sc := scope } tg).bind fun t => if t.sub ((ownOf c scope).map (·.2)) = true then
        (cOt n { c with sc := scope } ifs).bind fun cd => (cE n { c with sc := scope } elt).map fun e => .comp ((ownOf c scope).map (·.2)) t it cd e else none
      else none
  | n + 1, c, .JoinedStr (v1 :: v2 :: rest) _ => (cPs n c (v1 :: v2 :: rest)).map .fs
  | _ + 1, _, _ => none
def cEs : Nat → CC → List Expr → Option Es
  | 0, _, _ => none
  | n + 1, c, [] => some .nil
  | n + 1, c, e :: es => if notStar e = true then (cE n c e).bind fun e' => (cEs n c es).map fun es' => .cons e' es' else none
def cKs : Nat → CC → List Keyword → Option Es
  | 0, _, _ => none
  | n + 1, c, [] => some .nil
  | n + 1, c, k :: ks => (cE n c k.value).bind fun e' => (cKs n c ks).map fun es' => .cons e' es'
def cPs : Nat → CC → List Expr → Option Es
  | 0, _, _ => none
  | n + 1, c, [] => some .nil
  | n + 1, c, .Constant (.str s) _ _ :: es => (cPs n c es).map fun es' => .cons (.lit (.str s)) es'
  | n + 1, c, .FormattedValue e (-1) none _ :: es => (cE n c e).bind fun e' => (cPs n c es).map fun es' => .cons e' es'
  | _ + 1, _, _ :: _ => none
def cO : Nat → CC → Option Expr → Option Oe
  | 0, _, _ => none
  | n + 1, c, none => some .none
  | n + 1, c, some e => (cE n c e).map .some
def cOt : Nat → CC → List Expr → Option Ot
  | 0, _, _ => none
  | n + 1, c, [] => some .none
  | n + 1, c, [t] => (cT n c t).map .some
  | _ + 1, _, _ => none
def cI : Nat → CC → Expr → Option It
  | 0, _, _ => none
  | n + 1, c, .Call (.Name f p) [a] [] pos => if f = "range" ∧ isG c f = true ∧ notStar a = true then (cE n c a).map .rng1 else (cE n c (.Call (.Name f p) [a] [] pos)).map .seq
  | n + 1, c, .Call (.Name f p) [a, b] [] pos => if f = "range" ∧ isG c f = true ∧ notStar a = true ∧ notStar b = true then (cE n c a).bind fun a' => (cE n c b).map fun b' => .rng2 a' b' else (cE n c (.Call (.Name f p) [a, b] [] pos)).map .seq
  | n + 1, c, e => (cE n c e).map .seq
def cT : Nat → CC → Expr → Option T
  | 0, _, _ => none
  | n + 1, c, .BoolOp op vs _ => cW n c op vs
  | n + 1, c, .UnaryOp .Not a _ => (cT n c a).map .not
  | n + 1, c, .Compare a [op] [b] _ => if notSet b = true then (cE n c a).bind fun a' => (cE n c b).map fun b' => .v (.cmp (cCop op) a' b') else none
  | n + 1, c, .Compare a [o1, o2] [b, d] _ => if notSet b = true ∧ notSet d = true then (cE n c a).bind fun a' => (cE n c b).bind fun b' => (cE n c d).map fun d' => .v (.chain (cCop o1) (cCop o2) a' b' d') else none
  | n + 1, c, e => if byVal e = true then (cE n c e).map .tr else none
def cW : Nat → CC → BoolOp → List Expr → Option T
  | 0, _, _, _ => none
  | n + 1, c, op, [a] => cT n c a
  | n + 1, c, .And, a :: b :: rest => (cT n c a).bind fun a' => (cW n c .And (b :: rest)).map fun b' => .and a' b'
  | n + 1, c, .Or, a :: b :: rest => (cT n c a).bind fun a' => (cW n c .Or (b :: rest)).map fun b' => .or a' b'
  | _ + 1, _, _, [] => none
end
end Ir

set_option Elab.async false
set_option linter.all false
set_option maxRecDepth 100000
set_option autoImplicit false
/-! Ir10: the compiler keeps the meaning: expressions. -/
namespace Ir
open PySem L2 PySem.Spec PyProof.Rows
theorem PO.imp {X : Cx} {e : Option Expr} {t t' : TO} (h : PO X e t) (w : ∀ σ H Q, t' σ H Q → t σ H Q) : PO X e t' := ⟨fun pins s σ H Q I q => h.run pins s σ H Q I (w σ H Q q)⟩
theorem PTs.imp {X : Cx} {e : List Expr} {t t' : TT} (h : PTs X e t) (w : ∀ σ H Q, t' σ H Q → t σ H Q) : PTs X e t' := ⟨fun pins s σ H Q I q => h.run pins s σ H Q I (w σ H Q q)⟩
/-! ### the syntax -/
theorem star_cons {e : Expr} {es : List Expr} {env : PySem.Env} (h : notStar e = true) : starEach (e :: es) env = (false, eval e env) :: starEach es env := by
  cases e <;> first | rfl | cases h
theorem star_any {env : PySem.Env} {pos : Pos} : ∀ {es : List Expr}, es.all notStar = true → (backTo pos (starEach es env)).any (·.1) = false
  | [], _ => rfl
  | e :: es, h => by
    rw [List.all_cons, Bool.and_eq_true] at h
    rw [star_cons h.1]
    show (false || (backTo pos (starEach es env)).any (·.1)) = false
    rw [star_any h.2]
    rfl
theorem kw_all {env : PySem.Env} {pos : Pos} : ∀ {kws : List Keyword}, kwOkC kws = true → (backToKw pos (keywordEach kws env)).all (·.1.isSome) = true ∧ (backToKw pos (keywordEach kws env)).any (·.1.isNone) = false ∧
    (backToKw pos (keywordEach kws env)).filterMap (·.1) = kwNames kws
  | [], _ => ⟨rfl, rfl, rfl⟩
  | ⟨nm, v, p⟩ :: kws, h => by
    simp only [kwOkC, List.all_cons, Bool.and_eq_true] at h
    obtain ⟨h1, h2⟩ := h
    obtain ⟨a, b, c⟩ := kw_all (env := env) (pos := pos) (kws := kws) h2
    cases nm with
    | none => cases h1
    | some x =>
      refine ⟨?_, ?_, ?_⟩
      · show (true && (backToKw pos (keywordEach kws env)).all (·.1.isSome)) = true
        rw [a]; rfl
      · show (false || (backToKw pos (keywordEach kws env)).any (·.1.isNone)) = false
        rw [b]; rfl
      · show x :: (backToKw pos (keywordEach kws env)).filterMap (·.1) = x :: kwNames kws
        rw [c]
theorem notSet_mark {op : CmpOp} {b : Expr} (h : notSet b = true) : behindInMarks op b = false := by
  cases b <;> first | rfl | cases h
theorem notSet_marks {o1 o2 : CmpOp} {b d : Expr} (h : notSet d = true) : lastMarks [o1, o2] [b, d] = false := notSet_mark h
theorem notSlice_plain {b : Expr} (h : notSlice b = true) : PlainIx b := by
  intro o i
  cases b <;> first | rfl | cases h
theorem notSet_fold {iter : Expr} {env : PySem.Env} (h : notSet iter = true) : ∀ x, foldedSetIterable iter env x = pure x := by
  intro x
  cases iter <;> first | rfl | cases h
theorem base_ok {o : Expr} {a : Str} {env : PySem.Env} (h : plainBase o = true) : attributeBase o a env (eval o env) = eval o env := by
  cases o <;> try rfl
  rename_i f args kws pos
  cases f <;> try rfl
  cases args with
  | nil =>
    cases kws with
    | nil => cases h
    | cons k ks => rfl
  | cons x xs => rfl
theorem byVal_ok {e : Expr} {env : PySem.Env} (h : byVal e = true) : ∀ whole, isTrue e env whole = (do let v ← whole; standAt e.pos; holding [v] (truthy v)) := by
  intro w
  cases e <;> first | rfl | cases h
/-! ### blocks -/
theorem lookup_rel {f : Str → NameKind → Bool} : ∀ {names : List (Str × NameKind)} {x : Str},
    (names.map fun (n, k) => if f n k = true then (n, NameKind.cell) else (n, k)).lookup x = (names.lookup x).map fun k => if f x k = true then .cell else k
  | [], _ => rfl
  | (n, k) :: r, x => by
    have ih := lookup_rel (f := f) (names := r) (x := x)
    simp only [List.map_cons, List.lookup]
    by_cases c : (x == n) = true
    · have e : x = n := beq_iff_eq.1 c
      subst e
      by_cases cf : f x k = true
      · simp [cf]
      · simp [cf]
    · have c' : (x == n) = false := by simpa using c
      by_cases cf : f n k = true
      · simp [cf, c', ih]
      · simp [cf, c', ih]
section
variable {X : Cx} {c : CC} {C : Callee} {k : Nat}
theorem rel_lookup {scope : Scope} {env : PySem.Env} {cl : List (Str × Addr)} {Cc : Addr} {x : Str} : (compEnvC scope cl Cc env).scope.names.lookup x = (scope.names.lookup x).map fun k => if (k == .free && env.scope.kind == .function && env.kindOf x == some .cell) = true then .cell else k :=
  lookup_rel (f := fun n k => (k == .free && env.scope.kind == .function && env.kindOf n == some .cell))
theorem ShapeOk.same {Y : Cx} {fns : List FnI} {sh : Shape} (h : ShapeOk X C k fns sh) (e1 : Y.prog = X.prog) (e2 : Y.w = X.w) (e3 : Y.K = X.K) (e4 : Y.mg = X.mg) (e5 : Y.base = X.base) : ShapeOk Y C k fns sh := by
  obtain ⟨fi, f, fd, g, h1, h2, h3, h4, h5⟩ := h.ex
  refine ⟨fi, f, fd, g, h1, ?_, ?_, ?_, ?_⟩
  · rw [e4]; exact h2
  · rw [e3]; exact h3
  · rw [e1, e2, e3, e4, e5]; exact h4
  · rw [e3]; exact h5
theorem blk_ok (o : XOk X c C k) (s : Shared) (H : Hp) (scope : Scope) (cl : List (Str × Addr)) (Cc : Addr) (fp : List Addr) : XOk (X.blk s H scope (compEnvC scope cl Cc X.env) fp) { c with sc := scope } C k where
  hN := o.hN
  nd := o.nd
  calm := o.calm
  xe := rfl
  room := o.room
  dig := o.dig
  loc := fun x h => by
    show (compEnvC scope cl Cc X.env).scope.names.lookup x = _
    rw [rel_lookup, h]
    rfl
  cel := fun x h => by
    constructor
    · show (compEnvC scope cl Cc X.env).scope.names.lookup x = _
      rw [rel_lookup, h]
      rfl
    · show (scope.names.lookup x == some .cell) = true
      rw [h]
      rfl
  fre := fun x h => by
    show (compEnvC scope cl Cc X.env).scope.names.lookup x = _ ∨ (compEnvC scope cl Cc X.env).scope.names.lookup x = _
    rw [rel_lookup, h]
    simp only [Option.map_some, Option.some.injEq]
    split
    · exact .inl rfl
    · exact .inr rfl
  glo := fun x h => by
    show (compEnvC scope cl Cc X.env).scope.names.lookup x = _
    rw [rel_lookup, h]
    rfl
  shp := fun sh hs => (o.shp sh hs).same rfl rfl rfl rfl rfl
  con := o.con
  fr := o.fr
theorem blk_of (o : XOk X c C k) {scope : Scope} {own : List (Str × Nat)} (h : blkC c.N c.sc scope own = true) : BlkOk X.N X.env.scope scope own := by
  have b := blkOk_by h
  refine ⟨b.kind, b.uniq, fun p hp => by rw [o.hN]; exact b.ix p hp, fun y hy e => ?_, fun y hy e => by rw [o.hN]; exact b.own y hy e⟩
  rcases b.free y hy e with l | l
  · exact .inl (o.cel _ l).1
  · exact o.fre _ l
/-! ### targets -/
theorem asg_cons {e : Expr} {es : List Expr} {env : PySem.Env} (h : notStar e = true) : (assignEach (e :: es) env).map (·.2) = assign e env :: (assignEach es env).map (·.2) := by
  cases e <;> first | rfl | cases h
theorem asg_len {env : PySem.Env} : ∀ {es : List Expr}, es.all notStar = true → (assignEach es env).length = es.length ∧ (assignEach es env).findIdx? (·.1) = none
  | [], _ => ⟨rfl, rfl⟩
  | e :: es, h => by
    rw [List.all_cons, Bool.and_eq_true] at h
    obtain ⟨a, b⟩ := asg_len (env := env) h.2
    have e1 : assignEach (e :: es) env = (false, assign e env) :: assignEach es env := by
      have h1 := h.1
      cases e <;> first | rfl | cases h1
    rw [e1]
    refine ⟨by rw [List.length_cons, a]; rfl, ?_⟩
    rw [List.findIdx?_cons]
    simp [b]
theorem Tgs_len : ∀ {n : Nat} {c : CC} {es : List Expr} {ts : Tgs}, cTgs n c es = some ts → ts.len = es.length
  | 0, _, _, _, h => by simp [cTgs] at h
  | n + 1, c, [], ts, h => by
    simp only [cTgs] at h
    cases h
    rfl
  | n + 1, c, e :: es, ts, h => by
    simp only [cTgs, Option.bind_eq_some_iff, Option.map_eq_some_iff] at h
    obtain ⟨t, h1, ts', h2, rfl⟩ := h
    show ts'.len + 1 = _
    rw [Tgs_len h2]
    rfl
theorem tg_ok (o : XOk X c C k) : ∀ (n : Nat), (∀ e t, cTg n c e = some t → PG X e (tgG X.K t)) ∧ (∀ es ts, cTgs n c es = some ts → es.all notStar = true → PGs X es (tgGs X.K ts)) := by
  intro n
  induction n with
  | zero => exact ⟨fun e t h => by simp [cTg] at h, fun es ts h => by simp [cTgs] at h⟩
  | succ n ih =>
    constructor
    · intro e t h
      cases e with
      | Name x pos =>
        simp only [cTg] at h
        split at h
        · rename_i cc
          rw [Option.map_eq_some_iff] at h
          obtain ⟨i, hi, rfl⟩ := h
          have hx : Loc X.env.scope x := cc.elim (fun l => .inl (o.loc x l)) (fun l => .inr (o.cel x l).1)
          have hf : X.fn x = true ∨ X.env.scope.names.lookup x = some .local := cc.elim (fun l => .inr (o.loc x l)) (fun l => .inl (o.cel x l).2)
          exact pg_name (by rw [o.hN]; exact o.nd) (by rw [o.hN]; exact slot_ok hi) hx hf
        · cases h
      | Tuple es kk pos =>
        simp only [cTg] at h
        split at h
        · rename_i cc
          rw [Option.map_eq_some_iff] at h
          obtain ⟨ts, h1, rfl⟩ := h
          obtain ⟨a, b⟩ := asg_len (env := X.env) cc
          exact pg_tup o.calm (ih.2 es ts h1 cc) (by rw [a, Tgs_len h1]) b
        · cases h
      | _ => simp [cTg] at h
    · intro es ts h hs
      cases es with
      | nil =>
        simp only [cTgs] at h
        cases h
        exact pgs_nil
      | cons e es =>
        simp only [cTgs, Option.bind_eq_some_iff, Option.map_eq_some_iff] at h
        obtain ⟨t, h1, ts', h2, rfl⟩ := h
        rw [List.all_cons, Bool.and_eq_true] at hs
        exact pgs_cons (ih.1 e t h1) (ih.2 es ts' h2 hs.2) (asg_cons hs.1)
end
end Ir

set_option Elab.async false
set_option linter.all false
set_option maxRecDepth 100000
set_option autoImplicit false
/-! Ir11: the compiler keeps the meaning: expressions. -/
namespace Ir
open PySem L2 PySem.Spec PyProof.Rows
section
variable {X : Cx} {c : CC} {C : Callee} {k : Nat}
theorem XOk.units (o : XOk X c C k) : X.A.units + 65 < cLine := by
  have := o.room.un
  omega
theorem E0pass {X : Cx} : Passes CX0 X E0 := pass0
/-- a call of a def, in any of its ways -/
theorem pe_callA (o : XOk X c C k) {sh : Shape} (hs : sh ∈ c.shapes) {f : Str} {p pos : Pos} {args : List Expr} {kws : List Keyword} {a b : Es} (hf : ((c.fns[sh.f]?).map fun fi => fi.name) = some f) (hnp : ((c.fns[sh.f]?).map fun fi => fi.ps.length) = some sh.arr.length)
    (hg : Gl X f) (hd : (f == ("__debug__" : Str)) = false) (hst : args.all notStar = true) (hkw : kwOkC kws = true) (hn : sh.n = a.len) (hal : a.len = args.length) (hks : sh.ks = kwNames kws) (hkl : (kwNames kws).length = b.len) (hac : arrC sh.arr = true)
    (ha : PA X args (tL X.K C a)) (hb : PK X kws (tL X.K C b)) : PE X (.Call (.Name f p) args kws pos) (tE X.K (evE C (.call sh.f sh.arr (a.app b)))) := by
  obtain ⟨fi, fa, fd, g, h1, h2, h3, h4, h5⟩ := (o.shp sh hs).ex
  rw [h1] at hf hnp
  have hf' : fi.name = f := Option.some.inj hf
  have hnp' : fi.ps.length = sh.arr.length := Option.some.inj hnp
  obtain ⟨k1, k2, k3⟩ := kw_all (env := X.env) (pos := pos) hkw
  have key : PE X (.Call (.Name f p) args kws pos) (fun σ H Q => tL X.K C a σ H fun vs H1 => tL X.K C b σ H1 fun zs H2 => vs.length = a.len ∧ zs.length = b.len ∧ spC X.K C sh.f fi.ps.length (arrV sh.arr (vs ++ zs)) H2 Q E0) := by
    refine ⟨fun pins s σ H Q I h => ?_⟩
    refine wpAny_Call_Name_kw (ld_glob I hg (by rw [← hf']; exact h2) ?_ hd)
    cases args with
    | nil =>
      cases a with
      | cons e es =>
        cases hal
      | nil =>
        have h' : tL X.K C b σ H fun zs H2 => ([] : List V).length = Es.nil.len ∧ zs.length = b.len ∧ spC X.K C sh.f fi.ps.length (arrV sh.arr ([] ++ zs)) H2 Q E0 := h
        refine PySem.W.callWith_KW0 (h₀ := X.base) I.ok.mod.kin h3 k1 ?_ (by rw [k2]; rfl)
        refine thn (hb.run pos pins s σ H _ I h') fun ws s2 ⟨zs, H2, I2, rz, l1, l2, q2⟩ => ⟨I2.kIn, ?_⟩
        rw [k3, ← hks]
        exact run_fnN (us := []) h4 o.room h5 E0pass I2 .nil rz (by rw [hn]; rfl) (by rw [l2, hks, hkl]) q2
    | cons e es =>
      have he : starEach (e :: es) X.env = (false, eval e X.env) :: starEach es X.env := by
        rw [List.all_cons, Bool.and_eq_true] at hst
        exact star_cons hst.1
      refine PySem.W.callWith_KW (h₀ := X.base) I.ok.mod.kin h3 k1 (thn (ha.run pos pins s σ H _ I h) fun us s1 ⟨vs, H1, I1, r, q⟩ => ?_) (by rw [star_any hst, k2]; rfl) he
      refine thn (hb.run pos pins s1 σ H1 _ I1 q) fun ws s2 ⟨zs, H2, I2, rz, l1, l2, q2⟩ => ⟨I2.kIn, ?_⟩
      rw [k3, ← hks]
      exact run_fnN h4 o.room h5 E0pass I2 r rz (by rw [l1, hn]) (by rw [l2, hks, hkl]) q2
  exact PE.imp key fun σ H Q q => call_run hac hnp'.symm q
end
end Ir

set_option Elab.async false
set_option linter.all false
set_option maxRecDepth 100000
set_option autoImplicit false
/-! Ir12: the compiler keeps the meaning: all expressions. -/
namespace Ir
open PySem L2 PySem.Spec PyProof.Rows
structure Snd (C : Callee) (k n : Nat) (c : CC) (X : Cx) : Prop where
  e : ∀ e ie, cE n c e = some ie → PE X e (tE X.K (evE C ie))
  es : ∀ es ies, cEs n c es = some ies → PA X es (tL X.K C ies) ∧ es.all notStar = true ∧ ies.len = es.length
  ks : ∀ ks iks, cKs n c ks = some iks → PK X ks (tL X.K C iks) ∧ iks.len = ks.length
  ps : ∀ es ies, cPs n c es = some ies → PJ X es (fsParts X.K C ies)
  o : ∀ oe io, cO n c oe = some io → PO X oe (tOo X.K (evO C io))
  ot : ∀ ifs it, cOt n c ifs = some it → PTs X ifs (tOt X.K C it)
  i : ∀ tg e ie, notSet e = true → cI n c e = some ie → PI X tg e (tI X.K (evI C ie))
  t : ∀ e it, cT n c e = some it → PT X e (tT X.K (evT C it))
  w : ∀ op vs pos it, cW n c op vs = some it → PW X (.BoolOp op vs pos) (tT X.K (evT C it))
section
variable {C : Callee} {k : Nat}
theorem evEs_small {es : Es} {m : Nat} (h : es.len = m) (hm : m ≤ 1000) : ∀ ρ S us S', evEs C es ρ S = some (us, S') → us.length ≤ sizeLine := by
  intro ρ S us S' h1
  rw [evEs_len es ρ S us S' h1, h, sizeLine_eq]
  omega
theorem pk_len : ∀ {kws : List Keyword}, kwOkC kws = true → (kwNames kws).length = kws.length
  | [], _ => rfl
  | ⟨nm, v, p⟩ :: kws, h => by
    simp only [kwOkC, List.all_cons, Bool.and_eq_true] at h
    cases nm with
    | none => cases h.1
    | some x =>
      show (kwNames kws).length + 1 = kws.length + 1
      rw [pk_len h.2]
theorem const_ok {X : Cx} {kc : Const} {d : D} {kk : Nat} {pos : Pos} (h : cConst kc = some d) : PE X (.Constant kc kk pos) (tE X.K (evE C (.lit d))) := by
  cases kc with
  | none => cases h; exact PE.imp pe_non fun σ H Q q => lit_run (fun H => .non) q
  | bool b => cases h; exact PE.imp pe_bl fun σ H Q q => lit_run (fun H => .bl b) q
  | int i => cases h; exact PE.imp pe_int fun σ H Q q => lit_run (fun H => .int i) q
  | str s => cases h; exact PE.imp pe_str fun σ H Q q => lit_run (fun H => .str s) q
  | _ => cases h
/-- a built-in function -/
theorem bi_pe {X : Cx} {c : CC} (o : XOk X c C k) {f : Str} {b : Bi} (hb : biNames.lookup f = some b) (hg : isG c f = true) {p pos : Pos} {a : Expr} {as : List Expr} {es : Es} (hst : (a :: as).all notStar = true) (ha : PA X (a :: as) (tL X.K C es)) :
    PE X (.Call (.Name f p) (a :: as) [] pos) (tE X.K (evE C (.bi b es))) := by
  obtain ⟨b1, b2⟩ := biBoot' hb
  obtain ⟨g1, g2, g3⟩ := isG_ok o hg
  rw [List.all_cons, Bool.and_eq_true] at hst
  have hm := o.fr f b2
  have hv : bootBuiltins f = some (biVal b) := by rw [← b1]; exact biBoot b
  have cr := crx (X := X) o.calm o.dig b
  have fin : ∀ {T : TE}, PE X (.Call (.Name f p) (a :: as) [] pos) T → (∀ σ H Q, tCB (rBi X.K b) (tL X.K C es) σ H Q → T σ H Q) → PE X (.Call (.Name f p) (a :: as) [] pos) (tE X.K (evE C (.bi b es))) :=
    fun h w => PE.imp h fun σ H Q q => w σ H Q (tAR_tL es H _ (bi_run q))
  cases b with
  | int => exact fin (pe_callTy cr g1 hm hv ha g3 g2 (star_cons hst.1) (star_any hst.2)) fun _ _ _ q => q
  | str => exact fin (pe_callTy cr g1 hm hv ha g3 g2 (star_cons hst.1) (star_any hst.2)) fun _ _ _ q => q
  | tuple => exact fin (pe_callTy cr g1 hm hv ha g3 g2 (star_cons hst.1) (star_any hst.2)) fun _ _ _ q => q
  | list => exact fin (pe_callTy cr g1 hm hv ha g3 g2 (star_cons hst.1) (star_any hst.2)) fun _ _ _ q => q
  | _ => exact fin (pe_callB cr g1 hm hv ha g3 g2 (star_cons hst.1) (star_any hst.2)) fun _ _ _ q => q
/-- a method -/
theorem me_pe {X : Cx} {c : CC} (o : XOk X c C k) {m : Str} {me : Me} (hm : meNames.lookup m = some me) {ov a : Expr} {apos cpos : Pos} (hb : plainBase ov = true) (hl : (apos.endLine == cpos.line) = true) {io : E} {es : Es} (hst : notStar a = true) (ho : PE X ov (tE X.K (evE C io))) (he : ∃ e, es = .cons e .nil) (ha : PA X [a] (tL X.K C es)) :
    PE X (.Call (.Attribute ov m apos) [a] [] cpos) (tE X.K (evE C (.me me io es))) := by
  have hmem := meName' hm
  obtain ⟨e, rfl⟩ := he
  have s1 : starEach [a] X.env = (false, eval a X.env) :: starEach [] X.env := star_cons hst
  have few : ((backTo cpos (starEach [a] X.env)).all (fun x => !x.1) && (backToKw cpos (keywordEach [] X.env)).all (fun x => x.1.isSome)
      && decide (([a] : List Expr).length + ([] : List Keyword).length + (if ([] : List Keyword).isEmpty then 0 else 1) < 30)) = true := by
    rw [s1]; rfl
  have fin : ∀ {T : TE}, PE X (.Call (.Attribute ov m apos) [a] [] cpos) T → (∀ σ H Q, (tE X.K (evE C io) σ H fun x H1 => tyV X.K (meTy me) x H1 ∧ tL X.K C (.cons e .nil) σ H1 fun xs H2 => rMe X.K me x xs H2 Q) → T σ H Q) → PE X (.Call (.Attribute ov m apos) [a] [] cpos) (tE X.K (evE C (.me me io (.cons e .nil)))) :=
    fun h w => PE.imp h fun σ H Q q => w σ H Q (tE_mono (me_run q) fun v H1 g => ⟨g.1, tAR_tL _ H1 _ g.2⟩)
  unfold meNames at hmem
  simp only [List.mem_cons, Prod.mk.injEq, List.not_mem_nil, or_false] at hmem
  rcases hmem with ⟨rfl, rfl⟩ | ⟨rfl, rfl⟩ | ⟨rfl, rfl⟩ | ⟨rfl, rfl⟩
  · exact fin (pe_bm PySem.F.plainAttrs_list PySem.F.slot_list_append PySem.F.type_list_append mt_append ho ha (base_ok hb) few hl s1 rfl) fun σ H Q q => q
  · exact fin (pe_bm PySem.F.plainAttrs_str PySem.F.slot_str_join PySem.F.type_str_join mt_join ho ha (base_ok hb) few hl s1 rfl) fun σ H Q q => q
  · exact fin (pe_bm PySem.F.plainAttrs_str PySem.F.slot_str_split PySem.F.type_str_split mt_split ho ha (base_ok hb) few hl s1 rfl) fun σ H Q q => q
  · exact fin (pe_bm PySem.F.plainAttrs_str PySem.F.slot_str_partition PySem.F.type_str_partition mt_partition ho ha (base_ok hb) few hl s1 rfl) fun σ H Q q => q
end
end Ir

set_option Elab.async false
set_option linter.all false
set_option maxRecDepth 100000
set_option autoImplicit false
/-! Ir13: the compiler keeps the meaning: all expressions, by induction. -/
namespace Ir
open PySem L2 PySem.Spec PyProof.Rows
section
variable {C : Callee} {k : Nat}
set_option maxHeartbeats 2000000 in
theorem sE_e {n : Nat} {c : CC} {X : Cx} (o : XOk X c C k) (ih : ∀ (c : CC) (X : Cx), XOk X c C k → Snd C k n c X) : ∀ e ie, cE (n + 1) c e = some ie → PE X e (tE X.K (evE C ie)) := by
  intro e ie h
  have I := ih c X o
  unfold cE at h
  split at h
  · rename_i z; cases z
  · rename_i z; cases z
    exact name_ok o h
  · rename_i z; cases z
    rw [Option.map_eq_some_iff] at h
    obtain ⟨d, h1, rfl⟩ := h
    exact const_ok h1
  · rename_i z; cases z
    simp only [Option.bind_eq_some_iff, Option.map_eq_some_iff] at h
    obtain ⟨op, h1, a', h2, b', h3, rfl⟩ := h
    have e1 := cBop_py h1
    subst e1
    exact PE.imp (pe_op (opr_bop op) (I.e _ _ h2) (I.e _ _ h3)) fun σ H Q q => bin_run q
  · rename_i z; cases z
    rw [Option.map_eq_some_iff] at h
    obtain ⟨a', h1, rfl⟩ := h
    exact PE.imp (pe_un un_neg (I.e _ _ h1)) fun σ H Q q => neg_run q
  · rename_i z; cases z
    rw [Option.map_eq_some_iff] at h
    obtain ⟨a', h1, rfl⟩ := h
    exact PE.imp (pe_not (I.e _ _ h1)) fun σ H Q q => bnot_run q
  · rename_i z; cases z
    exact pe_one (I.e _ _ h)
  · rename_i z; cases z
    simp only [Option.bind_eq_some_iff, Option.map_eq_some_iff] at h
    obtain ⟨a', h2, b', h3, rfl⟩ := h
    exact PE.imp (pe_and (I.e _ _ h2) (I.e _ _ h3)) fun σ H Q q => band_run q
  · rename_i z; cases z
    simp only [Option.bind_eq_some_iff, Option.map_eq_some_iff] at h
    obtain ⟨a', h2, b', h3, rfl⟩ := h
    exact PE.imp (pe_or (I.e _ _ h2) (I.e _ _ h3)) fun σ H Q q => bor_run q
  · rename_i z; cases z
    split at h
    · rename_i cc
      simp only [Option.bind_eq_some_iff, Option.map_eq_some_iff] at h
      obtain ⟨a', h2, b', h3, rfl⟩ := h
      rename_i op _ _
      have g := opr_cop (X := X) o.units (cCop op)
      rw [cCop_py] at g
      exact PE.imp (pe_cmpR g (I.e _ _ h2) (I.e _ _ h3) (notSet_mark cc)) fun σ H Q q => cmp_run q
    · cases h
  · rename_i z; cases z
    split at h
    · rename_i cc
      simp only [Option.bind_eq_some_iff, Option.map_eq_some_iff] at h
      obtain ⟨a', h2, b', h3, d', h4, rfl⟩ := h
      rename_i o1 o2 _ _ _
      have g1 := opr_cmpI (X := X) (cCop o1)
      have g2 := opr_cmpI (X := X) (cCop o2)
      rw [cCop_py] at g1 g2
      exact PE.imp (pe_chain g1 g2 (I.e _ _ h2) (I.e _ _ h3) (I.e _ _ h4) (notSet_marks cc.2)) fun σ H Q q => chain_run q
    · cases h
  · rename_i z; cases z
    simp only [Option.bind_eq_some_iff, Option.map_eq_some_iff] at h
    obtain ⟨t', h1, a', h2, b', h3, rfl⟩ := h
    exact PE.imp (pe_ifExp (I.t _ _ h1) (I.e _ _ h2) (I.e _ _ h3)) fun σ H Q q => ite_run q
  · rename_i z; cases z
    split at h
    · rename_i cc
      rw [Option.map_eq_some_iff] at h
      obtain ⟨es, h1, rfl⟩ := h
      obtain ⟨g1, g2, g3⟩ := I.es _ _ h1
      exact PE.imp (pe_tup g1) fun σ H Q q => tA_tL es H _ (tup_run (evEs_small g3 cc) q)
    · cases h
  · rename_i z; cases z
    split at h
    · rename_i cc
      rw [Option.map_eq_some_iff] at h
      obtain ⟨es, h1, rfl⟩ := h
      obtain ⟨g1, g2, g3⟩ := I.es _ _ h1
      exact PE.imp (pe_lst g1) fun σ H Q q => tA_tL es H _ (lst_run (evEs_small g3 cc) q)
    · cases h
  · rename_i z; cases z
    simp only [Option.bind_eq_some_iff, Option.map_eq_some_iff] at h
    obtain ⟨a', h1, lo', h2, hi', h3, rfl⟩ := h
    exact PE.imp (pe_slice slr_all (I.e _ _ h1) (I.o _ _ h2) (I.o _ _ h3)) fun σ H Q q => sl_run q
  · rename_i z; cases z
    split at h
    · rename_i cc
      simp only [Option.bind_eq_some_iff, Option.map_eq_some_iff] at h
      obtain ⟨a', h2, b', h3, rfl⟩ := h
      exact PE.imp (pe_ix ix_seq (I.e _ _ h2) (I.e _ _ h3) (notSlice_plain cc)) fun σ H Q q => idx_run q
    · cases h
  · rename_i z; cases z
    split at h
    · rename_i hg
      obtain ⟨g1, g2, g3⟩ := isG_ok o hg
      split at h
      · rename_i sh hsh
        split at h
        · rename_i hkw
          simp only [Option.bind_eq_some_iff, Option.map_eq_some_iff] at h
          obtain ⟨a, h1, b, h2, rfl⟩ := h
          obtain ⟨p1, p2, p3⟩ := I.es _ _ h1
          obtain ⟨q1, q2⟩ := I.ks _ _ h2
          have hmem := List.mem_of_find?_eq_some hsh
          have hpred := List.find?_some hsh
          simp only [Bool.and_eq_true] at hpred
          obtain ⟨r1, r2, r3, r4, r5⟩ := hpred
          exact pe_callA o hmem (beq_iff_eq.1 r1) (beq_iff_eq.1 r5) g1 g2 p2 hkw (by rw [beq_iff_eq.1 r2, p3]) p3 (beq_iff_eq.1 r3) (by rw [pk_len hkw, q2]) r4 p1 q1
        · cases h
      · split at h
        · rw [Option.map_eq_some_iff] at h
          obtain ⟨es, h1, rfl⟩ := h
          obtain ⟨p1, p2, p3⟩ := I.es _ _ h1
          exact bi_pe o (by assumption) hg p2 p1
        · cases h
    · cases h
  · rename_i z; cases z
    split at h
    · rename_i cc
      split at h
      · rename_i hm
        simp only [Option.bind_eq_some_iff, Option.map_eq_some_iff] at h
        obtain ⟨o', h1, es, h2, rfl⟩ := h
        obtain ⟨p1, p2, p3⟩ := I.es _ _ h2
        have hone : ∃ e, es = .cons e .nil := by
          cases es with
          | nil => cases p3
          | cons e es =>
            cases es with
            | nil => exact ⟨e, rfl⟩
            | cons e2 es => simp [Es.len] at p3
        rw [List.all_cons, Bool.and_eq_true] at p2
        exact me_pe o hm cc.1 cc.2 p2.1 (I.e _ _ h1) hone p1
      · cases h
    · cases h
  · rename_i z; cases z
    split at h
    · rename_i cc
      rw [Option.bind_eq_some_iff] at h
      obtain ⟨it, h1, h⟩ := h
      rw [Option.bind_eq_some_iff] at h
      obtain ⟨t, h2, h⟩ := h
      split at h
      · rename_i hsub
        simp only [Option.bind_eq_some_iff, Option.map_eq_some_iff] at h
        obtain ⟨cd, h3, e', h4, rfl⟩ := h
        refine PE.imp (pe_lc o.calm (by rw [o.hN]; exact o.nd) (I.i _ _ _ cc.2 h1) (blk_of o cc.1) (fun s H Cc cl fp => (tg_ok (blk_ok o s H _ cl Cc fp) n).1 _ _ h2)
          (fun s H Cc cl fp => (ih _ _ (blk_ok o s H _ cl Cc fp)).ot _ _ h3) (fun s H Cc cl fp => (ih _ _ (blk_ok o s H _ cl Cc fp)).e _ _ h4) (notSet_fold cc.2)) fun σ H Q q => comp_run hsub q
      · cases h
    · cases h
  · rename_i z; cases z
    rw [Option.map_eq_some_iff] at h
    obtain ⟨es, h1, rfl⟩ := h
    exact PE.imp (pe_joined (I.ps _ _ h1)) fun σ H Q q => fsE_run q
  · cases h

theorem fsK {K : PySem.W.Frag} {s : Str} {σ : L2.St} {H : Hp} {Q : VK} (q : tFmtB (tE K (evE C (.lit (.str s)))) σ H Q) : tC (.str s) σ H Q := by
  obtain ⟨φ, S, ρ, r, S', hs, he, hm, hQ⟩ := q
  cases hm
  have := hQ (.str s) H φ (.refl hs) (.mk (.str s))
  rcases this with ⟨y, e, _, q⟩ | ⟨i, e, _⟩
  · cases e
    exact q
  · cases e
theorem pw_single {X : Cx} {op : BoolOp} {a : Expr} {pos : Pos} {tA : TT} (ha : PT X a tA) : PW X (.BoolOp op [a] pos) tA := by
  cases op
  · exact pw_and1 ha
  · exact pw_or1 ha
set_option maxHeartbeats 2000000 in
/-- the rest of it -/
theorem sE_all (n : Nat) : ∀ (c : CC) (X : Cx), XOk X c C k → Snd C k n c X := by
  induction n with
  | zero =>
    intro c X o
    exact ⟨fun e ie h => by simp [cE] at h, fun e ie h => by simp [cEs] at h, fun e ie h => by simp [cKs] at h, fun e ie h => by simp [cPs] at h, fun e ie h => by simp [cO] at h, fun e ie h => by simp [cOt] at h,
      fun tg e ie _ h => by simp [cI] at h, fun e ie h => by simp [cT] at h, fun op vs pos it h => by simp [cW] at h⟩
  | succ n ih =>
    intro c X o
    have I := ih c X o
    refine ⟨sE_e o ih, fun es ies h => ?_, fun ks iks h => ?_, fun es ies h => ?_, fun oe io h => ?_, fun ifs it h => ?_, fun tg e ie hns h => ?_, fun e it h => ?_, fun op vs pos it h => ?_⟩
    · cases es with
      | nil =>
        simp only [cEs] at h
        cases h
        exact ⟨pa_nil, rfl, rfl⟩
      | cons e es =>
        simp only [cEs] at h
        split at h
        · rename_i hst
          simp only [Option.bind_eq_some_iff, Option.map_eq_some_iff] at h
          obtain ⟨e', h1, es', h2, rfl⟩ := h
          obtain ⟨g1, g2, g3⟩ := I.es _ _ h2
          refine ⟨pa_cons (I.e _ _ h1) g1 (star_cons hst), by rw [List.all_cons, hst, g2]; rfl, ?_⟩
          show es'.len + 1 = _
          rw [g3]
          rfl
        · cases h
    · cases ks with
      | nil =>
        simp only [cKs] at h
        cases h
        exact ⟨pk_nil, rfl⟩
      | cons kw ks =>
        obtain ⟨nm, v, p⟩ := kw
        simp only [cKs, Option.bind_eq_some_iff, Option.map_eq_some_iff] at h
        obtain ⟨e', h1, es', h2, rfl⟩ := h
        obtain ⟨g1, g2⟩ := I.ks _ _ h2
        refine ⟨pk_cons (I.e _ _ h1) g1, ?_⟩
        show es'.len + 1 = _
        rw [g2]
        rfl
    · unfold cPs at h
      split at h
      · rename_i z; cases z
      · rename_i z; cases z
        cases h
        exact .nil
      · rename_i z; cases z
        rw [Option.map_eq_some_iff] at h
        obtain ⟨es', h1, rfl⟩ := h
        exact .cons (PE.imp pe_str fun σ H Q q => fsK q) (I.ps _ _ h1)
      · rename_i z; cases z
        simp only [Option.bind_eq_some_iff, Option.map_eq_some_iff] at h
        obtain ⟨e', h1, es', h2, rfl⟩ := h
        exact .cons (pe_fmtB o.calm o.dig (I.e _ _ h1)) (I.ps _ _ h2)
      · cases h
    · cases oe with
      | none =>
        simp only [cO] at h
        cases h
        exact PO.imp po_none fun σ H Q q => o_none q
      | some e =>
        simp only [cO, Option.map_eq_some_iff] at h
        obtain ⟨e', h1, rfl⟩ := h
        exact PO.imp (po_some (I.e _ _ h1)) fun σ H Q q => o_some q
    · unfold cOt at h
      split at h
      · rename_i z; cases z
      · rename_i z; cases z
        cases h
        exact pts_nil
      · rename_i z; cases z
        rw [Option.map_eq_some_iff] at h
        obtain ⟨t', h1, rfl⟩ := h
        exact pts_one (I.t _ _ h1)
      · cases h
    · have seq : ∀ {e : Expr} {ie : It}, (cE n c e).map It.seq = some ie → PI X tg e (tI X.K (evI C ie)) := by
        intro e ie h
        rw [Option.map_eq_some_iff] at h
        obtain ⟨e', h1, rfl⟩ := h
        have g := I.e _ _ h1
        exact PI.imp (PI.or (pi_tup g) (PI.or (pi_list g) (pi_str g))) fun σ H R q => seq_run q
      unfold cI at h
      split at h
      · rename_i z; cases z
      · rename_i z; cases z
        split at h
        · rename_i cc
          obtain ⟨c1, c2, c3⟩ := cc
          subst c1
          rw [Option.map_eq_some_iff] at h
          obtain ⟨a', h1, rfl⟩ := h
          obtain ⟨g1, g2, g3⟩ := isG_ok o c2
          exact PI.imp (pi_range1 g1 (o.fr _ (by decide +kernel)) (pa_cons (I.e _ _ h1) pa_nil (star_cons c3)) (star_cons c3)) fun σ H R q => rng1_run q
        · exact seq h
      · rename_i z; cases z
        split at h
        · rename_i cc
          obtain ⟨c1, c2, c3, c4⟩ := cc
          subst c1
          simp only [Option.bind_eq_some_iff, Option.map_eq_some_iff] at h
          obtain ⟨a', h1, b', h2, rfl⟩ := h
          obtain ⟨g1, g2, g3⟩ := isG_ok o c2
          exact PI.imp (pi_range2 g1 (o.fr _ (by decide +kernel)) (pa_cons (I.e _ _ h1) (pa_cons (I.e _ _ h2) pa_nil (star_cons c4)) (star_cons c3)) (by rw [star_cons c3, star_cons c4]; rfl) (star_cons c4)) fun σ H R q => rng2_run q
        · exact seq h
      · rename_i z _ _; cases z
        exact seq h
    · unfold cT at h
      split at h
      · rename_i z; cases z
      · rename_i z; cases z
        exact PW.pt (I.w _ _ _ _ h)
      · rename_i z; cases z
        rw [Option.map_eq_some_iff] at h
        obtain ⟨t', h1, rfl⟩ := h
        exact PT.imp (pt_not (I.t _ _ h1)) fun σ H Q q => tnot_run q
      · rename_i z; cases z
        split at h
        · rename_i cc
          simp only [Option.bind_eq_some_iff, Option.map_eq_some_iff] at h
          obtain ⟨a', h2, b', h3, rfl⟩ := h
          rename_i op _ _
          have g := opr_cop (X := X) o.units (cCop op)
          rw [cCop_py] at g
          exact PT.imp (pt_cmpR g (I.e _ _ h2) (I.e _ _ h3) (notSet_mark cc)) fun σ H Q q => cmp_run (tv_run q)
        · cases h
      · rename_i z; cases z
        split at h
        · rename_i cc
          simp only [Option.bind_eq_some_iff, Option.map_eq_some_iff] at h
          obtain ⟨a', h2, b', h3, d', h4, rfl⟩ := h
          rename_i o1 o2 _ _ _
          have g1 := opr_cmpI (X := X) (cCop o1)
          have g2 := opr_cmpI (X := X) (cCop o2)
          rw [cCop_py] at g1 g2
          exact PT.imp (pt_chain g1 g2 (I.e _ _ h2) (I.e _ _ h3) (I.e _ _ h4) (notSet_marks cc.2)) fun σ H Q q => chain_run (tv_run q)
        · cases h
      · split at h
        · rename_i cc
          rename_i z _ _ _ _
          cases z
          rw [Option.map_eq_some_iff] at h
          obtain ⟨e', h1, rfl⟩ := h
          exact PT.imp (pt_truth (I.e _ _ h1) (byVal_ok cc)) fun σ H Q q => ttr_run q
        · cases h
    · unfold cW at h
      split at h
      · rename_i z; cases z
      · rename_i z; cases z
        exact pw_single (I.t _ _ h)
      · rename_i z; cases z
        simp only [Option.bind_eq_some_iff, Option.map_eq_some_iff] at h
        obtain ⟨a', h2, b', h3, rfl⟩ := h
        exact PW.imp (pw_and (I.t _ _ h2) (I.w _ _ _ _ h3)) fun σ H Q q => tand_run q
      · rename_i z; cases z
        simp only [Option.bind_eq_some_iff, Option.map_eq_some_iff] at h
        obtain ⟨a', h2, b', h3, rfl⟩ := h
        exact PW.imp (pw_or (I.t _ _ h2) (I.w _ _ _ _ h3)) fun σ H Q q => tor_run q
      · cases h
end
end Ir

set_option Elab.async false
set_option linter.all false
set_option maxRecDepth 100000
set_option autoImplicit false
/-! Ir14: the compiler: statements. -/
namespace Ir
open PySem L2 PySem.Spec PyProof.Rows
def kindL (c : CC) (x : Str) : Bool := c.sc.names.lookup x == some .local
def isStar : Expr → Bool
  | .Starred .. => true
  | _ => false
def swN (kf : Str → Bool) (line : Nat) (ts : List Expr) : List Str := ts.filterMap fun
    | .Name id pos => if kf id && pos.line == line then some id else none
    | _ => none
def lnOf (ts : List Expr) : Nat := (ts.head?.map (·.pos.line)).getD 0
/-- how a, b = x, y is stored: none: it isn't told; some none: as any tuple; some names: name by name -/
def swR (c : CC) (ts vs : List Expr) : Option (Option (List Str)) :=
  if (!(ts.length == 2 || ts.length == 3) || vs.length != ts.length) = true then some none
  else if (vs.any isStar) = true then some none
  else if ((swN (kindL c) (lnOf ts) ts).length != ts.length || (swN (kindL c) (lnOf ts) ts).eraseDups.length != (swN (kindL c) (lnOf ts) ts).length) = true then some none
  else if vs.all (foldedForSure 8) = true then some none
  else if vs.all (constantsAlone 8) = true then none
  else some (some (swN (kindL c) (lnOf ts) ts))
def hint (c : CC) (line : Nat) : List Nat := (c.hints.lookup line).getD []
mutual
def cS : Nat → CC → Stmt → Option St
  | 0, _, _ => none
  | n + 1, c, .Assign [.Name x px] v pos => if c.sc.names.lookup x = some .local ∨ c.sc.names.lookup x = some .cell then (match v with
      | .ListComp elt [⟨tg, iter, ifs, 0⟩] scope vp =>
          if kindL c x = true ∧ (px.line == vp.line) = true ∧ (scope.names.any fun (n, k) => n == x && (k == .local || k == .cell)) = false then (c.slot x).bind fun i => (cE n c (.ListComp elt [⟨tg, iter, ifs, 0⟩] scope vp)).map fun e => .asg (.n i) e
          else if kindL c x = false then (c.slot x).bind fun i => (cE n c (.ListComp elt [⟨tg, iter, ifs, 0⟩] scope vp)).map fun e => .asg (.n i) e else none
      | v => if notComp v = true then (c.slot x).bind fun i => (cE n c v).map fun e => .asg (.n i) e else none) else none
  | n + 1, c, .Assign [.Tuple ts kk tp] (.Tuple vs k2 vp) pos => (match swR c ts vs with
      | some none => (cTg n c (.Tuple ts kk tp)).bind fun t => (cE n c (.Tuple vs k2 vp)).map fun e => .asg t e
      | some (some _) => (match ts, vs with
          | [.Name x px, .Name y py], [a, b] => if kindL c x = true ∧ kindL c y = true ∧ notStar a = true ∧ notStar b = true then (c.slot x).bind fun i => (c.slot y).bind fun j => if i ≠ j then (cE n c a).bind fun a' => (cE n c b).map fun b' => .par i j a' b' else none else none
          | _, _ => none)
      | none => none)
  | n + 1, c, .Assign [.Tuple ts kk tp] v pos => if notComp v = true then (cTg n c (.Tuple ts kk tp)).bind fun t => (cE n c v).map fun e => .asg t e else none
  | n + 1, c, .Assign [.Subscript o i sp] v pos => if notComp v = true ∧ notSlice i = true then (cE n c v).bind fun v' => (cE n c o).bind fun o' => (cE n c i).map fun i' => .setix o' i' v' else none
  | n + 1, c, .AugAssign (.Name x px) op v pos => if c.sc.names.lookup x = some .local ∨ c.sc.names.lookup x = some .cell then (cBop op).bind fun o => (c.slot x).bind fun i => (cE n c v).map fun v' => .aug i o v' else none
  | n + 1, c, .Expr (.Constant (.str s) kk p) pos => some .pass
  | n + 1, c, .Expr e pos => if notComp e = true then (cE n c e).map .expr else none
  | n + 1, c, .If t a b pos => (cT n c t).bind fun t' => (cSs n c a).bind fun a' => (cSs n c b).map fun b' => .ite t' a' b'
  | n + 1, c, .For tg it b [] pos => if notSet it = true then (cTg n c tg).bind fun tg' => (cI n c it).bind fun it' => (cSs n c b).map fun b' => .for_ tg' it' b' (hint c pos.line) else none
  | n + 1, c, .While t b [] pos => (cT n c t).bind fun t' => (cSs n c b).map fun b' => .while_ c.fuel t' b' (hint c pos.line)
  | n + 1, c, .Return (some e) pos => (cE n c e).map .ret
  | n + 1, c, .Return none pos => some (.ret (.lit .non))
  | n + 1, c, .Pass pos => some .pass
  | n + 1, c, .Break pos => some .brk
  | n + 1, c, .Continue pos => some .ct
  | n + 1, c, .Raise _ _ _ => some .never
  | _ + 1, _, _ => none
def cSs : Nat → CC → List Stmt → Option Ss
  | 0, _, _ => none
  | n + 1, c, [] => some .nil
  | n + 1, c, s :: ss => (cS n c s).bind fun s' => (cSs n c ss).map fun ss' => .cons s' ss'
end
/-! ### the syntax -/
theorem notComp_sw {v : Expr} {t : Option Expr} {l : Nat} {env : PySem.Env} (h : notComp v = true) : swapsWith v t l env = pure false := by
  cases v <;> first | rfl | cases h
theorem soleSw {t v : Expr} {l : Nat} {env : PySem.Env} (h : notComp v = true) : swapsWithSole [t] v l env = pure false := notComp_sw h
theorem tupSw {ts : List Expr} {kk : Nat} {tp : Pos} {v : Expr} {env : PySem.Env} (h : ∀ vs k2 vp, v ≠ .Tuple vs k2 vp) : swappedStores [.Tuple ts kk tp] v env = pure none := by
  cases v <;> first | rfl | exact absurd rfl (h _ _ _)
theorem sw_unfold {ts vs : List Expr} {kk k2 : Nat} {tp vp : Pos} {env : PySem.Env} : swappedStores [.Tuple ts kk tp] (.Tuple vs k2 vp) env =
  (if (!(ts.length == 2 || ts.length == 3) || vs.length != ts.length || env.blockKind != .function) = true then pure none
   else if (vs.any isStar) = true then pure none
   else if ((swN (fun x => env.kindOf x == some .local) (lnOf ts) ts).length != ts.length || (swN (fun x => env.kindOf x == some .local) (lnOf ts) ts).eraseDups.length != (swN (fun x => env.kindOf x == some .local) (lnOf ts) ts).length) = true then pure none
   else if (vs.all (foldedForSure 8)) = true then pure none
   else if (vs.all (constantsAlone 8)) = true then (do unsupported "assign.tuple-of-constant-expressions:order-of-the-stores"; pure (some (swN (fun x => env.kindOf x == some .local) (lnOf ts) ts)))
   else pure (some (swN (fun x => env.kindOf x == some .local) (lnOf ts) ts))) := by
  rfl
structure DOk (X : Cx) (c : CC) (C : Callee) (k : Nat) : Prop where
  x : XOk X c C k
  sc : X.env.scope = c.sc
  kind : c.sc.kind = .function
section
variable {X : Cx} {c : CC} {C : Callee} {k : Nat}
theorem DOk.bk (o : DOk X c C k) : X.env.blockKind = .function := by
  unfold Env.blockKind
  rw [o.sc, o.kind]
  rfl
theorem DOk.kl (o : DOk X c C k) (x : Str) : (X.env.kindOf x == some .local) = kindL c x := by
  unfold Env.kindOf kindL
  rw [o.sc]
theorem swR_ok (o : DOk X c C k) {ts vs : List Expr} {r : Option (List Str)} {kk k2 : Nat} {tp vp : Pos} (h : swR c ts vs = some r) : swappedStores [.Tuple ts kk tp] (.Tuple vs k2 vp) X.env = pure r := by
  have ek : (fun x => X.env.kindOf x == some NameKind.local) = kindL c := funext o.kl
  have b0 : (X.env.blockKind != .function) = false := by rw [o.bk]; rfl
  rw [sw_unfold, ek, b0, Bool.or_false]
  unfold swR at h
  split at h
  · rename_i c1
    cases h
    rw [if_pos c1]
  · rename_i c1
    rw [if_neg c1]
    split at h
    · rename_i c2
      cases h
      rw [if_pos c2]
    · rename_i c2
      rw [if_neg c2]
      split at h
      · rename_i c3
        cases h
        rw [if_pos c3]
      · rename_i c3
        rw [if_neg c3]
        split at h
        · rename_i c4
          cases h
          rw [if_pos c4]
        · rename_i c4
          rw [if_neg c4]
          split at h
          · cases h
          · rename_i c5
            cases h
            rw [if_neg c5]
/-- a comprehension, in parts -/
theorem comp_parts {n : Nat} (o : XOk X c C k) {elt tg iter : Expr} {ifs : List Expr} {scope : Scope} {vp : Pos} {ie : E} (h : cE n c (.ListComp elt [⟨tg, iter, ifs, 0⟩] scope vp) = some ie) :
    ∃ (own : List (Str × Nat)) (it : It) (t : Tg) (cd : Ot) (e' : E), ie = .comp (own.map (·.2)) t it cd e' ∧ t.sub (own.map (·.2)) = true ∧ PI X tg iter (tI X.K (evI C it)) ∧ BlkOk X.N X.env.scope scope own ∧
      (∀ (s : Shared) (H : Hp) (Cc : Addr) (cl : List (Str × Addr)) (fp : List Addr), PG (X.blk s H scope (compEnvC scope cl Cc X.env) fp) tg (tgG X.K t)) ∧
      (∀ (s : Shared) (H : Hp) (Cc : Addr) (cl : List (Str × Addr)) (fp : List Addr), PTs (X.blk s H scope (compEnvC scope cl Cc X.env) fp) ifs (tOt X.K C cd)) ∧
      (∀ (s : Shared) (H : Hp) (Cc : Addr) (cl : List (Str × Addr)) (fp : List Addr), PE (X.blk s H scope (compEnvC scope cl Cc X.env) fp) elt (tE X.K (evE C e'))) ∧ (∀ x, foldedSetIterable iter X.env x = pure x) := by
  cases n with
  | zero => simp [cE] at h
  | succ n =>
    have I := sE_all (C := C) (k := k) n c X o
    simp only [cE] at h
    split at h
    · rename_i cc
      rw [Option.bind_eq_some_iff] at h
      obtain ⟨it, h1, h⟩ := h
      rw [Option.bind_eq_some_iff] at h
      obtain ⟨t, h2, h⟩ := h
      split at h
      · rename_i hsub
        simp only [Option.bind_eq_some_iff, Option.map_eq_some_iff] at h
        obtain ⟨cd, h3, e', h4, rfl⟩ := h
        exact ⟨ownOf c scope, it, t, cd, e', rfl, hsub, I.i _ _ _ cc.2 h1, blk_of o cc.1, fun s H Cc cl fp => (tg_ok (blk_ok o s H _ cl Cc fp) n).1 _ _ h2,
          fun s H Cc cl fp => (sE_all (C := C) (k := k) n _ _ (blk_ok o s H _ cl Cc fp)).ot _ _ h3, fun s H Cc cl fp => (sE_all (C := C) (k := k) n _ _ (blk_ok o s H _ cl Cc fp)).e _ _ h4, notSet_fold cc.2⟩
      · cases h
    · cases h
theorem locOf (o : XOk X c C k) {x : Str} (h : c.sc.names.lookup x = some .local ∨ c.sc.names.lookup x = some .cell) : Loc X.env.scope x ∧ (X.fn x = true ∨ X.env.scope.names.lookup x = some .local) :=
  ⟨h.elim (fun l => .inl (o.loc x l)) (fun l => .inr (o.cel x l).1), h.elim (fun l => .inr (o.loc x l)) (fun l => .inl (o.cel x l).2)⟩
theorem kindL_ok {x : Str} (h : kindL c x = true) : c.sc.names.lookup x = some .local := beq_iff_eq.1 h
theorem asg_n {D : Ends} {K : PySem.W.Frag} {σ : L2.St} {H : Hp} {i : Nat} {e : E} (q : tS K (evS C (.asg (.n i) e)) D σ H) : tAsg (tE K (evE C e)) (gName i) D σ H := asg_run q
theorem ps_setN (o : DOk X c C k) {x : Str} {px pos : Pos} {v : Expr} {i : Nat} {e : E} (hx : c.sc.names.lookup x = some .local ∨ c.sc.names.lookup x = some .cell) (hi : c.slot x = some i) (hsw : swapsWith v (some (.Name x px)) pos.line X.env = pure false) (he : PE X v (tE X.K (evE C e))) :
    PS X (.Assign [.Name x px] v pos) (tS X.K (evS C (.asg (.n i) e))) := by
  obtain ⟨l1, l2⟩ := locOf o.x hx
  exact PS.imp (ps_set (i := i) (by rw [o.x.hN]; exact o.x.nd) (by rw [o.x.hN]; exact slot_ok hi) l1 he hsw l2) fun D σ H q => asg_n q
/-- a target's tuple, stored as a tuple -/
theorem ps_tup (o : DOk X c C k) {n : Nat} {ts : List Expr} {kk : Nat} {tp pos : Pos} {v : Expr} {t : Tg} {e : E} (ht : cTg n c (.Tuple ts kk tp) = some t) (hc : notComp v = true) (hw : swappedStores [.Tuple ts kk tp] v X.env = pure none) (he : PE X v (tE X.K (evE C e))) :
    PS X (.Assign [.Tuple ts kk tp] v pos) (tS X.K (evS C (.asg t e))) :=
  PS.imp (ps_asg he ((tg_ok o.x n).1 _ _ ht) (soleSw hc) hw rfl) fun D σ H q => asg_run q
end
end Ir

set_option Elab.async false
set_option linter.all false
set_option maxRecDepth 100000
set_option autoImplicit false
/-! Ir15: the compiler keeps the meaning: statements. -/
namespace Ir
open PySem L2 PySem.Spec PyProof.Rows
theorem sub_asg {o i : Expr} {pos : Pos} {env : PySem.Env} (h : notSlice i = true) : ∀ v, assign (.Subscript o i pos) env v = (do
      let ov ← holding [v] (eval o env)
      let iv ← holding [v, ov] (eval i env)
      standAt pos
      holding [v, ov, iv] (setItem ov iv v)
      release [v, ov, iv] []) := by
  intro v
  cases i <;> first | rfl | cases h
theorem par_names {c : CC} {x y : Str} {px py : Pos} {a b : Expr} {nm : List Str} (h : swR c [.Name x px, .Name y py] [a, b] = some (some nm)) : nm = [x, y] := by
  unfold swR at h
  split at h
  · cases h
  · split at h
    · cases h
    · split at h
      · cases h
      · rename_i c3
        split at h
        · cases h
        · split at h
          · cases h
          · cases h
            have key : ∀ l : Nat, swN (kindL c) l [.Name x px, .Name y py] = (if (kindL c x && px.line == l) = true then [x] else []) ++ (if (kindL c y && py.line == l) = true then [y] else []) := by
              intro l
              unfold swN
              simp only [List.filterMap_cons, List.filterMap_nil]
              by_cases d1 : (kindL c x && px.line == l) = true <;> by_cases d2 : (kindL c y && py.line == l) = true <;> simp only [d1, d2, if_true, if_false] <;> simp
            rw [key] at c3 ⊢
            by_cases d1 : (kindL c x && px.line == lnOf [.Name x px, .Name y py]) = true <;> by_cases d2 : (kindL c y && py.line == lnOf [.Name x px, .Name y py]) = true
            · rw [if_pos d1, if_pos d2]; rfl
            · rw [if_pos d1, if_neg d2] at c3; exact absurd rfl c3
            · rw [if_neg d1, if_pos d2] at c3; exact absurd rfl c3
            · rw [if_neg d1, if_neg d2] at c3; exact absurd rfl c3
section
variable {X : Cx} {c : CC} {C : Callee} {k : Nat}
theorem DOk.never (o : DOk X c C k) : PassesOwn (model X.prog X.w) X.A X.env X.xe := by
  rw [o.x.xe]
  exact PassesOwn.never
set_option maxHeartbeats 2000000 in
theorem sS (n : Nat) : ∀ (c : CC) (X : Cx), DOk X c C k → (∀ s is, cS n c s = some is → PS X s (tS X.K (evS C is))) ∧ (∀ ss iss, cSs n c ss = some iss → PSs X ss (tS X.K (evSs C iss)) ∧ (ss = [] ↔ iss = .nil)) := by
  induction n with
  | zero => exact fun c X o => ⟨fun s is h => by simp [cS] at h, fun s is h => by simp [cSs] at h⟩
  | succ n ih =>
    intro c X o
    have I := sE_all (C := C) (k := k) n c X o.x
    have J := ih c X o
    constructor
    · intro s is h
      unfold cS at h
      split at h
      · rename_i z; cases z
      · rename_i z; cases z
        split at h
        · rename_i hx
          split at h
          · split at h
            · rename_i cc
              simp only [Option.bind_eq_some_iff, Option.map_eq_some_iff] at h
              obtain ⟨i, h1, e, h2, rfl⟩ := h
              obtain ⟨own, it, t, cd, e', rfl, q1, q2, q3, q4, q5, q6, q7⟩ := comp_parts o.x h2
              have hl := o.x.loc _ (kindL_ok cc.1)
              have hk : X.env.scope.kind = .function := by rw [o.sc]; exact o.kind
              exact PS.imp (ps_setLc (i := i) (own := own) o.x.calm (by rw [o.x.hN]; exact o.x.nd) (by rw [o.x.hN]; exact slot_ok h1) hl (sw_true hk hl cc.2.1 cc.2.2) q2 q3 q4 q5 q6 q7) fun D σ H q => comp_run q1 (asg_n q)
            · split at h
              · rename_i cc
                simp only [Option.bind_eq_some_iff, Option.map_eq_some_iff] at h
                obtain ⟨i, h1, e, h2, rfl⟩ := h
                refine ps_setN o hx h1 ?_ (I.e _ _ h2)
                have hk := o.kl
                unfold swapsWith
                dsimp only
                rw [hk, cc, Bool.and_false, Bool.false_and, Bool.false_and]
              · cases h
          · split at h
            · rename_i hc
              simp only [Option.bind_eq_some_iff, Option.map_eq_some_iff] at h
              obtain ⟨i, h1, e, h2, rfl⟩ := h
              exact ps_setN o hx h1 (notComp_sw hc) (I.e _ _ h2)
            · cases h
        · cases h
      · rename_i z; cases z
        split at h
        · rename_i hsw
          simp only [Option.bind_eq_some_iff, Option.map_eq_some_iff] at h
          obtain ⟨t, h1, e, h2, rfl⟩ := h
          exact ps_tup o h1 rfl (swR_ok o hsw) (I.e _ _ h2)
        · rename_i nm hsw
          split at h
          · split at h
            · rename_i cc
              obtain ⟨c1, c2, c3, c4⟩ := cc
              simp only [Option.bind_eq_some_iff] at h
              obtain ⟨i, h1, j, h2, h⟩ := h
              split at h
              · rename_i hij
                simp only [Option.bind_eq_some_iff, Option.map_eq_some_iff] at h
                obtain ⟨a', h3, b', h4, rfl⟩ := h
                have l1 := o.x.loc _ (kindL_ok c1)
                have l2 := o.x.loc _ (kindL_ok c2)
                exact PS.imp (ps_par o.x.calm (by rw [o.x.hN]; exact o.x.nd) (by rw [o.x.hN]; exact slot_ok h1) (by rw [o.x.hN]; exact slot_ok h2) hij l1 l2 (pa_cons (I.e _ _ h3) (pa_cons (I.e _ _ h4) pa_nil (star_cons c4)) (star_cons c3)) (by have hsw' := hsw; rw [par_names hsw] at hsw'; exact swR_ok o hsw') rfl) fun D σ H q => par_run q
              · cases h
            · cases h
          · cases h
        · cases h
      · rename_i hnt z; cases z
        split at h
        · rename_i hc
          simp only [Option.bind_eq_some_iff, Option.map_eq_some_iff] at h
          obtain ⟨t, h1, e, h2, rfl⟩ := h
          exact ps_tup o h1 hc (tupSw (by intro vs k2 vp e; exact hnt _ _ _ e)) (I.e _ _ h2)
        · cases h
      · rename_i z; cases z
        split at h
        · rename_i hc
          simp only [Option.bind_eq_some_iff, Option.map_eq_some_iff] at h
          obtain ⟨v', h1, o', h2, i', h3, rfl⟩ := h
          exact PS.imp (ps_asg (I.e _ _ h1) (pg_sub (I.e _ _ h2) (I.e _ _ h3) set_list (sub_asg hc.2)) (soleSw hc.1) rfl rfl) fun D σ H q => setix_run q
        · cases h
      · rename_i z; cases z
        split at h
        · rename_i hx
          simp only [Option.bind_eq_some_iff, Option.map_eq_some_iff] at h
          obtain ⟨op, h1, i, h2, v', h3, rfl⟩ := h
          have e1 := cBop_py h1
          subst e1
          obtain ⟨l1, l2⟩ := locOf o.x hx
          exact PS.imp (ps_aug (by rw [o.x.hN]; exact o.x.nd) (by rw [o.x.hN]; exact slot_ok h2) l1 (I.e _ _ h3) (opr_aug op) l2) fun D σ H q => aug_run q
        · cases h
      · rename_i z; cases z
        cases h
        exact PS.imp ps_doc fun D σ H q => pass_run q
      · rename_i z; cases z
        split at h
        · rename_i hc
          rw [Option.map_eq_some_iff] at h
          obtain ⟨e', h1, rfl⟩ := h
          exact PS.imp (ps_expr (I.e _ _ h1) (notComp_sw hc)) fun D σ H q => expr_run q
        · cases h
      · rename_i z; cases z
        simp only [Option.bind_eq_some_iff, Option.map_eq_some_iff] at h
        obtain ⟨t', h1, a', h2, b', h3, rfl⟩ := h
        exact PS.imp (ps_if (I.t _ _ h1) (J.2 _ _ h2).1 (J.2 _ _ h3).1) fun D σ H q => ifs_run q
      · rename_i z; cases z
        split at h
        · rename_i hs
          simp only [Option.bind_eq_some_iff, Option.map_eq_some_iff] at h
          obtain ⟨t', h1, it', h2, b', h3, rfl⟩ := h
          exact PS.imp (ps_for o.never o.x.calm (I.i _ _ _ hs h2) ((tg_ok o.x n).1 _ _ h1) (J.2 _ _ h3).1 (notSet_fold hs)) fun D σ H q => for_run q
        · cases h
      · rename_i z; cases z
        simp only [Option.bind_eq_some_iff, Option.map_eq_some_iff] at h
        obtain ⟨t', h1, b', h3, rfl⟩ := h
        exact PS.imp (ps_while o.never (I.t _ _ h1) (J.2 _ _ h3).1) fun D σ H q => while_run q
      · rename_i z; cases z
        rw [Option.map_eq_some_iff] at h
        obtain ⟨e', h1, rfl⟩ := h
        exact PS.imp (ps_ret (I.e _ _ h1)) fun D σ H q => ret_run q
      · rename_i z; cases z
        cases h
        exact PS.imp ps_retN fun D σ H q => lit_run (fun H => .non) (ret_run q)
      · rename_i z; cases z
        cases h
        exact PS.imp ps_pass fun D σ H q => pass_run q
      · rename_i z; cases z
        cases h
        exact PS.imp ps_break fun D σ H q => brk_run q
      · rename_i z; cases z
        cases h
        exact PS.imp ps_continue fun D σ H q => ct_run q
      · rename_i z; cases z
        cases h
        exact PS.imp ps_never fun D σ H q => never_run q
      · cases h
    · intro ss iss h
      cases ss with
      | nil =>
        simp only [cSs] at h
        cases h
        exact ⟨PSs.imp pss_nil fun D σ H q => ssnil_run q, by simp⟩
      | cons s ss =>
        simp only [cSs, Option.bind_eq_some_iff, Option.map_eq_some_iff] at h
        obtain ⟨s', h1, ss', h2, rfl⟩ := h
        refine ⟨?_, by simp⟩
        have g1 := J.1 _ _ h1
        obtain ⟨g2, g3⟩ := J.2 _ _ h2
        cases ss' with
        | nil =>
          have := g3.2 rfl
          subst this
          exact PSs.imp (pss_one g1) fun D σ H q => ssone_run q
        | cons s2 ss2 => exact PSs.imp (pss_cons g1 g2) fun D σ H q => sscons_run q
end
end Ir

set_option Elab.async false
set_option linter.all false
set_option maxRecDepth 100000
set_option autoImplicit false
/-! Ir16: a whole program: each def keeps to what its text computes; a law's end. -/
namespace Ir
open PySem L2 PySem.Spec PyProof.Rows
/-- a def of the program: its name, parameters, slots, text, the text's small form -/
structure PFn where
  name : Str
  params : Arguments
  body : List Stmt
  scope : Scope
  ps : List Str
  N : List Str
  hints : List (Nat × List Nat)
  ir : Ss
structure PD where
  fns : List PFn
  shapes : List Shape
  cons : List (Str × D)
  fuel : Nat
def PD.fis (p : PD) : List FnI := p.fns.map fun f => ⟨f.name, f.ps⟩
def PD.fds (p : PD) : List Fd := p.fns.map fun f => ⟨f.ps.length, f.N.length, f.ir⟩
def PD.cc (p : PD) (f : PFn) : CC := ⟨f.N, f.scope, p.fis, p.shapes, p.cons, f.hints, p.fuel⟩
/-- what the text and its small form must be to one another -/
structure FnWell (p : PD) (f : PFn) : Prop where
  sc : FnScope f.N f.ps f.scope
  ir : cSs 400 (p.cc f) f.body = some f.ir
/-- what the top has written -/
structure Top (K : PySem.W.Frag) (mg : Str → Option Value) (p : PD) (fa : Nat → Addr) (fd : Nat → FuncData) : Prop where
  dig : Dig K
  con : ∀ x d, p.cons.lookup x = some d → ∃ u, mg x = some u ∧ RelV (dV d) u
  fr : ∀ x ∈ freeNames, mg x = none
  fn : ∀ (i : Nat) (f : PFn), p.fns[i]? = some f → mg f.name = some (.ref (fa i)) ∧ ∃ dvs kws, FunD K f.name f.name f.params f.body f.scope dvs kws (fa i) (fd i)
  sh : ∀ sh ∈ p.shapes, ∃ f, p.fns[sh.f]? = some f ∧ ∃ g, KBn K (fd sh.f) f.ps sh.n sh.ks g (fun vs zs => arrV sh.arr (vs ++ zs))
section
variable {P : Program} {w : World} {K : PySem.W.Frag} {mg : Str → Option Value} {base : Heap} {p : PD} {fa : Nat → Addr} {fd : Nat → FuncData}
theorem start_re {H : Hp} {φ : Nat → Addr} {M : Nat} {N : List Str} {vs : List V} {us : List U} (r : RUs K H φ M vs us) (l : us.length ≤ N.length) : RE K H φ M (start N vs) (startE N.length us) := by
  have e := r.len
  refine ⟨?_, fun i u h => ?_⟩
  · simp [L2.start, startE, e]
  · unfold startE at h
    unfold L2.start
    rcases Nat.lt_or_ge i us.length with li | li
    · rw [List.getElem?_append_left (by simpa using li), List.getElem?_map] at h
      cases h2 : us[i]? with
      | none => rw [h2] at h; cases h
      | some u2 =>
        rw [h2] at h
        cases h
        obtain ⟨v, h3, h4⟩ := r.get h2
        refine ⟨v, ?_, h4⟩
        rw [List.getElem?_append_left (by simpa [e] using li), List.getElem?_map, h3]
        rfl
    · rw [List.getElem?_append_right (by simpa using li)] at h
      have := List.mem_of_getElem? h
      rw [List.mem_replicate] at this
      cases this.2
theorem all_ok (T : Top K mg p fa fd) (W : ∀ (i : Nat) (f : PFn), p.fns[i]? = some f → FnWell p f) : ∀ (k : Nat) (i : Nat) (f : PFn), p.fns[i]? = some f → FnOk P w K mg base CX0 k (fa i) (fd i) f.ps (spC K (run p.fds k) i f.ps.length) := by
  intro k
  induction k with
  | zero =>
    intro i f hi
    refine ⟨fun vs H Q E h => ?_, fun A outer s H args us vs Q E _ _ _ _ h => ?_⟩
    · obtain ⟨φ, S, us, r, S', _, _, _, h, _⟩ := h
      cases h
    · obtain ⟨φ, S, us, r, S', _, _, _, h, _⟩ := h
      cases h
  | succ k ih =>
    intro i f hi
    obtain ⟨hm, dvs, kws, F⟩ := T.fn i f hi
    obtain ⟨sc, hir⟩ := W i f hi
    refine F.ok sc (fun vs H Q E h => ?_) (fun cdv A outer s H vs Q E hr h => ⟨tS K (evSs (run p.fds k) f.ir), PSs.nox ?_, ?_⟩)
    · obtain ⟨φ, S, us, r, S', _, r1, h2, _⟩ := h
      rw [r1.len, h2]
    · have o : DOk (cxOf CX0 P w K mg base f.N f.name f.scope (fa i) cdv A outer s H E).nox (p.cc f) (run p.fds k) k :=
        { x := { hN := rfl, nd := sc.nd, calm := rfl, xe := rfl, room := hr, dig := T.dig, loc := fun x h => h, cel := fun x h => ⟨h, rfl⟩, fre := fun x h => .inr h, glo := fun x h => h,
                 shp := fun sh hs => by
                   obtain ⟨f2, h1, g, h2⟩ := T.sh sh hs
                   obtain ⟨hm2, dv2, kw2, F2⟩ := T.fn _ _ h1
                   refine ⟨⟨f2.name, f2.ps⟩, fa sh.f, fd sh.f, g, ?_, hm2, F2.kp, ih _ _ h1, h2⟩
                   show (p.fns.map fun f => (⟨f.name, f.ps⟩ : FnI))[sh.f]? = _
                   rw [List.getElem?_map, h1]
                   rfl
                 con := T.con, fr := T.fr }
          sc := rfl, kind := sc.kind }
      exact ((sS 400 (p.cc f) _ o).2 _ _ hir).1
    · obtain ⟨φ, S, us, r, S', hs, r1, h2, h3, hQ⟩ := h
      have efd : p.fds[i]? = some ⟨f.ps.length, f.N.length, f.ir⟩ := by
        show (p.fns.map fun f => (⟨f.ps.length, f.N.length, f.ir⟩ : Fd))[i]? = _
        rw [List.getElem?_map, hi]
        rfl
      have hl : us.length ≤ f.N.length := by
        have := congrArg List.length sc.pre
        rw [List.length_take] at this
        omega
      simp only [run, efd, h2, if_true] at h3
      rw [Option.bind_eq_some_iff] at h3
      obtain ⟨⟨o, ρ', S2⟩, h4, h5⟩ := h3
      refine ⟨φ, S, _, o, ρ', S2, hs, start_re r1 hl, h4, fun σ' H' φ' st he => ?_⟩
      cases o with
      | nx =>
        obtain ⟨φ2, st2, q2⟩ := gcU_ok st rfl (v := .non) (.d .non) h5
        exact hQ _ _ _ st2 q2
      | rt u =>
        intro v q
        obtain ⟨φ2, st2, q2⟩ := gcU_ok st rfl q h5
        exact hQ _ _ _ st2 q2
      | brk => cases h5
      | ct => cases h5
/-- the law's promise -/
def spLaw (K : PySem.W.Frag) : Sp := fun vs H Q _ => ∃ (a : Addr) (ns : List Int), vs = [.ref a] ∧ RdL K H a (ns.map V.int) ∧ ns.length ≤ 63 ∧ ∀ H', Q (.bl true) H'
theorem rds_ints {H : Hp} : ∀ ns : List Int, RDs K H (ns.map V.int) (ns.map D.int)
  | [] => .nil
  | n :: ns => .cons (.int n) (rds_ints ns)
theorem law_ok {k i : Nat} {f : PFn} (T : Top K mg p fa fd) (W : ∀ (i : Nat) (f : PFn), p.fns[i]? = some f → FnWell p f) (hi : p.fns[i]? = some f) (hp : f.ps.length = 1)
    (hl : ∀ ns : List Int, ns.length ≤ 63 → ∃ S', run p.fds k i [.ref 0] [.rd (ns.map D.int)] = some (.d (.bl true), S')) : FnOk P w K mg base CX0 k (fa i) (fd i) f.ps (spLaw K) := by
  refine (all_ok (P := P) (w := w) (base := base) T W k i f hi).imp fun vs H Q E h => ?_
  obtain ⟨a, ns, rfl, hr, hn, hQ⟩ := h
  obtain ⟨S', h1⟩ := hl ns hn
  refine ⟨fun _ => a, [.rd (ns.map D.int)], [.ref 0], _, S', ⟨fun i ob e => ?_, fun i j x y e1 e2 m1 m2 _ => ?_⟩, .cons (.ref (by simp) rfl) .nil, by rw [hp]; rfl, h1, fun v H' φ' st q => ?_⟩
  · cases i with
    | zero =>
      cases e
      exact ⟨_, hr, rds_ints ns⟩
    | succ i => cases e
  · cases i with
    | zero => cases e1; cases m1
    | succ i => cases e1
  · cases q with
    | d q =>
      cases q
      exact hQ H'
theorem rdl_of {H : Hp} {a : Addr} {vs : List V} (h : SqL K H a vs) (o : Only H) : RdL K H a vs := by
  rcases h with (h | h) | h
  · rcases o a with q | ⟨ob, xs, q⟩
    · rw [q] at h; cases h
    · rw [q] at h; cases h
  · exact .inl h
  · exact .inr h
end
end Ir

set_option Elab.async false
set_option linter.all false
set_option maxRecDepth 100000
set_option maxHeartbeats 2000000
set_option autoImplicit false
/-! Ir17: the head's facts, the ways of a call, the law's end. -/
namespace Ir
open PySem L2 PySem.Spec PyProof.Rows
/-! ### ways of a call -/
inductive Sel where
  | a (n : Nat)
  | c (n : Nat)
def selV (s : List Sel) (xs ds : List V) : List V := s.map fun q => match q with
  | .a n => (xs[n]?).getD .non
  | .c n => (ds[n]?).getD .non
def selU (s : List Sel) (xs ds : List Value) : List Value := s.map fun q => match q with
  | .a n => (xs[n]?).getD .none
  | .c n => (ds[n]?).getD .none
theorem vals_get : ∀ {vs : List V} {us : List Value}, Vals vs us → ∀ n : Nat, RelV ((vs[n]?).getD V.non) ((us[n]?).getD Value.none)
  | [], [], _, n => rfl
  | v :: vs, u :: us, h, n => by
    cases h with
    | cons h1 h2 =>
      cases n with
      | zero => exact h1
      | succ n => exact vals_get h2 n
theorem sel_rel {vs ds : List V} {us its : List Value} (h : Vals vs us) (hd : Vals ds its) : ∀ s : List Sel, Vals (selV s vs ds) (selU s us its)
  | [] => .nil
  | .a n :: s => .cons (vals_get h n) (sel_rel h hd s)
  | .c n :: s => .cons (vals_get hd n) (sel_rel h hd s)
section
variable {K : PySem.W.Frag} {x qual : Str} {params : Arguments} {body : List Stmt} {scope : Scope} {dvs : List V} {f : Addr} {fd : FuncData} {ps : List Str}
/-- no defaults -/
theorem kb0 (F : FunD K x qual params body scope [] [] f fd) (n : Nat) (ks : List Str) (s : List Sel) (arr : List Arg) (hs : ∀ xs, arrV arr xs = selV s xs [])
    (h : ∀ (kV doc pm : Value) (an : Option Addr) (cdv ct : Value) (us ws : List Value), us.length = n → ws.length = ks.length →
      bindArgs (PySem.W.fnOf x qual params body scope .none kV doc pm an cdv ct) ⟨us, ks.zip ws⟩ = pure (ps.zip (selU s (us ++ ws) []))) : ∃ g, KBn K fd ps n ks g (fun vs zs => arrV arr (vs ++ zs)) := by
  obtain ⟨oc, od, dV, kV, doc, pm, an, cdv, ct, osl, rfl, lk, hcd, hD, hK⟩ := F.ex
  rcases hD with ⟨_, rfl⟩ | ⟨e, _⟩
  · refine ⟨fun us ws => selU s (us ++ ws) [], ⟨fun s us ws X l1 l2 => .of_eq (h kV doc pm an cdv ct us ws l1 l2), fun r1 r2 => ?_⟩⟩
    rw [hs]
    exact sel_rel (r1.append r2) .nil s
  · exact absurd rfl e
/-- with defaults -/
theorem kb1 (F : FunD K x qual params body scope dvs [] f fd) (n : Nat) (ks : List Str) (s : List Sel) (arr : List Arg) (hd : dvs ≠ []) (hs : ∀ xs, arrV arr xs = selV s xs dvs)
    (h : ∀ (T : Addr) (kV doc pm : Value) (an : Option Addr) (cdv ct : Value) (us its ws : List Value), us.length = n → its.length = dvs.length → ws.length = ks.length →
      ∃ k, bindArgs (PySem.W.fnOf x qual params body scope (.ref T) kV doc pm an cdv ct) ⟨us, ks.zip ws⟩ = seqItems? (.ref T) >>= k ∧ k (some its.toArray) = pure (ps.zip (selU s (us ++ ws) its))) : ∃ g, KBn K fd ps n ks g (fun vs zs => arrV arr (vs ++ zs)) := by
  obtain ⟨oc, od, dV, kV, doc, pm, an, cdv, ct, osl, rfl, lk, hcd, hD, hK⟩ := F.ex
  rcases hD with ⟨e, _⟩ | ⟨_, T, o, its, m, rfl, lT, oT, rT⟩
  · exact absurd e hd
  · refine ⟨fun us ws => selU s (us ++ ws) its, ⟨fun s us ws X l1 l2 => ?_, fun r1 r2 => ?_⟩⟩
    · obtain ⟨k, e1, e2⟩ := h T kV doc pm an cdv ct us its ws l1 rT.length.symm l2
      refine BindsTo.of_looks fun M => ?_
      rw [e1]
      exact looks_items X lT oT (.of_pure e2)
    · rw [hs]
      exact sel_rel (r1.append r2) rT s
end
/-! ### the Hook -/
def dflOf (T : List (Str × List He.Dv)) (x : Str) : List He.Dv := (T.lookup x).getD []
def dOf (T : List (Str × List He.Dv)) (f : PFn) : He.DefD := ⟨(f.name, none), f.name, f.name, f.params, f.body, f.scope, dflOf T f.name, []⟩
def fnL (p : PD) (T : List (Str × List He.Dv)) : List He.DefD := p.fns.map (dOf T)
def conF : Str × D → He.Fa
  | (x, .int i) => .int x i
  | (x, .str z) => .str x z
  | (x, _) => .keep x
def faL (p : PD) : List He.Fa := p.fns.map (fun f => .glo f.name) ++ (freeNames.map .free ++ p.cons.map conF)
abbrev AlI : Type := Bool × He.AlD
def obsI (fa : List He.Fa) (fn : List He.DefD) (K : PySem.W.Frag) : AlI := (He.eqO (PySem.W.nsIn K cStatics "sys.int_max_str_digits") (some none), He.obsD fa fn K)
def valI (fn : List He.DefD) : AlI := (true, He.valD fn)
def SaysI (fa : List He.Fa) (fn : List He.DefD) (K : PySem.W.Frag) : Prop := obsI fa fn K = valI fn
def obsIG (n : Nat) (fa : List He.Fa) (fn : List He.DefD) (g : Addr → Option Obj) : AlI := obsI fa fn (He.frG g (cStatics :: He.asD g n))
def hookI (n : Nat) (fa : List He.Fa) (fn : List He.DefD) : PySem.W.Hook where
  α := AlI
  obs := fun s => obsIG n fa fn s.heap.get?
  val := fun _ => valI fn
  says := fun _ h => ∃ K : PySem.W.Frag, K.In h ∧ SaysI fa fn K
  of := fun _ _ e => ⟨_, He.frG_in, e⟩
  keeps := fun _ _ _ ⟨K, hK, c⟩ k => ⟨K, PySem.W.Frag.In.keeps hK k, c⟩
theorem obsIG_eq {n : Nat} {fa : List He.Fa} {fn : List He.DefD} {g : Addr → Option Obj} {s : Shared} (h : ∀ a, g a = s.heap.get? a) : obsIG n fa fn g = (hookI n fa fn).obs s := by
  have e : g = s.heap.get? := funext h
  rw [e] <;> rfl
theorem SaysI.dig {fa : List He.Fa} {fn : List He.DefD} {K : PySem.W.Frag} (c : SaysI fa fn K) : Dig K := He.eqO_ok (congrArg (fun z : AlI => z.1) c)
theorem SaysI.d {fa : List He.Fa} {fn : List He.DefD} {K : PySem.W.Frag} (c : SaysI fa fn K) : He.SaysD fa fn K := congrArg (fun z : AlI => z.2) c
theorem SaysI.fa {fa : List He.Fa} {fn : List He.DefD} {K : PySem.W.Frag} (c : SaysI fa fn K) {f : He.Fa} (h : f ∈ fa) : f.ok K = true := by
  have c1 := (He.ba (show ((fa.all fun f => f.ok K) && fn.all fun d => d.ok K) = true from congrArg (fun z : He.AlD => z.1) c.d)).1
  exact List.all_eq_true.mp c1 f h
/-- each way of a call finds its parameters -/
def ShWell (p : PD) (T : List (Str × List He.Dv)) : Prop := ∀ sh ∈ p.shapes, ∃ f, p.fns[sh.f]? = some f ∧ ∀ (K : PySem.W.Frag) (fa : Addr) (fd : FuncData),
  FunD K f.name f.name f.params f.body f.scope ((dflOf T f.name).map (He.Dv.v K)) [] fa fd → ∃ g, KBn K fd f.ps sh.n sh.ks g (fun vs zs => arrV sh.arr (vs ++ zs))
def conOk (p : PD) : Bool := p.cons.all fun q => match q.2 with
  | .int _ => true
  | .str _ => true
  | _ => false
def faI (K : PySem.W.Frag) (p : PD) (i : Nat) : Addr := He.ga K (((p.fns[i]?).map PFn.name).getD "")
theorem faI_eq {K : PySem.W.Frag} {p : PD} {i : Nat} {f : PFn} (h : p.fns[i]? = some f) : faI K p i = He.ga K f.name := by
  unfold faI
  rw [h]
  rfl
theorem top_of {p : PD} {T : List (Str × List He.Dv)} {K : PySem.W.Frag} {h : Heap} {mg : Str → Option Value} (X : K.In h) (G : h.Ns mainGlobals mg) (c : SaysI (faL p) (fnL p T) K) (hc : conOk p = true) (hs : ShWell p T) :
    ∃ fd : Nat → FuncData, Top K mg p (faI K p) fd ∧ ∀ (i : Nat) (f : PFn), p.fns[i]? = some f → FunD K f.name f.name f.params f.body f.scope ((dflOf T f.name).map (He.Dv.v K)) [] (faI K p i) (fd i) := by
  have key : ∀ i : Nat, ∃ fd : FuncData, ∀ f, p.fns[i]? = some f → FunD K f.name f.name f.params f.body f.scope ((dflOf T f.name).map (He.Dv.v K)) [] (faI K p i) fd := by
    intro i
    cases e : p.fns[i]? with
    | none => exact ⟨default, fun f h => by cases h⟩
    | some f =>
      have e2 : (fnL p T)[i]? = some (dOf T f) := by
        show (p.fns.map (dOf T))[i]? = _
        rw [List.getElem?_map, e]
        rfl
      obtain ⟨fd, F⟩ := c.d.def_ i e2
      refine ⟨fd, fun g hg => ?_⟩
      cases hg
      rw [faI_eq e]
      exact F
  refine ⟨fun i => Classical.choose (key i), ⟨c.dig, fun x d hx => ?_, fun x hx => ?_, fun i f hi => ⟨?_, _, _, Classical.choose_spec (key i) f hi⟩, fun sh hsh => ?_⟩, fun i f hi => Classical.choose_spec (key i) f hi⟩
  · have hm : (x, d) ∈ p.cons := by
      obtain ⟨l1, l2, e, _⟩ := List.lookup_eq_some_iff.mp hx
      rw [e]
      simp
    have hf : conF (x, d) ∈ faL p := List.mem_append_right _ (List.mem_append_right _ (List.mem_map_of_mem hm))
    have ho := List.all_eq_true.mp hc _ hm
    cases d with
    | int i =>
      obtain ⟨t, e⟩ := He.int_ok X G (c.fa hf)
      exact ⟨_, e, t, rfl⟩
    | str z =>
      obtain ⟨t, e⟩ := He.str_ok X G (c.fa hf)
      exact ⟨_, e, t, rfl⟩
    | _ => cases ho
  · exact He.free_ok X G (c.fa (List.mem_append_right _ (List.mem_append_left _ (List.mem_map_of_mem hx))))
  · rw [faI_eq hi]
    exact He.glo_ok X G (c.fa (List.mem_append_left _ (List.mem_map_of_mem (f := fun f : PFn => He.Fa.glo f.name) (List.mem_of_getElem? hi))))
  · obtain ⟨f, h1, h2⟩ := hs sh hsh
    exact ⟨f, h1, h2 K _ _ (Classical.choose_spec (key sh.f) f h1)⟩
end Ir

set_option Elab.async false
set_option linter.all false
set_option maxRecDepth 100000
set_option autoImplicit false
/-! Pl1: plain reasoning about the small language. -/
namespace Ir
open PySem L2
/-- it ends well, and so -/
structure Tie {α : Type} (Q : α → Prop) : Type where
/-- (the third argument keeps simp out of what comes after) -/
def Ok {α : Type} (m : Option α) (Q : α → Prop) (_t : Tie Q := Tie.mk) : Prop := ∃ x, m = some x ∧ Q x
section
variable {α β : Type} {m m' : Option α} {Q Q' : α → Prop}
theorem Ok.cg (h : m = m') : Ok m Q = Ok m' Q := by rw [h]
theorem Ok_some {x : α} : Ok (some x) Q = Q x := propext ⟨fun ⟨y, e, h⟩ => by cases e; exact h, fun h => ⟨_, rfl, h⟩⟩
theorem Ok_none : Ok (none : Option α) Q = False := propext (Iff.intro (fun h => by obtain ⟨_, e, _⟩ := h; cases e) False.elim)
theorem Ok_bind {f : α → Option β} {Q : β → Prop} : Ok (m.bind f) Q = Ok m fun x => Ok (f x) Q := by
  cases m with
  | none => rw [Option.bind_none, Ok_none, Ok_none]
  | some x => rw [Option.bind_some, Ok_some]
theorem Ok_map {f : α → β} {Q : β → Prop} : Ok (m.map f) Q = Ok m fun x => Q (f x) := by
  cases m with
  | none => rw [Option.map_none, Ok_none, Ok_none]
  | some x => rw [Option.map_some, Ok_some, Ok_some]
theorem Ok.mono (h : Ok m Q) (w : ∀ x, Q x → Q' x) : Ok m Q' := by
  obtain ⟨x, e, q⟩ := h
  exact ⟨x, e, w x q⟩
theorem Ok.eq {y : α} (h : Ok m (fun x => x = y)) : m = some y := by
  obtain ⟨x, e, rfl⟩ := h
  exact e
theorem Ok.of {y : α} (e : m = some y) (h : Q y) : Ok m Q := ⟨y, e, h⟩
end
/-- what a def's body leaves -/
def retP (n : Nat) (p : Out × Env × Store) : Option (U × Store) := match p.1 with
  | .rt u => gcU n u p.2.2
  | .nx => gcU n (.d .non) p.2.2
  | _ => none
theorem run_ok {P : List Fd} {k f : Nat} {us : List U} {S : Store} {Q : U × Store → Prop} (fd : Fd) (h : P[f]? = some fd) (hl : us.length = fd.np)
    (hb : Ok (evSs (run P k) fd.body (startE fd.ns us) S) fun p => Ok (retP S.length p) Q) : Ok (run P (k + 1) f us S) Q := by
  simp only [run, h, if_pos hl]
  rw [Ok_bind]
  exact hb
/-! ### comprehensions -/
/-- the state of one: S ahead of the list that is made -/
theorem compL_ok {turn : D → Store → Option (Option D × Store)} {ok : Store → Bool} {n : Nat} (I : Nat → List D → Store → Prop) : ∀ (xs : List D) (i : Nat) (acc : List D) (S : Store), S.length = n → acc.length + xs.length ≤ lim → I i acc S →
    (∀ (j : Nat) (x : D) (acc : List D) (S : Store), xs[j]? = some x → S.length = n → I (i + j) acc S → Ok (turn x (S ++ [.lst acc])) fun p => ∃ S', p.2 = S' ++ [.lst acc] ∧ S'.length = n ∧
      (∀ acc', ok (S' ++ [.lst acc']) = true) ∧ match p.1 with
        | none => I (i + j + 1) acc S'
        | some y => I (i + j + 1) (acc ++ [y]) S') →
    Ok (compL turn ok n xs (S ++ [.lst acc])) fun S2 => ∃ S' acc', S2 = S' ++ [.lst acc'] ∧ S'.length = n ∧ I (i + xs.length) acc' S' := by
  intro xs
  induction xs with
  | nil => exact fun i acc S hn _ h _ => ⟨_, rfl, S, acc, rfl, hn, h⟩
  | cons x xs ih =>
    intro i acc S hn hl h ht
    rw [compL, Ok_bind]
    refine Ok.mono (ht 0 x acc S rfl hn h) ?_
    rintro ⟨r, S1⟩ ⟨S', e, hn', hok, hI⟩
    have e' : S1 = S' ++ [.lst acc] := e
    subst e'
    have ht' : ∀ (j : Nat) (x : D) (acc : List D) (S : Store), xs[j]? = some x → S.length = n → I (i + 1 + j) acc S → Ok (turn x (S ++ [.lst acc])) fun p => ∃ S', p.2 = S' ++ [.lst acc] ∧ S'.length = n ∧
        (∀ acc', ok (S' ++ [.lst acc']) = true) ∧ match p.1 with
          | none => I (i + 1 + j + 1) acc S'
          | some y => I (i + 1 + j + 1) (acc ++ [y]) S' := by
      intro j x acc S h1 h2 h3
      have := ht (j + 1) x acc S (by rw [List.getElem?_cons_succ]; exact h1) h2 (by rw [show i + (j + 1) = i + 1 + j by omega]; exact h3)
      rw [show i + (j + 1) + 1 = i + 1 + j + 1 by omega] at this
      exact this
    cases r with
    | none =>
      show Ok (if ok (S' ++ [.lst acc]) = true then _ else none) _
      rw [if_pos (hok acc)]
      refine Ok.mono (ih (i + 1) acc S' hn' (by simp at hl; omega) hI ht') ?_
      rintro S2 ⟨S3, a3, e1, e2, e3⟩
      exact ⟨S3, a3, e1, e2, by rw [List.length_cons, show i + (xs.length + 1) = i + 1 + xs.length by omega]; exact e3⟩
    | some y =>
      have e1 : (S' ++ [Ob.lst acc])[n]? = some (.lst acc) := by rw [List.getElem?_append_right (by omega), hn', Nat.sub_self]; rfl
      have e2 : (S' ++ [Ob.lst acc]).set n (.lst (acc ++ [y])) = S' ++ [.lst (acc ++ [y])] := by rw [List.set_append_right (h := by omega), hn', Nat.sub_self]; rfl
      simp only [e1, e2]
      rw [if_pos ⟨by simp at hl; omega, hok _⟩]
      refine Ok.mono (ih (i + 1) (acc ++ [y]) S' hn' (by simp at hl ⊢; omega) hI ht') ?_
      rintro S2 ⟨S3, a3, e1, e2, e3⟩
      exact ⟨S3, a3, e1, e2, by rw [List.length_cons, show i + (xs.length + 1) = i + 1 + xs.length by omega]; exact e3⟩
/-- what a comprehension does for one item -/
def turnC (C : Callee) (own : List Nat) (tg : Tg) (c : Ot) (e : E) (ρ : Env) (x : D) (S1 : Store) : Option (Option D × Store) :=
  (bindT tg (.d x) (wipeE ρ own)).bind fun ρ2 => (evOt C c ρ2 S1).bind fun q => if q.1 = true then (evE C e ρ2 q.2).bind fun r => (match r.1 with
    | .u (.d y) => some (some y, r.2)
    | _ => none) else some (none, q.2)
/-- a comprehension over a source that stands still, of turns with a state -/
theorem comp_ok {C : Callee} {own : List Nat} {tg : Tg} {it : It} {c : Ot} {e : E} {ρ : Env} {S : Store} {Q : R × Store → Prop} {xs : List D} {S1 : Store} {h : Option Nat} (I : Nat → List D → Store → Prop)
    (hi : evI C it ρ S = some ((xs, h), S1)) (hl : xs.length ≤ lim) (h0 : I 0 [] S1)
    (ht : ∀ (j : Nat) (x : D) (acc : List D) (S' : Store), xs[j]? = some x → S'.length = S1.length → I j acc S' → Ok (turnC C own tg c e ρ x (S' ++ [.lst acc])) fun p => ∃ S2, p.2 = S2 ++ [.lst acc] ∧ S2.length = S1.length ∧
      (∀ acc', held h xs (S2 ++ [.lst acc']) = true) ∧ match p.1 with
        | none => I (j + 1) acc S2
        | some y => I (j + 1) (acc ++ [y]) S2)
    (hq : ∀ ys S', S'.length = S1.length → I xs.length ys S' → Q (.tmp ys, (S' ++ [Ob.lst ys]).take S.length)) : Ok (evE C (.comp own tg it c e) ρ S) Q := by
  rw [evE, hi]
  simp only [Option.bind_some]
  rw [Ok_bind]
  refine Ok.mono (compL_ok I xs 0 [] S1 rfl (by simpa using hl) h0 fun j x acc S' e1 e2 e3 => ?_) ?_
  · rw [Nat.zero_add] at e3 ⊢
    exact ht j x acc S' e1 e2 e3
  · rintro S2 ⟨S', ys, rfl, e2, e3⟩
    rw [Nat.zero_add] at e3
    have e1 : (S' ++ [Ob.lst ys])[S1.length]? = some (.lst ys) := by rw [List.getElem?_append_right (by omega), e2, Nat.sub_self]; rfl
    simp only [e1]
    exact ⟨_, rfl, hq ys S' e2 e3⟩
/-- a comprehension that only reads -/
theorem comp_map {C : Callee} {own : List Nat} {tg : Tg} {it : It} {e : E} {ρ : Env} {S : Store} {xs : List D} {S1 : Store} {h : Option Nat} (g : D → D)
    (hi : evI C it ρ S = some ((xs, h), S1)) (hl : xs.length ≤ lim) (hs : S1.take S.length = S) (hh : ∀ acc, held h xs (S1 ++ [.lst acc]) = true)
    (ht : ∀ (x : D), x ∈ xs → ∀ acc : List D, Ok (turnC C own tg .none e ρ x (S1 ++ [.lst acc])) fun p => p = (some (g x), S1 ++ [.lst acc])) : evE C (.comp own tg it .none e) ρ S = some (.tmp (xs.map g), S) := by
  have hle : S.length ≤ S1.length := by
    have := congrArg List.length hs
    rw [List.length_take] at this
    omega
  refine Ok.eq (comp_ok (fun j acc S' => acc = (xs.take j).map g ∧ S' = S1) hi hl ⟨rfl, rfl⟩ ?_ ?_)
  · rintro j x acc S' e1 e2 ⟨rfl, rfl⟩
    refine Ok.mono (ht x (List.mem_of_getElem? e1) _) ?_
    rintro p rfl
    refine ⟨S', rfl, rfl, hh, ?_, rfl⟩
    rw [List.take_succ, e1]
    simp
  · rintro ys S' e1 ⟨rfl, rfl⟩
    rw [List.take_length, List.take_append_of_le_length hle, hs]
/-! ### loops -/
theorem forL_ok {turn : D → Env → Store → Option (Out × Env × Store)} {ok : Store → Bool} {kill : List Nat} {n : Nat} (I : Nat → Env → Store → Prop) {Q : Out × Env × Store → Prop} : ∀ (xs : List D) (i : Nat) (ρ : Env) (S : Store), I i ρ S →
    (∀ (j : Nat) (x : D) (ρ : Env) (S : Store), xs[j]? = some x → I (i + j) ρ S → Ok (turn x ρ S) fun p => match p.1 with
      | .rt u => Q (.rt u, p.2.1, p.2.2)
      | .brk => Q (.nx, p.2.1, p.2.2)
      | _ => ok (tidy kill n p.2.1 p.2.2).2 = true ∧ I (i + j + 1) (tidy kill n p.2.1 p.2.2).1 (tidy kill n p.2.1 p.2.2).2) →
    (∀ ρ S, I (i + xs.length) ρ S → Q (.nx, ρ, S)) → Ok (forL turn ok kill n xs ρ S) Q := by
  intro xs
  induction xs with
  | nil => exact fun i ρ S h _ hq => ⟨_, rfl, hq ρ S h⟩
  | cons x xs ih =>
    intro i ρ S h ht hq
    rw [forL, Ok_bind]
    refine Ok.mono (ht 0 x ρ S rfl h) ?_
    rintro ⟨o, ρ', S'⟩ hp
    have next : ok (tidy kill n ρ' S').2 = true ∧ I (i + 0 + 1) (tidy kill n ρ' S').1 (tidy kill n ρ' S').2 → Ok (if ok (tidy kill n ρ' S').2 = true then forL turn ok kill n xs (tidy kill n ρ' S').1 (tidy kill n ρ' S').2 else none) Q := by
      rintro ⟨h1, h2⟩
      rw [if_pos h1]
      refine ih (i + 1) _ _ h2 (fun j x ρ S e1 e2 => ?_) fun ρ S e => hq ρ S ?_
      · have := ht (j + 1) x ρ S (by rw [List.getElem?_cons_succ]; exact e1) (by rw [show i + (j + 1) = i + 1 + j by omega]; exact e2)
        rw [show i + (j + 1) + 1 = i + 1 + j + 1 by omega] at this
        exact this
      · rw [List.length_cons, show i + (xs.length + 1) = i + 1 + xs.length by omega]
        exact e
    cases o with
    | nx => exact next hp
    | ct => exact next hp
    | brk => exact ⟨_, rfl, hp⟩
    | rt u => exact ⟨_, rfl, hp⟩
/-! ### sizes -/
theorem mulOk_of {i j : Int} (h1 : i.natAbs < 2 ^ 200) (h2 : j.natAbs < 2 ^ 200) : mulOk i j = true := by
  have key : ∀ n : Nat, n < 2 ^ 200 → n.log2 < 201 := by
    intro n hn
    rcases Nat.eq_zero_or_pos n with rfl | hp
    · decide
    · have := (Nat.log2_lt (by omega)).mpr (show n < 2 ^ 201 from Nat.lt_trans hn (Nat.pow_lt_pow_right (by decide) (by decide)))
      exact this
  unfold mulOk
  rw [Bool.or_eq_true]
  refine .inl (decide_eq_true ?_)
  have := key _ h1
  have := key _ h2
  omega
theorem mulOk_r {i j : Int} (h : -(2 ^ 64) < j ∧ j < 2 ^ 64) : mulOk i j = true := by
  unfold mulOk
  rw [Bool.or_eq_true, Bool.or_eq_true]
  exact .inr (.inr (decide_eq_true h))
theorem mulOk_l {i j : Int} (h : -(2 ^ 64) < i ∧ i < 2 ^ 64) : mulOk i j = true := by
  unfold mulOk
  rw [Bool.or_eq_true, Bool.or_eq_true]
  exact .inr (.inl (decide_eq_true h))
end Ir

set_option Elab.async false
set_option linter.all false
set_option maxRecDepth 100000
set_option autoImplicit false
/-! Pl2: the small language's steps, case by case. -/
namespace Ir
open PySem L2
/-- a turn of a loop -/
def turnF (C : Callee) (tg : Tg) (b : Ss) (x : D) (ρ1 : Env) (S1 : Store) : Option (Out × Env × Store) := (bindT tg (.d x) ρ1).bind fun ρ2 => evSs C b ρ2 S1
def forEnd (n : Nat) (q : Out × Env × Store) : Out × Env × Store := match q.1 with
  | .rt u => (.rt u, q.2.1, q.2.2)
  | o => (o, tidy [] n q.2.1 q.2.2)
theorem Ok_for {C : Callee} {tg : Tg} {it : It} {b : Ss} {kill : List Nat} {ρ : Env} {S : Store} {Q : Out × Env × Store → Prop} :
    Ok (evS C (.for_ tg it b kill) ρ S) Q = Ok (evI C it ρ S) fun p => Ok (forL (turnF C tg b) (held p.1.2 p.1.1) kill p.2.length p.1.1 ρ p.2) fun q => Q (forEnd S.length q) := by
  rw [evS, Ok_bind]
  exact congrArg (fun q => Ok (evI C it ρ S) q) (funext fun p => Ok_map)
theorem bT_n {i : Nat} {u : U} {ρ : Env} : bindT (.n i) u ρ = some (ρ.set i (some u)) := rfl
theorem bT_t {ts : Tgs} {ds : List D} {ρ : Env} : bindT (.t ts) (.d (.tup ds)) ρ = bindTs ts (ds.map .d) ρ := rfl
theorem bT_m {ts : Tgs} {us : List U} {ρ : Env} : bindT (.t ts) (.mix us) ρ = bindTs ts us ρ := rfl
theorem bTs_n {ρ : Env} : bindTs .nil [] ρ = some ρ := rfl
theorem bTs_c {t : Tg} {ts : Tgs} {u : U} {us : List U} {ρ : Env} : bindTs (.cons t ts) (u :: us) ρ = (bindT t u ρ).bind fun ρ' => bindTs ts us ρ' := rfl
theorem mt1 {a : D} : mkTup [.d a] = .d (.tup [a]) := rfl
theorem mt2 {a b : D} : mkTup [.d a, .d b] = .d (.tup [a, b]) := rfl
theorem mt3 {a b c : D} : mkTup [.d a, .d b, .d c] = .d (.tup [a, b, c]) := rfl
theorem mt4 {a b c d : D} : mkTup [.d a, .d b, .d c, .d d] = .d (.tup [a, b, c, d]) := rfl
theorem mt0 : mkTup [] = .d (.tup []) := rfl
theorem ad0 : allD [] = some [] := rfl
theorem ad1 {x : D} {us : List U} : allD (.d x :: us) = (allD us).map (x :: ·) := rfl
theorem ad2 {n : Nat} {us : List U} : allD (.ref n :: us) = none := rfl
theorem ad3 {ws us : List U} : allD (.mix ws :: us) = none := rfl
theorem zc0 : ((0 : Nat) : Int) = 0 := rfl
theorem zc1 : ((1 : Nat) : Int) = 1 := rfl
theorem zc2 : ((2 : Nat) : Int) = 2 := rfl
theorem zc3 : ((3 : Nat) : Int) = 3 := rfl
theorem leLim {n : Nat} (h : n ≤ 1000000) : n ≤ lim := Nat.le_trans h (by decide)
section
variable {C : Callee} {ρ : Env} {S : Store} {α : Type} {Q : α → Prop}
theorem Ok_ite {c : Prop} [Decidable c] {a b : Option α} : Ok (if c then a else b) Q = if c then Ok a Q else Ok b Q := by split <;> rfl
-- values
theorem fu {x : U} : force (.u x) S = (x, S) := rfl
theorem ft {xs : List D} : force (.tmp xs) S = (.ref S.length, S ++ [.lst xs]) := rfl
theorem gd {n : Nat} {x : D} : gcU n (.d x) S = some (.d x, S.take n) := rfl
theorem gr {n m : Nat} (h : m < n) : gcU n (.ref m) S = some (.ref m, S.take n) := by simp only [gcU, if_pos h]
theorem gRu {n : Nat} {x : U} : gcR n (.u x) S = (gcU n x S).map fun p => (.u p.1, p.2) := rfl
theorem gRt {n : Nat} {xs : List D} : gcR n (.tmp xs) S = some (.tmp xs, S.take n) := rfl
theorem sq1 {xs : List D} : seqR (.tmp xs) S = some xs := rfl
theorem sq2 {xs : List D} : seqR (.u (.d (.tup xs))) S = some xs := rfl
theorem sq3 {n : Nat} {xs : List D} (h : S[n]? = some (.lst xs)) : seqR (.u (.ref n)) S = some xs := by simp only [seqR, h]
theorem sq4 {n : Nat} {xs : List D} (h : S[n]? = some (.rd xs)) : seqR (.u (.ref n)) S = some xs := by simp only [seqR, h]
theorem ls1 {xs : List D} : lstR (.tmp xs) S = some xs := rfl
theorem ls3 {n : Nat} {xs : List D} (h : S[n]? = some (.lst xs)) : lstR (.u (.ref n)) S = some xs := by simp only [lstR, h]
def obL : Option Ob → Option (List D)
  | some (.lst xs) => some xs
  | some (.rd xs) => some xs
  | none => none
theorem ob1 {xs : List D} : obL (some (.lst xs)) = some xs := rfl
theorem ob2 {xs : List D} : obL (some (.rd xs)) = some xs := rfl
theorem sqr {n : Nat} : seqR (.u (.ref n)) S = obL S[n]? := by
  show (match S[n]? with
    | some (.lst xs) => some xs
    | some (.rd xs) => some xs
    | none => none) = obL S[n]?
  rcases S[n]? with _ | o
  · rfl
  · cases o <;> rfl
theorem lsr {n : Nat} : lstR (.u (.ref n)) S = obL S[n]? := by
  show (match S[n]? with
    | some (.lst xs) => some xs
    | some (.rd xs) => some xs
    | none => none) = obL S[n]?
  rcases S[n]? with _ | o
  · rfl
  · cases o <;> rfl
theorem rt1 {n : Nat} {u : U} {T : Store} : retP n (.rt u, ρ, T) = gcU n u T := rfl
theorem rt2 {n : Nat} {T : Store} : retP n (.nx, ρ, T) = gcU n (.d .non) T := rfl
-- operators
theorem bopR_d {op : Bop} {a b : D} : bopR op (.u (.d a)) (.u (.d b)) S = (bopD op a b).map fun x => .u (.d x) := rfl
theorem b_add {a b : Int} : bopD .add (.int a) (.int b) = some (.int (a + b)) := rfl
theorem b_sub {a b : Int} : bopD .sub (.int a) (.int b) = some (.int (a - b)) := rfl
theorem b_cat {a b : Str} (h : a.length + b.length ≤ lim) : bopD .add (.str a) (.str b) = some (.str (a ++ b)) := by simp only [bopD, if_pos h]
theorem b_tup {a b : List D} (h : a.length + b.length ≤ lim) : bopD .add (.tup a) (.tup b) = some (.tup (a ++ b)) := by simp only [bopD, if_pos h]
theorem b_mul {a b : Int} (h : mulOk a b = true) : bopD .mul (.int a) (.int b) = some (.int (a * b)) := by simp only [bopD, if_pos h]
theorem b_div {a b : Int} (h : 0 < b ∧ b.natAbs.log2 < 9000) : bopD .fdiv (.int a) (.int b) = some (.int (a / b)) := by simp only [bopD, if_pos h]
theorem b_mod {a b : Int} (h : 0 < b) : bopD .mod (.int a) (.int b) = some (.int (a % b)) := by simp only [bopD, if_pos h]
theorem b_rep {x : Str} {n : Int} (h : 1 ≤ n ∧ n ≤ 1000000 ∧ x.length * n.toNat ≤ lim) : bopD .mul (.str x) (.int n) = some (.str (strRep x n.toNat)) := by simp only [bopD, if_pos h]
-- comparisons
theorem c_lt {a b : Int} : copR .lt (.u (.d (.int a))) (.u (.d (.int b))) S = some (decide (a < b)) := rfl
theorem c_le {a b : Int} : copR .le (.u (.d (.int a))) (.u (.d (.int b))) S = some (decide (a ≤ b)) := rfl
theorem c_gt {a b : Int} : copR .gt (.u (.d (.int a))) (.u (.d (.int b))) S = some (decide (b < a)) := rfl
theorem c_ge {a b : Int} : copR .ge (.u (.d (.int a))) (.u (.d (.int b))) S = some (decide (b ≤ a)) := rfl
theorem c_eqi {a b : Int} : copR .eq (.u (.d (.int a))) (.u (.d (.int b))) S = some (decide (a = b)) := rfl
theorem c_eqs {a b : Str} : copR .eq (.u (.d (.str a))) (.u (.d (.str b))) S = some (decide (a = b)) := rfl
theorem c_eqb {a b : Bool} : copR .eq (.u (.d (.bl a))) (.u (.d (.bl b))) S = some (a == b) := rfl
theorem c_nei {a b : Int} : copR .ne (.u (.d (.int a))) (.u (.d (.int b))) S = some (!decide (a = b)) := rfl
theorem c_nes {a b : Str} : copR .ne (.u (.d (.str a))) (.u (.d (.str b))) S = some (!decide (a = b)) := rfl
theorem c_neb {a b : Bool} : copR .ne (.u (.d (.bl a))) (.u (.d (.bl b))) S = some (!(a == b)) := rfl
theorem c_eqt {a b : List D} (h : okd 40 (.tup a) = true ∧ okd 40 (.tup b) = true) : copR .eq (.u (.d (.tup a))) (.u (.d (.tup b))) S = some (pyeqs a b) := by
  simp only [copR, eqR, kindR, Option.bind_some, eqOk, h.1, h.2, Bool.and_self, Bool.or_true, and_self, if_true, pyeq]
theorem c_is {ra : R} : copR .is_ ra (.u (.d .non)) S = some (isNonR ra) := rfl
theorem c_isn {ra : R} : copR .isnot ra (.u (.d .non)) S = some (!isNonR ra) := rfl
theorem n1 : isNonR (.u (.d .non)) = true := rfl
theorem n2 {i : Int} : isNonR (.u (.d (.int i))) = false := rfl
theorem n3 {i : Str} : isNonR (.u (.d (.str i))) = false := rfl
theorem n4 {i : List D} : isNonR (.u (.d (.tup i))) = false := rfl
theorem n5 {i : List D} : isNonR (.tmp i) = false := rfl
theorem n6 {i : Nat} : isNonR (.u (.ref i)) = false := rfl
theorem d_lt {a b : Int} : copD .lt (.int a) (.int b) = some (decide (a < b)) := rfl
theorem d_le {a b : Int} : copD .le (.int a) (.int b) = some (decide (a ≤ b)) := rfl
theorem d_gt {a b : Int} : copD .gt (.int a) (.int b) = some (decide (b < a)) := rfl
theorem d_ge {a b : Int} : copD .ge (.int a) (.int b) = some (decide (b ≤ a)) := rfl
-- subscripts
theorem x_tup {xs : List D} {i : Int} : idxR (.u (.d (.tup xs))) (.u (.d (.int i))) S = (atI xs i).map fun x => .u (.d x) := rfl
theorem x_tmp {xs : List D} {i : Int} : idxR (.tmp xs) (.u (.d (.int i))) S = (atI xs i).map fun x => .u (.d x) := rfl
theorem x_mix {xs : List U} {i : Int} : idxR (.u (.mix xs)) (.u (.d (.int i))) S = (atI xs i).map .u := rfl
theorem x_ref {n : Nat} {i : Int} : idxR (.u (.ref n)) (.u (.d (.int i))) S = (seqR (.u (.ref n)) S).bind fun ds => (atI ds i).map fun x => .u (.d x) := rfl
theorem x_str {s : Str} {i : Int} (h : s.length ≤ lim) : idxR (.u (.d (.str s))) (.u (.d (.int i))) S = (atI s.cps.toList i).map fun c => .u (.d (.str ⟨#[c]⟩)) := by simp only [idxR, if_pos h]
theorem a0 {α : Type} {x : α} {r : List α} : atI (x :: r) 0 = some x := by simp [atI, ixN]
theorem an {α : Type} {xs : List α} {i : Int} {x : α} (h0 : 0 ≤ i) (h : xs[i.toNat]? = some x) : atI xs i = some x := by
  obtain ⟨hl, _⟩ := List.getElem?_eq_some_iff.mp h
  unfold atI ixN
  rw [if_pos h0, if_pos (by omega)]
  exact h
theorem a1 {α : Type} {x y : α} {r : List α} : atI (x :: y :: r) 1 = some y := an (by decide) rfl
theorem a2 {α : Type} {x y z : α} {r : List α} : atI (x :: y :: z :: r) 2 = some z := an (by decide) rfl
theorem i30 : ixN 3 0 = some 0 := rfl
theorem i32 : ixN 3 2 = some 2 := rfl
-- built-ins
theorem f_len {r : R} : biR .len [r] S = (lenR r S).map fun (n : Nat) => .u (.d (.int (n : Int))) := rfl
theorem l_str {s : Str} (h : s.length ≤ lim) : lenR (.u (.d (.str s))) S = some s.length := by simp only [lenR, if_pos h]
theorem l_tup {xs : List D} : lenR (.u (.d (.tup xs))) S = some xs.length := rfl
theorem l_tmp {xs : List D} : lenR (.tmp xs) S = some xs.length := rfl
theorem l_mix {xs : List U} : lenR (.u (.mix xs)) S = some xs.length := rfl
theorem l_ref {n : Nat} : lenR (.u (.ref n)) S = (seqR (.u (.ref n)) S).map List.length := rfl
theorem f_int {i : Int} : biR .int [.u (.d (.int i))] S = some (.u (.d (.int i))) := rfl
theorem f_intb {b : Bool} : biR .int [.u (.d (.bl b))] S = some (.u (.d (.int (if b then 1 else 0)))) := rfl
theorem f_ints {s : Str} {i : Int} (h : intLen s = true) (h2 : PySem.intText? s = some i) : biR .int [.u (.d (.str s))] S = some (.u (.d (.int i))) := by simp only [biR, if_pos h, h2, Option.map_some]
theorem f_str {i : Int} (h : digOk i = true) : biR .str [.u (.d (.int i))] S = some (.u (.d (.str (toString i)))) := by simp only [biR, if_pos h]
theorem f_abs {i : Int} : biR .abs [.u (.d (.int i))] S = some (.u (.d (.int (if i < 0 then -i else i)))) := rfl
theorem f_max {i j : Int} : biR .max [.u (.d (.int i)), .u (.d (.int j))] S = some (.u (.d (.int (if j > i then j else i)))) := rfl
theorem f_min {i j : Int} : biR .min [.u (.d (.int i)), .u (.d (.int j))] S = some (.u (.d (.int (if j < i then j else i)))) := rfl
theorem f_tup {r : R} : biR .tuple [r] S = (seqR r S).map fun ds => .u (.d (.tup ds)) := rfl
theorem f_list {r : R} : biR .list [r] S = (seqR r S).map fun ds => .tmp ds := rfl
theorem f_all {r : R} : biR .all [r] S = (lstR r S).bind fun ds => (boolsD ds).map fun bs => blU (bs.all id) := rfl
theorem f_any {r : R} : biR .any [r] S = (lstR r S).bind fun ds => (boolsD ds).map fun bs => blU (bs.any id) := rfl
theorem f_isin {r : R} {t : String} : biR .isin [r, .u (.d (.ty t))] S = (tyR r S).bind fun a => (isiTab a t).map blU := rfl
theorem t_int {i : Int} : tyR (.u (.d (.int i))) S = some "int" := rfl
theorem t_str {i : Str} : tyR (.u (.d (.str i))) S = some "str" := rfl
theorem t_bl {i : Bool} : tyR (.u (.d (.bl i))) S = some "bool" := rfl
theorem t_non : tyR (.u (.d .non)) S = some "NoneType" := rfl
theorem t_tup {i : List D} : tyR (.u (.d (.tup i))) S = some "tuple" := rfl
theorem t_mix {i : List U} : tyR (.u (.mix i)) S = some "tuple" := rfl
theorem is_ii : isiTab "int" "int" = some true := rfl
theorem is_ib : isiTab "int" "bool" = some false := rfl
theorem is_tt : isiTab "tuple" "tuple" = some true := rfl
theorem is_it : isiTab "int" "tuple" = some false := rfl
theorem is_ss : isiTab "str" "str" = some true := rfl
-- methods
theorem m_join {a : Str} {r : R} {ds : List D} {ys : List Str} (h1 : seqR r S = some ds) (h2 : strsD ds = some ys) (h3 : (ys.map (·.length)).sum + ys.length * a.length ≤ lim) : meR .join (.u (.d (.str a))) [r] S = some (.u (.d (.str (Txt.join a ys))), S) := by
  simp only [meR, h1, h2, Option.bind_some, if_pos h3]
theorem m_split {a b : Str} (h : (b.length == 0) = false ∧ a.length + 2 ≤ lim) : meR .split (.u (.d (.str a))) [.u (.d (.str b))] S = some (.tmp (strD (Txt.split a b)), S) := by simp only [meR, if_pos h]
theorem m_part {a b : Str} (h : (b.length == 0) = false ∧ a.length ≤ lim) : meR .partition (.u (.d (.str a))) [.u (.d (.str b))] S = some (.u (.d (.tup [.str (Txt.partition a b).1, .str (Txt.partition a b).2.1, .str (Txt.partition a b).2.2])), S) := by simp only [meR, if_pos h]
theorem m_app {n : Nat} {xs : List D} {x : D} (h : S[n]? = some (.lst xs)) (h2 : xs.length < lim) : meR .append (.u (.ref n)) [.u (.d x)] S = some (.u (.d .non), S.set n (.lst (xs ++ [x]))) := by simp only [meR, h, if_pos h2]
theorem p_str {m : Me} {a : Str} : m ≠ .append → mePre m (.d (.str a)) S = true := by cases m <;> first | (intro h; exact absurd rfl h) | (intro _; rfl)
theorem p_j {a : Str} : mePre .join (.d (.str a)) S = true := rfl
theorem p_s {a : Str} : mePre .split (.d (.str a)) S = true := rfl
theorem p_p {a : Str} : mePre .partition (.d (.str a)) S = true := rfl
theorem p_a {n : Nat} {xs : List D} (h : S[n]? = some (.lst xs)) : mePre .append (.ref n) S = true := by simp only [mePre, h]
-- truth
theorem tr_b {b : Bool} : truR (.u (.d (.bl b))) S = some b := rfl
-- sources
theorem s_tmp {xs : List D} : srcR (.tmp xs) S = some ((xs, some S.length), S ++ [.lst xs]) := rfl
theorem s_tup {xs : List D} : srcR (.u (.d (.tup xs))) S = some ((xs, none), S) := rfl
theorem s_str {s : Str} : srcR (.u (.d (.str s))) S = some ((s.cps.toList.map fun c => .str ⟨#[c]⟩, none), S) := rfl
theorem s_rd {n : Nat} {xs : List D} (h : S[n]? = some (.rd xs)) : srcR (.u (.ref n)) S = some ((xs, none), S) := by simp only [srcR, h]
theorem s_lst {n : Nat} {xs : List D} (h : S[n]? = some (.lst xs)) : srcR (.u (.ref n)) S = some ((xs, some n), S) := by simp only [srcR, h]
theorem rg {j : Int} (h : 0 ≤ j ∧ j < 2 ^ 60) : inR62 j = true := by unfold inR62; exact decide_eq_true (by omega)
theorem evI_rng {e : E} {S1 : Store} {j : Int} (h : evE C e ρ S = some (.u (.d (.int j)), S1)) (h1 : 0 ≤ j) (hn : j ≤ 1000000) : evI C (.rng1 e) ρ S = some ((rngD 0 j.toNat, none), S1) := by
  rw [evI, h]
  simp only [Option.bind_some, rg (j := j) ⟨h1, by omega⟩, if_true]
theorem se {n : Nat} : (rngD 0 n).length = n := by simp [rngD]
theorem gE {n j : Nat} {x : D} (h : (rngD 0 n)[j]? = some x) : x = .int j ∧ j < n := by
  unfold rngD at h
  rw [List.getElem?_map] at h
  by_cases hj : j < n
  · rw [List.getElem?_range hj] at h
    cases h
    exact ⟨by simp, hj⟩
  · rw [List.getElem?_eq_none (by simp; omega)] at h
    cases h
/-! ### what is made of a comprehension -/
theorem bools_const {b : Bool} : ∀ xs : List D, boolsD (xs.map fun _ => D.bl b) = some (xs.map fun _ => b)
  | [] => rfl
  | x :: xs => by rw [List.map_cons, boolsD, bools_const xs]; rfl
theorem all_const : ∀ xs : List D, (xs.map fun _ => true).all id = true
  | [] => rfl
  | x :: xs => by rw [List.map_cons, List.all_cons, all_const xs]; rfl
theorem any_const : ∀ xs : List D, (xs.map fun _ => false).any id = false
  | [] => rfl
  | x :: xs => by rw [List.map_cons, List.any_cons, any_const xs]; rfl
section
variable {own : List Nat} {tg : Tg} {it : It} {e : E} {xs : List D} {S1 : Store} {h : Option Nat}
/-- over a tuple, a text, a range -/
theorem comp_tup (g : D → D) (hi : evI C it ρ S = some ((xs, none), S)) (hl : xs.length ≤ lim)
    (ht : ∀ (x : D), x ∈ xs → ∀ acc : List D, Ok (turnC C own tg .none e ρ x (S ++ [.lst acc])) fun p => p = (some (g x), S ++ [.lst acc])) : evE C (.comp own tg it .none e) ρ S = some (.tmp (xs.map g), S) :=
  comp_map g hi hl (by simp) (fun _ => rfl) ht
/-- .. of items that stand for others -/
theorem comp_map2 {β : Type} {xs : List β} (g : β → D) {f : β → D} (hi : evI C it ρ S = some ((xs.map f, none), S)) (hl : xs.length ≤ lim)
    (ht : ∀ (x : β), x ∈ xs → ∀ acc : List D, Ok (turnC C own tg .none e ρ (f x) (S ++ [.lst acc])) fun p => p = (some (g x), S ++ [.lst acc])) : evE C (.comp own tg it .none e) ρ S = some (.tmp (xs.map g), S) := by
  refine Ok.eq (comp_ok (fun j acc S' => acc = (xs.take j).map g ∧ S' = S) hi (by simpa using hl) ⟨rfl, rfl⟩ ?_ ?_)
  · rintro j x acc S' e1 e2 ⟨rfl, rfl⟩
    rw [List.getElem?_map] at e1
    obtain ⟨y, e3, rfl⟩ := Option.map_eq_some_iff.mp e1
    refine Ok.mono (ht y (List.mem_of_getElem? e3) _) ?_
    rintro p rfl
    refine ⟨S', rfl, rfl, fun _ => rfl, ?_, rfl⟩
    rw [List.take_succ, e3]
    simp
  · rintro ys S' e1 ⟨rfl, rfl⟩
    rw [List.length_map, List.take_length, List.take_append_of_le_length (Nat.le_refl _), List.take_length]
/-- over a new list -/
theorem comp_tmp (g : D → D) (hi : evI C it ρ S = some ((xs, some S.length), S ++ [.lst xs])) (hl : xs.length ≤ lim)
    (ht : ∀ (x : D), x ∈ xs → ∀ acc : List D, Ok (turnC C own tg .none e ρ x (S ++ [.lst xs, .lst acc])) fun p => p = (some (g x), S ++ [.lst xs, .lst acc])) : evE C (.comp own tg it .none e) ρ S = some (.tmp (xs.map g), S) := by
  refine comp_map g hi hl (by simp) (fun acc => ?_) fun x hx acc => ?_
  · unfold held
    exact decide_eq_true (by simp)
  · rw [List.append_assoc]
    exact ht x hx acc
/-- .. of items that stand for others -/
theorem comp_tmp2 {β : Type} {xs : List β} (g : β → D) {f : β → D} (hi : evI C it ρ S = some ((xs.map f, some S.length), S ++ [.lst (xs.map f)])) (hl : xs.length ≤ lim)
    (ht : ∀ (x : β), x ∈ xs → ∀ acc : List D, Ok (turnC C own tg .none e ρ (f x) (S ++ [.lst (xs.map f), .lst acc])) fun p => p = (some (g x), S ++ [.lst (xs.map f), .lst acc])) : evE C (.comp own tg it .none e) ρ S = some (.tmp (xs.map g), S) := by
  refine Ok.eq (comp_ok (fun j acc S' => acc = (xs.take j).map g ∧ S' = S ++ [.lst (xs.map f)]) hi (by simpa using hl) ⟨rfl, rfl⟩ ?_ ?_)
  · rintro j x acc S' e1 e2 ⟨rfl, rfl⟩
    rw [List.getElem?_map] at e1
    obtain ⟨y, e3, rfl⟩ := Option.map_eq_some_iff.mp e1
    have := ht y (List.mem_of_getElem? e3) ((xs.take j).map g)
    rw [List.append_assoc]
    refine Ok.mono this ?_
    rintro p rfl
    refine ⟨S ++ [.lst (xs.map f)], by rw [List.append_assoc]; rfl, rfl, fun acc' => ?_, ?_, rfl⟩
    · unfold held
      exact decide_eq_true (by simp)
    · rw [List.take_succ, e3]
      simp
  · rintro ys S' e1 ⟨rfl, rfl⟩
    rw [List.length_map, List.take_length, List.append_assoc, List.take_append_of_le_length (Nat.le_refl _), List.take_length]
end
theorem run_eq {P : List Fd} {k f : Nat} {us : List U} {r : U × Store} (fd : Fd) (h : P[f]? = some fd) (hl : us.length = fd.np)
    (hb : Ok (evSs (run P k) fd.body (startE fd.ns us) S) fun p => Ok (retP S.length p) fun x => x = r) : run P (k + 1) f us S = some r := Ok.eq (run_ok fd h hl hb)
theorem held0 {ds : List D} : held none ds S = true := rfl
end
end Ir

set_option Elab.async false
set_option linter.all false
set_option maxRecDepth 100000
set_option maxHeartbeats 0
set_option autoImplicit false
namespace G85
open PySem L2 Ir
def top (i : Nat) : Stmt := PySem.Challenge.pw_steadyhands_k85_machines_and_plays_as_te.main.body.getD i (.Pass ⟨0, 0, 0, 0⟩)
abbrev s_is_integer : Stmt := top 8
abbrev s_is_within : Stmt := top 10
abbrev s_is_a_row : Stmt := top 11
abbrev s_is_a_table : Stmt := top 12
abbrev s_are_tables_like : Stmt := top 13
abbrev s_is_a_game : Stmt := top 14
abbrev s_is_a_side : Stmt := top 15
abbrev s_many_of : Stmt := top 16
abbrev s_need_game : Stmt := top 17
abbrev s_need_side : Stmt := top 18
abbrev s_are_indexes : Stmt := top 21
abbrev s_is_a_state : Stmt := top 22
abbrev s_is_a_machine : Stmt := top 23
abbrev s_integer_of : Stmt := top 26
abbrev s_integers_of : Stmt := top 27
abbrev s_state_in : Stmt := top 30
abbrev s_states_in : Stmt := top 31
abbrev s_machine_in : Stmt := top 32
abbrev s_read_machine : Stmt := top 34
abbrev s_show_fraction : Stmt := top 36
abbrev s_show_state : Stmt := top 37
abbrev s_show_machine : Stmt := top 38
abbrev s_show_outcomes : Stmt := top 39
abbrev s_show_play : Stmt := top 40
abbrev s__law_deck : Stmt := top 42
abbrev s__law_take : Stmt := top 43
abbrev s__law_game : Stmt := top 44
abbrev s__law_any_machine : Stmt := top 45
abbrev s__law_text : Stmt := top 46
abbrev s__law_same : Stmt := top 47
abbrev s__law_machine_right : Stmt := top 48
abbrev s__law_outcomes : Stmt := top 49
abbrev s__law_play_right : Stmt := top 50
abbrev s__law_changed : Stmt := top 51
abbrev s__law_great_right : Stmt := top 52
abbrev s_law : Stmt := top 53
def shapes : List Shape := [⟨0, 1, [], [.a 0]⟩,
  ⟨1, 3, [], [.a 0, .a 1, .a 2]⟩,
  ⟨2, 2, [], [.a 0, .a 1]⟩,
  ⟨3, 1, [], [.a 0]⟩,
  ⟨4, 3, [], [.a 0, .a 1, .a 2]⟩,
  ⟨5, 1, [], [.a 0]⟩,
  ⟨6, 1, [], [.a 0]⟩,
  ⟨10, 3, [], [.a 0, .a 1, .a 2]⟩,
  ⟨7, 2, [], [.a 0, .a 1]⟩,
  ⟨11, 4, [], [.a 0, .a 1, .a 2, .a 3]⟩,
  ⟨13, 2, [], [.a 0, .a 1]⟩,
  ⟨14, 3, [], [.a 0, .a 1, .a 2]⟩,
  ⟨15, 1, [], [.a 0]⟩,
  ⟨16, 1, [], [.a 0]⟩,
  ⟨12, 3, [], [.a 0, .a 1, .a 2, .c (.int (400))]⟩,
  ⟨8, 1, [], [.a 0]⟩,
  ⟨9, 1, [], [.a 0]⟩,
  ⟨17, 3, [], [.a 0, .a 1, .a 2]⟩,
  ⟨20, 1, [], [.a 0]⟩,
  ⟨22, 1, [], [.a 0]⟩,
  ⟨25, 2, [], [.a 0, .a 1]⟩,
  ⟨29, 2, [], [.a 0, .a 1]⟩,
  ⟨21, 1, [], [.a 0]⟩,
  ⟨21, 0, ["machine"], [.a 0]⟩,
  ⟨28, 1, [], [.a 0]⟩,
  ⟨18, 3, [], [.a 0, .a 1, .a 2]⟩,
  ⟨18, 0, ["text", "side", "game"], [.a 2, .a 1, .a 0]⟩,
  ⟨31, 1, [], [.a 0]⟩,
  ⟨23, 1, [], [.a 0]⟩,
  ⟨23, 0, ["play"], [.a 0]⟩,
  ⟨27, 4, [], [.a 0, .a 1, .a 2, .a 3]⟩,
  ⟨19, 1, [], [.a 0]⟩,
  ⟨19, 0, ["fraction"], [.a 0]⟩,
  ⟨24, 2, [], [.a 0, .a 1]⟩,
  ⟨34, 1, [], [.a 0]⟩,
  ⟨26, 2, [], [.a 0, .a 1]⟩,
  ⟨33, 3, [], [.a 0, .a 1, .a 2]⟩,
  ⟨30, 4, [], [.a 0, .a 1, .a 2, .a 3]⟩,
  ⟨32, 3, [], [.a 0, .a 1, .a 2]⟩]
def cons : List (Str × D) := [("FIGURES", (.str "0123456789")), ("MOST_CHOICES", (.int (5))), ("MOST_FIGURES", (.int (30))), ("MOST_NUMBER", (.int (1000))), ("MOST_STATES", (.int (400)))]
def ir_is_integer : Ss := (.cons (.ret (.band (.bi .isin (.cons (.var 0) (.cons (.lit (.ty "int")) .nil))) (.bnot (.bi .isin (.cons (.var 0) (.cons (.lit (.ty "bool")) .nil)))))) .nil)
def f_is_integer : PFn := ⟨"is_integer", defArgs s_is_integer, defBody s_is_integer, defScope s_is_integer, ["value"], ["value"], [], ir_is_integer⟩
def ir_is_within : Ss := (.cons (.ret (.band (.call 0 [.a 0] (.cons (.var 0) .nil)) (.chain .le .le (.var 1) (.var 0) (.var 2)))) .nil)
def f_is_within : PFn := ⟨"is_within", defArgs s_is_within, defBody s_is_within, defScope s_is_within, ["value", "least", "most"], ["value", "least", "most"], [], ir_is_within⟩
def ir_is_a_row : Ss := (.cons (.ite (.or (.not (.tr (.bi .isin (.cons (.var 0) (.cons (.lit (.ty "tuple")) .nil))))) (.v (.cmp .ne (.bi .len (.cons (.var 0) .nil)) (.var 1)))) (.cons (.ret (.lit (.bl false))) .nil) .nil) (.cons (.ret (.bi .all (.cons (.comp [2] (.n 2) (.seq (.var 0)) .none (.call 1 [.a 0, .a 1, .a 2] (.cons (.var 2) (.cons (.neg (.lit (.int (1000)))) (.cons (.lit (.int (1000))) .nil))))) .nil))) .nil))
def f_is_a_row : PFn := ⟨"is_a_row", defArgs s_is_a_row, defBody s_is_a_row, defScope s_is_a_row, ["value", "wide"], ["value", "wide", "number"], [], ir_is_a_row⟩
def ir_is_a_table : Ss := (.cons (.ite (.or (.not (.tr (.bi .isin (.cons (.var 0) (.cons (.lit (.ty "tuple")) .nil))))) (.or (.not (.v (.chain .le .le (.lit (.int (1))) (.bi .len (.cons (.var 0) .nil)) (.lit (.int (5)))))) (.not (.tr (.bi .isin (.cons (.idx (.var 0) (.lit (.int (0)))) (.cons (.lit (.ty "tuple")) .nil))))))) (.cons (.ret (.lit (.bl false))) .nil) .nil) (.cons (.ret (.band (.chain .le .le (.lit (.int (1))) (.bi .len (.cons (.idx (.var 0) (.lit (.int (0)))) .nil)) (.lit (.int (5)))) (.bi .all (.cons (.comp [1] (.n 1) (.seq (.var 0)) .none (.call 2 [.a 0, .a 1] (.cons (.var 1) (.cons (.bi .len (.cons (.idx (.var 0) (.lit (.int (0)))) .nil)) .nil)))) .nil)))) .nil))
def f_is_a_table : PFn := ⟨"is_a_table", defArgs s_is_a_table, defBody s_is_a_table, defScope s_is_a_table, ["value"], ["value", "row"], [], ir_is_a_table⟩
def ir_are_tables_like : Ss := (.cons (.ite (.or (.not (.tr (.bi .isin (.cons (.var 0) (.cons (.lit (.ty "tuple")) .nil))))) (.or (.v (.cmp .ne (.bi .len (.cons (.var 0) .nil)) (.lit (.int (2))))) (.not (.tr (.bi .all (.cons (.comp [3] (.n 3) (.seq (.var 0)) .none (.call 3 [.a 0] (.cons (.var 3) .nil))) .nil)))))) (.cons (.ret (.lit (.bl false))) .nil) .nil) (.cons (.ret (.bi .all (.cons (.comp [3] (.n 3) (.seq (.var 0)) .none (.band (.cmp .eq (.bi .len (.cons (.var 3) .nil)) (.var 1)) (.cmp .eq (.bi .len (.cons (.idx (.var 3) (.lit (.int (0)))) .nil)) (.var 2)))) .nil))) .nil))
def f_are_tables_like : PFn := ⟨"are_tables_like", defArgs s_are_tables_like, defBody s_are_tables_like, defScope s_are_tables_like, ["value", "rows", "columns"], ["value", "rows", "columns", "table"], [], ir_are_tables_like⟩
def ir_is_a_game : Ss := (.cons (.ite (.or (.not (.tr (.bi .isin (.cons (.var 0) (.cons (.lit (.ty "tuple")) .nil))))) (.or (.v (.cmp .ne (.bi .len (.cons (.var 0) .nil)) (.lit (.int (2))))) (.not (.tr (.call 3 [.a 0] (.cons (.idx (.var 0) (.lit (.int (0)))) .nil)))))) (.cons (.ret (.lit (.bl false))) .nil) .nil) (.cons (.ret (.call 4 [.a 0, .a 1, .a 2] (.cons (.var 0) (.cons (.bi .len (.cons (.idx (.var 0) (.lit (.int (0)))) .nil)) (.cons (.bi .len (.cons (.idx (.idx (.var 0) (.lit (.int (0)))) (.lit (.int (0)))) .nil)) .nil))))) .nil))
def f_is_a_game : PFn := ⟨"is_a_game", defArgs s_is_a_game, defBody s_is_a_game, defScope s_is_a_game, ["value"], ["value"], [], ir_is_a_game⟩
def ir_is_a_side : Ss := (.cons (.ret (.call 1 [.a 0, .a 1, .a 2] (.cons (.var 0) (.cons (.lit (.int (0))) (.cons (.lit (.int (1))) .nil))))) .nil)
def f_is_a_side : PFn := ⟨"is_a_side", defArgs s_is_a_side, defBody s_is_a_side, defScope s_is_a_side, ["value"], ["value"], [], ir_is_a_side⟩
def ir_many_of : Ss := (.cons (.ret (.ite (.v (.cmp .eq (.var 1) (.lit (.int (0))))) (.bi .len (.cons (.idx (.var 0) (.lit (.int (0)))) .nil)) (.bi .len (.cons (.idx (.idx (.var 0) (.lit (.int (0)))) (.lit (.int (0)))) .nil)))) .nil)
def f_many_of : PFn := ⟨"many_of", defArgs s_many_of, defBody s_many_of, defScope s_many_of, ["game", "side"], ["game", "side"], [], ir_many_of⟩
def ir_need_game : Ss := (.cons (.ite (.not (.tr (.call 5 [.a 0] (.cons (.var 0) .nil)))) (.cons .never .nil) .nil) .nil)
def f_need_game : PFn := ⟨"need_game", defArgs s_need_game, defBody s_need_game, defScope s_need_game, ["game"], ["game"], [], ir_need_game⟩
def ir_need_side : Ss := (.cons (.ite (.not (.tr (.call 6 [.a 0] (.cons (.var 0) .nil)))) (.cons .never .nil) .nil) .nil)
def f_need_side : PFn := ⟨"need_side", defArgs s_need_side, defBody s_need_side, defScope s_need_side, ["side"], ["side"], [], ir_need_side⟩
def ir_are_indexes : Ss := (.cons (.ite (.or (.not (.tr (.bi .isin (.cons (.var 0) (.cons (.lit (.ty "tuple")) .nil))))) (.v (.cmp .ne (.bi .len (.cons (.var 0) .nil)) (.var 1)))) (.cons (.ret (.lit (.bl false))) .nil) .nil) (.cons (.ret (.bi .all (.cons (.comp [3] (.n 3) (.seq (.var 0)) .none (.call 1 [.a 0, .a 1, .a 2] (.cons (.var 3) (.cons (.lit (.int (0))) (.cons (.bin .sub (.var 2) (.lit (.int (1)))) .nil))))) .nil))) .nil))
def f_are_indexes : PFn := ⟨"are_indexes", defArgs s_are_indexes, defBody s_are_indexes, defScope s_are_indexes, ["value", "many", "size"], ["value", "many", "size", "part"], [], ir_are_indexes⟩
def ir_is_a_state : Ss := (.cons (.ite (.or (.not (.tr (.bi .isin (.cons (.var 0) (.cons (.lit (.ty "tuple")) .nil))))) (.v (.cmp .ne (.bi .len (.cons (.var 0) .nil)) (.lit (.int (2)))))) (.cons (.ret (.lit (.bl false))) .nil) .nil) (.cons (.ret (.band (.call 1 [.a 0, .a 1, .a 2] (.cons (.idx (.var 0) (.lit (.int (0)))) (.cons (.lit (.int (0))) (.cons (.bin .sub (.var 1) (.lit (.int (1)))) .nil)))) (.call 10 [.a 0, .a 1, .a 2] (.cons (.idx (.var 0) (.lit (.int (1)))) (.cons (.var 2) (.cons (.var 3) .nil)))))) .nil))
def f_is_a_state : PFn := ⟨"is_a_state", defArgs s_is_a_state, defBody s_is_a_state, defScope s_is_a_state, ["value", "own", "others", "size"], ["value", "own", "others", "size"], [], ir_is_a_state⟩
def ir_is_a_machine : Ss := (.cons (.ite (.or (.not (.tr (.bi .isin (.cons (.var 2) (.cons (.lit (.ty "tuple")) .nil))))) (.not (.v (.chain .le .le (.lit (.int (1))) (.bi .len (.cons (.var 2) .nil)) (.var 3))))) (.cons (.ret (.lit (.bl false))) .nil) .nil) (.cons (.asg (.t (.cons (.n 4) (.cons (.n 5) .nil))) (.tup (.cons (.call 7 [.a 0, .a 1] (.cons (.var 0) (.cons (.var 1) .nil))) (.cons (.call 7 [.a 0, .a 1] (.cons (.var 0) (.cons (.bin .sub (.lit (.int (1))) (.var 1)) .nil))) .nil)))) (.cons (.ret (.bi .all (.cons (.comp [6] (.n 6) (.seq (.var 2)) .none (.call 11 [.a 0, .a 1, .a 2, .a 3] (.cons (.var 6) (.cons (.var 4) (.cons (.var 5) (.cons (.bi .len (.cons (.var 2) .nil)) .nil)))))) .nil))) .nil)))
def f_is_a_machine : PFn := ⟨"is_a_machine", defArgs s_is_a_machine, defBody s_is_a_machine, defScope s_is_a_machine, ["game", "side", "value", "most"], ["game", "side", "value", "most", "own", "others", "state"], [], ir_is_a_machine⟩
def ir_integer_of : Ss := (.cons (.asg (.n 2) (.ite (.v (.cmp .eq (.sl (.var 0) .none (.some (.lit (.int (1))))) (.lit (.str "-")))) (.sl (.var 0) (.some (.lit (.int (1)))) .none) (.var 0))) (.cons (.ite (.or (.v (.cmp .eq (.var 2) (.lit (.str "")))) (.or (.v (.cmp .gt (.bi .len (.cons (.var 2) .nil)) (.var 1))) (.tr (.bi .any (.cons (.comp [3] (.n 3) (.seq (.var 2)) .none (.cmp .notin (.var 3) (.lit (.str "0123456789")))) .nil))))) (.cons (.ret (.lit .non)) .nil) .nil) (.cons (.ite (.and (.v (.cmp .eq (.idx (.var 2) (.lit (.int (0)))) (.lit (.str "0")))) (.v (.cmp .ne (.var 0) (.lit (.str "0"))))) (.cons (.ret (.lit .non)) .nil) .nil) (.cons (.ret (.bi .int (.cons (.var 0) .nil))) .nil))))
def f_integer_of : PFn := ⟨"integer_of", defArgs s_integer_of, defBody s_integer_of, defScope s_integer_of, ["text", "most"], ["text", "most", "figures", "sign"], [], ir_integer_of⟩
def ir_integers_of : Ss := (.cons (.ret (.comp [3] (.n 3) (.seq (.me .split (.var 0) (.cons (.var 1) .nil))) .none (.call 13 [.a 0, .a 1] (.cons (.var 3) (.cons (.var 2) .nil))))) .nil)
def f_integers_of : PFn := ⟨"integers_of", defArgs s_integers_of, defBody s_integers_of, defScope s_integers_of, ["text", "between", "most"], ["text", "between", "most", "part"], [], ir_integers_of⟩
def ir_state_in : Ss := (.cons (.asg (.t (.cons (.n 1) (.cons (.n 2) (.cons (.n 3) .nil)))) (.me .partition (.var 0) (.cons (.lit (.str ": ")) .nil))) (.cons (.par 4 5 (.call 13 [.a 0, .a 1] (.cons (.var 1) (.cons (.lit (.int (30))) .nil))) (.call 14 [.a 0, .a 1, .a 2] (.cons (.var 3) (.cons (.lit (.str " ")) (.cons (.lit (.int (30))) .nil))))) (.cons (.ret (.ite (.or (.v (.cmp .eq (.var 2) (.lit (.str "")))) (.or (.v (.cmp .is_ (.var 4) (.lit .non))) (.v (.cmp .in_ (.lit .non) (.var 5))))) (.lit .non) (.tup (.cons (.var 4) (.cons (.bi .tuple (.cons (.var 5) .nil)) .nil))))) .nil)))
def f_state_in : PFn := ⟨"state_in", defArgs s_state_in, defBody s_state_in, defScope s_state_in, ["text"], ["text", "head", "mark", "rest", "choice", "nexts"], [], ir_state_in⟩
def ir_states_in : Ss := (.cons (.asg (.n 1) (.bi .tuple (.cons (.comp [2] (.n 2) (.seq (.me .split (.var 0) (.cons (.lit (.str " ; ")) .nil))) .none (.call 15 [.a 0] (.cons (.var 2) .nil))) .nil))) (.cons (.ret (.ite (.v (.cmp .in_ (.lit .non) (.var 1))) (.lit .non) (.var 1))) .nil))
def f_states_in : PFn := ⟨"states_in", defArgs s_states_in, defBody s_states_in, defScope s_states_in, ["text"], ["text", "found", "part"], [], ir_states_in⟩
def ir_machine_in : Ss := (.cons (.asg (.n 3) (.call 16 [.a 0] (.cons (.var 2) .nil))) (.cons (.ret (.ite (.and (.v (.cmp .isnot (.var 3) (.lit .non))) (.tr (.call 12 [.a 0, .a 1, .a 2, .c (.int (400))] (.cons (.var 0) (.cons (.var 1) (.cons (.var 3) .nil)))))) (.var 3) (.lit .non))) .nil))
def f_machine_in : PFn := ⟨"machine_in", defArgs s_machine_in, defBody s_machine_in, defScope s_machine_in, ["game", "side", "text"], ["game", "side", "text", "found"], [], ir_machine_in⟩
def ir_read_machine : Ss := (.cons (.expr (.call 8 [.a 0] (.cons (.var 0) .nil))) (.cons (.expr (.call 9 [.a 0] (.cons (.var 1) .nil))) (.cons (.asg (.n 3) (.ite (.tr (.bi .isin (.cons (.var 2) (.cons (.lit (.ty "str")) .nil)))) (.call 17 [.a 0, .a 1, .a 2] (.cons (.var 0) (.cons (.var 1) (.cons (.var 2) .nil)))) (.lit .non))) (.cons (.ite (.v (.cmp .is_ (.var 3) (.lit .non))) (.cons .never .nil) .nil) (.cons (.ret (.var 3)) .nil)))))
def f_read_machine : PFn := ⟨"read_machine", defArgs s_read_machine, defBody s_read_machine, defScope s_read_machine, ["game", "side", "text"], ["game", "side", "text", "found"], [], ir_read_machine⟩
def ir_show_fraction : Ss := (.cons (.asg (.t (.cons (.n 1) (.cons (.n 2) .nil))) (.var 0)) (.cons (.ret (.ite (.v (.cmp .eq (.var 2) (.lit (.int (1))))) (.bi .str (.cons (.var 1) .nil)) (.fs (.cons (.var 1) (.cons (.lit (.str "/")) (.cons (.var 2) .nil)))))) .nil))
def f_show_fraction : PFn := ⟨"show_fraction", defArgs s_show_fraction, defBody s_show_fraction, defScope s_show_fraction, ["fraction"], ["fraction", "above", "below"], [], ir_show_fraction⟩
def ir_show_state : Ss := (.cons (.asg (.t (.cons (.n 1) (.cons (.n 2) .nil))) (.var 0)) (.cons (.asg (.n 3) (.me .join (.lit (.str " ")) (.cons (.comp [4] (.n 4) (.seq (.var 2)) .none (.bi .str (.cons (.var 4) .nil))) .nil))) (.cons (.ret (.fs (.cons (.var 1) (.cons (.lit (.str ": ")) (.cons (.var 3) .nil))))) .nil)))
def f_show_state : PFn := ⟨"show_state", defArgs s_show_state, defBody s_show_state, defScope s_show_state, ["state"], ["state", "choice", "nexts", "shown", "number"], [], ir_show_state⟩
def ir_show_machine : Ss := (.cons (.ret (.me .join (.lit (.str " ; ")) (.cons (.comp [1] (.n 1) (.seq (.var 0)) .none (.call 20 [.a 0] (.cons (.var 1) .nil))) .nil))) .nil)
def f_show_machine : PFn := ⟨"show_machine", defArgs s_show_machine, defBody s_show_machine, defScope s_show_machine, ["machine"], ["machine", "state"], [], ir_show_machine⟩
def ir_show_outcomes : Ss := (.cons (.ret (.ite (.v (.cmp .eq (.bi .len (.cons (.var 0) .nil)) (.lit (.int (0))))) (.lit (.str "-")) (.me .join (.lit (.str " ")) (.cons (.comp [1, 2] (.t (.cons (.n 1) (.cons (.n 2) .nil))) (.seq (.var 0)) .none (.fs (.cons (.var 1) (.cons (.lit (.str "/")) (.cons (.var 2) .nil))))) .nil)))) .nil)
def f_show_outcomes : PFn := ⟨"show_outcomes", defArgs s_show_outcomes, defBody s_show_outcomes, defScope s_show_outcomes, ["outcomes"], ["outcomes", "row", "column"], [], ir_show_outcomes⟩
def ir_show_play : Ss := (.cons (.asg (.t (.cons (.n 1) (.cons (.n 2) .nil))) (.var 0)) (.cons (.ret (.fs (.cons (.call 22 [.a 0] (.cons (.var 1) .nil)) (.cons (.lit (.str " | ")) (.cons (.call 22 [.a 0] (.cons (.var 2) .nil)) .nil))))) .nil))
def f_show_play : PFn := ⟨"show_play", defArgs s_show_play, defBody s_show_play, defScope s_show_play, ["play"], ["play", "tail", "ring"], [], ir_show_play⟩
def ir__law_deck : Ss := (.cons (.asg (.n 2) (.ite (.v (.cmp .lt (.var 1) (.bi .len (.cons (.var 0) .nil)))) (.bi .int (.cons (.idx (.var 0) (.var 1)) .nil)) (.bin .add (.bin .mul (.lit (.int (53))) (.var 1)) (.lit (.int (29)))))) (.cons (.asg (.n 3) (.bin .add (.lit (.int (11))) (.bi .len (.cons (.var 0) .nil)))) (.cons (.for_ (.n 4) (.seq (.var 0)) (.cons (.asg (.n 3) (.bin .mod (.bi .int (.cons (.bin .add (.bin .mul (.var 3) (.lit (.int (7411)))) (.bin .mod (.bi .int (.cons (.var 4) .nil)) (.bin .add (.bin .pow (.lit (.int (10))) (.lit (.int (20)))) (.lit (.int (39)))))) .nil)) (.bin .add (.bin .pow (.lit (.int (10))) (.lit (.int (26)))) (.lit (.int (67)))))) .nil) [4]) (.cons (.asg (.n 5) (.bin .mod (.bi .int (.cons (.bin .add (.bin .add (.bin .add (.bin .mul (.bi .abs (.cons (.var 2) .nil)) (.lit (.int (6389)))) (.bin .mul (.var 3) (.lit (.int (23))))) (.bin .mul (.lit (.int (5))) (.bi .int (.cons (.cmp .lt (.var 2) (.lit (.int (0)))) .nil)))) (.bin .mul (.lit (.int (97))) (.var 1))) .nil)) (.bin .add (.bin .pow (.lit (.int (10))) (.lit (.int (29)))) (.lit (.int (319)))))) (.cons (.ret (.lst (.cons (.bi .max (.cons (.lit (.int (0))) (.cons (.bin .sub (.var 2) (.bin .pow (.lit (.int (10))) (.lit (.int (18))))) .nil))) (.cons (.var 5) (.cons (.lit (.int (0))) .nil))))) .nil)))))
def f__law_deck : PFn := ⟨"_law_deck", defArgs s__law_deck, defBody s__law_deck, defScope s__law_deck, ["script", "k"], ["script", "k", "cell", "whole", "part", "mixed"], [(117, [4])], ir__law_deck⟩
def ir__law_take : Ss := (.cons (.ite (.v (.cmp .gt (.idx (.var 0) (.lit (.int (0)))) (.lit (.int (0))))) (.cons (.asg (.n 2) (.bin .mod (.bi .int (.cons (.idx (.var 0) (.lit (.int (0)))) .nil)) (.var 1))) (.cons (.setix (.var 0) (.lit (.int (0))) (.bin .fdiv (.idx (.var 0) (.lit (.int (0)))) (.var 1))) (.cons (.ret (.var 2)) .nil))) .nil) (.cons (.setix (.var 0) (.lit (.int (2))) (.bin .add (.idx (.var 0) (.lit (.int (2)))) (.lit (.int (1))))) (.cons (.asg (.n 3) (.bin .mul (.bin .mul (.idx (.var 0) (.lit (.int (2)))) (.idx (.var 0) (.lit (.int (2))))) (.idx (.var 0) (.lit (.int (2)))))) (.cons (.asg (.n 4) (.bin .mod (.bi .int (.cons (.bin .add (.bin .mul (.bin .mul (.bin .add (.idx (.var 0) (.lit (.int (1)))) (.lit (.int (17)))) (.bin .add (.idx (.var 0) (.lit (.int (2)))) (.lit (.int (2))))) (.lit (.int (1000000007)))) (.bin .mul (.var 3) (.lit (.int (777767777))))) .nil)) (.bin .add (.bin .pow (.lit (.int (10))) (.lit (.int (30)))) (.lit (.int (57)))))) (.cons (.asg (.n 4) (.bin .mod (.bi .int (.cons (.bin .add (.bin .add (.bin .mul (.var 4) (.var 4)) (.bin .mul (.idx (.var 0) (.lit (.int (1)))) (.lit (.int (3))))) (.idx (.var 0) (.lit (.int (2))))) .nil)) (.bin .add (.bin .pow (.lit (.int (10))) (.lit (.int (31)))) (.lit (.int (33)))))) (.cons (.asg (.n 4) (.bin .mod (.bi .int (.cons (.bin .add (.bin .mul (.bin .mul (.var 4) (.var 4)) (.lit (.int (5)))) (.var 4)) .nil)) (.bin .add (.bin .pow (.lit (.int (10))) (.lit (.int (32)))) (.lit (.int (49)))))) (.cons (.ret (.bin .mod (.bi .int (.cons (.bin .fdiv (.var 4) (.lit (.int (99991)))) .nil)) (.var 1))) .nil)))))))
def f__law_take : PFn := ⟨"_law_take", defArgs s__law_take, defBody s__law_take, defScope s__law_take, ["deck", "many"], ["deck", "many", "found", "cube", "turned"], [], ir__law_take⟩
def ir__law_game : Ss := (.cons (.asg (.t (.cons (.n 2) (.cons (.n 3) .nil))) (.tup (.cons (.bin .add (.lit (.int (1))) (.call 25 [.a 0, .a 1] (.cons (.var 0) (.cons (.var 1) .nil)))) (.cons (.bin .add (.lit (.int (1))) (.call 25 [.a 0, .a 1] (.cons (.var 0) (.cons (.var 1) .nil)))) .nil)))) (.cons (.asg (.t (.cons (.n 4) (.cons (.n 5) .nil))) (.idx (.lst (.cons (.tup (.cons (.lit (.int (0))) (.cons (.lit (.int (2))) .nil))) (.cons (.tup (.cons (.neg (.lit (.int (1)))) (.cons (.lit (.int (4))) .nil))) (.cons (.tup (.cons (.neg (.lit (.int (1000)))) (.cons (.lit (.int (2001))) .nil))) .nil)))) (.call 25 [.a 0, .a 1] (.cons (.var 0) (.cons (.lit (.int (3))) .nil))))) (.cons (.asg (.n 6) (.bi .tuple (.cons (.comp [8] (.n 8) (.rng1 (.var 2)) .none (.bi .tuple (.cons (.comp [7] (.n 7) (.rng1 (.var 3)) .none (.bin .add (.var 4) (.call 25 [.a 0, .a 1] (.cons (.var 0) (.cons (.var 5) .nil))))) .nil))) .nil))) (.cons (.asg (.n 9) (.bi .tuple (.cons (.comp [8] (.n 8) (.rng1 (.var 2)) .none (.bi .tuple (.cons (.comp [7] (.n 7) (.rng1 (.var 3)) .none (.bin .add (.var 4) (.call 25 [.a 0, .a 1] (.cons (.var 0) (.cons (.var 5) .nil))))) .nil))) .nil))) (.cons (.ret (.tup (.cons (.var 6) (.cons (.var 9) .nil)))) .nil)))))
def f__law_game : PFn := ⟨"_law_game", defArgs s__law_game, defBody s__law_game, defScope s__law_game, ["deck", "most"], ["deck", "most", "rows", "columns", "low", "wide", "first", "column", "row", "second"], [], ir__law_game⟩
def ir__law_any_machine : Ss := (.cons (.asg (.n 4) (.lst .nil)) (.cons (.for_ (.n 5) (.rng1 (.var 3)) (.cons (.expr (.me .append (.var 4) (.cons (.tup (.cons (.call 25 [.a 0, .a 1] (.cons (.var 0) (.cons (.var 1) .nil))) (.cons (.bi .tuple (.cons (.comp [6] (.n 6) (.rng1 (.var 2)) .none (.call 25 [.a 0, .a 1] (.cons (.var 0) (.cons (.var 3) .nil)))) .nil)) .nil))) .nil))) .nil) [5, 6]) (.cons (.ret (.bi .tuple (.cons (.var 4) .nil))) .nil)))
def f__law_any_machine : PFn := ⟨"_law_any_machine", defArgs s__law_any_machine, defBody s__law_any_machine, defScope s__law_any_machine, ["deck", "own", "others", "many"], ["deck", "own", "others", "many", "states", "turn", "seen"], [(140, [5, 6])], ir__law_any_machine⟩
def ir__law_text : Ss := (.cons (.ret (.me .join (.lit (.str " ; ")) (.cons (.comp [2, 3] (.t (.cons (.n 2) (.cons (.n 3) .nil))) (.seq (.var 0)) .none (.bin .add (.fs (.cons (.var 2) (.cons (.lit (.str ": ")) .nil))) (.me .join (.lit (.str " ")) (.cons (.comp [1] (.n 1) (.seq (.var 3)) .none (.bi .str (.cons (.var 1) .nil))) .nil)))) .nil))) .nil)
def f__law_text : PFn := ⟨"_law_text", defArgs s__law_text, defBody s__law_text, defScope s__law_text, ["machine"], ["machine", "after", "choice", "nexts"], [], ir__law_text⟩
def ir__law_same : Ss := (.cons (.ite (.tr (.bi .isin (.cons (.var 1) (.cons (.lit (.ty "tuple")) .nil)))) (.cons (.ite (.or (.not (.tr (.bi .isin (.cons (.var 0) (.cons (.lit (.ty "tuple")) .nil))))) (.v (.cmp .ne (.bi .len (.cons (.var 0) .nil)) (.bi .len (.cons (.var 1) .nil))))) (.cons (.ret (.lit (.bl false))) .nil) .nil) (.cons (.ret (.bi .all (.cons (.comp [2] (.n 2) (.rng1 (.bi .len (.cons (.var 1) .nil))) .none (.call 29 [.a 0, .a 1] (.cons (.idx (.var 0) (.var 2)) (.cons (.idx (.var 1) (.var 2)) .nil)))) .nil))) .nil)) .nil) (.cons (.ret (.band (.bi .isin (.cons (.var 0) (.cons (.lit (.ty "int")) .nil))) (.band (.bnot (.bi .isin (.cons (.var 0) (.cons (.lit (.ty "bool")) .nil)))) (.cmp .eq (.var 0) (.var 1))))) .nil))
def f__law_same : PFn := ⟨"_law_same", defArgs s__law_same, defBody s__law_same, defScope s__law_same, ["found", "due"], ["found", "due", "at"], [], ir__law_same⟩
def ir__law_machine_right : Ss := (.cons (.asg (.n 4) (.ite (.v (.cmp .eq (.var 3) (.lit (.int (0))))) (.call 21 [.a 0] (.cons (.var 2) .nil)) (.call 21 [.a 0] (.cons (.var 2) .nil)))) (.cons (.asg (.n 5) (.call 28 [.a 0] (.cons (.var 2) .nil))) (.cons (.ite (.or (.not (.tr (.bi .isin (.cons (.var 4) (.cons (.lit (.ty "str")) .nil))))) (.v (.cmp .ne (.var 4) (.var 5)))) (.cons (.ret (.lit (.bl false))) .nil) .nil) (.cons (.asg (.n 6) (.ite (.v (.cmp .eq (.var 3) (.lit (.int (0))))) (.call 18 [.a 0, .a 1, .a 2] (.cons (.var 0) (.cons (.var 1) (.cons (.var 5) .nil)))) (.call 18 [.a 2, .a 1, .a 0] (.cons (.var 5) (.cons (.var 1) (.cons (.var 0) .nil)))))) (.cons (.ret (.call 29 [.a 0, .a 1] (.cons (.var 6) (.cons (.var 2) .nil)))) .nil)))))
def f__law_machine_right : PFn := ⟨"_law_machine_right", defArgs s__law_machine_right, defBody s__law_machine_right, defScope s__law_machine_right, ["game", "side", "machine", "way"], ["game", "side", "machine", "way", "text", "due", "found"], [], ir__law_machine_right⟩
def ir__law_outcomes : Ss := (.cons (.ret (.ite (.v (.cmp .gt (.bi .len (.cons (.var 0) .nil)) (.lit (.int (0))))) (.me .join (.lit (.str " ")) (.cons (.comp [1, 2] (.t (.cons (.n 1) (.cons (.n 2) .nil))) (.seq (.var 0)) .none (.fs (.cons (.var 1) (.cons (.lit (.str "/")) (.cons (.var 2) .nil))))) .nil)) (.lit (.str "-")))) .nil)
def f__law_outcomes : PFn := ⟨"_law_outcomes", defArgs s__law_outcomes, defBody s__law_outcomes, defScope s__law_outcomes, ["outcomes"], ["outcomes", "row", "column"], [], ir__law_outcomes⟩
def ir__law_play_right : Ss := (.cons (.asg (.n 3) (.bi .tuple (.cons (.comp [4] (.n 4) (.rng1 (.call 25 [.a 0, .a 1] (.cons (.var 0) (.cons (.lit (.int (13))) .nil)))) .none (.tup (.cons (.call 25 [.a 0, .a 1] (.cons (.var 0) (.cons (.var 1) .nil))) (.cons (.call 25 [.a 0, .a 1] (.cons (.var 0) (.cons (.var 2) .nil))) .nil)))) .nil))) (.cons (.asg (.n 5) (.bi .tuple (.cons (.comp [4] (.n 4) (.rng1 (.bin .add (.lit (.int (1))) (.call 25 [.a 0, .a 1] (.cons (.var 0) (.cons (.lit (.int (12))) .nil))))) .none (.tup (.cons (.call 25 [.a 0, .a 1] (.cons (.var 0) (.cons (.var 1) .nil))) (.cons (.call 25 [.a 0, .a 1] (.cons (.var 0) (.cons (.var 2) .nil))) .nil)))) .nil))) (.cons (.asg (.n 6) (.bin .add (.bin .add (.call 31 [.a 0] (.cons (.var 3) .nil)) (.lit (.str " | "))) (.call 31 [.a 0] (.cons (.var 5) .nil)))) (.cons (.par 7 8 (.call 23 [.a 0] (.cons (.tup (.cons (.var 3) (.cons (.var 5) .nil))) .nil)) (.call 23 [.a 0] (.cons (.tup (.cons (.tup .nil) (.cons (.var 5) .nil))) .nil))) (.cons (.ret (.band (.bi .isin (.cons (.var 7) (.cons (.lit (.ty "str")) .nil))) (.band (.cmp .eq (.var 7) (.var 6)) (.band (.bi .isin (.cons (.var 8) (.cons (.lit (.ty "str")) .nil))) (.cmp .eq (.var 8) (.bin .add (.lit (.str "- | ")) (.call 31 [.a 0] (.cons (.var 5) .nil)))))))) .nil)))))
def f__law_play_right : PFn := ⟨"_law_play_right", defArgs s__law_play_right, defBody s__law_play_right, defScope s__law_play_right, ["deck", "rows", "columns"], ["deck", "rows", "columns", "tail", "turn", "ring", "due", "found", "known"], [], ir__law_play_right⟩
def ir__law_changed : Ss := (.cons (.asg (.n 3) (.call 25 [.a 0, .a 1] (.cons (.var 0) (.cons (.bi .len (.cons (.var 1) .nil)) .nil)))) (.cons (.asg (.t (.cons (.n 4) (.cons (.n 5) .nil))) (.idx (.var 1) (.var 3))) (.cons (.ite (.v (.cmp .eq (.call 25 [.a 0, .a 1] (.cons (.var 0) (.cons (.lit (.int (2))) .nil))) (.lit (.int (0))))) (.cons (.ret (.bin .add (.bin .add (.sl (.var 1) .none (.some (.var 3))) (.tup (.cons (.tup (.cons (.bin .mod (.bi .int (.cons (.bin .add (.var 4) (.lit (.int (1)))) .nil)) (.var 2)) (.cons (.var 5) .nil))) .nil))) (.sl (.var 1) (.some (.bin .add (.var 3) (.lit (.int (1))))) .none))) .nil) .nil) (.cons (.asg (.n 6) (.call 25 [.a 0, .a 1] (.cons (.var 0) (.cons (.bi .len (.cons (.var 5) .nil)) .nil)))) (.cons (.asg (.n 7) (.bin .mod (.bi .int (.cons (.bin .add (.idx (.var 5) (.var 6)) (.lit (.int (1)))) .nil)) (.bi .len (.cons (.var 1) .nil)))) (.cons (.ret (.bin .add (.bin .add (.sl (.var 1) .none (.some (.var 3))) (.tup (.cons (.tup (.cons (.var 4) (.cons (.bin .add (.bin .add (.sl (.var 5) .none (.some (.var 6))) (.tup (.cons (.var 7) .nil))) (.sl (.var 5) (.some (.bin .add (.var 6) (.lit (.int (1))))) .none)) .nil))) .nil))) (.sl (.var 1) (.some (.bin .add (.var 3) (.lit (.int (1))))) .none))) .nil))))))
def f__law_changed : PFn := ⟨"_law_changed", defArgs s__law_changed, defBody s__law_changed, defScope s__law_changed, ["deck", "machine", "own"], ["deck", "machine", "own", "at", "choice", "nexts", "seen", "after"], [], ir__law_changed⟩
def ir__law_great_right : Ss := (.cons (.asg (.n 1) (.call 27 [.a 0, .a 1, .a 2, .a 3] (.cons (.var 0) (.cons (.bin .add (.lit (.int (1))) (.call 25 [.a 0, .a 1] (.cons (.var 0) (.cons (.lit (.int (5))) .nil)))) (.cons (.bin .add (.lit (.int (1))) (.call 25 [.a 0, .a 1] (.cons (.var 0) (.cons (.lit (.int (5))) .nil)))) (.cons (.bin .add (.lit (.int (390))) (.call 25 [.a 0, .a 1] (.cons (.var 0) (.cons (.lit (.int (11))) .nil)))) .nil)))))) (.cons (.asg (.n 2) (.idx (.lst (.cons (.lit (.int (1))) (.cons (.lit (.int (30))) (.cons (.lit (.int (299))) (.cons (.lit (.int (301))) (.cons (.lit (.int (900))) (.cons (.lit (.int (3999))) .nil))))))) (.call 25 [.a 0, .a 1] (.cons (.var 0) (.cons (.lit (.int (6))) .nil))))) (.cons (.par 3 4 (.bi .int (.cons (.bin .add (.bin .mul (.lit (.str "1")) (.var 2)) (.lit (.str "0"))) .nil)) (.bin .add (.lit (.int (1))) (.bin .mul (.lit (.int (10))) (.call 25 [.a 0, .a 1] (.cons (.var 0) (.cons (.lit (.int (2))) .nil)))))) (.cons (.ite (.v (.cmp .eq (.var 4) (.lit (.int (11))))) (.cons (.asg (.n 3) (.bin .add (.bin .sub (.var 3) (.bin .mod (.bi .int (.cons (.var 3) .nil)) (.lit (.int (11))))) (.lit (.int (1))))) .nil) .nil) (.cons (.asg (.n 5) (.ite (.v (.cmp .eq (.var 4) (.lit (.int (1))))) (.bi .str (.cons (.var 3) .nil)) (.fs (.cons (.var 3) (.cons (.lit (.str "/")) (.cons (.var 4) .nil)))))) (.cons (.ite (.or (.not (.tr (.bi .isin (.cons (.call 19 [.a 0] (.cons (.tup (.cons (.neg (.var 3)) (.cons (.var 4) .nil))) .nil)) (.cons (.lit (.ty "str")) .nil))))) (.v (.cmp .ne (.call 19 [.a 0] (.cons (.tup (.cons (.neg (.var 3)) (.cons (.var 4) .nil))) .nil)) (.bin .add (.lit (.str "-")) (.var 5))))) (.cons (.ret (.lit (.bl false))) .nil) .nil) (.cons (.ret (.band (.cmp .eq (.call 21 [.a 0] (.cons (.var 1) .nil)) (.call 28 [.a 0] (.cons (.var 1) .nil))) (.cmp .eq (.call 19 [.a 0] (.cons (.tup (.cons (.var 3) (.cons (.var 4) .nil))) .nil)) (.var 5)))) .nil)))))))
def f__law_great_right : PFn := ⟨"_law_great_right", defArgs s__law_great_right, defBody s__law_great_right, defScope s__law_great_right, ["deck"], ["deck", "machine", "figures", "above", "below", "due"], [], ir__law_great_right⟩
def ir_law : Ss := (.cons (.for_ (.n 1) (.rng1 (.bi .max (.cons (.lit (.int (1))) (.cons (.bi .min (.cons (.lit (.int (6))) (.cons (.bi .len (.cons (.var 0) .nil)) .nil))) .nil)))) (.cons (.asg (.n 2) (.call 24 [.a 0, .a 1] (.cons (.var 0) (.cons (.var 1) .nil)))) (.cons (.ite (.and (.v (.cmp .eq (.var 1) (.lit (.int (0))))) (.not (.tr (.call 34 [.a 0] (.cons (.var 2) .nil))))) (.cons (.ret (.lit (.bl false))) .nil) .nil) (.cons (.for_ (.n 3) (.rng1 (.lit (.int (4)))) (.cons (.par 4 5 (.call 26 [.a 0, .a 1] (.cons (.var 2) (.cons (.lit (.int (5))) .nil))) (.call 25 [.a 0, .a 1] (.cons (.var 2) (.cons (.lit (.int (2))) .nil)))) (.cons (.par 6 7 (.bi .len (.cons (.idx (.var 4) (.lit (.int (0)))) .nil)) (.bi .len (.cons (.idx (.idx (.var 4) (.lit (.int (0)))) (.lit (.int (0)))) .nil))) (.cons (.asg (.t (.cons (.n 8) (.cons (.n 9) .nil))) (.ite (.v (.cmp .eq (.var 5) (.lit (.int (0))))) (.tup (.cons (.var 6) (.cons (.var 7) .nil))) (.tup (.cons (.var 7) (.cons (.var 6) .nil))))) (.cons (.asg (.n 10) (.bin .add (.lit (.int (1))) (.call 25 [.a 0, .a 1] (.cons (.var 2) (.cons (.idx (.lst (.cons (.lit (.int (1))) (.cons (.lit (.int (3))) (.cons (.lit (.int (12))) (.cons (.lit (.int (12))) .nil))))) (.call 25 [.a 0, .a 1] (.cons (.var 2) (.cons (.lit (.int (4))) .nil)))) .nil))))) (.cons (.ite (.v (.cmp .eq (.call 25 [.a 0, .a 1] (.cons (.var 2) (.cons (.lit (.int (12))) .nil))) (.lit (.int (0))))) (.cons (.asg (.n 10) (.bin .add (.lit (.int (100))) (.call 25 [.a 0, .a 1] (.cons (.var 2) (.cons (.lit (.int (60))) .nil))))) .nil) .nil) (.cons (.asg (.n 11) (.call 27 [.a 0, .a 1, .a 2, .a 3] (.cons (.var 2) (.cons (.var 8) (.cons (.var 9) (.cons (.var 10) .nil)))))) (.cons (.asg (.n 12) (.call 33 [.a 0, .a 1, .a 2] (.cons (.var 2) (.cons (.var 11) (.cons (.var 8) .nil))))) (.cons (.ite (.not (.tr (.call 30 [.a 0, .a 1, .a 2, .a 3] (.cons (.var 4) (.cons (.var 5) (.cons (.var 11) (.cons (.call 25 [.a 0, .a 1] (.cons (.var 2) (.cons (.lit (.int (2))) .nil))) .nil))))))) (.cons (.ret (.lit (.bl false))) .nil) .nil) (.cons (.ite (.not (.tr (.call 30 [.a 0, .a 1, .a 2, .a 3] (.cons (.var 4) (.cons (.var 5) (.cons (.var 12) (.cons (.call 25 [.a 0, .a 1] (.cons (.var 2) (.cons (.lit (.int (2))) .nil))) .nil))))))) (.cons (.ret (.lit (.bl false))) .nil) .nil) (.cons (.ite (.v (.cmp .ne (.cmp .eq (.call 21 [.a 0] (.cons (.var 11) .nil)) (.call 21 [.a 0] (.cons (.var 12) .nil))) (.cmp .eq (.var 11) (.var 12)))) (.cons (.ret (.lit (.bl false))) .nil) .nil) (.cons (.ite (.not (.tr (.call 32 [.a 0, .a 1, .a 2] (.cons (.var 2) (.cons (.var 6) (.cons (.var 7) .nil)))))) (.cons (.ret (.lit (.bl false))) .nil) .nil) .nil))))))))))) [3, 4, 5, 6, 7, 8, 9, 10, 11, 12]) .nil))) [1, 2, 3, 4, 5, 6, 7, 8, 9, 10, 11, 12]) (.cons (.ret (.lit (.bl true))) .nil))
def f_law : PFn := ⟨"law", defArgs s_law, defBody s_law, defScope s_law, ["script"], ["script", "k", "deck", "turn", "game", "side", "rows", "columns", "own", "others", "many", "machine", "other"], [(185, [1, 2, 3, 4, 5, 6, 7, 8, 9, 10, 11, 12]), (189, [3, 4, 5, 6, 7, 8, 9, 10, 11, 12])], ir_law⟩
def fns : List PFn := [f_is_integer, f_is_within, f_is_a_row, f_is_a_table, f_are_tables_like, f_is_a_game, f_is_a_side, f_many_of, f_need_game, f_need_side, f_are_indexes, f_is_a_state, f_is_a_machine, f_integer_of, f_integers_of, f_state_in, f_states_in, f_machine_in, f_read_machine, f_show_fraction, f_show_state, f_show_machine, f_show_outcomes, f_show_play, f__law_deck, f__law_take, f__law_game, f__law_any_machine, f__law_text, f__law_same, f__law_machine_right, f__law_outcomes, f__law_play_right, f__law_changed, f__law_great_right, f_law]
def pd : PD := ⟨fns, shapes, cons, 1000000⟩
theorem w_is_integer : FnWell pd f_is_integer := ⟨⟨rfl, rfl, rfl, by decide +kernel, rfl, by decide +kernel, by decide +kernel⟩, by kernel_rfl⟩
theorem w_is_within : FnWell pd f_is_within := ⟨⟨rfl, rfl, rfl, by decide +kernel, rfl, by decide +kernel, by decide +kernel⟩, by kernel_rfl⟩
theorem w_is_a_row : FnWell pd f_is_a_row := ⟨⟨rfl, rfl, rfl, by decide +kernel, rfl, by decide +kernel, by decide +kernel⟩, by kernel_rfl⟩
theorem w_is_a_table : FnWell pd f_is_a_table := ⟨⟨rfl, rfl, rfl, by decide +kernel, rfl, by decide +kernel, by decide +kernel⟩, by kernel_rfl⟩
theorem w_are_tables_like : FnWell pd f_are_tables_like := ⟨⟨rfl, rfl, rfl, by decide +kernel, rfl, by decide +kernel, by decide +kernel⟩, by kernel_rfl⟩
theorem w_is_a_game : FnWell pd f_is_a_game := ⟨⟨rfl, rfl, rfl, by decide +kernel, rfl, by decide +kernel, by decide +kernel⟩, by kernel_rfl⟩
theorem w_is_a_side : FnWell pd f_is_a_side := ⟨⟨rfl, rfl, rfl, by decide +kernel, rfl, by decide +kernel, by decide +kernel⟩, by kernel_rfl⟩
theorem w_many_of : FnWell pd f_many_of := ⟨⟨rfl, rfl, rfl, by decide +kernel, rfl, by decide +kernel, by decide +kernel⟩, by kernel_rfl⟩
theorem w_need_game : FnWell pd f_need_game := ⟨⟨rfl, rfl, rfl, by decide +kernel, rfl, by decide +kernel, by decide +kernel⟩, by kernel_rfl⟩
theorem w_need_side : FnWell pd f_need_side := ⟨⟨rfl, rfl, rfl, by decide +kernel, rfl, by decide +kernel, by decide +kernel⟩, by kernel_rfl⟩
theorem w_are_indexes : FnWell pd f_are_indexes := ⟨⟨rfl, rfl, rfl, by decide +kernel, rfl, by decide +kernel, by decide +kernel⟩, by kernel_rfl⟩
theorem w_is_a_state : FnWell pd f_is_a_state := ⟨⟨rfl, rfl, rfl, by decide +kernel, rfl, by decide +kernel, by decide +kernel⟩, by kernel_rfl⟩
theorem w_is_a_machine : FnWell pd f_is_a_machine := ⟨⟨rfl, rfl, rfl, by decide +kernel, rfl, by decide +kernel, by decide +kernel⟩, by kernel_rfl⟩
theorem w_integer_of : FnWell pd f_integer_of := ⟨⟨rfl, rfl, rfl, by decide +kernel, rfl, by decide +kernel, by decide +kernel⟩, by kernel_rfl⟩
theorem w_integers_of : FnWell pd f_integers_of := ⟨⟨rfl, rfl, rfl, by decide +kernel, rfl, by decide +kernel, by decide +kernel⟩, by kernel_rfl⟩
theorem w_state_in : FnWell pd f_state_in := ⟨⟨rfl, rfl, rfl, by decide +kernel, rfl, by decide +kernel, by decide +kernel⟩, by kernel_rfl⟩
theorem w_states_in : FnWell pd f_states_in := ⟨⟨rfl, rfl, rfl, by decide +kernel, rfl, by decide +kernel, by decide +kernel⟩, by kernel_rfl⟩
theorem w_machine_in : FnWell pd f_machine_in := ⟨⟨rfl, rfl, rfl, by decide +kernel, rfl, by decide +kernel, by decide +kernel⟩, by kernel_rfl⟩
theorem w_read_machine : FnWell pd f_read_machine := ⟨⟨rfl, rfl, rfl, by decide +kernel, rfl, by decide +kernel, by decide +kernel⟩, by kernel_rfl⟩
theorem w_show_fraction : FnWell pd f_show_fraction := ⟨⟨rfl, rfl, rfl, by decide +kernel, rfl, by decide +kernel, by decide +kernel⟩, by kernel_rfl⟩
theorem w_show_state : FnWell pd f_show_state := ⟨⟨rfl, rfl, rfl, by decide +kernel, rfl, by decide +kernel, by decide +kernel⟩, by kernel_rfl⟩
theorem w_show_machine : FnWell pd f_show_machine := ⟨⟨rfl, rfl, rfl, by decide +kernel, rfl, by decide +kernel, by decide +kernel⟩, by kernel_rfl⟩
theorem w_show_outcomes : FnWell pd f_show_outcomes := ⟨⟨rfl, rfl, rfl, by decide +kernel, rfl, by decide +kernel, by decide +kernel⟩, by kernel_rfl⟩
theorem w_show_play : FnWell pd f_show_play := ⟨⟨rfl, rfl, rfl, by decide +kernel, rfl, by decide +kernel, by decide +kernel⟩, by kernel_rfl⟩
theorem w__law_deck : FnWell pd f__law_deck := ⟨⟨rfl, rfl, rfl, by decide +kernel, rfl, by decide +kernel, by decide +kernel⟩, by kernel_rfl⟩
theorem w__law_take : FnWell pd f__law_take := ⟨⟨rfl, rfl, rfl, by decide +kernel, rfl, by decide +kernel, by decide +kernel⟩, by kernel_rfl⟩
theorem w__law_game : FnWell pd f__law_game := ⟨⟨rfl, rfl, rfl, by decide +kernel, rfl, by decide +kernel, by decide +kernel⟩, by kernel_rfl⟩
theorem w__law_any_machine : FnWell pd f__law_any_machine := ⟨⟨rfl, rfl, rfl, by decide +kernel, rfl, by decide +kernel, by decide +kernel⟩, by kernel_rfl⟩
theorem w__law_text : FnWell pd f__law_text := ⟨⟨rfl, rfl, rfl, by decide +kernel, rfl, by decide +kernel, by decide +kernel⟩, by kernel_rfl⟩
theorem w__law_same : FnWell pd f__law_same := ⟨⟨rfl, rfl, rfl, by decide +kernel, rfl, by decide +kernel, by decide +kernel⟩, by kernel_rfl⟩
theorem w__law_machine_right : FnWell pd f__law_machine_right := ⟨⟨rfl, rfl, rfl, by decide +kernel, rfl, by decide +kernel, by decide +kernel⟩, by kernel_rfl⟩
theorem w__law_outcomes : FnWell pd f__law_outcomes := ⟨⟨rfl, rfl, rfl, by decide +kernel, rfl, by decide +kernel, by decide +kernel⟩, by kernel_rfl⟩
theorem w__law_play_right : FnWell pd f__law_play_right := ⟨⟨rfl, rfl, rfl, by decide +kernel, rfl, by decide +kernel, by decide +kernel⟩, by kernel_rfl⟩
theorem w__law_changed : FnWell pd f__law_changed := ⟨⟨rfl, rfl, rfl, by decide +kernel, rfl, by decide +kernel, by decide +kernel⟩, by kernel_rfl⟩
theorem w__law_great_right : FnWell pd f__law_great_right := ⟨⟨rfl, rfl, rfl, by decide +kernel, rfl, by decide +kernel, by decide +kernel⟩, by kernel_rfl⟩
theorem w_law : FnWell pd f_law := ⟨⟨rfl, rfl, rfl, by decide +kernel, rfl, by decide +kernel, by decide +kernel⟩, by kernel_rfl⟩
theorem well : ∀ (i : Nat) (f : PFn), pd.fns[i]? = some f → FnWell pd f := by
  intro i f h
  have key : ∀ f ∈ pd.fns, FnWell pd f := by
    intro f hf
    simp only [pd, fns, List.mem_cons, List.not_mem_nil, or_false] at hf
    rcases hf with rfl | rfl | rfl | rfl | rfl | rfl | rfl | rfl | rfl | rfl | rfl | rfl | rfl | rfl | rfl | rfl | rfl | rfl | rfl | rfl | rfl | rfl | rfl | rfl | rfl | rfl | rfl | rfl | rfl | rfl | rfl | rfl | rfl | rfl | rfl | rfl
    · exact w_is_integer
    · exact w_is_within
    · exact w_is_a_row
    · exact w_is_a_table
    · exact w_are_tables_like
    · exact w_is_a_game
    · exact w_is_a_side
    · exact w_many_of
    · exact w_need_game
    · exact w_need_side
    · exact w_are_indexes
    · exact w_is_a_state
    · exact w_is_a_machine
    · exact w_integer_of
    · exact w_integers_of
    · exact w_state_in
    · exact w_states_in
    · exact w_machine_in
    · exact w_read_machine
    · exact w_show_fraction
    · exact w_show_state
    · exact w_show_machine
    · exact w_show_outcomes
    · exact w_show_play
    · exact w__law_deck
    · exact w__law_take
    · exact w__law_game
    · exact w__law_any_machine
    · exact w__law_text
    · exact w__law_same
    · exact w__law_machine_right
    · exact w__law_outcomes
    · exact w__law_play_right
    · exact w__law_changed
    · exact w__law_great_right
    · exact w_law
  exact key f (List.mem_of_getElem? h)
abbrev lawIx : Nat := 35
end G85

set_option Elab.async false
set_option linter.all false
set_option maxRecDepth 100000
set_option maxHeartbeats 0
set_option autoImplicit false
namespace G85
open PySem L2 Ir PySem.Spec PyProof.Rows
def dflT : List (Str × List He.Dv) := [("is_a_machine", [.int (400)])]
theorem kbs_0 : ∀ (K : PySem.W.Frag) (fa : Addr) (fd : FuncData), FunD K f_is_integer.name f_is_integer.name f_is_integer.params f_is_integer.body f_is_integer.scope ((dflOf dflT f_is_integer.name).map (He.Dv.v K)) [] fa fd → ∃ g, KBn K fd f_is_integer.ps 1 [] g (fun vs zs => arrV [.a 0] (vs ++ zs)) :=
  fun K fa fd F => kb0 F 1 [] [.a 0] _ (fun xs => rfl) (fun kV doc pm an cdv ct us ws l1 l2 => match us, ws, l1, l2 with | [a0], [], _, _ => rfl)
theorem kbs_1 : ∀ (K : PySem.W.Frag) (fa : Addr) (fd : FuncData), FunD K f_is_within.name f_is_within.name f_is_within.params f_is_within.body f_is_within.scope ((dflOf dflT f_is_within.name).map (He.Dv.v K)) [] fa fd → ∃ g, KBn K fd f_is_within.ps 3 [] g (fun vs zs => arrV [.a 0, .a 1, .a 2] (vs ++ zs)) :=
  fun K fa fd F => kb0 F 3 [] [.a 0, .a 1, .a 2] _ (fun xs => rfl) (fun kV doc pm an cdv ct us ws l1 l2 => match us, ws, l1, l2 with | [a0, a1, a2], [], _, _ => rfl)
theorem kbs_2 : ∀ (K : PySem.W.Frag) (fa : Addr) (fd : FuncData), FunD K f_is_a_row.name f_is_a_row.name f_is_a_row.params f_is_a_row.body f_is_a_row.scope ((dflOf dflT f_is_a_row.name).map (He.Dv.v K)) [] fa fd → ∃ g, KBn K fd f_is_a_row.ps 2 [] g (fun vs zs => arrV [.a 0, .a 1] (vs ++ zs)) :=
  fun K fa fd F => kb0 F 2 [] [.a 0, .a 1] _ (fun xs => rfl) (fun kV doc pm an cdv ct us ws l1 l2 => match us, ws, l1, l2 with | [a0, a1], [], _, _ => rfl)
theorem kbs_3 : ∀ (K : PySem.W.Frag) (fa : Addr) (fd : FuncData), FunD K f_is_a_table.name f_is_a_table.name f_is_a_table.params f_is_a_table.body f_is_a_table.scope ((dflOf dflT f_is_a_table.name).map (He.Dv.v K)) [] fa fd → ∃ g, KBn K fd f_is_a_table.ps 1 [] g (fun vs zs => arrV [.a 0] (vs ++ zs)) :=
  fun K fa fd F => kb0 F 1 [] [.a 0] _ (fun xs => rfl) (fun kV doc pm an cdv ct us ws l1 l2 => match us, ws, l1, l2 with | [a0], [], _, _ => rfl)
theorem kbs_4 : ∀ (K : PySem.W.Frag) (fa : Addr) (fd : FuncData), FunD K f_are_tables_like.name f_are_tables_like.name f_are_tables_like.params f_are_tables_like.body f_are_tables_like.scope ((dflOf dflT f_are_tables_like.name).map (He.Dv.v K)) [] fa fd → ∃ g, KBn K fd f_are_tables_like.ps 3 [] g (fun vs zs => arrV [.a 0, .a 1, .a 2] (vs ++ zs)) :=
  fun K fa fd F => kb0 F 3 [] [.a 0, .a 1, .a 2] _ (fun xs => rfl) (fun kV doc pm an cdv ct us ws l1 l2 => match us, ws, l1, l2 with | [a0, a1, a2], [], _, _ => rfl)
theorem kbs_5 : ∀ (K : PySem.W.Frag) (fa : Addr) (fd : FuncData), FunD K f_is_a_game.name f_is_a_game.name f_is_a_game.params f_is_a_game.body f_is_a_game.scope ((dflOf dflT f_is_a_game.name).map (He.Dv.v K)) [] fa fd → ∃ g, KBn K fd f_is_a_game.ps 1 [] g (fun vs zs => arrV [.a 0] (vs ++ zs)) :=
  fun K fa fd F => kb0 F 1 [] [.a 0] _ (fun xs => rfl) (fun kV doc pm an cdv ct us ws l1 l2 => match us, ws, l1, l2 with | [a0], [], _, _ => rfl)
theorem kbs_6 : ∀ (K : PySem.W.Frag) (fa : Addr) (fd : FuncData), FunD K f_is_a_side.name f_is_a_side.name f_is_a_side.params f_is_a_side.body f_is_a_side.scope ((dflOf dflT f_is_a_side.name).map (He.Dv.v K)) [] fa fd → ∃ g, KBn K fd f_is_a_side.ps 1 [] g (fun vs zs => arrV [.a 0] (vs ++ zs)) :=
  fun K fa fd F => kb0 F 1 [] [.a 0] _ (fun xs => rfl) (fun kV doc pm an cdv ct us ws l1 l2 => match us, ws, l1, l2 with | [a0], [], _, _ => rfl)
theorem kbs_7 : ∀ (K : PySem.W.Frag) (fa : Addr) (fd : FuncData), FunD K f_are_indexes.name f_are_indexes.name f_are_indexes.params f_are_indexes.body f_are_indexes.scope ((dflOf dflT f_are_indexes.name).map (He.Dv.v K)) [] fa fd → ∃ g, KBn K fd f_are_indexes.ps 3 [] g (fun vs zs => arrV [.a 0, .a 1, .a 2] (vs ++ zs)) :=
  fun K fa fd F => kb0 F 3 [] [.a 0, .a 1, .a 2] _ (fun xs => rfl) (fun kV doc pm an cdv ct us ws l1 l2 => match us, ws, l1, l2 with | [a0, a1, a2], [], _, _ => rfl)
theorem kbs_8 : ∀ (K : PySem.W.Frag) (fa : Addr) (fd : FuncData), FunD K f_many_of.name f_many_of.name f_many_of.params f_many_of.body f_many_of.scope ((dflOf dflT f_many_of.name).map (He.Dv.v K)) [] fa fd → ∃ g, KBn K fd f_many_of.ps 2 [] g (fun vs zs => arrV [.a 0, .a 1] (vs ++ zs)) :=
  fun K fa fd F => kb0 F 2 [] [.a 0, .a 1] _ (fun xs => rfl) (fun kV doc pm an cdv ct us ws l1 l2 => match us, ws, l1, l2 with | [a0, a1], [], _, _ => rfl)
theorem kbs_9 : ∀ (K : PySem.W.Frag) (fa : Addr) (fd : FuncData), FunD K f_is_a_state.name f_is_a_state.name f_is_a_state.params f_is_a_state.body f_is_a_state.scope ((dflOf dflT f_is_a_state.name).map (He.Dv.v K)) [] fa fd → ∃ g, KBn K fd f_is_a_state.ps 4 [] g (fun vs zs => arrV [.a 0, .a 1, .a 2, .a 3] (vs ++ zs)) :=
  fun K fa fd F => kb0 F 4 [] [.a 0, .a 1, .a 2, .a 3] _ (fun xs => rfl) (fun kV doc pm an cdv ct us ws l1 l2 => match us, ws, l1, l2 with | [a0, a1, a2, a3], [], _, _ => rfl)
theorem kbs_10 : ∀ (K : PySem.W.Frag) (fa : Addr) (fd : FuncData), FunD K f_integer_of.name f_integer_of.name f_integer_of.params f_integer_of.body f_integer_of.scope ((dflOf dflT f_integer_of.name).map (He.Dv.v K)) [] fa fd → ∃ g, KBn K fd f_integer_of.ps 2 [] g (fun vs zs => arrV [.a 0, .a 1] (vs ++ zs)) :=
  fun K fa fd F => kb0 F 2 [] [.a 0, .a 1] _ (fun xs => rfl) (fun kV doc pm an cdv ct us ws l1 l2 => match us, ws, l1, l2 with | [a0, a1], [], _, _ => rfl)
theorem kbs_11 : ∀ (K : PySem.W.Frag) (fa : Addr) (fd : FuncData), FunD K f_integers_of.name f_integers_of.name f_integers_of.params f_integers_of.body f_integers_of.scope ((dflOf dflT f_integers_of.name).map (He.Dv.v K)) [] fa fd → ∃ g, KBn K fd f_integers_of.ps 3 [] g (fun vs zs => arrV [.a 0, .a 1, .a 2] (vs ++ zs)) :=
  fun K fa fd F => kb0 F 3 [] [.a 0, .a 1, .a 2] _ (fun xs => rfl) (fun kV doc pm an cdv ct us ws l1 l2 => match us, ws, l1, l2 with | [a0, a1, a2], [], _, _ => rfl)
theorem kbs_12 : ∀ (K : PySem.W.Frag) (fa : Addr) (fd : FuncData), FunD K f_state_in.name f_state_in.name f_state_in.params f_state_in.body f_state_in.scope ((dflOf dflT f_state_in.name).map (He.Dv.v K)) [] fa fd → ∃ g, KBn K fd f_state_in.ps 1 [] g (fun vs zs => arrV [.a 0] (vs ++ zs)) :=
  fun K fa fd F => kb0 F 1 [] [.a 0] _ (fun xs => rfl) (fun kV doc pm an cdv ct us ws l1 l2 => match us, ws, l1, l2 with | [a0], [], _, _ => rfl)
theorem kbs_13 : ∀ (K : PySem.W.Frag) (fa : Addr) (fd : FuncData), FunD K f_states_in.name f_states_in.name f_states_in.params f_states_in.body f_states_in.scope ((dflOf dflT f_states_in.name).map (He.Dv.v K)) [] fa fd → ∃ g, KBn K fd f_states_in.ps 1 [] g (fun vs zs => arrV [.a 0] (vs ++ zs)) :=
  fun K fa fd F => kb0 F 1 [] [.a 0] _ (fun xs => rfl) (fun kV doc pm an cdv ct us ws l1 l2 => match us, ws, l1, l2 with | [a0], [], _, _ => rfl)
theorem kbs_14 : ∀ (K : PySem.W.Frag) (fa : Addr) (fd : FuncData), FunD K f_is_a_machine.name f_is_a_machine.name f_is_a_machine.params f_is_a_machine.body f_is_a_machine.scope ((dflOf dflT f_is_a_machine.name).map (He.Dv.v K)) [] fa fd → ∃ g, KBn K fd f_is_a_machine.ps 3 [] g (fun vs zs => arrV [.a 0, .a 1, .a 2, .c (.int (400))] (vs ++ zs)) :=
  fun K fa fd F => kb1 F 3 [] [.a 0, .a 1, .a 2, .c 0] _ (fun h => by cases h) (fun xs => rfl) (fun T kV doc pm an cdv ct us its ws l1 l2 l3 => match us, its, ws, l1, l2, l3 with | [a0, a1, a2], [d0], [], _, _, _ => ⟨_, rfl, rfl⟩)
theorem kbs_15 : ∀ (K : PySem.W.Frag) (fa : Addr) (fd : FuncData), FunD K f_need_game.name f_need_game.name f_need_game.params f_need_game.body f_need_game.scope ((dflOf dflT f_need_game.name).map (He.Dv.v K)) [] fa fd → ∃ g, KBn K fd f_need_game.ps 1 [] g (fun vs zs => arrV [.a 0] (vs ++ zs)) :=
  fun K fa fd F => kb0 F 1 [] [.a 0] _ (fun xs => rfl) (fun kV doc pm an cdv ct us ws l1 l2 => match us, ws, l1, l2 with | [a0], [], _, _ => rfl)
theorem kbs_16 : ∀ (K : PySem.W.Frag) (fa : Addr) (fd : FuncData), FunD K f_need_side.name f_need_side.name f_need_side.params f_need_side.body f_need_side.scope ((dflOf dflT f_need_side.name).map (He.Dv.v K)) [] fa fd → ∃ g, KBn K fd f_need_side.ps 1 [] g (fun vs zs => arrV [.a 0] (vs ++ zs)) :=
  fun K fa fd F => kb0 F 1 [] [.a 0] _ (fun xs => rfl) (fun kV doc pm an cdv ct us ws l1 l2 => match us, ws, l1, l2 with | [a0], [], _, _ => rfl)
theorem kbs_17 : ∀ (K : PySem.W.Frag) (fa : Addr) (fd : FuncData), FunD K f_machine_in.name f_machine_in.name f_machine_in.params f_machine_in.body f_machine_in.scope ((dflOf dflT f_machine_in.name).map (He.Dv.v K)) [] fa fd → ∃ g, KBn K fd f_machine_in.ps 3 [] g (fun vs zs => arrV [.a 0, .a 1, .a 2] (vs ++ zs)) :=
  fun K fa fd F => kb0 F 3 [] [.a 0, .a 1, .a 2] _ (fun xs => rfl) (fun kV doc pm an cdv ct us ws l1 l2 => match us, ws, l1, l2 with | [a0, a1, a2], [], _, _ => rfl)
theorem kbs_18 : ∀ (K : PySem.W.Frag) (fa : Addr) (fd : FuncData), FunD K f_show_state.name f_show_state.name f_show_state.params f_show_state.body f_show_state.scope ((dflOf dflT f_show_state.name).map (He.Dv.v K)) [] fa fd → ∃ g, KBn K fd f_show_state.ps 1 [] g (fun vs zs => arrV [.a 0] (vs ++ zs)) :=
  fun K fa fd F => kb0 F 1 [] [.a 0] _ (fun xs => rfl) (fun kV doc pm an cdv ct us ws l1 l2 => match us, ws, l1, l2 with | [a0], [], _, _ => rfl)
theorem kbs_19 : ∀ (K : PySem.W.Frag) (fa : Addr) (fd : FuncData), FunD K f_show_outcomes.name f_show_outcomes.name f_show_outcomes.params f_show_outcomes.body f_show_outcomes.scope ((dflOf dflT f_show_outcomes.name).map (He.Dv.v K)) [] fa fd → ∃ g, KBn K fd f_show_outcomes.ps 1 [] g (fun vs zs => arrV [.a 0] (vs ++ zs)) :=
  fun K fa fd F => kb0 F 1 [] [.a 0] _ (fun xs => rfl) (fun kV doc pm an cdv ct us ws l1 l2 => match us, ws, l1, l2 with | [a0], [], _, _ => rfl)
theorem kbs_20 : ∀ (K : PySem.W.Frag) (fa : Addr) (fd : FuncData), FunD K f__law_take.name f__law_take.name f__law_take.params f__law_take.body f__law_take.scope ((dflOf dflT f__law_take.name).map (He.Dv.v K)) [] fa fd → ∃ g, KBn K fd f__law_take.ps 2 [] g (fun vs zs => arrV [.a 0, .a 1] (vs ++ zs)) :=
  fun K fa fd F => kb0 F 2 [] [.a 0, .a 1] _ (fun xs => rfl) (fun kV doc pm an cdv ct us ws l1 l2 => match us, ws, l1, l2 with | [a0, a1], [], _, _ => rfl)
theorem kbs_21 : ∀ (K : PySem.W.Frag) (fa : Addr) (fd : FuncData), FunD K f__law_same.name f__law_same.name f__law_same.params f__law_same.body f__law_same.scope ((dflOf dflT f__law_same.name).map (He.Dv.v K)) [] fa fd → ∃ g, KBn K fd f__law_same.ps 2 [] g (fun vs zs => arrV [.a 0, .a 1] (vs ++ zs)) :=
  fun K fa fd F => kb0 F 2 [] [.a 0, .a 1] _ (fun xs => rfl) (fun kV doc pm an cdv ct us ws l1 l2 => match us, ws, l1, l2 with | [a0, a1], [], _, _ => rfl)
theorem kbs_22 : ∀ (K : PySem.W.Frag) (fa : Addr) (fd : FuncData), FunD K f_show_machine.name f_show_machine.name f_show_machine.params f_show_machine.body f_show_machine.scope ((dflOf dflT f_show_machine.name).map (He.Dv.v K)) [] fa fd → ∃ g, KBn K fd f_show_machine.ps 1 [] g (fun vs zs => arrV [.a 0] (vs ++ zs)) :=
  fun K fa fd F => kb0 F 1 [] [.a 0] _ (fun xs => rfl) (fun kV doc pm an cdv ct us ws l1 l2 => match us, ws, l1, l2 with | [a0], [], _, _ => rfl)
theorem kbs_23 : ∀ (K : PySem.W.Frag) (fa : Addr) (fd : FuncData), FunD K f_show_machine.name f_show_machine.name f_show_machine.params f_show_machine.body f_show_machine.scope ((dflOf dflT f_show_machine.name).map (He.Dv.v K)) [] fa fd → ∃ g, KBn K fd f_show_machine.ps 0 ["machine"] g (fun vs zs => arrV [.a 0] (vs ++ zs)) :=
  fun K fa fd F => kb0 F 0 ["machine"] [.a 0] _ (fun xs => rfl) (fun kV doc pm an cdv ct us ws l1 l2 => match us, ws, l1, l2 with | [], [b0], _, _ => rfl)
theorem kbs_24 : ∀ (K : PySem.W.Frag) (fa : Addr) (fd : FuncData), FunD K f__law_text.name f__law_text.name f__law_text.params f__law_text.body f__law_text.scope ((dflOf dflT f__law_text.name).map (He.Dv.v K)) [] fa fd → ∃ g, KBn K fd f__law_text.ps 1 [] g (fun vs zs => arrV [.a 0] (vs ++ zs)) :=
  fun K fa fd F => kb0 F 1 [] [.a 0] _ (fun xs => rfl) (fun kV doc pm an cdv ct us ws l1 l2 => match us, ws, l1, l2 with | [a0], [], _, _ => rfl)
theorem kbs_25 : ∀ (K : PySem.W.Frag) (fa : Addr) (fd : FuncData), FunD K f_read_machine.name f_read_machine.name f_read_machine.params f_read_machine.body f_read_machine.scope ((dflOf dflT f_read_machine.name).map (He.Dv.v K)) [] fa fd → ∃ g, KBn K fd f_read_machine.ps 3 [] g (fun vs zs => arrV [.a 0, .a 1, .a 2] (vs ++ zs)) :=
  fun K fa fd F => kb0 F 3 [] [.a 0, .a 1, .a 2] _ (fun xs => rfl) (fun kV doc pm an cdv ct us ws l1 l2 => match us, ws, l1, l2 with | [a0, a1, a2], [], _, _ => rfl)
theorem kbs_26 : ∀ (K : PySem.W.Frag) (fa : Addr) (fd : FuncData), FunD K f_read_machine.name f_read_machine.name f_read_machine.params f_read_machine.body f_read_machine.scope ((dflOf dflT f_read_machine.name).map (He.Dv.v K)) [] fa fd → ∃ g, KBn K fd f_read_machine.ps 0 ["text", "side", "game"] g (fun vs zs => arrV [.a 2, .a 1, .a 0] (vs ++ zs)) :=
  fun K fa fd F => kb0 F 0 ["text", "side", "game"] [.a 2, .a 1, .a 0] _ (fun xs => rfl) (fun kV doc pm an cdv ct us ws l1 l2 => match us, ws, l1, l2 with | [], [b0, b1, b2], _, _ => rfl)
theorem kbs_27 : ∀ (K : PySem.W.Frag) (fa : Addr) (fd : FuncData), FunD K f__law_outcomes.name f__law_outcomes.name f__law_outcomes.params f__law_outcomes.body f__law_outcomes.scope ((dflOf dflT f__law_outcomes.name).map (He.Dv.v K)) [] fa fd → ∃ g, KBn K fd f__law_outcomes.ps 1 [] g (fun vs zs => arrV [.a 0] (vs ++ zs)) :=
  fun K fa fd F => kb0 F 1 [] [.a 0] _ (fun xs => rfl) (fun kV doc pm an cdv ct us ws l1 l2 => match us, ws, l1, l2 with | [a0], [], _, _ => rfl)
theorem kbs_28 : ∀ (K : PySem.W.Frag) (fa : Addr) (fd : FuncData), FunD K f_show_play.name f_show_play.name f_show_play.params f_show_play.body f_show_play.scope ((dflOf dflT f_show_play.name).map (He.Dv.v K)) [] fa fd → ∃ g, KBn K fd f_show_play.ps 1 [] g (fun vs zs => arrV [.a 0] (vs ++ zs)) :=
  fun K fa fd F => kb0 F 1 [] [.a 0] _ (fun xs => rfl) (fun kV doc pm an cdv ct us ws l1 l2 => match us, ws, l1, l2 with | [a0], [], _, _ => rfl)
theorem kbs_29 : ∀ (K : PySem.W.Frag) (fa : Addr) (fd : FuncData), FunD K f_show_play.name f_show_play.name f_show_play.params f_show_play.body f_show_play.scope ((dflOf dflT f_show_play.name).map (He.Dv.v K)) [] fa fd → ∃ g, KBn K fd f_show_play.ps 0 ["play"] g (fun vs zs => arrV [.a 0] (vs ++ zs)) :=
  fun K fa fd F => kb0 F 0 ["play"] [.a 0] _ (fun xs => rfl) (fun kV doc pm an cdv ct us ws l1 l2 => match us, ws, l1, l2 with | [], [b0], _, _ => rfl)
theorem kbs_30 : ∀ (K : PySem.W.Frag) (fa : Addr) (fd : FuncData), FunD K f__law_any_machine.name f__law_any_machine.name f__law_any_machine.params f__law_any_machine.body f__law_any_machine.scope ((dflOf dflT f__law_any_machine.name).map (He.Dv.v K)) [] fa fd → ∃ g, KBn K fd f__law_any_machine.ps 4 [] g (fun vs zs => arrV [.a 0, .a 1, .a 2, .a 3] (vs ++ zs)) :=
  fun K fa fd F => kb0 F 4 [] [.a 0, .a 1, .a 2, .a 3] _ (fun xs => rfl) (fun kV doc pm an cdv ct us ws l1 l2 => match us, ws, l1, l2 with | [a0, a1, a2, a3], [], _, _ => rfl)
theorem kbs_31 : ∀ (K : PySem.W.Frag) (fa : Addr) (fd : FuncData), FunD K f_show_fraction.name f_show_fraction.name f_show_fraction.params f_show_fraction.body f_show_fraction.scope ((dflOf dflT f_show_fraction.name).map (He.Dv.v K)) [] fa fd → ∃ g, KBn K fd f_show_fraction.ps 1 [] g (fun vs zs => arrV [.a 0] (vs ++ zs)) :=
  fun K fa fd F => kb0 F 1 [] [.a 0] _ (fun xs => rfl) (fun kV doc pm an cdv ct us ws l1 l2 => match us, ws, l1, l2 with | [a0], [], _, _ => rfl)
theorem kbs_32 : ∀ (K : PySem.W.Frag) (fa : Addr) (fd : FuncData), FunD K f_show_fraction.name f_show_fraction.name f_show_fraction.params f_show_fraction.body f_show_fraction.scope ((dflOf dflT f_show_fraction.name).map (He.Dv.v K)) [] fa fd → ∃ g, KBn K fd f_show_fraction.ps 0 ["fraction"] g (fun vs zs => arrV [.a 0] (vs ++ zs)) :=
  fun K fa fd F => kb0 F 0 ["fraction"] [.a 0] _ (fun xs => rfl) (fun kV doc pm an cdv ct us ws l1 l2 => match us, ws, l1, l2 with | [], [b0], _, _ => rfl)
theorem kbs_33 : ∀ (K : PySem.W.Frag) (fa : Addr) (fd : FuncData), FunD K f__law_deck.name f__law_deck.name f__law_deck.params f__law_deck.body f__law_deck.scope ((dflOf dflT f__law_deck.name).map (He.Dv.v K)) [] fa fd → ∃ g, KBn K fd f__law_deck.ps 2 [] g (fun vs zs => arrV [.a 0, .a 1] (vs ++ zs)) :=
  fun K fa fd F => kb0 F 2 [] [.a 0, .a 1] _ (fun xs => rfl) (fun kV doc pm an cdv ct us ws l1 l2 => match us, ws, l1, l2 with | [a0, a1], [], _, _ => rfl)
theorem kbs_34 : ∀ (K : PySem.W.Frag) (fa : Addr) (fd : FuncData), FunD K f__law_great_right.name f__law_great_right.name f__law_great_right.params f__law_great_right.body f__law_great_right.scope ((dflOf dflT f__law_great_right.name).map (He.Dv.v K)) [] fa fd → ∃ g, KBn K fd f__law_great_right.ps 1 [] g (fun vs zs => arrV [.a 0] (vs ++ zs)) :=
  fun K fa fd F => kb0 F 1 [] [.a 0] _ (fun xs => rfl) (fun kV doc pm an cdv ct us ws l1 l2 => match us, ws, l1, l2 with | [a0], [], _, _ => rfl)
theorem kbs_35 : ∀ (K : PySem.W.Frag) (fa : Addr) (fd : FuncData), FunD K f__law_game.name f__law_game.name f__law_game.params f__law_game.body f__law_game.scope ((dflOf dflT f__law_game.name).map (He.Dv.v K)) [] fa fd → ∃ g, KBn K fd f__law_game.ps 2 [] g (fun vs zs => arrV [.a 0, .a 1] (vs ++ zs)) :=
  fun K fa fd F => kb0 F 2 [] [.a 0, .a 1] _ (fun xs => rfl) (fun kV doc pm an cdv ct us ws l1 l2 => match us, ws, l1, l2 with | [a0, a1], [], _, _ => rfl)
theorem kbs_36 : ∀ (K : PySem.W.Frag) (fa : Addr) (fd : FuncData), FunD K f__law_changed.name f__law_changed.name f__law_changed.params f__law_changed.body f__law_changed.scope ((dflOf dflT f__law_changed.name).map (He.Dv.v K)) [] fa fd → ∃ g, KBn K fd f__law_changed.ps 3 [] g (fun vs zs => arrV [.a 0, .a 1, .a 2] (vs ++ zs)) :=
  fun K fa fd F => kb0 F 3 [] [.a 0, .a 1, .a 2] _ (fun xs => rfl) (fun kV doc pm an cdv ct us ws l1 l2 => match us, ws, l1, l2 with | [a0, a1, a2], [], _, _ => rfl)
theorem kbs_37 : ∀ (K : PySem.W.Frag) (fa : Addr) (fd : FuncData), FunD K f__law_machine_right.name f__law_machine_right.name f__law_machine_right.params f__law_machine_right.body f__law_machine_right.scope ((dflOf dflT f__law_machine_right.name).map (He.Dv.v K)) [] fa fd → ∃ g, KBn K fd f__law_machine_right.ps 4 [] g (fun vs zs => arrV [.a 0, .a 1, .a 2, .a 3] (vs ++ zs)) :=
  fun K fa fd F => kb0 F 4 [] [.a 0, .a 1, .a 2, .a 3] _ (fun xs => rfl) (fun kV doc pm an cdv ct us ws l1 l2 => match us, ws, l1, l2 with | [a0, a1, a2, a3], [], _, _ => rfl)
theorem kbs_38 : ∀ (K : PySem.W.Frag) (fa : Addr) (fd : FuncData), FunD K f__law_play_right.name f__law_play_right.name f__law_play_right.params f__law_play_right.body f__law_play_right.scope ((dflOf dflT f__law_play_right.name).map (He.Dv.v K)) [] fa fd → ∃ g, KBn K fd f__law_play_right.ps 3 [] g (fun vs zs => arrV [.a 0, .a 1, .a 2] (vs ++ zs)) :=
  fun K fa fd F => kb0 F 3 [] [.a 0, .a 1, .a 2] _ (fun xs => rfl) (fun kV doc pm an cdv ct us ws l1 l2 => match us, ws, l1, l2 with | [a0, a1, a2], [], _, _ => rfl)
theorem shwell : ShWell pd dflT := by
  intro sh h
  simp only [pd, shapes, List.mem_cons, List.not_mem_nil, or_false] at h
  rcases h with rfl | rfl | rfl | rfl | rfl | rfl | rfl | rfl | rfl | rfl | rfl | rfl | rfl | rfl | rfl | rfl | rfl | rfl | rfl | rfl | rfl | rfl | rfl | rfl | rfl | rfl | rfl | rfl | rfl | rfl | rfl | rfl | rfl | rfl | rfl | rfl | rfl | rfl | rfl
  · exact ⟨f_is_integer, rfl, kbs_0⟩
  · exact ⟨f_is_within, rfl, kbs_1⟩
  · exact ⟨f_is_a_row, rfl, kbs_2⟩
  · exact ⟨f_is_a_table, rfl, kbs_3⟩
  · exact ⟨f_are_tables_like, rfl, kbs_4⟩
  · exact ⟨f_is_a_game, rfl, kbs_5⟩
  · exact ⟨f_is_a_side, rfl, kbs_6⟩
  · exact ⟨f_are_indexes, rfl, kbs_7⟩
  · exact ⟨f_many_of, rfl, kbs_8⟩
  · exact ⟨f_is_a_state, rfl, kbs_9⟩
  · exact ⟨f_integer_of, rfl, kbs_10⟩
  · exact ⟨f_integers_of, rfl, kbs_11⟩
  · exact ⟨f_state_in, rfl, kbs_12⟩
  · exact ⟨f_states_in, rfl, kbs_13⟩
  · exact ⟨f_is_a_machine, rfl, kbs_14⟩
  · exact ⟨f_need_game, rfl, kbs_15⟩
  · exact ⟨f_need_side, rfl, kbs_16⟩
  · exact ⟨f_machine_in, rfl, kbs_17⟩
  · exact ⟨f_show_state, rfl, kbs_18⟩
  · exact ⟨f_show_outcomes, rfl, kbs_19⟩
  · exact ⟨f__law_take, rfl, kbs_20⟩
  · exact ⟨f__law_same, rfl, kbs_21⟩
  · exact ⟨f_show_machine, rfl, kbs_22⟩
  · exact ⟨f_show_machine, rfl, kbs_23⟩
  · exact ⟨f__law_text, rfl, kbs_24⟩
  · exact ⟨f_read_machine, rfl, kbs_25⟩
  · exact ⟨f_read_machine, rfl, kbs_26⟩
  · exact ⟨f__law_outcomes, rfl, kbs_27⟩
  · exact ⟨f_show_play, rfl, kbs_28⟩
  · exact ⟨f_show_play, rfl, kbs_29⟩
  · exact ⟨f__law_any_machine, rfl, kbs_30⟩
  · exact ⟨f_show_fraction, rfl, kbs_31⟩
  · exact ⟨f_show_fraction, rfl, kbs_32⟩
  · exact ⟨f__law_deck, rfl, kbs_33⟩
  · exact ⟨f__law_great_right, rfl, kbs_34⟩
  · exact ⟨f__law_game, rfl, kbs_35⟩
  · exact ⟨f__law_changed, rfl, kbs_36⟩
  · exact ⟨f__law_machine_right, rfl, kbs_37⟩
  · exact ⟨f__law_play_right, rfl, kbs_38⟩
def loose0 : List Str := ["MixError", "InvalidGame", "InvalidSide", "Unreadable", "MOST_CHOICES", "MOST_NUMBER", "is_integer", "anew", "is_within", "is_a_row", "is_a_table", "are_tables_like", "is_a_game", "is_a_side", "many_of", "need_game", "need_side", "MOST_STATES", "are_indexes", "is_a_state", "is_a_machine", "FIGURES", "integer_of", "integers_of", "MOST_FIGURES"]
def loose1 : List Str := ["state_in", "states_in", "machine_in", "read_machine", "show_fraction", "show_state", "show_machine", "show_outcomes", "show_play", "_law_deck", "_law_take", "_law_game", "_law_any_machine", "_law_text", "_law_same", "_law_machine_right", "_law_outcomes", "_law_play_right", "_law_changed", "_law_great_right"]
abbrev loose : List Str := loose0 ++ loose1
abbrev R : PySem.W.OpenRow := PySem.W.OpenLaw.row PySem.Challenge.rw_steadyhands_k85_machines_and_plays_as_te
abbrev hk : PySem.W.Hook := hookI 4 (faL pd) (fnL pd dflT)
def ob (s : PySem.W.SharedT) : AlI := obsIG 4 (faL pd) (fnL pd dflT) (HandSHeadRun.getT s)
theorem ob_eq (s : PySem.W.SharedT) : ob s = hk.obs s.abs := obsIG_eq (HandSHeadRun.getT_eq s)
theorem headrun (w : World) : HandSHeadRun.RunEq R (PySem.W.view R.prog [53]) hk ob 3000 loose w := by
  intro os
  kernel_rfl
abbrev LawTrue : Prop := ∀ ns : List Int, ns.length ≤ 63 → ∃ S', run pd.fds 40 lawIx [.ref 0] [.rd (ns.map D.int)] = some (.d (.bl true), S')
theorem facts (LT : LawTrue) {P : Program} {w : World} {K : PySem.W.Frag} {h : Heap} {mg : Str → Option Value} {f : Addr} (X : K.In h) (G : h.Ns mainGlobals mg) (hfa : mg ("law" : Str) = some (.ref f)) (c : SaysI (faL pd) (fnL pd dflT) K) :
    ∃ fd : FuncData, (∀ (s : Shared) (v : Value), BindsTo s fd ⟨[v], []⟩ [("script", v)]) ∧ ∀ base : Heap, K.In base → base.Ns mainGlobals mg → FnOk P w K mg base CX0 40 f fd ["script"] (spLaw K) := by
  obtain ⟨fd, T, F⟩ := top_of X G c (by decide +kernel) shwell
  have hi : pd.fns[lawIx]? = some f_law := rfl
  have F1 := F lawIx f_law hi
  have e := hfa.symm.trans (T.fn lawIx f_law hi).1
  cases e
  have b := FunD.bindsA (ps := ["script"]) F1 fun _ _ _ _ _ _ us hl => match us, hl with | [_], _ => rfl
  exact ⟨fd lawIx, fun s v => b s [v] rfl, fun base _ _ => law_ok T well hi rfl LT⟩
open PySem.W PySem.Calls
theorem holds (LT : LawTrue) : PySem.Challenge.rw_steadyhands_k85_machines_and_plays_as_te.Holds := by
  w_on; o_law
  refine HandSHeadRun.head_any (r := OpenLaw.row PySem.Challenge.rw_steadyhands_k85_machines_and_plays_as_te) (q := view (OpenLaw.row PySem.Challenge.rw_steadyhands_k85_machines_and_plays_as_te).prog [53]) (H := hk) (ob := ob) (M := 3000) (loose := loose) (d := HandSHeadRun.topDef (OpenLaw.row PySem.Challenge.rw_steadyhands_k85_machines_and_plays_as_te).prog 53) (kwd := []) ob_eq
    (by kernel_rfl) (fun s => by kernel_rfl) headrun (by kernel_rfl) (by kernel_rfl) (by kernel_rfl) (by rfl) (by first | assumption | decide +kernel) (by decide +kernel) ⟨rfl, rfl, rfl, rfl, rfl, by decide +kernel⟩ ?hw ?hc
  case hw => w_witness2
  case hc =>
    refine L2.walk_ofE (l := PySem.Challenge.rw_steadyhands_k85_machines_and_plays_as_te) (n := 63) (k := 40) (x := "script") (CX := L2.CX0) rfl (by decide) (by kernel_rfl) ⟨rfl, by decide, by decide⟩ ?F (fun _ _ _ _ z => z)
    intro w mg fa h Y G hmg0
    obtain ⟨K, KX, c⟩ := Y
    have hmg : mg ("law" : PySem.Str) = some (.ref fa) := by
      have e : (HandSHeadRun.topDef (OpenLaw.row PySem.Challenge.rw_steadyhands_k85_machines_and_plays_as_te).prog 53).name = ("law" : PySem.Str) := by kernel_rfl
      rw [← e]
      exact hmg0
    obtain ⟨fd, hb, hF⟩ := facts LT (P := (PySem.Challenge.rw_steadyhands_k85_machines_and_plays_as_te).prog) (w := w) KX G hmg c
    exact ⟨K, fd, spLaw K, KX, hb, fun H a ns hl ho hS => ⟨a, ns, rfl, rdl_of hS ho, hl, fun _ => rfl⟩, hF⟩
end G85

set_option Elab.async false
set_option linter.all false
set_option maxRecDepth 100000
set_option autoImplicit false
/-! P85a: the deck of the law's draws. -/
namespace Ir
open PySem L2
/-- a deck of at most N turns so far -/
def Dk (ds : List D) (N : Int) : Prop := ∃ a b c : Int, ds = [.int a, .int b, .int c] ∧ 0 ≤ a ∧ 0 ≤ b ∧ b < 10 ^ 30 ∧ 0 ≤ c ∧ c ≤ N
theorem Dk.mono {ds : List D} {N M : Int} (h : Dk ds N) (l : N ≤ M) : Dk ds M := by
  obtain ⟨a, b, c, e, h1, h2, h3, h4, h5⟩ := h
  exact ⟨a, b, c, e, h1, h2, h3, h4, by omega⟩
theorem pw18 : bopD .pow (.int 10) (.int 18) = some (.int 1000000000000000000) := by decide +kernel
theorem pw20 : bopD .pow (.int 10) (.int 20) = some (.int 100000000000000000000) := by decide +kernel
theorem pw26 : bopD .pow (.int 10) (.int 26) = some (.int 100000000000000000000000000) := by decide +kernel
theorem pw29 : bopD .pow (.int 10) (.int 29) = some (.int 100000000000000000000000000000) := by decide +kernel
theorem pw30 : bopD .pow (.int 10) (.int 30) = some (.int 1000000000000000000000000000000) := by decide +kernel
theorem pw31 : bopD .pow (.int 10) (.int 31) = some (.int 10000000000000000000000000000000) := by decide +kernel
theorem pw32 : bopD .pow (.int 10) (.int 32) = some (.int 100000000000000000000000000000000) := by decide +kernel
def irTake : Ss := (.cons (.ite (.v (.cmp .gt (.idx (.var 0) (.lit (.int (0)))) (.lit (.int (0))))) (.cons (.asg (.n 2) (.bin .mod (.bi .int (.cons (.idx (.var 0) (.lit (.int (0)))) .nil)) (.var 1))) (.cons (.setix (.var 0) (.lit (.int (0))) (.bin .fdiv (.idx (.var 0) (.lit (.int (0)))) (.var 1))) (.cons (.ret (.var 2)) .nil))) .nil) (.cons (.setix (.var 0) (.lit (.int (2))) (.bin .add (.idx (.var 0) (.lit (.int (2)))) (.lit (.int (1))))) (.cons (.asg (.n 3) (.bin .mul (.bin .mul (.idx (.var 0) (.lit (.int (2)))) (.idx (.var 0) (.lit (.int (2))))) (.idx (.var 0) (.lit (.int (2)))))) (.cons (.asg (.n 4) (.bin .mod (.bi .int (.cons (.bin .add (.bin .mul (.bin .mul (.bin .add (.idx (.var 0) (.lit (.int (1)))) (.lit (.int (17)))) (.bin .add (.idx (.var 0) (.lit (.int (2)))) (.lit (.int (2))))) (.lit (.int (1000000007)))) (.bin .mul (.var 3) (.lit (.int (777767777))))) .nil)) (.bin .add (.bin .pow (.lit (.int (10))) (.lit (.int (30)))) (.lit (.int (57)))))) (.cons (.asg (.n 4) (.bin .mod (.bi .int (.cons (.bin .add (.bin .add (.bin .mul (.var 4) (.var 4)) (.bin .mul (.idx (.var 0) (.lit (.int (1)))) (.lit (.int (3))))) (.idx (.var 0) (.lit (.int (2))))) .nil)) (.bin .add (.bin .pow (.lit (.int (10))) (.lit (.int (31)))) (.lit (.int (33)))))) (.cons (.asg (.n 4) (.bin .mod (.bi .int (.cons (.bin .add (.bin .mul (.bin .mul (.var 4) (.var 4)) (.lit (.int (5)))) (.var 4)) .nil)) (.bin .add (.bin .pow (.lit (.int (10))) (.lit (.int (32)))) (.lit (.int (49)))))) (.cons (.ret (.bin .mod (.bi .int (.cons (.bin .fdiv (.var 4) (.lit (.int (99991)))) .nil)) (.var 1))) .nil)))))))
theorem take_body (C : Callee) {sc : Ob} {T : Store} {dk : List D} {N m : Int} (h : Dk dk N) (hN : N < 2 ^ 60) (hm : 0 < m) (hm2 : m < 2 ^ 60) :
    Ok (evSs C irTake [some (.ref 1), some (.d (.int m)), none, none, none] (sc :: .lst dk :: T)) fun p => ∃ (v : Int) (dk' : List D), p.1 = .rt (.d (.int v)) ∧ p.2.2 = sc :: .lst dk' :: T ∧ 0 ≤ v ∧ v < m ∧ Dk dk' (N + 1) := by
  obtain ⟨a, b, c, rfl, ha, hb, hb2, hc, hc2⟩ := h
  have hl : m.natAbs.log2 < 9000 := by
    have := (Nat.log2_lt (n := m.natAbs) (k := 61) (by omega)).mpr (by omega)
    omega
  unfold irTake
  by_cases h0 : 0 < a
  · simp -implicitDefEqProofs only [Ir.Ok_bind, Ir.Ok_map, Ir.Ok_some, Ir.Ok_none, Ir.evSs, Ir.evE.eq_1, Ir.evE.eq_2, Ir.evE.eq_3, Ir.evE.eq_4, Ir.evE.eq_5, Ir.evE.eq_6, Ir.evE.eq_7, Ir.evE.eq_8, Ir.evE.eq_9, Ir.evE.eq_10, Ir.evE.eq_11, Ir.evE.eq_12, Ir.evE.eq_13, Ir.evE.eq_14, Ir.evE.eq_15, Ir.evE.eq_16, Ir.evE.eq_17, Ir.evE.eq_19, Ir.evEs, Ir.evRs, Ir.evO, Ir.evOt, Ir.evT, Ir.evI, Ir.evS.eq_1, Ir.evS.eq_2, Ir.evS.eq_3, Ir.evS.eq_4, Ir.evS.eq_5, Ir.evS.eq_6, Ir.evS.eq_9, Ir.evS.eq_10, Ir.evS.eq_11, Ir.evS.eq_12, Ir.evS.eq_13, Ir.Ok_for, Ir.ev2, Ir.startE, Ir.bT_n, Ir.bT_t, Ir.bT_m, Ir.bTs_n, Ir.bTs_c, Ir.wipeE, Ir.mt0, Ir.mt1, Ir.mt2, Ir.mt3, Ir.mt4, Ir.ad0, Ir.ad1, Ir.ad2, Ir.ad3, Ir.arrU, Ir.fu, Ir.ft, Ir.gd, Ir.gRu, Ir.gRt, Ir.sq1, Ir.sq2, Ir.ls1, Ir.rt1, Ir.rt2, Ir.bopR_d, Ir.b_add, Ir.b_sub, Ir.c_lt, Ir.c_le, Ir.c_gt, Ir.c_ge, Ir.c_eqi, Ir.c_eqs, Ir.c_eqb, Ir.c_nei, Ir.c_nes, Ir.c_neb, Ir.c_is, Ir.c_isn, Ir.n1, Ir.n2, Ir.n3, Ir.n4, Ir.n5, Ir.n6, Ir.d_lt, Ir.d_le, Ir.d_gt, Ir.d_ge, Ir.x_tup, Ir.x_tmp, Ir.x_mix, Ir.x_ref, Ir.a0, Ir.a1, Ir.a2, Ir.i30, Ir.i32, Ir.f_len, Ir.l_tup, Ir.l_tmp, Ir.l_mix, Ir.l_ref, Ir.f_int, Ir.f_intb, Ir.f_abs, Ir.f_max, Ir.f_min, Ir.f_tup, Ir.f_list, Ir.f_all, Ir.f_any, Ir.f_isin, Ir.t_int, Ir.t_str, Ir.t_bl, Ir.t_non, Ir.t_tup, Ir.t_mix, Ir.is_ii, Ir.is_ib, Ir.is_tt, Ir.is_it, Ir.is_ss, Ir.p_j, Ir.p_s, Ir.p_p, Ir.tr_b, Ir.s_tmp, Ir.s_tup, Ir.s_str, Ir.boolsD, Ir.strsD, Ir.sqr, Ir.lsr, Ir.ob1, Ir.ob2, Ir.blU, List.map_cons, List.map_nil, List.length_cons, List.length_nil, List.replicate, List.cons_append, List.nil_append, List.append_nil, List.getElem?_cons_zero, List.getElem?_cons_succ, List.getElem?_nil, List.set_cons_zero, List.set_cons_succ, List.set_nil, Option.bind_some, Option.map_some, Option.map_none, Option.bind_none, if_true, if_false, ite_true, ite_false, reduceIte, Bool.not_true, Bool.not_false, List.take_succ_cons, List.take_length, List.take_zero, Nat.add_sub_cancel, Nat.sub_self, Nat.reduceSub, Nat.reduceAdd, reduceCtorEq, Bool.false_eq_true, decide_true, decide_false, List.all_cons, List.any_cons, List.all_nil, List.any_nil, id_eq, Bool.true_and, Bool.and_true, Bool.false_or, Bool.or_false, Ir.zc0, Ir.zc1, Ir.zc2, Ir.zc3, eq_self, Ir.bools_const, Ir.all_const, Ir.any_const, h0, b_mod hm, b_div ⟨hm, hl⟩]
    refine ⟨_, _, rfl, rfl, Int.emod_nonneg _ (by omega), Int.emod_lt_of_pos _ hm, _, _, _, rfl, Int.ediv_nonneg ha (by omega), hb, hb2, hc, by omega⟩
  · have m1 : mulOk (c + 1) (c + 1) = true := mulOk_r ⟨by omega, by omega⟩
    have m2 : mulOk ((c + 1) * (c + 1)) (c + 1) = true := mulOk_r ⟨by omega, by omega⟩
    have m3 : mulOk (b + 17) (c + 1 + 2) = true := mulOk_r ⟨by omega, by omega⟩
    have m4 : ∀ x, mulOk x 1000000007 = true := fun x => mulOk_r (by decide)
    have m5 : ∀ x, mulOk x 777767777 = true := fun x => mulOk_r (by decide)
    have m6 : ∀ x, mulOk x 3 = true := fun x => mulOk_r (by decide)
    have m7 : ∀ x, mulOk x 5 = true := fun x => mulOk_r (by decide)
    have m8 : ∀ x : Int, mulOk (x % (1000000000000000000000000000000 + 57)) (x % (1000000000000000000000000000000 + 57)) = true := fun x => by
      have h1 := Int.emod_nonneg x (b := 1000000000000000000000000000000 + 57) (by decide)
      have h2 := Int.emod_lt_of_pos x (b := 1000000000000000000000000000000 + 57) (by decide)
      exact mulOk_of (by omega) (by omega)
    have m9 : ∀ x : Int, mulOk (x % (10000000000000000000000000000000 + 33)) (x % (10000000000000000000000000000000 + 33)) = true := fun x => by
      have h1 := Int.emod_nonneg x (b := 10000000000000000000000000000000 + 33) (by decide)
      have h2 := Int.emod_lt_of_pos x (b := 10000000000000000000000000000000 + 33) (by decide)
      exact mulOk_of (by omega) (by omega)
    have q1 : (0 : Int) < 1000000000000000000000000000000 + 57 := by decide
    have q2 : (0 : Int) < 10000000000000000000000000000000 + 33 := by decide
    have q3 : (0 : Int) < 100000000000000000000000000000000 + 49 := by decide
    have q4 : (0 : Int) < 99991 ∧ (99991 : Int).natAbs.log2 < 9000 := by decide +kernel
    simp -implicitDefEqProofs only [Ir.Ok_bind, Ir.Ok_map, Ir.Ok_some, Ir.Ok_none, Ir.evSs, Ir.evE.eq_1, Ir.evE.eq_2, Ir.evE.eq_3, Ir.evE.eq_4, Ir.evE.eq_5, Ir.evE.eq_6, Ir.evE.eq_7, Ir.evE.eq_8, Ir.evE.eq_9, Ir.evE.eq_10, Ir.evE.eq_11, Ir.evE.eq_12, Ir.evE.eq_13, Ir.evE.eq_14, Ir.evE.eq_15, Ir.evE.eq_16, Ir.evE.eq_17, Ir.evE.eq_19, Ir.evEs, Ir.evRs, Ir.evO, Ir.evOt, Ir.evT, Ir.evI, Ir.evS.eq_1, Ir.evS.eq_2, Ir.evS.eq_3, Ir.evS.eq_4, Ir.evS.eq_5, Ir.evS.eq_6, Ir.evS.eq_9, Ir.evS.eq_10, Ir.evS.eq_11, Ir.evS.eq_12, Ir.evS.eq_13, Ir.Ok_for, Ir.ev2, Ir.startE, Ir.bT_n, Ir.bT_t, Ir.bT_m, Ir.bTs_n, Ir.bTs_c, Ir.wipeE, Ir.mt0, Ir.mt1, Ir.mt2, Ir.mt3, Ir.mt4, Ir.ad0, Ir.ad1, Ir.ad2, Ir.ad3, Ir.arrU, Ir.fu, Ir.ft, Ir.gd, Ir.gRu, Ir.gRt, Ir.sq1, Ir.sq2, Ir.ls1, Ir.rt1, Ir.rt2, Ir.bopR_d, Ir.b_add, Ir.b_sub, Ir.c_lt, Ir.c_le, Ir.c_gt, Ir.c_ge, Ir.c_eqi, Ir.c_eqs, Ir.c_eqb, Ir.c_nei, Ir.c_nes, Ir.c_neb, Ir.c_is, Ir.c_isn, Ir.n1, Ir.n2, Ir.n3, Ir.n4, Ir.n5, Ir.n6, Ir.d_lt, Ir.d_le, Ir.d_gt, Ir.d_ge, Ir.x_tup, Ir.x_tmp, Ir.x_mix, Ir.x_ref, Ir.a0, Ir.a1, Ir.a2, Ir.i30, Ir.i32, Ir.f_len, Ir.l_tup, Ir.l_tmp, Ir.l_mix, Ir.l_ref, Ir.f_int, Ir.f_intb, Ir.f_abs, Ir.f_max, Ir.f_min, Ir.f_tup, Ir.f_list, Ir.f_all, Ir.f_any, Ir.f_isin, Ir.t_int, Ir.t_str, Ir.t_bl, Ir.t_non, Ir.t_tup, Ir.t_mix, Ir.is_ii, Ir.is_ib, Ir.is_tt, Ir.is_it, Ir.is_ss, Ir.p_j, Ir.p_s, Ir.p_p, Ir.tr_b, Ir.s_tmp, Ir.s_tup, Ir.s_str, Ir.boolsD, Ir.strsD, Ir.sqr, Ir.lsr, Ir.ob1, Ir.ob2, Ir.blU, List.map_cons, List.map_nil, List.length_cons, List.length_nil, List.replicate, List.cons_append, List.nil_append, List.append_nil, List.getElem?_cons_zero, List.getElem?_cons_succ, List.getElem?_nil, List.set_cons_zero, List.set_cons_succ, List.set_nil, Option.bind_some, Option.map_some, Option.map_none, Option.bind_none, if_true, if_false, ite_true, ite_false, reduceIte, Bool.not_true, Bool.not_false, List.take_succ_cons, List.take_length, List.take_zero, Nat.add_sub_cancel, Nat.sub_self, Nat.reduceSub, Nat.reduceAdd, reduceCtorEq, Bool.false_eq_true, decide_true, decide_false, List.all_cons, List.any_cons, List.all_nil, List.any_nil, id_eq, Bool.true_and, Bool.and_true, Bool.false_or, Bool.or_false, Ir.zc0, Ir.zc1, Ir.zc2, Ir.zc3, eq_self, Ir.bools_const, Ir.all_const, Ir.any_const, h0, b_mul, m1, m2, m3, m4, m5, m6, m7, m8, m9, pw30, pw31, pw32, b_mod q1, b_mod q2, b_mod q3, b_mod hm, b_div q4]
    refine ⟨_, _, rfl, rfl, Int.emod_nonneg _ (by omega), Int.emod_lt_of_pos _ hm, _, _, _, rfl, ha, hb, hb2, by omega, by omega⟩
end Ir

set_option Elab.async false
set_option linter.all false
set_option maxRecDepth 100000
set_option autoImplicit false
/-! P85b: the package's checks. -/
namespace G85
open PySem L2 Ir
theorem is_integer_eq {k : Nat} {v : Int} {S : Store} : run pd.fds (k + 1) 0 [.d (.int v)] S = some (.d (.bl true), S) := by
  refine run_eq ⟨1, 1, ir_is_integer⟩ rfl rfl ?_
  simp -implicitDefEqProofs only [Ir.Ok_bind, Ir.Ok_map, Ir.Ok_some, Ir.Ok_none, Ir.evSs, Ir.evE.eq_1, Ir.evE.eq_2, Ir.evE.eq_3, Ir.evE.eq_4, Ir.evE.eq_5, Ir.evE.eq_6, Ir.evE.eq_7, Ir.evE.eq_8, Ir.evE.eq_9, Ir.evE.eq_10, Ir.evE.eq_11, Ir.evE.eq_12, Ir.evE.eq_13, Ir.evE.eq_14, Ir.evE.eq_15, Ir.evE.eq_16, Ir.evE.eq_17, Ir.evE.eq_19, Ir.evEs, Ir.evRs, Ir.evO, Ir.evOt, Ir.evT, Ir.evI, Ir.evS.eq_1, Ir.evS.eq_2, Ir.evS.eq_3, Ir.evS.eq_4, Ir.evS.eq_5, Ir.evS.eq_6, Ir.evS.eq_9, Ir.evS.eq_10, Ir.evS.eq_11, Ir.evS.eq_12, Ir.evS.eq_13, Ir.Ok_for, Ir.ev2, Ir.startE, Ir.bT_n, Ir.bT_t, Ir.bT_m, Ir.bTs_n, Ir.bTs_c, Ir.wipeE, Ir.mt0, Ir.mt1, Ir.mt2, Ir.mt3, Ir.mt4, Ir.ad0, Ir.ad1, Ir.ad2, Ir.ad3, Ir.arrU, Ir.fu, Ir.ft, Ir.gd, Ir.gRu, Ir.gRt, Ir.sq1, Ir.sq2, Ir.ls1, Ir.rt1, Ir.rt2, Ir.bopR_d, Ir.b_add, Ir.b_sub, Ir.c_lt, Ir.c_le, Ir.c_gt, Ir.c_ge, Ir.c_eqi, Ir.c_eqs, Ir.c_eqb, Ir.c_nei, Ir.c_nes, Ir.c_neb, Ir.c_is, Ir.c_isn, Ir.n1, Ir.n2, Ir.n3, Ir.n4, Ir.n5, Ir.n6, Ir.d_lt, Ir.d_le, Ir.d_gt, Ir.d_ge, Ir.x_tup, Ir.x_tmp, Ir.x_mix, Ir.x_ref, Ir.a0, Ir.a1, Ir.a2, Ir.i30, Ir.i32, Ir.f_len, Ir.l_tup, Ir.l_tmp, Ir.l_mix, Ir.l_ref, Ir.f_int, Ir.f_intb, Ir.f_abs, Ir.f_max, Ir.f_min, Ir.f_tup, Ir.f_list, Ir.f_all, Ir.f_any, Ir.f_isin, Ir.t_int, Ir.t_str, Ir.t_bl, Ir.t_non, Ir.t_tup, Ir.t_mix, Ir.is_ii, Ir.is_ib, Ir.is_tt, Ir.is_it, Ir.is_ss, Ir.p_j, Ir.p_s, Ir.p_p, Ir.tr_b, Ir.s_tmp, Ir.s_tup, Ir.s_str, Ir.boolsD, Ir.strsD, Ir.sqr, Ir.lsr, Ir.ob1, Ir.ob2, Ir.blU, List.map_cons, List.map_nil, List.length_cons, List.length_nil, List.replicate, List.cons_append, List.nil_append, List.append_nil, List.getElem?_cons_zero, List.getElem?_cons_succ, List.getElem?_nil, List.set_cons_zero, List.set_cons_succ, List.set_nil, Option.bind_some, Option.map_some, Option.map_none, Option.bind_none, if_true, if_false, ite_true, ite_false, reduceIte, Bool.not_true, Bool.not_false, List.take_succ_cons, List.take_length, List.take_zero, Nat.add_sub_cancel, Nat.sub_self, Nat.reduceSub, Nat.reduceAdd, reduceCtorEq, Bool.false_eq_true, decide_true, decide_false, List.all_cons, List.any_cons, List.all_nil, List.any_nil, id_eq, Bool.true_and, Bool.and_true, Bool.false_or, Bool.or_false, Ir.zc0, Ir.zc1, Ir.zc2, Ir.zc3, eq_self, Ir.bools_const, Ir.all_const, Ir.any_const, ir_is_integer]
theorem is_within_eq {k : Nat} {v a b : Int} {S : Store} (h1 : a ≤ v) (h2 : v ≤ b) : run pd.fds (k + 2) 1 [.d (.int v), .d (.int a), .d (.int b)] S = some (.d (.bl true), S) := by
  refine run_eq ⟨3, 3, ir_is_within⟩ rfl rfl ?_
  simp -implicitDefEqProofs only [Ir.Ok_bind, Ir.Ok_map, Ir.Ok_some, Ir.Ok_none, Ir.evSs, Ir.evE.eq_1, Ir.evE.eq_2, Ir.evE.eq_3, Ir.evE.eq_4, Ir.evE.eq_5, Ir.evE.eq_6, Ir.evE.eq_7, Ir.evE.eq_8, Ir.evE.eq_9, Ir.evE.eq_10, Ir.evE.eq_11, Ir.evE.eq_12, Ir.evE.eq_13, Ir.evE.eq_14, Ir.evE.eq_15, Ir.evE.eq_16, Ir.evE.eq_17, Ir.evE.eq_19, Ir.evEs, Ir.evRs, Ir.evO, Ir.evOt, Ir.evT, Ir.evI, Ir.evS.eq_1, Ir.evS.eq_2, Ir.evS.eq_3, Ir.evS.eq_4, Ir.evS.eq_5, Ir.evS.eq_6, Ir.evS.eq_9, Ir.evS.eq_10, Ir.evS.eq_11, Ir.evS.eq_12, Ir.evS.eq_13, Ir.Ok_for, Ir.ev2, Ir.startE, Ir.bT_n, Ir.bT_t, Ir.bT_m, Ir.bTs_n, Ir.bTs_c, Ir.wipeE, Ir.mt0, Ir.mt1, Ir.mt2, Ir.mt3, Ir.mt4, Ir.ad0, Ir.ad1, Ir.ad2, Ir.ad3, Ir.arrU, Ir.fu, Ir.ft, Ir.gd, Ir.gRu, Ir.gRt, Ir.sq1, Ir.sq2, Ir.ls1, Ir.rt1, Ir.rt2, Ir.bopR_d, Ir.b_add, Ir.b_sub, Ir.c_lt, Ir.c_le, Ir.c_gt, Ir.c_ge, Ir.c_eqi, Ir.c_eqs, Ir.c_eqb, Ir.c_nei, Ir.c_nes, Ir.c_neb, Ir.c_is, Ir.c_isn, Ir.n1, Ir.n2, Ir.n3, Ir.n4, Ir.n5, Ir.n6, Ir.d_lt, Ir.d_le, Ir.d_gt, Ir.d_ge, Ir.x_tup, Ir.x_tmp, Ir.x_mix, Ir.x_ref, Ir.a0, Ir.a1, Ir.a2, Ir.i30, Ir.i32, Ir.f_len, Ir.l_tup, Ir.l_tmp, Ir.l_mix, Ir.l_ref, Ir.f_int, Ir.f_intb, Ir.f_abs, Ir.f_max, Ir.f_min, Ir.f_tup, Ir.f_list, Ir.f_all, Ir.f_any, Ir.f_isin, Ir.t_int, Ir.t_str, Ir.t_bl, Ir.t_non, Ir.t_tup, Ir.t_mix, Ir.is_ii, Ir.is_ib, Ir.is_tt, Ir.is_it, Ir.is_ss, Ir.p_j, Ir.p_s, Ir.p_p, Ir.tr_b, Ir.s_tmp, Ir.s_tup, Ir.s_str, Ir.boolsD, Ir.strsD, Ir.sqr, Ir.lsr, Ir.ob1, Ir.ob2, Ir.blU, List.map_cons, List.map_nil, List.length_cons, List.length_nil, List.replicate, List.cons_append, List.nil_append, List.append_nil, List.getElem?_cons_zero, List.getElem?_cons_succ, List.getElem?_nil, List.set_cons_zero, List.set_cons_succ, List.set_nil, Option.bind_some, Option.map_some, Option.map_none, Option.bind_none, if_true, if_false, ite_true, ite_false, reduceIte, Bool.not_true, Bool.not_false, List.take_succ_cons, List.take_length, List.take_zero, Nat.add_sub_cancel, Nat.sub_self, Nat.reduceSub, Nat.reduceAdd, reduceCtorEq, Bool.false_eq_true, decide_true, decide_false, List.all_cons, List.any_cons, List.all_nil, List.any_nil, id_eq, Bool.true_and, Bool.and_true, Bool.false_or, Bool.or_false, Ir.zc0, Ir.zc1, Ir.zc2, Ir.zc3, eq_self, Ir.bools_const, Ir.all_const, Ir.any_const, ir_is_within, is_integer_eq, h1, h2]
theorem is_a_row_eq {k : Nat} {r : List Int} {S : Store} (h : ∀ x ∈ r, -1000 ≤ x ∧ x ≤ 1000) (hl : r.length ≤ lim) : run pd.fds (k + 3) 2 [.d (.tup (r.map .int)), .d (.int r.length)] S = some (.d (.bl true), S) := by
  refine run_eq ⟨2, 3, ir_is_a_row⟩ rfl rfl ?_
  simp -implicitDefEqProofs only [Ir.Ok_bind, Ir.Ok_map, Ir.Ok_some, Ir.Ok_none, Ir.evSs, Ir.evE.eq_1, Ir.evE.eq_2, Ir.evE.eq_3, Ir.evE.eq_4, Ir.evE.eq_5, Ir.evE.eq_6, Ir.evE.eq_7, Ir.evE.eq_8, Ir.evE.eq_9, Ir.evE.eq_10, Ir.evE.eq_11, Ir.evE.eq_12, Ir.evE.eq_13, Ir.evE.eq_14, Ir.evE.eq_15, Ir.evE.eq_16, Ir.evE.eq_17, Ir.evE.eq_19, Ir.evEs, Ir.evRs, Ir.evO, Ir.evOt, Ir.evT, Ir.evI, Ir.evS.eq_1, Ir.evS.eq_2, Ir.evS.eq_3, Ir.evS.eq_4, Ir.evS.eq_5, Ir.evS.eq_6, Ir.evS.eq_9, Ir.evS.eq_10, Ir.evS.eq_11, Ir.evS.eq_12, Ir.evS.eq_13, Ir.Ok_for, Ir.ev2, Ir.startE, Ir.bT_n, Ir.bT_t, Ir.bT_m, Ir.bTs_n, Ir.bTs_c, Ir.wipeE, Ir.mt0, Ir.mt1, Ir.mt2, Ir.mt3, Ir.mt4, Ir.ad0, Ir.ad1, Ir.ad2, Ir.ad3, Ir.arrU, Ir.fu, Ir.ft, Ir.gd, Ir.gRu, Ir.gRt, Ir.sq1, Ir.sq2, Ir.ls1, Ir.rt1, Ir.rt2, Ir.bopR_d, Ir.b_add, Ir.b_sub, Ir.c_lt, Ir.c_le, Ir.c_gt, Ir.c_ge, Ir.c_eqi, Ir.c_eqs, Ir.c_eqb, Ir.c_nei, Ir.c_nes, Ir.c_neb, Ir.c_is, Ir.c_isn, Ir.n1, Ir.n2, Ir.n3, Ir.n4, Ir.n5, Ir.n6, Ir.d_lt, Ir.d_le, Ir.d_gt, Ir.d_ge, Ir.x_tup, Ir.x_tmp, Ir.x_mix, Ir.x_ref, Ir.a0, Ir.a1, Ir.a2, Ir.i30, Ir.i32, Ir.f_len, Ir.l_tup, Ir.l_tmp, Ir.l_mix, Ir.l_ref, Ir.f_int, Ir.f_intb, Ir.f_abs, Ir.f_max, Ir.f_min, Ir.f_tup, Ir.f_list, Ir.f_all, Ir.f_any, Ir.f_isin, Ir.t_int, Ir.t_str, Ir.t_bl, Ir.t_non, Ir.t_tup, Ir.t_mix, Ir.is_ii, Ir.is_ib, Ir.is_tt, Ir.is_it, Ir.is_ss, Ir.p_j, Ir.p_s, Ir.p_p, Ir.tr_b, Ir.s_tmp, Ir.s_tup, Ir.s_str, Ir.boolsD, Ir.strsD, Ir.sqr, Ir.lsr, Ir.ob1, Ir.ob2, Ir.blU, List.map_cons, List.map_nil, List.length_cons, List.length_nil, List.replicate, List.cons_append, List.nil_append, List.append_nil, List.getElem?_cons_zero, List.getElem?_cons_succ, List.getElem?_nil, List.set_cons_zero, List.set_cons_succ, List.set_nil, Option.bind_some, Option.map_some, Option.map_none, Option.bind_none, if_true, if_false, ite_true, ite_false, reduceIte, Bool.not_true, Bool.not_false, List.take_succ_cons, List.take_length, List.take_zero, Nat.add_sub_cancel, Nat.sub_self, Nat.reduceSub, Nat.reduceAdd, reduceCtorEq, Bool.false_eq_true, decide_true, decide_false, List.all_cons, List.any_cons, List.all_nil, List.any_nil, id_eq, Bool.true_and, Bool.and_true, Bool.false_or, Bool.or_false, Ir.zc0, Ir.zc1, Ir.zc2, Ir.zc3, eq_self, Ir.bools_const, Ir.all_const, Ir.any_const, ir_is_a_row, List.length_map]
  refine Ok.of (comp_tup (fun _ => .bl true) (xs := r.map .int) (by simp -implicitDefEqProofs only [Ir.Ok_bind, Ir.Ok_map, Ir.Ok_some, Ir.Ok_none, Ir.evSs, Ir.evE.eq_1, Ir.evE.eq_2, Ir.evE.eq_3, Ir.evE.eq_4, Ir.evE.eq_5, Ir.evE.eq_6, Ir.evE.eq_7, Ir.evE.eq_8, Ir.evE.eq_9, Ir.evE.eq_10, Ir.evE.eq_11, Ir.evE.eq_12, Ir.evE.eq_13, Ir.evE.eq_14, Ir.evE.eq_15, Ir.evE.eq_16, Ir.evE.eq_17, Ir.evE.eq_19, Ir.evEs, Ir.evRs, Ir.evO, Ir.evOt, Ir.evT, Ir.evI, Ir.evS.eq_1, Ir.evS.eq_2, Ir.evS.eq_3, Ir.evS.eq_4, Ir.evS.eq_5, Ir.evS.eq_6, Ir.evS.eq_9, Ir.evS.eq_10, Ir.evS.eq_11, Ir.evS.eq_12, Ir.evS.eq_13, Ir.Ok_for, Ir.ev2, Ir.startE, Ir.bT_n, Ir.bT_t, Ir.bT_m, Ir.bTs_n, Ir.bTs_c, Ir.wipeE, Ir.mt0, Ir.mt1, Ir.mt2, Ir.mt3, Ir.mt4, Ir.ad0, Ir.ad1, Ir.ad2, Ir.ad3, Ir.arrU, Ir.fu, Ir.ft, Ir.gd, Ir.gRu, Ir.gRt, Ir.sq1, Ir.sq2, Ir.ls1, Ir.rt1, Ir.rt2, Ir.bopR_d, Ir.b_add, Ir.b_sub, Ir.c_lt, Ir.c_le, Ir.c_gt, Ir.c_ge, Ir.c_eqi, Ir.c_eqs, Ir.c_eqb, Ir.c_nei, Ir.c_nes, Ir.c_neb, Ir.c_is, Ir.c_isn, Ir.n1, Ir.n2, Ir.n3, Ir.n4, Ir.n5, Ir.n6, Ir.d_lt, Ir.d_le, Ir.d_gt, Ir.d_ge, Ir.x_tup, Ir.x_tmp, Ir.x_mix, Ir.x_ref, Ir.a0, Ir.a1, Ir.a2, Ir.i30, Ir.i32, Ir.f_len, Ir.l_tup, Ir.l_tmp, Ir.l_mix, Ir.l_ref, Ir.f_int, Ir.f_intb, Ir.f_abs, Ir.f_max, Ir.f_min, Ir.f_tup, Ir.f_list, Ir.f_all, Ir.f_any, Ir.f_isin, Ir.t_int, Ir.t_str, Ir.t_bl, Ir.t_non, Ir.t_tup, Ir.t_mix, Ir.is_ii, Ir.is_ib, Ir.is_tt, Ir.is_it, Ir.is_ss, Ir.p_j, Ir.p_s, Ir.p_p, Ir.tr_b, Ir.s_tmp, Ir.s_tup, Ir.s_str, Ir.boolsD, Ir.strsD, Ir.sqr, Ir.lsr, Ir.ob1, Ir.ob2, Ir.blU, List.map_cons, List.map_nil, List.length_cons, List.length_nil, List.replicate, List.cons_append, List.nil_append, List.append_nil, List.getElem?_cons_zero, List.getElem?_cons_succ, List.getElem?_nil, List.set_cons_zero, List.set_cons_succ, List.set_nil, Option.bind_some, Option.map_some, Option.map_none, Option.bind_none, if_true, if_false, ite_true, ite_false, reduceIte, Bool.not_true, Bool.not_false, List.take_succ_cons, List.take_length, List.take_zero, Nat.add_sub_cancel, Nat.sub_self, Nat.reduceSub, Nat.reduceAdd, reduceCtorEq, Bool.false_eq_true, decide_true, decide_false, List.all_cons, List.any_cons, List.all_nil, List.any_nil, id_eq, Bool.true_and, Bool.and_true, Bool.false_or, Bool.or_false, Ir.zc0, Ir.zc1, Ir.zc2, Ir.zc3, eq_self, Ir.bools_const, Ir.all_const, Ir.any_const]) (by simpa using hl) (fun x hx acc => ?_)) ?_
  · obtain ⟨v, hv, rfl⟩ := List.mem_map.mp hx
    simp -implicitDefEqProofs only [turnC, Ir.Ok_bind, Ir.Ok_map, Ir.Ok_some, Ir.Ok_none, Ir.evSs, Ir.evE.eq_1, Ir.evE.eq_2, Ir.evE.eq_3, Ir.evE.eq_4, Ir.evE.eq_5, Ir.evE.eq_6, Ir.evE.eq_7, Ir.evE.eq_8, Ir.evE.eq_9, Ir.evE.eq_10, Ir.evE.eq_11, Ir.evE.eq_12, Ir.evE.eq_13, Ir.evE.eq_14, Ir.evE.eq_15, Ir.evE.eq_16, Ir.evE.eq_17, Ir.evE.eq_19, Ir.evEs, Ir.evRs, Ir.evO, Ir.evOt, Ir.evT, Ir.evI, Ir.evS.eq_1, Ir.evS.eq_2, Ir.evS.eq_3, Ir.evS.eq_4, Ir.evS.eq_5, Ir.evS.eq_6, Ir.evS.eq_9, Ir.evS.eq_10, Ir.evS.eq_11, Ir.evS.eq_12, Ir.evS.eq_13, Ir.Ok_for, Ir.ev2, Ir.startE, Ir.bT_n, Ir.bT_t, Ir.bT_m, Ir.bTs_n, Ir.bTs_c, Ir.wipeE, Ir.mt0, Ir.mt1, Ir.mt2, Ir.mt3, Ir.mt4, Ir.ad0, Ir.ad1, Ir.ad2, Ir.ad3, Ir.arrU, Ir.fu, Ir.ft, Ir.gd, Ir.gRu, Ir.gRt, Ir.sq1, Ir.sq2, Ir.ls1, Ir.rt1, Ir.rt2, Ir.bopR_d, Ir.b_add, Ir.b_sub, Ir.c_lt, Ir.c_le, Ir.c_gt, Ir.c_ge, Ir.c_eqi, Ir.c_eqs, Ir.c_eqb, Ir.c_nei, Ir.c_nes, Ir.c_neb, Ir.c_is, Ir.c_isn, Ir.n1, Ir.n2, Ir.n3, Ir.n4, Ir.n5, Ir.n6, Ir.d_lt, Ir.d_le, Ir.d_gt, Ir.d_ge, Ir.x_tup, Ir.x_tmp, Ir.x_mix, Ir.x_ref, Ir.a0, Ir.a1, Ir.a2, Ir.i30, Ir.i32, Ir.f_len, Ir.l_tup, Ir.l_tmp, Ir.l_mix, Ir.l_ref, Ir.f_int, Ir.f_intb, Ir.f_abs, Ir.f_max, Ir.f_min, Ir.f_tup, Ir.f_list, Ir.f_all, Ir.f_any, Ir.f_isin, Ir.t_int, Ir.t_str, Ir.t_bl, Ir.t_non, Ir.t_tup, Ir.t_mix, Ir.is_ii, Ir.is_ib, Ir.is_tt, Ir.is_it, Ir.is_ss, Ir.p_j, Ir.p_s, Ir.p_p, Ir.tr_b, Ir.s_tmp, Ir.s_tup, Ir.s_str, Ir.boolsD, Ir.strsD, Ir.sqr, Ir.lsr, Ir.ob1, Ir.ob2, Ir.blU, List.map_cons, List.map_nil, List.length_cons, List.length_nil, List.replicate, List.cons_append, List.nil_append, List.append_nil, List.getElem?_cons_zero, List.getElem?_cons_succ, List.getElem?_nil, List.set_cons_zero, List.set_cons_succ, List.set_nil, Option.bind_some, Option.map_some, Option.map_none, Option.bind_none, if_true, if_false, ite_true, ite_false, reduceIte, Bool.not_true, Bool.not_false, List.take_succ_cons, List.take_length, List.take_zero, Nat.add_sub_cancel, Nat.sub_self, Nat.reduceSub, Nat.reduceAdd, reduceCtorEq, Bool.false_eq_true, decide_true, decide_false, List.all_cons, List.any_cons, List.all_nil, List.any_nil, id_eq, Bool.true_and, Bool.and_true, Bool.false_or, Bool.or_false, Ir.zc0, Ir.zc1, Ir.zc2, Ir.zc3, eq_self, Ir.bools_const, Ir.all_const, Ir.any_const, is_within_eq (h v hv).1 (h v hv).2]
  · simp -implicitDefEqProofs only [Ir.Ok_bind, Ir.Ok_map, Ir.Ok_some, Ir.Ok_none, Ir.evSs, Ir.evE.eq_1, Ir.evE.eq_2, Ir.evE.eq_3, Ir.evE.eq_4, Ir.evE.eq_5, Ir.evE.eq_6, Ir.evE.eq_7, Ir.evE.eq_8, Ir.evE.eq_9, Ir.evE.eq_10, Ir.evE.eq_11, Ir.evE.eq_12, Ir.evE.eq_13, Ir.evE.eq_14, Ir.evE.eq_15, Ir.evE.eq_16, Ir.evE.eq_17, Ir.evE.eq_19, Ir.evEs, Ir.evRs, Ir.evO, Ir.evOt, Ir.evT, Ir.evI, Ir.evS.eq_1, Ir.evS.eq_2, Ir.evS.eq_3, Ir.evS.eq_4, Ir.evS.eq_5, Ir.evS.eq_6, Ir.evS.eq_9, Ir.evS.eq_10, Ir.evS.eq_11, Ir.evS.eq_12, Ir.evS.eq_13, Ir.Ok_for, Ir.ev2, Ir.startE, Ir.bT_n, Ir.bT_t, Ir.bT_m, Ir.bTs_n, Ir.bTs_c, Ir.wipeE, Ir.mt0, Ir.mt1, Ir.mt2, Ir.mt3, Ir.mt4, Ir.ad0, Ir.ad1, Ir.ad2, Ir.ad3, Ir.arrU, Ir.fu, Ir.ft, Ir.gd, Ir.gRu, Ir.gRt, Ir.sq1, Ir.sq2, Ir.ls1, Ir.rt1, Ir.rt2, Ir.bopR_d, Ir.b_add, Ir.b_sub, Ir.c_lt, Ir.c_le, Ir.c_gt, Ir.c_ge, Ir.c_eqi, Ir.c_eqs, Ir.c_eqb, Ir.c_nei, Ir.c_nes, Ir.c_neb, Ir.c_is, Ir.c_isn, Ir.n1, Ir.n2, Ir.n3, Ir.n4, Ir.n5, Ir.n6, Ir.d_lt, Ir.d_le, Ir.d_gt, Ir.d_ge, Ir.x_tup, Ir.x_tmp, Ir.x_mix, Ir.x_ref, Ir.a0, Ir.a1, Ir.a2, Ir.i30, Ir.i32, Ir.f_len, Ir.l_tup, Ir.l_tmp, Ir.l_mix, Ir.l_ref, Ir.f_int, Ir.f_intb, Ir.f_abs, Ir.f_max, Ir.f_min, Ir.f_tup, Ir.f_list, Ir.f_all, Ir.f_any, Ir.f_isin, Ir.t_int, Ir.t_str, Ir.t_bl, Ir.t_non, Ir.t_tup, Ir.t_mix, Ir.is_ii, Ir.is_ib, Ir.is_tt, Ir.is_it, Ir.is_ss, Ir.p_j, Ir.p_s, Ir.p_p, Ir.tr_b, Ir.s_tmp, Ir.s_tup, Ir.s_str, Ir.boolsD, Ir.strsD, Ir.sqr, Ir.lsr, Ir.ob1, Ir.ob2, Ir.blU, List.map_cons, List.map_nil, List.length_cons, List.length_nil, List.replicate, List.cons_append, List.nil_append, List.append_nil, List.getElem?_cons_zero, List.getElem?_cons_succ, List.getElem?_nil, List.set_cons_zero, List.set_cons_succ, List.set_nil, Option.bind_some, Option.map_some, Option.map_none, Option.bind_none, if_true, if_false, ite_true, ite_false, reduceIte, Bool.not_true, Bool.not_false, List.take_succ_cons, List.take_length, List.take_zero, Nat.add_sub_cancel, Nat.sub_self, Nat.reduceSub, Nat.reduceAdd, reduceCtorEq, Bool.false_eq_true, decide_true, decide_false, List.all_cons, List.any_cons, List.all_nil, List.any_nil, id_eq, Bool.true_and, Bool.and_true, Bool.false_or, Bool.or_false, Ir.zc0, Ir.zc1, Ir.zc2, Ir.zc3, eq_self, Ir.bools_const, Ir.all_const, Ir.any_const]
/-- a table of the game -/
def rowD (r : List Int) : D := .tup (r.map .int)
def tabD (t : List (List Int)) : D := .tup (t.map rowD)
def TabOk (rows cols : Nat) (t : List (List Int)) : Prop := t.length = rows ∧ ∀ r ∈ t, r.length = cols ∧ ∀ x ∈ r, -1000 ≤ x ∧ x ≤ 1000
theorem is_a_table_eq {k rows cols : Nat} {t : List (List Int)} {S : Store} (h : TabOk rows cols t) (h1 : 1 ≤ rows ∧ rows ≤ 5) (h2 : 1 ≤ cols ∧ cols ≤ 5) : run pd.fds (k + 4) 3 [.d (tabD t)] S = some (.d (.bl true), S) := by
  obtain ⟨hl, hr⟩ := h
  cases t with
  | nil => simp at hl; omega
  | cons r0 t =>
  have hr0 := (hr r0 (by simp)).1
  refine run_eq ⟨1, 2, ir_is_a_table⟩ rfl rfl ?_
  have e1 : (1 : Int) ≤ ((r0 :: t).length : Int) := by omega
  have e2 : ((r0 :: t).length : Int) ≤ 5 := by omega
  have e3 : (1 : Int) ≤ (r0.length : Int) := by omega
  have e4 : (r0.length : Int) ≤ 5 := by omega
  have e1' : (1 : Int) ≤ ((t.length + 1 : Nat) : Int) := e1
  have e2' : ((t.length + 1 : Nat) : Int) ≤ 5 := e2
  simp -implicitDefEqProofs only [Ir.Ok_bind, Ir.Ok_map, Ir.Ok_some, Ir.Ok_none, Ir.evSs, Ir.evE.eq_1, Ir.evE.eq_2, Ir.evE.eq_3, Ir.evE.eq_4, Ir.evE.eq_5, Ir.evE.eq_6, Ir.evE.eq_7, Ir.evE.eq_8, Ir.evE.eq_9, Ir.evE.eq_10, Ir.evE.eq_11, Ir.evE.eq_12, Ir.evE.eq_13, Ir.evE.eq_14, Ir.evE.eq_15, Ir.evE.eq_16, Ir.evE.eq_17, Ir.evE.eq_19, Ir.evEs, Ir.evRs, Ir.evO, Ir.evOt, Ir.evT, Ir.evI, Ir.evS.eq_1, Ir.evS.eq_2, Ir.evS.eq_3, Ir.evS.eq_4, Ir.evS.eq_5, Ir.evS.eq_6, Ir.evS.eq_9, Ir.evS.eq_10, Ir.evS.eq_11, Ir.evS.eq_12, Ir.evS.eq_13, Ir.Ok_for, Ir.ev2, Ir.startE, Ir.bT_n, Ir.bT_t, Ir.bT_m, Ir.bTs_n, Ir.bTs_c, Ir.wipeE, Ir.mt0, Ir.mt1, Ir.mt2, Ir.mt3, Ir.mt4, Ir.ad0, Ir.ad1, Ir.ad2, Ir.ad3, Ir.arrU, Ir.fu, Ir.ft, Ir.gd, Ir.gRu, Ir.gRt, Ir.sq1, Ir.sq2, Ir.ls1, Ir.rt1, Ir.rt2, Ir.bopR_d, Ir.b_add, Ir.b_sub, Ir.c_lt, Ir.c_le, Ir.c_gt, Ir.c_ge, Ir.c_eqi, Ir.c_eqs, Ir.c_eqb, Ir.c_nei, Ir.c_nes, Ir.c_neb, Ir.c_is, Ir.c_isn, Ir.n1, Ir.n2, Ir.n3, Ir.n4, Ir.n5, Ir.n6, Ir.d_lt, Ir.d_le, Ir.d_gt, Ir.d_ge, Ir.x_tup, Ir.x_tmp, Ir.x_mix, Ir.x_ref, Ir.a0, Ir.a1, Ir.a2, Ir.i30, Ir.i32, Ir.f_len, Ir.l_tup, Ir.l_tmp, Ir.l_mix, Ir.l_ref, Ir.f_int, Ir.f_intb, Ir.f_abs, Ir.f_max, Ir.f_min, Ir.f_tup, Ir.f_list, Ir.f_all, Ir.f_any, Ir.f_isin, Ir.t_int, Ir.t_str, Ir.t_bl, Ir.t_non, Ir.t_tup, Ir.t_mix, Ir.is_ii, Ir.is_ib, Ir.is_tt, Ir.is_it, Ir.is_ss, Ir.p_j, Ir.p_s, Ir.p_p, Ir.tr_b, Ir.s_tmp, Ir.s_tup, Ir.s_str, Ir.boolsD, Ir.strsD, Ir.sqr, Ir.lsr, Ir.ob1, Ir.ob2, Ir.blU, List.map_cons, List.map_nil, List.length_cons, List.length_nil, List.replicate, List.cons_append, List.nil_append, List.append_nil, List.getElem?_cons_zero, List.getElem?_cons_succ, List.getElem?_nil, List.set_cons_zero, List.set_cons_succ, List.set_nil, Option.bind_some, Option.map_some, Option.map_none, Option.bind_none, if_true, if_false, ite_true, ite_false, reduceIte, Bool.not_true, Bool.not_false, List.take_succ_cons, List.take_length, List.take_zero, Nat.add_sub_cancel, Nat.sub_self, Nat.reduceSub, Nat.reduceAdd, reduceCtorEq, Bool.false_eq_true, decide_true, decide_false, List.all_cons, List.any_cons, List.all_nil, List.any_nil, id_eq, Bool.true_and, Bool.and_true, Bool.false_or, Bool.or_false, Ir.zc0, Ir.zc1, Ir.zc2, Ir.zc3, eq_self, Ir.bools_const, Ir.all_const, Ir.any_const, ir_is_a_table, tabD, rowD, List.length_map, e1', e2', e3, e4]
  refine Ok.of (comp_tup (fun _ => .bl true) (xs := (r0 :: t).map rowD) (by simp -implicitDefEqProofs only [Ir.Ok_bind, Ir.Ok_map, Ir.Ok_some, Ir.Ok_none, Ir.evSs, Ir.evE.eq_1, Ir.evE.eq_2, Ir.evE.eq_3, Ir.evE.eq_4, Ir.evE.eq_5, Ir.evE.eq_6, Ir.evE.eq_7, Ir.evE.eq_8, Ir.evE.eq_9, Ir.evE.eq_10, Ir.evE.eq_11, Ir.evE.eq_12, Ir.evE.eq_13, Ir.evE.eq_14, Ir.evE.eq_15, Ir.evE.eq_16, Ir.evE.eq_17, Ir.evE.eq_19, Ir.evEs, Ir.evRs, Ir.evO, Ir.evOt, Ir.evT, Ir.evI, Ir.evS.eq_1, Ir.evS.eq_2, Ir.evS.eq_3, Ir.evS.eq_4, Ir.evS.eq_5, Ir.evS.eq_6, Ir.evS.eq_9, Ir.evS.eq_10, Ir.evS.eq_11, Ir.evS.eq_12, Ir.evS.eq_13, Ir.Ok_for, Ir.ev2, Ir.startE, Ir.bT_n, Ir.bT_t, Ir.bT_m, Ir.bTs_n, Ir.bTs_c, Ir.wipeE, Ir.mt0, Ir.mt1, Ir.mt2, Ir.mt3, Ir.mt4, Ir.ad0, Ir.ad1, Ir.ad2, Ir.ad3, Ir.arrU, Ir.fu, Ir.ft, Ir.gd, Ir.gRu, Ir.gRt, Ir.sq1, Ir.sq2, Ir.ls1, Ir.rt1, Ir.rt2, Ir.bopR_d, Ir.b_add, Ir.b_sub, Ir.c_lt, Ir.c_le, Ir.c_gt, Ir.c_ge, Ir.c_eqi, Ir.c_eqs, Ir.c_eqb, Ir.c_nei, Ir.c_nes, Ir.c_neb, Ir.c_is, Ir.c_isn, Ir.n1, Ir.n2, Ir.n3, Ir.n4, Ir.n5, Ir.n6, Ir.d_lt, Ir.d_le, Ir.d_gt, Ir.d_ge, Ir.x_tup, Ir.x_tmp, Ir.x_mix, Ir.x_ref, Ir.a0, Ir.a1, Ir.a2, Ir.i30, Ir.i32, Ir.f_len, Ir.l_tup, Ir.l_tmp, Ir.l_mix, Ir.l_ref, Ir.f_int, Ir.f_intb, Ir.f_abs, Ir.f_max, Ir.f_min, Ir.f_tup, Ir.f_list, Ir.f_all, Ir.f_any, Ir.f_isin, Ir.t_int, Ir.t_str, Ir.t_bl, Ir.t_non, Ir.t_tup, Ir.t_mix, Ir.is_ii, Ir.is_ib, Ir.is_tt, Ir.is_it, Ir.is_ss, Ir.p_j, Ir.p_s, Ir.p_p, Ir.tr_b, Ir.s_tmp, Ir.s_tup, Ir.s_str, Ir.boolsD, Ir.strsD, Ir.sqr, Ir.lsr, Ir.ob1, Ir.ob2, Ir.blU, List.map_cons, List.map_nil, List.length_cons, List.length_nil, List.replicate, List.cons_append, List.nil_append, List.append_nil, List.getElem?_cons_zero, List.getElem?_cons_succ, List.getElem?_nil, List.set_cons_zero, List.set_cons_succ, List.set_nil, Option.bind_some, Option.map_some, Option.map_none, Option.bind_none, if_true, if_false, ite_true, ite_false, reduceIte, Bool.not_true, Bool.not_false, List.take_succ_cons, List.take_length, List.take_zero, Nat.add_sub_cancel, Nat.sub_self, Nat.reduceSub, Nat.reduceAdd, reduceCtorEq, Bool.false_eq_true, decide_true, decide_false, List.all_cons, List.any_cons, List.all_nil, List.any_nil, id_eq, Bool.true_and, Bool.and_true, Bool.false_or, Bool.or_false, Ir.zc0, Ir.zc1, Ir.zc2, Ir.zc3, eq_self, Ir.bools_const, Ir.all_const, Ir.any_const, rowD]) (leLim (by simp; omega)) (fun x hx acc => ?_)) ?_
  · obtain ⟨r, hv, rfl⟩ := List.mem_map.mp hx
    have e5 : r0.length = r.length := by rw [hr0, (hr r hv).1]
    simp -implicitDefEqProofs only [turnC, Ir.Ok_bind, Ir.Ok_map, Ir.Ok_some, Ir.Ok_none, Ir.evSs, Ir.evE.eq_1, Ir.evE.eq_2, Ir.evE.eq_3, Ir.evE.eq_4, Ir.evE.eq_5, Ir.evE.eq_6, Ir.evE.eq_7, Ir.evE.eq_8, Ir.evE.eq_9, Ir.evE.eq_10, Ir.evE.eq_11, Ir.evE.eq_12, Ir.evE.eq_13, Ir.evE.eq_14, Ir.evE.eq_15, Ir.evE.eq_16, Ir.evE.eq_17, Ir.evE.eq_19, Ir.evEs, Ir.evRs, Ir.evO, Ir.evOt, Ir.evT, Ir.evI, Ir.evS.eq_1, Ir.evS.eq_2, Ir.evS.eq_3, Ir.evS.eq_4, Ir.evS.eq_5, Ir.evS.eq_6, Ir.evS.eq_9, Ir.evS.eq_10, Ir.evS.eq_11, Ir.evS.eq_12, Ir.evS.eq_13, Ir.Ok_for, Ir.ev2, Ir.startE, Ir.bT_n, Ir.bT_t, Ir.bT_m, Ir.bTs_n, Ir.bTs_c, Ir.wipeE, Ir.mt0, Ir.mt1, Ir.mt2, Ir.mt3, Ir.mt4, Ir.ad0, Ir.ad1, Ir.ad2, Ir.ad3, Ir.arrU, Ir.fu, Ir.ft, Ir.gd, Ir.gRu, Ir.gRt, Ir.sq1, Ir.sq2, Ir.ls1, Ir.rt1, Ir.rt2, Ir.bopR_d, Ir.b_add, Ir.b_sub, Ir.c_lt, Ir.c_le, Ir.c_gt, Ir.c_ge, Ir.c_eqi, Ir.c_eqs, Ir.c_eqb, Ir.c_nei, Ir.c_nes, Ir.c_neb, Ir.c_is, Ir.c_isn, Ir.n1, Ir.n2, Ir.n3, Ir.n4, Ir.n5, Ir.n6, Ir.d_lt, Ir.d_le, Ir.d_gt, Ir.d_ge, Ir.x_tup, Ir.x_tmp, Ir.x_mix, Ir.x_ref, Ir.a0, Ir.a1, Ir.a2, Ir.i30, Ir.i32, Ir.f_len, Ir.l_tup, Ir.l_tmp, Ir.l_mix, Ir.l_ref, Ir.f_int, Ir.f_intb, Ir.f_abs, Ir.f_max, Ir.f_min, Ir.f_tup, Ir.f_list, Ir.f_all, Ir.f_any, Ir.f_isin, Ir.t_int, Ir.t_str, Ir.t_bl, Ir.t_non, Ir.t_tup, Ir.t_mix, Ir.is_ii, Ir.is_ib, Ir.is_tt, Ir.is_it, Ir.is_ss, Ir.p_j, Ir.p_s, Ir.p_p, Ir.tr_b, Ir.s_tmp, Ir.s_tup, Ir.s_str, Ir.boolsD, Ir.strsD, Ir.sqr, Ir.lsr, Ir.ob1, Ir.ob2, Ir.blU, List.map_cons, List.map_nil, List.length_cons, List.length_nil, List.replicate, List.cons_append, List.nil_append, List.append_nil, List.getElem?_cons_zero, List.getElem?_cons_succ, List.getElem?_nil, List.set_cons_zero, List.set_cons_succ, List.set_nil, Option.bind_some, Option.map_some, Option.map_none, Option.bind_none, if_true, if_false, ite_true, ite_false, reduceIte, Bool.not_true, Bool.not_false, List.take_succ_cons, List.take_length, List.take_zero, Nat.add_sub_cancel, Nat.sub_self, Nat.reduceSub, Nat.reduceAdd, reduceCtorEq, Bool.false_eq_true, decide_true, decide_false, List.all_cons, List.any_cons, List.all_nil, List.any_nil, id_eq, Bool.true_and, Bool.and_true, Bool.false_or, Bool.or_false, Ir.zc0, Ir.zc1, Ir.zc2, Ir.zc3, eq_self, Ir.bools_const, Ir.all_const, Ir.any_const, rowD, List.length_map]
    rw [e5]
    simp -implicitDefEqProofs only [Ir.Ok_bind, Ir.Ok_map, Ir.Ok_some, Ir.Ok_none, Ir.evSs, Ir.evE.eq_1, Ir.evE.eq_2, Ir.evE.eq_3, Ir.evE.eq_4, Ir.evE.eq_5, Ir.evE.eq_6, Ir.evE.eq_7, Ir.evE.eq_8, Ir.evE.eq_9, Ir.evE.eq_10, Ir.evE.eq_11, Ir.evE.eq_12, Ir.evE.eq_13, Ir.evE.eq_14, Ir.evE.eq_15, Ir.evE.eq_16, Ir.evE.eq_17, Ir.evE.eq_19, Ir.evEs, Ir.evRs, Ir.evO, Ir.evOt, Ir.evT, Ir.evI, Ir.evS.eq_1, Ir.evS.eq_2, Ir.evS.eq_3, Ir.evS.eq_4, Ir.evS.eq_5, Ir.evS.eq_6, Ir.evS.eq_9, Ir.evS.eq_10, Ir.evS.eq_11, Ir.evS.eq_12, Ir.evS.eq_13, Ir.Ok_for, Ir.ev2, Ir.startE, Ir.bT_n, Ir.bT_t, Ir.bT_m, Ir.bTs_n, Ir.bTs_c, Ir.wipeE, Ir.mt0, Ir.mt1, Ir.mt2, Ir.mt3, Ir.mt4, Ir.ad0, Ir.ad1, Ir.ad2, Ir.ad3, Ir.arrU, Ir.fu, Ir.ft, Ir.gd, Ir.gRu, Ir.gRt, Ir.sq1, Ir.sq2, Ir.ls1, Ir.rt1, Ir.rt2, Ir.bopR_d, Ir.b_add, Ir.b_sub, Ir.c_lt, Ir.c_le, Ir.c_gt, Ir.c_ge, Ir.c_eqi, Ir.c_eqs, Ir.c_eqb, Ir.c_nei, Ir.c_nes, Ir.c_neb, Ir.c_is, Ir.c_isn, Ir.n1, Ir.n2, Ir.n3, Ir.n4, Ir.n5, Ir.n6, Ir.d_lt, Ir.d_le, Ir.d_gt, Ir.d_ge, Ir.x_tup, Ir.x_tmp, Ir.x_mix, Ir.x_ref, Ir.a0, Ir.a1, Ir.a2, Ir.i30, Ir.i32, Ir.f_len, Ir.l_tup, Ir.l_tmp, Ir.l_mix, Ir.l_ref, Ir.f_int, Ir.f_intb, Ir.f_abs, Ir.f_max, Ir.f_min, Ir.f_tup, Ir.f_list, Ir.f_all, Ir.f_any, Ir.f_isin, Ir.t_int, Ir.t_str, Ir.t_bl, Ir.t_non, Ir.t_tup, Ir.t_mix, Ir.is_ii, Ir.is_ib, Ir.is_tt, Ir.is_it, Ir.is_ss, Ir.p_j, Ir.p_s, Ir.p_p, Ir.tr_b, Ir.s_tmp, Ir.s_tup, Ir.s_str, Ir.boolsD, Ir.strsD, Ir.sqr, Ir.lsr, Ir.ob1, Ir.ob2, Ir.blU, List.map_cons, List.map_nil, List.length_cons, List.length_nil, List.replicate, List.cons_append, List.nil_append, List.append_nil, List.getElem?_cons_zero, List.getElem?_cons_succ, List.getElem?_nil, List.set_cons_zero, List.set_cons_succ, List.set_nil, Option.bind_some, Option.map_some, Option.map_none, Option.bind_none, if_true, if_false, ite_true, ite_false, reduceIte, Bool.not_true, Bool.not_false, List.take_succ_cons, List.take_length, List.take_zero, Nat.add_sub_cancel, Nat.sub_self, Nat.reduceSub, Nat.reduceAdd, reduceCtorEq, Bool.false_eq_true, decide_true, decide_false, List.all_cons, List.any_cons, List.all_nil, List.any_nil, id_eq, Bool.true_and, Bool.and_true, Bool.false_or, Bool.or_false, Ir.zc0, Ir.zc1, Ir.zc2, Ir.zc3, eq_self, Ir.bools_const, Ir.all_const, Ir.any_const, is_a_row_eq (hr r hv).2 (leLim (by rw [(hr r hv).1]; omega))]
  · simp -implicitDefEqProofs only [Ir.Ok_bind, Ir.Ok_map, Ir.Ok_some, Ir.Ok_none, Ir.evSs, Ir.evE.eq_1, Ir.evE.eq_2, Ir.evE.eq_3, Ir.evE.eq_4, Ir.evE.eq_5, Ir.evE.eq_6, Ir.evE.eq_7, Ir.evE.eq_8, Ir.evE.eq_9, Ir.evE.eq_10, Ir.evE.eq_11, Ir.evE.eq_12, Ir.evE.eq_13, Ir.evE.eq_14, Ir.evE.eq_15, Ir.evE.eq_16, Ir.evE.eq_17, Ir.evE.eq_19, Ir.evEs, Ir.evRs, Ir.evO, Ir.evOt, Ir.evT, Ir.evI, Ir.evS.eq_1, Ir.evS.eq_2, Ir.evS.eq_3, Ir.evS.eq_4, Ir.evS.eq_5, Ir.evS.eq_6, Ir.evS.eq_9, Ir.evS.eq_10, Ir.evS.eq_11, Ir.evS.eq_12, Ir.evS.eq_13, Ir.Ok_for, Ir.ev2, Ir.startE, Ir.bT_n, Ir.bT_t, Ir.bT_m, Ir.bTs_n, Ir.bTs_c, Ir.wipeE, Ir.mt0, Ir.mt1, Ir.mt2, Ir.mt3, Ir.mt4, Ir.ad0, Ir.ad1, Ir.ad2, Ir.ad3, Ir.arrU, Ir.fu, Ir.ft, Ir.gd, Ir.gRu, Ir.gRt, Ir.sq1, Ir.sq2, Ir.ls1, Ir.rt1, Ir.rt2, Ir.bopR_d, Ir.b_add, Ir.b_sub, Ir.c_lt, Ir.c_le, Ir.c_gt, Ir.c_ge, Ir.c_eqi, Ir.c_eqs, Ir.c_eqb, Ir.c_nei, Ir.c_nes, Ir.c_neb, Ir.c_is, Ir.c_isn, Ir.n1, Ir.n2, Ir.n3, Ir.n4, Ir.n5, Ir.n6, Ir.d_lt, Ir.d_le, Ir.d_gt, Ir.d_ge, Ir.x_tup, Ir.x_tmp, Ir.x_mix, Ir.x_ref, Ir.a0, Ir.a1, Ir.a2, Ir.i30, Ir.i32, Ir.f_len, Ir.l_tup, Ir.l_tmp, Ir.l_mix, Ir.l_ref, Ir.f_int, Ir.f_intb, Ir.f_abs, Ir.f_max, Ir.f_min, Ir.f_tup, Ir.f_list, Ir.f_all, Ir.f_any, Ir.f_isin, Ir.t_int, Ir.t_str, Ir.t_bl, Ir.t_non, Ir.t_tup, Ir.t_mix, Ir.is_ii, Ir.is_ib, Ir.is_tt, Ir.is_it, Ir.is_ss, Ir.p_j, Ir.p_s, Ir.p_p, Ir.tr_b, Ir.s_tmp, Ir.s_tup, Ir.s_str, Ir.boolsD, Ir.strsD, Ir.sqr, Ir.lsr, Ir.ob1, Ir.ob2, Ir.blU, List.map_cons, List.map_nil, List.length_cons, List.length_nil, List.replicate, List.cons_append, List.nil_append, List.append_nil, List.getElem?_cons_zero, List.getElem?_cons_succ, List.getElem?_nil, List.set_cons_zero, List.set_cons_succ, List.set_nil, Option.bind_some, Option.map_some, Option.map_none, Option.bind_none, if_true, if_false, ite_true, ite_false, reduceIte, Bool.not_true, Bool.not_false, List.take_succ_cons, List.take_length, List.take_zero, Nat.add_sub_cancel, Nat.sub_self, Nat.reduceSub, Nat.reduceAdd, reduceCtorEq, Bool.false_eq_true, decide_true, decide_false, List.all_cons, List.any_cons, List.all_nil, List.any_nil, id_eq, Bool.true_and, Bool.and_true, Bool.false_or, Bool.or_false, Ir.zc0, Ir.zc1, Ir.zc2, Ir.zc3, eq_self, Ir.bools_const, Ir.all_const, Ir.any_const]
theorem are_tables_like_eq {k rows cols : Nat} {t u : List (List Int)} {S : Store} (ht : TabOk rows cols t) (hu : TabOk rows cols u) (h1 : 1 ≤ rows ∧ rows ≤ 5) (h2 : 1 ≤ cols ∧ cols ≤ 5) :
    run pd.fds (k + 5) 4 [.d (.tup [tabD t, tabD u]), .d (.int rows), .d (.int cols)] S = some (.d (.bl true), S) := by
  refine run_eq ⟨3, 4, ir_are_tables_like⟩ rfl rfl ?_
  have key : ∀ x ∈ [tabD t, tabD u], ∃ w, x = tabD w ∧ TabOk rows cols w := by
    intro x hx
    simp at hx
    rcases hx with rfl | rfl
    · exact ⟨_, rfl, ht⟩
    · exact ⟨_, rfl, hu⟩
  simp -implicitDefEqProofs only [Ir.Ok_bind, Ir.Ok_map, Ir.Ok_some, Ir.Ok_none, Ir.evSs, Ir.evE.eq_1, Ir.evE.eq_2, Ir.evE.eq_3, Ir.evE.eq_4, Ir.evE.eq_5, Ir.evE.eq_6, Ir.evE.eq_7, Ir.evE.eq_8, Ir.evE.eq_9, Ir.evE.eq_10, Ir.evE.eq_11, Ir.evE.eq_12, Ir.evE.eq_13, Ir.evE.eq_14, Ir.evE.eq_15, Ir.evE.eq_16, Ir.evE.eq_17, Ir.evE.eq_19, Ir.evEs, Ir.evRs, Ir.evO, Ir.evOt, Ir.evT, Ir.evI, Ir.evS.eq_1, Ir.evS.eq_2, Ir.evS.eq_3, Ir.evS.eq_4, Ir.evS.eq_5, Ir.evS.eq_6, Ir.evS.eq_9, Ir.evS.eq_10, Ir.evS.eq_11, Ir.evS.eq_12, Ir.evS.eq_13, Ir.Ok_for, Ir.ev2, Ir.startE, Ir.bT_n, Ir.bT_t, Ir.bT_m, Ir.bTs_n, Ir.bTs_c, Ir.wipeE, Ir.mt0, Ir.mt1, Ir.mt2, Ir.mt3, Ir.mt4, Ir.ad0, Ir.ad1, Ir.ad2, Ir.ad3, Ir.arrU, Ir.fu, Ir.ft, Ir.gd, Ir.gRu, Ir.gRt, Ir.sq1, Ir.sq2, Ir.ls1, Ir.rt1, Ir.rt2, Ir.bopR_d, Ir.b_add, Ir.b_sub, Ir.c_lt, Ir.c_le, Ir.c_gt, Ir.c_ge, Ir.c_eqi, Ir.c_eqs, Ir.c_eqb, Ir.c_nei, Ir.c_nes, Ir.c_neb, Ir.c_is, Ir.c_isn, Ir.n1, Ir.n2, Ir.n3, Ir.n4, Ir.n5, Ir.n6, Ir.d_lt, Ir.d_le, Ir.d_gt, Ir.d_ge, Ir.x_tup, Ir.x_tmp, Ir.x_mix, Ir.x_ref, Ir.a0, Ir.a1, Ir.a2, Ir.i30, Ir.i32, Ir.f_len, Ir.l_tup, Ir.l_tmp, Ir.l_mix, Ir.l_ref, Ir.f_int, Ir.f_intb, Ir.f_abs, Ir.f_max, Ir.f_min, Ir.f_tup, Ir.f_list, Ir.f_all, Ir.f_any, Ir.f_isin, Ir.t_int, Ir.t_str, Ir.t_bl, Ir.t_non, Ir.t_tup, Ir.t_mix, Ir.is_ii, Ir.is_ib, Ir.is_tt, Ir.is_it, Ir.is_ss, Ir.p_j, Ir.p_s, Ir.p_p, Ir.tr_b, Ir.s_tmp, Ir.s_tup, Ir.s_str, Ir.boolsD, Ir.strsD, Ir.sqr, Ir.lsr, Ir.ob1, Ir.ob2, Ir.blU, List.map_cons, List.map_nil, List.length_cons, List.length_nil, List.replicate, List.cons_append, List.nil_append, List.append_nil, List.getElem?_cons_zero, List.getElem?_cons_succ, List.getElem?_nil, List.set_cons_zero, List.set_cons_succ, List.set_nil, Option.bind_some, Option.map_some, Option.map_none, Option.bind_none, if_true, if_false, ite_true, ite_false, reduceIte, Bool.not_true, Bool.not_false, List.take_succ_cons, List.take_length, List.take_zero, Nat.add_sub_cancel, Nat.sub_self, Nat.reduceSub, Nat.reduceAdd, reduceCtorEq, Bool.false_eq_true, decide_true, decide_false, List.all_cons, List.any_cons, List.all_nil, List.any_nil, id_eq, Bool.true_and, Bool.and_true, Bool.false_or, Bool.or_false, Ir.zc0, Ir.zc1, Ir.zc2, Ir.zc3, eq_self, Ir.bools_const, Ir.all_const, Ir.any_const, ir_are_tables_like]
  refine Ok.of (comp_tup (fun _ => .bl true) (xs := [tabD t, tabD u]) (by simp -implicitDefEqProofs only [Ir.Ok_bind, Ir.Ok_map, Ir.Ok_some, Ir.Ok_none, Ir.evSs, Ir.evE.eq_1, Ir.evE.eq_2, Ir.evE.eq_3, Ir.evE.eq_4, Ir.evE.eq_5, Ir.evE.eq_6, Ir.evE.eq_7, Ir.evE.eq_8, Ir.evE.eq_9, Ir.evE.eq_10, Ir.evE.eq_11, Ir.evE.eq_12, Ir.evE.eq_13, Ir.evE.eq_14, Ir.evE.eq_15, Ir.evE.eq_16, Ir.evE.eq_17, Ir.evE.eq_19, Ir.evEs, Ir.evRs, Ir.evO, Ir.evOt, Ir.evT, Ir.evI, Ir.evS.eq_1, Ir.evS.eq_2, Ir.evS.eq_3, Ir.evS.eq_4, Ir.evS.eq_5, Ir.evS.eq_6, Ir.evS.eq_9, Ir.evS.eq_10, Ir.evS.eq_11, Ir.evS.eq_12, Ir.evS.eq_13, Ir.Ok_for, Ir.ev2, Ir.startE, Ir.bT_n, Ir.bT_t, Ir.bT_m, Ir.bTs_n, Ir.bTs_c, Ir.wipeE, Ir.mt0, Ir.mt1, Ir.mt2, Ir.mt3, Ir.mt4, Ir.ad0, Ir.ad1, Ir.ad2, Ir.ad3, Ir.arrU, Ir.fu, Ir.ft, Ir.gd, Ir.gRu, Ir.gRt, Ir.sq1, Ir.sq2, Ir.ls1, Ir.rt1, Ir.rt2, Ir.bopR_d, Ir.b_add, Ir.b_sub, Ir.c_lt, Ir.c_le, Ir.c_gt, Ir.c_ge, Ir.c_eqi, Ir.c_eqs, Ir.c_eqb, Ir.c_nei, Ir.c_nes, Ir.c_neb, Ir.c_is, Ir.c_isn, Ir.n1, Ir.n2, Ir.n3, Ir.n4, Ir.n5, Ir.n6, Ir.d_lt, Ir.d_le, Ir.d_gt, Ir.d_ge, Ir.x_tup, Ir.x_tmp, Ir.x_mix, Ir.x_ref, Ir.a0, Ir.a1, Ir.a2, Ir.i30, Ir.i32, Ir.f_len, Ir.l_tup, Ir.l_tmp, Ir.l_mix, Ir.l_ref, Ir.f_int, Ir.f_intb, Ir.f_abs, Ir.f_max, Ir.f_min, Ir.f_tup, Ir.f_list, Ir.f_all, Ir.f_any, Ir.f_isin, Ir.t_int, Ir.t_str, Ir.t_bl, Ir.t_non, Ir.t_tup, Ir.t_mix, Ir.is_ii, Ir.is_ib, Ir.is_tt, Ir.is_it, Ir.is_ss, Ir.p_j, Ir.p_s, Ir.p_p, Ir.tr_b, Ir.s_tmp, Ir.s_tup, Ir.s_str, Ir.boolsD, Ir.strsD, Ir.sqr, Ir.lsr, Ir.ob1, Ir.ob2, Ir.blU, List.map_cons, List.map_nil, List.length_cons, List.length_nil, List.replicate, List.cons_append, List.nil_append, List.append_nil, List.getElem?_cons_zero, List.getElem?_cons_succ, List.getElem?_nil, List.set_cons_zero, List.set_cons_succ, List.set_nil, Option.bind_some, Option.map_some, Option.map_none, Option.bind_none, if_true, if_false, ite_true, ite_false, reduceIte, Bool.not_true, Bool.not_false, List.take_succ_cons, List.take_length, List.take_zero, Nat.add_sub_cancel, Nat.sub_self, Nat.reduceSub, Nat.reduceAdd, reduceCtorEq, Bool.false_eq_true, decide_true, decide_false, List.all_cons, List.any_cons, List.all_nil, List.any_nil, id_eq, Bool.true_and, Bool.and_true, Bool.false_or, Bool.or_false, Ir.zc0, Ir.zc1, Ir.zc2, Ir.zc3, eq_self, Ir.bools_const, Ir.all_const, Ir.any_const]) (leLim (by simp)) (fun x hx acc => ?_)) ?_
  · obtain ⟨w, rfl, hw⟩ := key x hx
    simp -implicitDefEqProofs only [turnC, Ir.Ok_bind, Ir.Ok_map, Ir.Ok_some, Ir.Ok_none, Ir.evSs, Ir.evE.eq_1, Ir.evE.eq_2, Ir.evE.eq_3, Ir.evE.eq_4, Ir.evE.eq_5, Ir.evE.eq_6, Ir.evE.eq_7, Ir.evE.eq_8, Ir.evE.eq_9, Ir.evE.eq_10, Ir.evE.eq_11, Ir.evE.eq_12, Ir.evE.eq_13, Ir.evE.eq_14, Ir.evE.eq_15, Ir.evE.eq_16, Ir.evE.eq_17, Ir.evE.eq_19, Ir.evEs, Ir.evRs, Ir.evO, Ir.evOt, Ir.evT, Ir.evI, Ir.evS.eq_1, Ir.evS.eq_2, Ir.evS.eq_3, Ir.evS.eq_4, Ir.evS.eq_5, Ir.evS.eq_6, Ir.evS.eq_9, Ir.evS.eq_10, Ir.evS.eq_11, Ir.evS.eq_12, Ir.evS.eq_13, Ir.Ok_for, Ir.ev2, Ir.startE, Ir.bT_n, Ir.bT_t, Ir.bT_m, Ir.bTs_n, Ir.bTs_c, Ir.wipeE, Ir.mt0, Ir.mt1, Ir.mt2, Ir.mt3, Ir.mt4, Ir.ad0, Ir.ad1, Ir.ad2, Ir.ad3, Ir.arrU, Ir.fu, Ir.ft, Ir.gd, Ir.gRu, Ir.gRt, Ir.sq1, Ir.sq2, Ir.ls1, Ir.rt1, Ir.rt2, Ir.bopR_d, Ir.b_add, Ir.b_sub, Ir.c_lt, Ir.c_le, Ir.c_gt, Ir.c_ge, Ir.c_eqi, Ir.c_eqs, Ir.c_eqb, Ir.c_nei, Ir.c_nes, Ir.c_neb, Ir.c_is, Ir.c_isn, Ir.n1, Ir.n2, Ir.n3, Ir.n4, Ir.n5, Ir.n6, Ir.d_lt, Ir.d_le, Ir.d_gt, Ir.d_ge, Ir.x_tup, Ir.x_tmp, Ir.x_mix, Ir.x_ref, Ir.a0, Ir.a1, Ir.a2, Ir.i30, Ir.i32, Ir.f_len, Ir.l_tup, Ir.l_tmp, Ir.l_mix, Ir.l_ref, Ir.f_int, Ir.f_intb, Ir.f_abs, Ir.f_max, Ir.f_min, Ir.f_tup, Ir.f_list, Ir.f_all, Ir.f_any, Ir.f_isin, Ir.t_int, Ir.t_str, Ir.t_bl, Ir.t_non, Ir.t_tup, Ir.t_mix, Ir.is_ii, Ir.is_ib, Ir.is_tt, Ir.is_it, Ir.is_ss, Ir.p_j, Ir.p_s, Ir.p_p, Ir.tr_b, Ir.s_tmp, Ir.s_tup, Ir.s_str, Ir.boolsD, Ir.strsD, Ir.sqr, Ir.lsr, Ir.ob1, Ir.ob2, Ir.blU, List.map_cons, List.map_nil, List.length_cons, List.length_nil, List.replicate, List.cons_append, List.nil_append, List.append_nil, List.getElem?_cons_zero, List.getElem?_cons_succ, List.getElem?_nil, List.set_cons_zero, List.set_cons_succ, List.set_nil, Option.bind_some, Option.map_some, Option.map_none, Option.bind_none, if_true, if_false, ite_true, ite_false, reduceIte, Bool.not_true, Bool.not_false, List.take_succ_cons, List.take_length, List.take_zero, Nat.add_sub_cancel, Nat.sub_self, Nat.reduceSub, Nat.reduceAdd, reduceCtorEq, Bool.false_eq_true, decide_true, decide_false, List.all_cons, List.any_cons, List.all_nil, List.any_nil, id_eq, Bool.true_and, Bool.and_true, Bool.false_or, Bool.or_false, Ir.zc0, Ir.zc1, Ir.zc2, Ir.zc3, eq_self, Ir.bools_const, Ir.all_const, Ir.any_const, is_a_table_eq hw h1 h2]
  · simp -implicitDefEqProofs only [Ir.Ok_bind, Ir.Ok_map, Ir.Ok_some, Ir.Ok_none, Ir.evSs, Ir.evE.eq_1, Ir.evE.eq_2, Ir.evE.eq_3, Ir.evE.eq_4, Ir.evE.eq_5, Ir.evE.eq_6, Ir.evE.eq_7, Ir.evE.eq_8, Ir.evE.eq_9, Ir.evE.eq_10, Ir.evE.eq_11, Ir.evE.eq_12, Ir.evE.eq_13, Ir.evE.eq_14, Ir.evE.eq_15, Ir.evE.eq_16, Ir.evE.eq_17, Ir.evE.eq_19, Ir.evEs, Ir.evRs, Ir.evO, Ir.evOt, Ir.evT, Ir.evI, Ir.evS.eq_1, Ir.evS.eq_2, Ir.evS.eq_3, Ir.evS.eq_4, Ir.evS.eq_5, Ir.evS.eq_6, Ir.evS.eq_9, Ir.evS.eq_10, Ir.evS.eq_11, Ir.evS.eq_12, Ir.evS.eq_13, Ir.Ok_for, Ir.ev2, Ir.startE, Ir.bT_n, Ir.bT_t, Ir.bT_m, Ir.bTs_n, Ir.bTs_c, Ir.wipeE, Ir.mt0, Ir.mt1, Ir.mt2, Ir.mt3, Ir.mt4, Ir.ad0, Ir.ad1, Ir.ad2, Ir.ad3, Ir.arrU, Ir.fu, Ir.ft, Ir.gd, Ir.gRu, Ir.gRt, Ir.sq1, Ir.sq2, Ir.ls1, Ir.rt1, Ir.rt2, Ir.bopR_d, Ir.b_add, Ir.b_sub, Ir.c_lt, Ir.c_le, Ir.c_gt, Ir.c_ge, Ir.c_eqi, Ir.c_eqs, Ir.c_eqb, Ir.c_nei, Ir.c_nes, Ir.c_neb, Ir.c_is, Ir.c_isn, Ir.n1, Ir.n2, Ir.n3, Ir.n4, Ir.n5, Ir.n6, Ir.d_lt, Ir.d_le, Ir.d_gt, Ir.d_ge, Ir.x_tup, Ir.x_tmp, Ir.x_mix, Ir.x_ref, Ir.a0, Ir.a1, Ir.a2, Ir.i30, Ir.i32, Ir.f_len, Ir.l_tup, Ir.l_tmp, Ir.l_mix, Ir.l_ref, Ir.f_int, Ir.f_intb, Ir.f_abs, Ir.f_max, Ir.f_min, Ir.f_tup, Ir.f_list, Ir.f_all, Ir.f_any, Ir.f_isin, Ir.t_int, Ir.t_str, Ir.t_bl, Ir.t_non, Ir.t_tup, Ir.t_mix, Ir.is_ii, Ir.is_ib, Ir.is_tt, Ir.is_it, Ir.is_ss, Ir.p_j, Ir.p_s, Ir.p_p, Ir.tr_b, Ir.s_tmp, Ir.s_tup, Ir.s_str, Ir.boolsD, Ir.strsD, Ir.sqr, Ir.lsr, Ir.ob1, Ir.ob2, Ir.blU, List.map_cons, List.map_nil, List.length_cons, List.length_nil, List.replicate, List.cons_append, List.nil_append, List.append_nil, List.getElem?_cons_zero, List.getElem?_cons_succ, List.getElem?_nil, List.set_cons_zero, List.set_cons_succ, List.set_nil, Option.bind_some, Option.map_some, Option.map_none, Option.bind_none, if_true, if_false, ite_true, ite_false, reduceIte, Bool.not_true, Bool.not_false, List.take_succ_cons, List.take_length, List.take_zero, Nat.add_sub_cancel, Nat.sub_self, Nat.reduceSub, Nat.reduceAdd, reduceCtorEq, Bool.false_eq_true, decide_true, decide_false, List.all_cons, List.any_cons, List.all_nil, List.any_nil, id_eq, Bool.true_and, Bool.and_true, Bool.false_or, Bool.or_false, Ir.zc0, Ir.zc1, Ir.zc2, Ir.zc3, eq_self, Ir.bools_const, Ir.all_const, Ir.any_const]
    refine Ok.of (comp_tup (fun _ => .bl true) (xs := [tabD t, tabD u]) (by simp -implicitDefEqProofs only [Ir.Ok_bind, Ir.Ok_map, Ir.Ok_some, Ir.Ok_none, Ir.evSs, Ir.evE.eq_1, Ir.evE.eq_2, Ir.evE.eq_3, Ir.evE.eq_4, Ir.evE.eq_5, Ir.evE.eq_6, Ir.evE.eq_7, Ir.evE.eq_8, Ir.evE.eq_9, Ir.evE.eq_10, Ir.evE.eq_11, Ir.evE.eq_12, Ir.evE.eq_13, Ir.evE.eq_14, Ir.evE.eq_15, Ir.evE.eq_16, Ir.evE.eq_17, Ir.evE.eq_19, Ir.evEs, Ir.evRs, Ir.evO, Ir.evOt, Ir.evT, Ir.evI, Ir.evS.eq_1, Ir.evS.eq_2, Ir.evS.eq_3, Ir.evS.eq_4, Ir.evS.eq_5, Ir.evS.eq_6, Ir.evS.eq_9, Ir.evS.eq_10, Ir.evS.eq_11, Ir.evS.eq_12, Ir.evS.eq_13, Ir.Ok_for, Ir.ev2, Ir.startE, Ir.bT_n, Ir.bT_t, Ir.bT_m, Ir.bTs_n, Ir.bTs_c, Ir.wipeE, Ir.mt0, Ir.mt1, Ir.mt2, Ir.mt3, Ir.mt4, Ir.ad0, Ir.ad1, Ir.ad2, Ir.ad3, Ir.arrU, Ir.fu, Ir.ft, Ir.gd, Ir.gRu, Ir.gRt, Ir.sq1, Ir.sq2, Ir.ls1, Ir.rt1, Ir.rt2, Ir.bopR_d, Ir.b_add, Ir.b_sub, Ir.c_lt, Ir.c_le, Ir.c_gt, Ir.c_ge, Ir.c_eqi, Ir.c_eqs, Ir.c_eqb, Ir.c_nei, Ir.c_nes, Ir.c_neb, Ir.c_is, Ir.c_isn, Ir.n1, Ir.n2, Ir.n3, Ir.n4, Ir.n5, Ir.n6, Ir.d_lt, Ir.d_le, Ir.d_gt, Ir.d_ge, Ir.x_tup, Ir.x_tmp, Ir.x_mix, Ir.x_ref, Ir.a0, Ir.a1, Ir.a2, Ir.i30, Ir.i32, Ir.f_len, Ir.l_tup, Ir.l_tmp, Ir.l_mix, Ir.l_ref, Ir.f_int, Ir.f_intb, Ir.f_abs, Ir.f_max, Ir.f_min, Ir.f_tup, Ir.f_list, Ir.f_all, Ir.f_any, Ir.f_isin, Ir.t_int, Ir.t_str, Ir.t_bl, Ir.t_non, Ir.t_tup, Ir.t_mix, Ir.is_ii, Ir.is_ib, Ir.is_tt, Ir.is_it, Ir.is_ss, Ir.p_j, Ir.p_s, Ir.p_p, Ir.tr_b, Ir.s_tmp, Ir.s_tup, Ir.s_str, Ir.boolsD, Ir.strsD, Ir.sqr, Ir.lsr, Ir.ob1, Ir.ob2, Ir.blU, List.map_cons, List.map_nil, List.length_cons, List.length_nil, List.replicate, List.cons_append, List.nil_append, List.append_nil, List.getElem?_cons_zero, List.getElem?_cons_succ, List.getElem?_nil, List.set_cons_zero, List.set_cons_succ, List.set_nil, Option.bind_some, Option.map_some, Option.map_none, Option.bind_none, if_true, if_false, ite_true, ite_false, reduceIte, Bool.not_true, Bool.not_false, List.take_succ_cons, List.take_length, List.take_zero, Nat.add_sub_cancel, Nat.sub_self, Nat.reduceSub, Nat.reduceAdd, reduceCtorEq, Bool.false_eq_true, decide_true, decide_false, List.all_cons, List.any_cons, List.all_nil, List.any_nil, id_eq, Bool.true_and, Bool.and_true, Bool.false_or, Bool.or_false, Ir.zc0, Ir.zc1, Ir.zc2, Ir.zc3, eq_self, Ir.bools_const, Ir.all_const, Ir.any_const]) (leLim (by simp)) (fun x hx acc => ?_)) ?_
    · obtain ⟨w, rfl, hw⟩ := key x hx
      obtain ⟨hl, hr⟩ := hw
      cases w with
      | nil => simp at hl; omega
      | cons r0 w =>
      have hr0 := (hr r0 (by simp)).1
      have hl' : w.length + 1 = rows := hl
      simp -implicitDefEqProofs only [turnC, Ir.Ok_bind, Ir.Ok_map, Ir.Ok_some, Ir.Ok_none, Ir.evSs, Ir.evE.eq_1, Ir.evE.eq_2, Ir.evE.eq_3, Ir.evE.eq_4, Ir.evE.eq_5, Ir.evE.eq_6, Ir.evE.eq_7, Ir.evE.eq_8, Ir.evE.eq_9, Ir.evE.eq_10, Ir.evE.eq_11, Ir.evE.eq_12, Ir.evE.eq_13, Ir.evE.eq_14, Ir.evE.eq_15, Ir.evE.eq_16, Ir.evE.eq_17, Ir.evE.eq_19, Ir.evEs, Ir.evRs, Ir.evO, Ir.evOt, Ir.evT, Ir.evI, Ir.evS.eq_1, Ir.evS.eq_2, Ir.evS.eq_3, Ir.evS.eq_4, Ir.evS.eq_5, Ir.evS.eq_6, Ir.evS.eq_9, Ir.evS.eq_10, Ir.evS.eq_11, Ir.evS.eq_12, Ir.evS.eq_13, Ir.Ok_for, Ir.ev2, Ir.startE, Ir.bT_n, Ir.bT_t, Ir.bT_m, Ir.bTs_n, Ir.bTs_c, Ir.wipeE, Ir.mt0, Ir.mt1, Ir.mt2, Ir.mt3, Ir.mt4, Ir.ad0, Ir.ad1, Ir.ad2, Ir.ad3, Ir.arrU, Ir.fu, Ir.ft, Ir.gd, Ir.gRu, Ir.gRt, Ir.sq1, Ir.sq2, Ir.ls1, Ir.rt1, Ir.rt2, Ir.bopR_d, Ir.b_add, Ir.b_sub, Ir.c_lt, Ir.c_le, Ir.c_gt, Ir.c_ge, Ir.c_eqi, Ir.c_eqs, Ir.c_eqb, Ir.c_nei, Ir.c_nes, Ir.c_neb, Ir.c_is, Ir.c_isn, Ir.n1, Ir.n2, Ir.n3, Ir.n4, Ir.n5, Ir.n6, Ir.d_lt, Ir.d_le, Ir.d_gt, Ir.d_ge, Ir.x_tup, Ir.x_tmp, Ir.x_mix, Ir.x_ref, Ir.a0, Ir.a1, Ir.a2, Ir.i30, Ir.i32, Ir.f_len, Ir.l_tup, Ir.l_tmp, Ir.l_mix, Ir.l_ref, Ir.f_int, Ir.f_intb, Ir.f_abs, Ir.f_max, Ir.f_min, Ir.f_tup, Ir.f_list, Ir.f_all, Ir.f_any, Ir.f_isin, Ir.t_int, Ir.t_str, Ir.t_bl, Ir.t_non, Ir.t_tup, Ir.t_mix, Ir.is_ii, Ir.is_ib, Ir.is_tt, Ir.is_it, Ir.is_ss, Ir.p_j, Ir.p_s, Ir.p_p, Ir.tr_b, Ir.s_tmp, Ir.s_tup, Ir.s_str, Ir.boolsD, Ir.strsD, Ir.sqr, Ir.lsr, Ir.ob1, Ir.ob2, Ir.blU, List.map_cons, List.map_nil, List.length_cons, List.length_nil, List.replicate, List.cons_append, List.nil_append, List.append_nil, List.getElem?_cons_zero, List.getElem?_cons_succ, List.getElem?_nil, List.set_cons_zero, List.set_cons_succ, List.set_nil, Option.bind_some, Option.map_some, Option.map_none, Option.bind_none, if_true, if_false, ite_true, ite_false, reduceIte, Bool.not_true, Bool.not_false, List.take_succ_cons, List.take_length, List.take_zero, Nat.add_sub_cancel, Nat.sub_self, Nat.reduceSub, Nat.reduceAdd, reduceCtorEq, Bool.false_eq_true, decide_true, decide_false, List.all_cons, List.any_cons, List.all_nil, List.any_nil, id_eq, Bool.true_and, Bool.and_true, Bool.false_or, Bool.or_false, Ir.zc0, Ir.zc1, Ir.zc2, Ir.zc3, eq_self, Ir.bools_const, Ir.all_const, Ir.any_const, tabD, rowD, List.length_map, hl', hr0]
    · simp -implicitDefEqProofs only [Ir.Ok_bind, Ir.Ok_map, Ir.Ok_some, Ir.Ok_none, Ir.evSs, Ir.evE.eq_1, Ir.evE.eq_2, Ir.evE.eq_3, Ir.evE.eq_4, Ir.evE.eq_5, Ir.evE.eq_6, Ir.evE.eq_7, Ir.evE.eq_8, Ir.evE.eq_9, Ir.evE.eq_10, Ir.evE.eq_11, Ir.evE.eq_12, Ir.evE.eq_13, Ir.evE.eq_14, Ir.evE.eq_15, Ir.evE.eq_16, Ir.evE.eq_17, Ir.evE.eq_19, Ir.evEs, Ir.evRs, Ir.evO, Ir.evOt, Ir.evT, Ir.evI, Ir.evS.eq_1, Ir.evS.eq_2, Ir.evS.eq_3, Ir.evS.eq_4, Ir.evS.eq_5, Ir.evS.eq_6, Ir.evS.eq_9, Ir.evS.eq_10, Ir.evS.eq_11, Ir.evS.eq_12, Ir.evS.eq_13, Ir.Ok_for, Ir.ev2, Ir.startE, Ir.bT_n, Ir.bT_t, Ir.bT_m, Ir.bTs_n, Ir.bTs_c, Ir.wipeE, Ir.mt0, Ir.mt1, Ir.mt2, Ir.mt3, Ir.mt4, Ir.ad0, Ir.ad1, Ir.ad2, Ir.ad3, Ir.arrU, Ir.fu, Ir.ft, Ir.gd, Ir.gRu, Ir.gRt, Ir.sq1, Ir.sq2, Ir.ls1, Ir.rt1, Ir.rt2, Ir.bopR_d, Ir.b_add, Ir.b_sub, Ir.c_lt, Ir.c_le, Ir.c_gt, Ir.c_ge, Ir.c_eqi, Ir.c_eqs, Ir.c_eqb, Ir.c_nei, Ir.c_nes, Ir.c_neb, Ir.c_is, Ir.c_isn, Ir.n1, Ir.n2, Ir.n3, Ir.n4, Ir.n5, Ir.n6, Ir.d_lt, Ir.d_le, Ir.d_gt, Ir.d_ge, Ir.x_tup, Ir.x_tmp, Ir.x_mix, Ir.x_ref, Ir.a0, Ir.a1, Ir.a2, Ir.i30, Ir.i32, Ir.f_len, Ir.l_tup, Ir.l_tmp, Ir.l_mix, Ir.l_ref, Ir.f_int, Ir.f_intb, Ir.f_abs, Ir.f_max, Ir.f_min, Ir.f_tup, Ir.f_list, Ir.f_all, Ir.f_any, Ir.f_isin, Ir.t_int, Ir.t_str, Ir.t_bl, Ir.t_non, Ir.t_tup, Ir.t_mix, Ir.is_ii, Ir.is_ib, Ir.is_tt, Ir.is_it, Ir.is_ss, Ir.p_j, Ir.p_s, Ir.p_p, Ir.tr_b, Ir.s_tmp, Ir.s_tup, Ir.s_str, Ir.boolsD, Ir.strsD, Ir.sqr, Ir.lsr, Ir.ob1, Ir.ob2, Ir.blU, List.map_cons, List.map_nil, List.length_cons, List.length_nil, List.replicate, List.cons_append, List.nil_append, List.append_nil, List.getElem?_cons_zero, List.getElem?_cons_succ, List.getElem?_nil, List.set_cons_zero, List.set_cons_succ, List.set_nil, Option.bind_some, Option.map_some, Option.map_none, Option.bind_none, if_true, if_false, ite_true, ite_false, reduceIte, Bool.not_true, Bool.not_false, List.take_succ_cons, List.take_length, List.take_zero, Nat.add_sub_cancel, Nat.sub_self, Nat.reduceSub, Nat.reduceAdd, reduceCtorEq, Bool.false_eq_true, decide_true, decide_false, List.all_cons, List.any_cons, List.all_nil, List.any_nil, id_eq, Bool.true_and, Bool.and_true, Bool.false_or, Bool.or_false, Ir.zc0, Ir.zc1, Ir.zc2, Ir.zc3, eq_self, Ir.bools_const, Ir.all_const, Ir.any_const]
theorem is_a_game_eq {k rows cols : Nat} {t u : List (List Int)} {S : Store} (ht : TabOk rows cols t) (hu : TabOk rows cols u) (h1 : 1 ≤ rows ∧ rows ≤ 5) (h2 : 1 ≤ cols ∧ cols ≤ 5) :
    run pd.fds (k + 6) 5 [.d (.tup [tabD t, tabD u])] S = some (.d (.bl true), S) := by
  refine run_eq ⟨1, 1, ir_is_a_game⟩ rfl rfl ?_
  have a := are_tables_like_eq (k := k) (S := S) ht hu h1 h2
  have b := is_a_table_eq (k := k + 1) (S := S) ht h1 h2
  obtain ⟨hl, hr⟩ := ht
  cases t with
  | nil => simp at hl; omega
  | cons r0 t =>
  have hr0 := (hr r0 (by simp)).1
  have hl' : t.length + 1 = rows := hl
  simp only [tabD, List.map_cons, rowD] at a b
  simp -implicitDefEqProofs only [Ir.Ok_bind, Ir.Ok_map, Ir.Ok_some, Ir.Ok_none, Ir.evSs, Ir.evE.eq_1, Ir.evE.eq_2, Ir.evE.eq_3, Ir.evE.eq_4, Ir.evE.eq_5, Ir.evE.eq_6, Ir.evE.eq_7, Ir.evE.eq_8, Ir.evE.eq_9, Ir.evE.eq_10, Ir.evE.eq_11, Ir.evE.eq_12, Ir.evE.eq_13, Ir.evE.eq_14, Ir.evE.eq_15, Ir.evE.eq_16, Ir.evE.eq_17, Ir.evE.eq_19, Ir.evEs, Ir.evRs, Ir.evO, Ir.evOt, Ir.evT, Ir.evI, Ir.evS.eq_1, Ir.evS.eq_2, Ir.evS.eq_3, Ir.evS.eq_4, Ir.evS.eq_5, Ir.evS.eq_6, Ir.evS.eq_9, Ir.evS.eq_10, Ir.evS.eq_11, Ir.evS.eq_12, Ir.evS.eq_13, Ir.Ok_for, Ir.ev2, Ir.startE, Ir.bT_n, Ir.bT_t, Ir.bT_m, Ir.bTs_n, Ir.bTs_c, Ir.wipeE, Ir.mt0, Ir.mt1, Ir.mt2, Ir.mt3, Ir.mt4, Ir.ad0, Ir.ad1, Ir.ad2, Ir.ad3, Ir.arrU, Ir.fu, Ir.ft, Ir.gd, Ir.gRu, Ir.gRt, Ir.sq1, Ir.sq2, Ir.ls1, Ir.rt1, Ir.rt2, Ir.bopR_d, Ir.b_add, Ir.b_sub, Ir.c_lt, Ir.c_le, Ir.c_gt, Ir.c_ge, Ir.c_eqi, Ir.c_eqs, Ir.c_eqb, Ir.c_nei, Ir.c_nes, Ir.c_neb, Ir.c_is, Ir.c_isn, Ir.n1, Ir.n2, Ir.n3, Ir.n4, Ir.n5, Ir.n6, Ir.d_lt, Ir.d_le, Ir.d_gt, Ir.d_ge, Ir.x_tup, Ir.x_tmp, Ir.x_mix, Ir.x_ref, Ir.a0, Ir.a1, Ir.a2, Ir.i30, Ir.i32, Ir.f_len, Ir.l_tup, Ir.l_tmp, Ir.l_mix, Ir.l_ref, Ir.f_int, Ir.f_intb, Ir.f_abs, Ir.f_max, Ir.f_min, Ir.f_tup, Ir.f_list, Ir.f_all, Ir.f_any, Ir.f_isin, Ir.t_int, Ir.t_str, Ir.t_bl, Ir.t_non, Ir.t_tup, Ir.t_mix, Ir.is_ii, Ir.is_ib, Ir.is_tt, Ir.is_it, Ir.is_ss, Ir.p_j, Ir.p_s, Ir.p_p, Ir.tr_b, Ir.s_tmp, Ir.s_tup, Ir.s_str, Ir.boolsD, Ir.strsD, Ir.sqr, Ir.lsr, Ir.ob1, Ir.ob2, Ir.blU, List.map_cons, List.map_nil, List.length_cons, List.length_nil, List.replicate, List.cons_append, List.nil_append, List.append_nil, List.getElem?_cons_zero, List.getElem?_cons_succ, List.getElem?_nil, List.set_cons_zero, List.set_cons_succ, List.set_nil, Option.bind_some, Option.map_some, Option.map_none, Option.bind_none, if_true, if_false, ite_true, ite_false, reduceIte, Bool.not_true, Bool.not_false, List.take_succ_cons, List.take_length, List.take_zero, Nat.add_sub_cancel, Nat.sub_self, Nat.reduceSub, Nat.reduceAdd, reduceCtorEq, Bool.false_eq_true, decide_true, decide_false, List.all_cons, List.any_cons, List.all_nil, List.any_nil, id_eq, Bool.true_and, Bool.and_true, Bool.false_or, Bool.or_false, Ir.zc0, Ir.zc1, Ir.zc2, Ir.zc3, eq_self, Ir.bools_const, Ir.all_const, Ir.any_const, ir_is_a_game, tabD, rowD, List.length_map, b, hl', hr0, a]
theorem need_game_eq {k rows cols : Nat} {t u : List (List Int)} {S : Store} (ht : TabOk rows cols t) (hu : TabOk rows cols u) (h1 : 1 ≤ rows ∧ rows ≤ 5) (h2 : 1 ≤ cols ∧ cols ≤ 5) :
    run pd.fds (k + 7) 8 [.d (.tup [tabD t, tabD u])] S = some (.d .non, S) := by
  refine run_eq ⟨1, 1, ir_need_game⟩ rfl rfl ?_
  simp -implicitDefEqProofs only [Ir.Ok_bind, Ir.Ok_map, Ir.Ok_some, Ir.Ok_none, Ir.evSs, Ir.evE.eq_1, Ir.evE.eq_2, Ir.evE.eq_3, Ir.evE.eq_4, Ir.evE.eq_5, Ir.evE.eq_6, Ir.evE.eq_7, Ir.evE.eq_8, Ir.evE.eq_9, Ir.evE.eq_10, Ir.evE.eq_11, Ir.evE.eq_12, Ir.evE.eq_13, Ir.evE.eq_14, Ir.evE.eq_15, Ir.evE.eq_16, Ir.evE.eq_17, Ir.evE.eq_19, Ir.evEs, Ir.evRs, Ir.evO, Ir.evOt, Ir.evT, Ir.evI, Ir.evS.eq_1, Ir.evS.eq_2, Ir.evS.eq_3, Ir.evS.eq_4, Ir.evS.eq_5, Ir.evS.eq_6, Ir.evS.eq_9, Ir.evS.eq_10, Ir.evS.eq_11, Ir.evS.eq_12, Ir.evS.eq_13, Ir.Ok_for, Ir.ev2, Ir.startE, Ir.bT_n, Ir.bT_t, Ir.bT_m, Ir.bTs_n, Ir.bTs_c, Ir.wipeE, Ir.mt0, Ir.mt1, Ir.mt2, Ir.mt3, Ir.mt4, Ir.ad0, Ir.ad1, Ir.ad2, Ir.ad3, Ir.arrU, Ir.fu, Ir.ft, Ir.gd, Ir.gRu, Ir.gRt, Ir.sq1, Ir.sq2, Ir.ls1, Ir.rt1, Ir.rt2, Ir.bopR_d, Ir.b_add, Ir.b_sub, Ir.c_lt, Ir.c_le, Ir.c_gt, Ir.c_ge, Ir.c_eqi, Ir.c_eqs, Ir.c_eqb, Ir.c_nei, Ir.c_nes, Ir.c_neb, Ir.c_is, Ir.c_isn, Ir.n1, Ir.n2, Ir.n3, Ir.n4, Ir.n5, Ir.n6, Ir.d_lt, Ir.d_le, Ir.d_gt, Ir.d_ge, Ir.x_tup, Ir.x_tmp, Ir.x_mix, Ir.x_ref, Ir.a0, Ir.a1, Ir.a2, Ir.i30, Ir.i32, Ir.f_len, Ir.l_tup, Ir.l_tmp, Ir.l_mix, Ir.l_ref, Ir.f_int, Ir.f_intb, Ir.f_abs, Ir.f_max, Ir.f_min, Ir.f_tup, Ir.f_list, Ir.f_all, Ir.f_any, Ir.f_isin, Ir.t_int, Ir.t_str, Ir.t_bl, Ir.t_non, Ir.t_tup, Ir.t_mix, Ir.is_ii, Ir.is_ib, Ir.is_tt, Ir.is_it, Ir.is_ss, Ir.p_j, Ir.p_s, Ir.p_p, Ir.tr_b, Ir.s_tmp, Ir.s_tup, Ir.s_str, Ir.boolsD, Ir.strsD, Ir.sqr, Ir.lsr, Ir.ob1, Ir.ob2, Ir.blU, List.map_cons, List.map_nil, List.length_cons, List.length_nil, List.replicate, List.cons_append, List.nil_append, List.append_nil, List.getElem?_cons_zero, List.getElem?_cons_succ, List.getElem?_nil, List.set_cons_zero, List.set_cons_succ, List.set_nil, Option.bind_some, Option.map_some, Option.map_none, Option.bind_none, if_true, if_false, ite_true, ite_false, reduceIte, Bool.not_true, Bool.not_false, List.take_succ_cons, List.take_length, List.take_zero, Nat.add_sub_cancel, Nat.sub_self, Nat.reduceSub, Nat.reduceAdd, reduceCtorEq, Bool.false_eq_true, decide_true, decide_false, List.all_cons, List.any_cons, List.all_nil, List.any_nil, id_eq, Bool.true_and, Bool.and_true, Bool.false_or, Bool.or_false, Ir.zc0, Ir.zc1, Ir.zc2, Ir.zc3, eq_self, Ir.bools_const, Ir.all_const, Ir.any_const, ir_need_game, is_a_game_eq ht hu h1 h2]
theorem need_side_eq {k : Nat} {i : Int} {S : Store} (h : i = 0 ∨ i = 1) : run pd.fds (k + 4) 9 [.d (.int i)] S = some (.d .non, S) := by
  have e : ∀ j, run pd.fds (j + 3) 6 [.d (.int i)] S = some (.d (.bl true), S) := fun j => by
    refine run_eq ⟨1, 1, ir_is_a_side⟩ rfl rfl ?_
    simp -implicitDefEqProofs only [Ir.Ok_bind, Ir.Ok_map, Ir.Ok_some, Ir.Ok_none, Ir.evSs, Ir.evE.eq_1, Ir.evE.eq_2, Ir.evE.eq_3, Ir.evE.eq_4, Ir.evE.eq_5, Ir.evE.eq_6, Ir.evE.eq_7, Ir.evE.eq_8, Ir.evE.eq_9, Ir.evE.eq_10, Ir.evE.eq_11, Ir.evE.eq_12, Ir.evE.eq_13, Ir.evE.eq_14, Ir.evE.eq_15, Ir.evE.eq_16, Ir.evE.eq_17, Ir.evE.eq_19, Ir.evEs, Ir.evRs, Ir.evO, Ir.evOt, Ir.evT, Ir.evI, Ir.evS.eq_1, Ir.evS.eq_2, Ir.evS.eq_3, Ir.evS.eq_4, Ir.evS.eq_5, Ir.evS.eq_6, Ir.evS.eq_9, Ir.evS.eq_10, Ir.evS.eq_11, Ir.evS.eq_12, Ir.evS.eq_13, Ir.Ok_for, Ir.ev2, Ir.startE, Ir.bT_n, Ir.bT_t, Ir.bT_m, Ir.bTs_n, Ir.bTs_c, Ir.wipeE, Ir.mt0, Ir.mt1, Ir.mt2, Ir.mt3, Ir.mt4, Ir.ad0, Ir.ad1, Ir.ad2, Ir.ad3, Ir.arrU, Ir.fu, Ir.ft, Ir.gd, Ir.gRu, Ir.gRt, Ir.sq1, Ir.sq2, Ir.ls1, Ir.rt1, Ir.rt2, Ir.bopR_d, Ir.b_add, Ir.b_sub, Ir.c_lt, Ir.c_le, Ir.c_gt, Ir.c_ge, Ir.c_eqi, Ir.c_eqs, Ir.c_eqb, Ir.c_nei, Ir.c_nes, Ir.c_neb, Ir.c_is, Ir.c_isn, Ir.n1, Ir.n2, Ir.n3, Ir.n4, Ir.n5, Ir.n6, Ir.d_lt, Ir.d_le, Ir.d_gt, Ir.d_ge, Ir.x_tup, Ir.x_tmp, Ir.x_mix, Ir.x_ref, Ir.a0, Ir.a1, Ir.a2, Ir.i30, Ir.i32, Ir.f_len, Ir.l_tup, Ir.l_tmp, Ir.l_mix, Ir.l_ref, Ir.f_int, Ir.f_intb, Ir.f_abs, Ir.f_max, Ir.f_min, Ir.f_tup, Ir.f_list, Ir.f_all, Ir.f_any, Ir.f_isin, Ir.t_int, Ir.t_str, Ir.t_bl, Ir.t_non, Ir.t_tup, Ir.t_mix, Ir.is_ii, Ir.is_ib, Ir.is_tt, Ir.is_it, Ir.is_ss, Ir.p_j, Ir.p_s, Ir.p_p, Ir.tr_b, Ir.s_tmp, Ir.s_tup, Ir.s_str, Ir.boolsD, Ir.strsD, Ir.sqr, Ir.lsr, Ir.ob1, Ir.ob2, Ir.blU, List.map_cons, List.map_nil, List.length_cons, List.length_nil, List.replicate, List.cons_append, List.nil_append, List.append_nil, List.getElem?_cons_zero, List.getElem?_cons_succ, List.getElem?_nil, List.set_cons_zero, List.set_cons_succ, List.set_nil, Option.bind_some, Option.map_some, Option.map_none, Option.bind_none, if_true, if_false, ite_true, ite_false, reduceIte, Bool.not_true, Bool.not_false, List.take_succ_cons, List.take_length, List.take_zero, Nat.add_sub_cancel, Nat.sub_self, Nat.reduceSub, Nat.reduceAdd, reduceCtorEq, Bool.false_eq_true, decide_true, decide_false, List.all_cons, List.any_cons, List.all_nil, List.any_nil, id_eq, Bool.true_and, Bool.and_true, Bool.false_or, Bool.or_false, Ir.zc0, Ir.zc1, Ir.zc2, Ir.zc3, eq_self, Ir.bools_const, Ir.all_const, Ir.any_const, ir_is_a_side, is_within_eq (show 0 ≤ i by omega) (show i ≤ 1 by omega)]
  refine run_eq ⟨1, 1, ir_need_side⟩ rfl rfl ?_
  simp -implicitDefEqProofs only [Ir.Ok_bind, Ir.Ok_map, Ir.Ok_some, Ir.Ok_none, Ir.evSs, Ir.evE.eq_1, Ir.evE.eq_2, Ir.evE.eq_3, Ir.evE.eq_4, Ir.evE.eq_5, Ir.evE.eq_6, Ir.evE.eq_7, Ir.evE.eq_8, Ir.evE.eq_9, Ir.evE.eq_10, Ir.evE.eq_11, Ir.evE.eq_12, Ir.evE.eq_13, Ir.evE.eq_14, Ir.evE.eq_15, Ir.evE.eq_16, Ir.evE.eq_17, Ir.evE.eq_19, Ir.evEs, Ir.evRs, Ir.evO, Ir.evOt, Ir.evT, Ir.evI, Ir.evS.eq_1, Ir.evS.eq_2, Ir.evS.eq_3, Ir.evS.eq_4, Ir.evS.eq_5, Ir.evS.eq_6, Ir.evS.eq_9, Ir.evS.eq_10, Ir.evS.eq_11, Ir.evS.eq_12, Ir.evS.eq_13, Ir.Ok_for, Ir.ev2, Ir.startE, Ir.bT_n, Ir.bT_t, Ir.bT_m, Ir.bTs_n, Ir.bTs_c, Ir.wipeE, Ir.mt0, Ir.mt1, Ir.mt2, Ir.mt3, Ir.mt4, Ir.ad0, Ir.ad1, Ir.ad2, Ir.ad3, Ir.arrU, Ir.fu, Ir.ft, Ir.gd, Ir.gRu, Ir.gRt, Ir.sq1, Ir.sq2, Ir.ls1, Ir.rt1, Ir.rt2, Ir.bopR_d, Ir.b_add, Ir.b_sub, Ir.c_lt, Ir.c_le, Ir.c_gt, Ir.c_ge, Ir.c_eqi, Ir.c_eqs, Ir.c_eqb, Ir.c_nei, Ir.c_nes, Ir.c_neb, Ir.c_is, Ir.c_isn, Ir.n1, Ir.n2, Ir.n3, Ir.n4, Ir.n5, Ir.n6, Ir.d_lt, Ir.d_le, Ir.d_gt, Ir.d_ge, Ir.x_tup, Ir.x_tmp, Ir.x_mix, Ir.x_ref, Ir.a0, Ir.a1, Ir.a2, Ir.i30, Ir.i32, Ir.f_len, Ir.l_tup, Ir.l_tmp, Ir.l_mix, Ir.l_ref, Ir.f_int, Ir.f_intb, Ir.f_abs, Ir.f_max, Ir.f_min, Ir.f_tup, Ir.f_list, Ir.f_all, Ir.f_any, Ir.f_isin, Ir.t_int, Ir.t_str, Ir.t_bl, Ir.t_non, Ir.t_tup, Ir.t_mix, Ir.is_ii, Ir.is_ib, Ir.is_tt, Ir.is_it, Ir.is_ss, Ir.p_j, Ir.p_s, Ir.p_p, Ir.tr_b, Ir.s_tmp, Ir.s_tup, Ir.s_str, Ir.boolsD, Ir.strsD, Ir.sqr, Ir.lsr, Ir.ob1, Ir.ob2, Ir.blU, List.map_cons, List.map_nil, List.length_cons, List.length_nil, List.replicate, List.cons_append, List.nil_append, List.append_nil, List.getElem?_cons_zero, List.getElem?_cons_succ, List.getElem?_nil, List.set_cons_zero, List.set_cons_succ, List.set_nil, Option.bind_some, Option.map_some, Option.map_none, Option.bind_none, if_true, if_false, ite_true, ite_false, reduceIte, Bool.not_true, Bool.not_false, List.take_succ_cons, List.take_length, List.take_zero, Nat.add_sub_cancel, Nat.sub_self, Nat.reduceSub, Nat.reduceAdd, reduceCtorEq, Bool.false_eq_true, decide_true, decide_false, List.all_cons, List.any_cons, List.all_nil, List.any_nil, id_eq, Bool.true_and, Bool.and_true, Bool.false_or, Bool.or_false, Ir.zc0, Ir.zc1, Ir.zc2, Ir.zc3, eq_self, Ir.bools_const, Ir.all_const, Ir.any_const, ir_need_side, e]
theorem many_of_eq {k rows cols : Nat} {t u : List (List Int)} {S : Store} {i : Int} (ht : TabOk rows cols t) (h1 : 1 ≤ rows) :
    run pd.fds (k + 1) 7 [.d (.tup [tabD t, tabD u]), .d (.int i)] S = some (.d (.int (if i = 0 then (rows : Int) else cols)), S) := by
  refine run_eq ⟨2, 2, ir_many_of⟩ rfl rfl ?_
  obtain ⟨hl, hr⟩ := ht
  cases t with
  | nil => simp at hl; omega
  | cons r0 t =>
  have hr0 := (hr r0 (by simp)).1
  have hl' : t.length + 1 = rows := hl
  by_cases hi : i = 0
  · simp -implicitDefEqProofs only [Ir.Ok_bind, Ir.Ok_map, Ir.Ok_some, Ir.Ok_none, Ir.evSs, Ir.evE.eq_1, Ir.evE.eq_2, Ir.evE.eq_3, Ir.evE.eq_4, Ir.evE.eq_5, Ir.evE.eq_6, Ir.evE.eq_7, Ir.evE.eq_8, Ir.evE.eq_9, Ir.evE.eq_10, Ir.evE.eq_11, Ir.evE.eq_12, Ir.evE.eq_13, Ir.evE.eq_14, Ir.evE.eq_15, Ir.evE.eq_16, Ir.evE.eq_17, Ir.evE.eq_19, Ir.evEs, Ir.evRs, Ir.evO, Ir.evOt, Ir.evT, Ir.evI, Ir.evS.eq_1, Ir.evS.eq_2, Ir.evS.eq_3, Ir.evS.eq_4, Ir.evS.eq_5, Ir.evS.eq_6, Ir.evS.eq_9, Ir.evS.eq_10, Ir.evS.eq_11, Ir.evS.eq_12, Ir.evS.eq_13, Ir.Ok_for, Ir.ev2, Ir.startE, Ir.bT_n, Ir.bT_t, Ir.bT_m, Ir.bTs_n, Ir.bTs_c, Ir.wipeE, Ir.mt0, Ir.mt1, Ir.mt2, Ir.mt3, Ir.mt4, Ir.ad0, Ir.ad1, Ir.ad2, Ir.ad3, Ir.arrU, Ir.fu, Ir.ft, Ir.gd, Ir.gRu, Ir.gRt, Ir.sq1, Ir.sq2, Ir.ls1, Ir.rt1, Ir.rt2, Ir.bopR_d, Ir.b_add, Ir.b_sub, Ir.c_lt, Ir.c_le, Ir.c_gt, Ir.c_ge, Ir.c_eqi, Ir.c_eqs, Ir.c_eqb, Ir.c_nei, Ir.c_nes, Ir.c_neb, Ir.c_is, Ir.c_isn, Ir.n1, Ir.n2, Ir.n3, Ir.n4, Ir.n5, Ir.n6, Ir.d_lt, Ir.d_le, Ir.d_gt, Ir.d_ge, Ir.x_tup, Ir.x_tmp, Ir.x_mix, Ir.x_ref, Ir.a0, Ir.a1, Ir.a2, Ir.i30, Ir.i32, Ir.f_len, Ir.l_tup, Ir.l_tmp, Ir.l_mix, Ir.l_ref, Ir.f_int, Ir.f_intb, Ir.f_abs, Ir.f_max, Ir.f_min, Ir.f_tup, Ir.f_list, Ir.f_all, Ir.f_any, Ir.f_isin, Ir.t_int, Ir.t_str, Ir.t_bl, Ir.t_non, Ir.t_tup, Ir.t_mix, Ir.is_ii, Ir.is_ib, Ir.is_tt, Ir.is_it, Ir.is_ss, Ir.p_j, Ir.p_s, Ir.p_p, Ir.tr_b, Ir.s_tmp, Ir.s_tup, Ir.s_str, Ir.boolsD, Ir.strsD, Ir.sqr, Ir.lsr, Ir.ob1, Ir.ob2, Ir.blU, List.map_cons, List.map_nil, List.length_cons, List.length_nil, List.replicate, List.cons_append, List.nil_append, List.append_nil, List.getElem?_cons_zero, List.getElem?_cons_succ, List.getElem?_nil, List.set_cons_zero, List.set_cons_succ, List.set_nil, Option.bind_some, Option.map_some, Option.map_none, Option.bind_none, if_true, if_false, ite_true, ite_false, reduceIte, Bool.not_true, Bool.not_false, List.take_succ_cons, List.take_length, List.take_zero, Nat.add_sub_cancel, Nat.sub_self, Nat.reduceSub, Nat.reduceAdd, reduceCtorEq, Bool.false_eq_true, decide_true, decide_false, List.all_cons, List.any_cons, List.all_nil, List.any_nil, id_eq, Bool.true_and, Bool.and_true, Bool.false_or, Bool.or_false, Ir.zc0, Ir.zc1, Ir.zc2, Ir.zc3, eq_self, Ir.bools_const, Ir.all_const, Ir.any_const, ir_many_of, tabD, rowD, List.length_map, hl', hi]
  · simp -implicitDefEqProofs only [Ir.Ok_bind, Ir.Ok_map, Ir.Ok_some, Ir.Ok_none, Ir.evSs, Ir.evE.eq_1, Ir.evE.eq_2, Ir.evE.eq_3, Ir.evE.eq_4, Ir.evE.eq_5, Ir.evE.eq_6, Ir.evE.eq_7, Ir.evE.eq_8, Ir.evE.eq_9, Ir.evE.eq_10, Ir.evE.eq_11, Ir.evE.eq_12, Ir.evE.eq_13, Ir.evE.eq_14, Ir.evE.eq_15, Ir.evE.eq_16, Ir.evE.eq_17, Ir.evE.eq_19, Ir.evEs, Ir.evRs, Ir.evO, Ir.evOt, Ir.evT, Ir.evI, Ir.evS.eq_1, Ir.evS.eq_2, Ir.evS.eq_3, Ir.evS.eq_4, Ir.evS.eq_5, Ir.evS.eq_6, Ir.evS.eq_9, Ir.evS.eq_10, Ir.evS.eq_11, Ir.evS.eq_12, Ir.evS.eq_13, Ir.Ok_for, Ir.ev2, Ir.startE, Ir.bT_n, Ir.bT_t, Ir.bT_m, Ir.bTs_n, Ir.bTs_c, Ir.wipeE, Ir.mt0, Ir.mt1, Ir.mt2, Ir.mt3, Ir.mt4, Ir.ad0, Ir.ad1, Ir.ad2, Ir.ad3, Ir.arrU, Ir.fu, Ir.ft, Ir.gd, Ir.gRu, Ir.gRt, Ir.sq1, Ir.sq2, Ir.ls1, Ir.rt1, Ir.rt2, Ir.bopR_d, Ir.b_add, Ir.b_sub, Ir.c_lt, Ir.c_le, Ir.c_gt, Ir.c_ge, Ir.c_eqi, Ir.c_eqs, Ir.c_eqb, Ir.c_nei, Ir.c_nes, Ir.c_neb, Ir.c_is, Ir.c_isn, Ir.n1, Ir.n2, Ir.n3, Ir.n4, Ir.n5, Ir.n6, Ir.d_lt, Ir.d_le, Ir.d_gt, Ir.d_ge, Ir.x_tup, Ir.x_tmp, Ir.x_mix, Ir.x_ref, Ir.a0, Ir.a1, Ir.a2, Ir.i30, Ir.i32, Ir.f_len, Ir.l_tup, Ir.l_tmp, Ir.l_mix, Ir.l_ref, Ir.f_int, Ir.f_intb, Ir.f_abs, Ir.f_max, Ir.f_min, Ir.f_tup, Ir.f_list, Ir.f_all, Ir.f_any, Ir.f_isin, Ir.t_int, Ir.t_str, Ir.t_bl, Ir.t_non, Ir.t_tup, Ir.t_mix, Ir.is_ii, Ir.is_ib, Ir.is_tt, Ir.is_it, Ir.is_ss, Ir.p_j, Ir.p_s, Ir.p_p, Ir.tr_b, Ir.s_tmp, Ir.s_tup, Ir.s_str, Ir.boolsD, Ir.strsD, Ir.sqr, Ir.lsr, Ir.ob1, Ir.ob2, Ir.blU, List.map_cons, List.map_nil, List.length_cons, List.length_nil, List.replicate, List.cons_append, List.nil_append, List.append_nil, List.getElem?_cons_zero, List.getElem?_cons_succ, List.getElem?_nil, List.set_cons_zero, List.set_cons_succ, List.set_nil, Option.bind_some, Option.map_some, Option.map_none, Option.bind_none, if_true, if_false, ite_true, ite_false, reduceIte, Bool.not_true, Bool.not_false, List.take_succ_cons, List.take_length, List.take_zero, Nat.add_sub_cancel, Nat.sub_self, Nat.reduceSub, Nat.reduceAdd, reduceCtorEq, Bool.false_eq_true, decide_true, decide_false, List.all_cons, List.any_cons, List.all_nil, List.any_nil, id_eq, Bool.true_and, Bool.and_true, Bool.false_or, Bool.or_false, Ir.zc0, Ir.zc1, Ir.zc2, Ir.zc3, eq_self, Ir.bools_const, Ir.all_const, Ir.any_const, ir_many_of, tabD, rowD, List.length_map, hr0, hi]
end G85

set_option Elab.async false
set_option linter.all false
set_option maxRecDepth 100000
set_option autoImplicit false
/-! P85c: machines. -/
namespace G85
open PySem L2 Ir
def stD (s : Int × List Int) : D := .tup [.int s.1, .tup (s.2.map .int)]
def machD (m : List (Int × List Int)) : D := .tup (m.map stD)
def StOk (own others size : Nat) (s : Int × List Int) : Prop := (0 ≤ s.1 ∧ s.1 < own) ∧ s.2.length = others ∧ ∀ x ∈ s.2, 0 ≤ x ∧ x < (size : Int)
def MOk (own others : Nat) (m : List (Int × List Int)) : Prop := (1 ≤ m.length ∧ m.length ≤ 400) ∧ ∀ s ∈ m, StOk own others m.length s
theorem are_indexes_eq {k size : Nat} {r : List Int} {S : Store} (h : ∀ x ∈ r, 0 ≤ x ∧ x < (size : Int)) (hl : r.length ≤ 1000) : run pd.fds (k + 3) 10 [.d (.tup (r.map .int)), .d (.int r.length), .d (.int size)] S = some (.d (.bl true), S) := by
  refine run_eq ⟨3, 4, ir_are_indexes⟩ rfl rfl ?_
  simp -implicitDefEqProofs only [Ir.Ok_bind, Ir.Ok_map, Ir.Ok_some, Ir.Ok_none, Ir.evSs, Ir.evE.eq_1, Ir.evE.eq_2, Ir.evE.eq_3, Ir.evE.eq_4, Ir.evE.eq_5, Ir.evE.eq_6, Ir.evE.eq_7, Ir.evE.eq_8, Ir.evE.eq_9, Ir.evE.eq_10, Ir.evE.eq_11, Ir.evE.eq_12, Ir.evE.eq_13, Ir.evE.eq_14, Ir.evE.eq_15, Ir.evE.eq_16, Ir.evE.eq_17, Ir.evE.eq_19, Ir.evEs, Ir.evRs, Ir.evO, Ir.evOt, Ir.evT, Ir.evI, Ir.evS.eq_1, Ir.evS.eq_2, Ir.evS.eq_3, Ir.evS.eq_4, Ir.evS.eq_5, Ir.evS.eq_6, Ir.evS.eq_9, Ir.evS.eq_10, Ir.evS.eq_11, Ir.evS.eq_12, Ir.evS.eq_13, Ir.Ok_for, Ir.ev2, Ir.startE, Ir.bT_n, Ir.bT_t, Ir.bT_m, Ir.bTs_n, Ir.bTs_c, Ir.wipeE, Ir.mt0, Ir.mt1, Ir.mt2, Ir.mt3, Ir.mt4, Ir.ad0, Ir.ad1, Ir.ad2, Ir.ad3, Ir.arrU, Ir.fu, Ir.ft, Ir.gd, Ir.gRu, Ir.gRt, Ir.sq1, Ir.sq2, Ir.ls1, Ir.rt1, Ir.rt2, Ir.bopR_d, Ir.b_add, Ir.b_sub, Ir.c_lt, Ir.c_le, Ir.c_gt, Ir.c_ge, Ir.c_eqi, Ir.c_eqs, Ir.c_eqb, Ir.c_nei, Ir.c_nes, Ir.c_neb, Ir.c_is, Ir.c_isn, Ir.n1, Ir.n2, Ir.n3, Ir.n4, Ir.n5, Ir.n6, Ir.d_lt, Ir.d_le, Ir.d_gt, Ir.d_ge, Ir.x_tup, Ir.x_tmp, Ir.x_mix, Ir.x_ref, Ir.a0, Ir.a1, Ir.a2, Ir.i30, Ir.i32, Ir.f_len, Ir.l_tup, Ir.l_tmp, Ir.l_mix, Ir.l_ref, Ir.f_int, Ir.f_intb, Ir.f_abs, Ir.f_max, Ir.f_min, Ir.f_tup, Ir.f_list, Ir.f_all, Ir.f_any, Ir.f_isin, Ir.t_int, Ir.t_str, Ir.t_bl, Ir.t_non, Ir.t_tup, Ir.t_mix, Ir.is_ii, Ir.is_ib, Ir.is_tt, Ir.is_it, Ir.is_ss, Ir.p_j, Ir.p_s, Ir.p_p, Ir.tr_b, Ir.s_tmp, Ir.s_tup, Ir.s_str, Ir.boolsD, Ir.strsD, Ir.sqr, Ir.lsr, Ir.ob1, Ir.ob2, Ir.blU, List.map_cons, List.map_nil, List.length_cons, List.length_nil, List.replicate, List.cons_append, List.nil_append, List.append_nil, List.getElem?_cons_zero, List.getElem?_cons_succ, List.getElem?_nil, List.set_cons_zero, List.set_cons_succ, List.set_nil, Option.bind_some, Option.map_some, Option.map_none, Option.bind_none, if_true, if_false, ite_true, ite_false, reduceIte, Bool.not_true, Bool.not_false, List.take_succ_cons, List.take_length, List.take_zero, Nat.add_sub_cancel, Nat.sub_self, Nat.reduceSub, Nat.reduceAdd, reduceCtorEq, Bool.false_eq_true, decide_true, decide_false, List.all_cons, List.any_cons, List.all_nil, List.any_nil, id_eq, Bool.true_and, Bool.and_true, Bool.false_or, Bool.or_false, Ir.zc0, Ir.zc1, Ir.zc2, Ir.zc3, eq_self, Ir.bools_const, Ir.all_const, Ir.any_const, ir_are_indexes, List.length_map]
  refine Ok.of (comp_tup (fun _ => .bl true) (xs := r.map .int) (by simp -implicitDefEqProofs only [Ir.Ok_bind, Ir.Ok_map, Ir.Ok_some, Ir.Ok_none, Ir.evSs, Ir.evE.eq_1, Ir.evE.eq_2, Ir.evE.eq_3, Ir.evE.eq_4, Ir.evE.eq_5, Ir.evE.eq_6, Ir.evE.eq_7, Ir.evE.eq_8, Ir.evE.eq_9, Ir.evE.eq_10, Ir.evE.eq_11, Ir.evE.eq_12, Ir.evE.eq_13, Ir.evE.eq_14, Ir.evE.eq_15, Ir.evE.eq_16, Ir.evE.eq_17, Ir.evE.eq_19, Ir.evEs, Ir.evRs, Ir.evO, Ir.evOt, Ir.evT, Ir.evI, Ir.evS.eq_1, Ir.evS.eq_2, Ir.evS.eq_3, Ir.evS.eq_4, Ir.evS.eq_5, Ir.evS.eq_6, Ir.evS.eq_9, Ir.evS.eq_10, Ir.evS.eq_11, Ir.evS.eq_12, Ir.evS.eq_13, Ir.Ok_for, Ir.ev2, Ir.startE, Ir.bT_n, Ir.bT_t, Ir.bT_m, Ir.bTs_n, Ir.bTs_c, Ir.wipeE, Ir.mt0, Ir.mt1, Ir.mt2, Ir.mt3, Ir.mt4, Ir.ad0, Ir.ad1, Ir.ad2, Ir.ad3, Ir.arrU, Ir.fu, Ir.ft, Ir.gd, Ir.gRu, Ir.gRt, Ir.sq1, Ir.sq2, Ir.ls1, Ir.rt1, Ir.rt2, Ir.bopR_d, Ir.b_add, Ir.b_sub, Ir.c_lt, Ir.c_le, Ir.c_gt, Ir.c_ge, Ir.c_eqi, Ir.c_eqs, Ir.c_eqb, Ir.c_nei, Ir.c_nes, Ir.c_neb, Ir.c_is, Ir.c_isn, Ir.n1, Ir.n2, Ir.n3, Ir.n4, Ir.n5, Ir.n6, Ir.d_lt, Ir.d_le, Ir.d_gt, Ir.d_ge, Ir.x_tup, Ir.x_tmp, Ir.x_mix, Ir.x_ref, Ir.a0, Ir.a1, Ir.a2, Ir.i30, Ir.i32, Ir.f_len, Ir.l_tup, Ir.l_tmp, Ir.l_mix, Ir.l_ref, Ir.f_int, Ir.f_intb, Ir.f_abs, Ir.f_max, Ir.f_min, Ir.f_tup, Ir.f_list, Ir.f_all, Ir.f_any, Ir.f_isin, Ir.t_int, Ir.t_str, Ir.t_bl, Ir.t_non, Ir.t_tup, Ir.t_mix, Ir.is_ii, Ir.is_ib, Ir.is_tt, Ir.is_it, Ir.is_ss, Ir.p_j, Ir.p_s, Ir.p_p, Ir.tr_b, Ir.s_tmp, Ir.s_tup, Ir.s_str, Ir.boolsD, Ir.strsD, Ir.sqr, Ir.lsr, Ir.ob1, Ir.ob2, Ir.blU, List.map_cons, List.map_nil, List.length_cons, List.length_nil, List.replicate, List.cons_append, List.nil_append, List.append_nil, List.getElem?_cons_zero, List.getElem?_cons_succ, List.getElem?_nil, List.set_cons_zero, List.set_cons_succ, List.set_nil, Option.bind_some, Option.map_some, Option.map_none, Option.bind_none, if_true, if_false, ite_true, ite_false, reduceIte, Bool.not_true, Bool.not_false, List.take_succ_cons, List.take_length, List.take_zero, Nat.add_sub_cancel, Nat.sub_self, Nat.reduceSub, Nat.reduceAdd, reduceCtorEq, Bool.false_eq_true, decide_true, decide_false, List.all_cons, List.any_cons, List.all_nil, List.any_nil, id_eq, Bool.true_and, Bool.and_true, Bool.false_or, Bool.or_false, Ir.zc0, Ir.zc1, Ir.zc2, Ir.zc3, eq_self, Ir.bools_const, Ir.all_const, Ir.any_const]) (leLim (by simp; omega)) (fun x hx acc => ?_)) ?_
  · obtain ⟨v, hv, rfl⟩ := List.mem_map.mp hx
    have := h v hv
    simp only [turnC, Ir.Ok_bind, Ir.Ok_map, Ir.Ok_some, Ir.Ok_none, Ir.evSs, Ir.evE.eq_1, Ir.evE.eq_2, Ir.evE.eq_3, Ir.evE.eq_4, Ir.evE.eq_5, Ir.evE.eq_6, Ir.evE.eq_7, Ir.evE.eq_8, Ir.evE.eq_9, Ir.evE.eq_10, Ir.evE.eq_11, Ir.evE.eq_12, Ir.evE.eq_13, Ir.evE.eq_14, Ir.evE.eq_15, Ir.evE.eq_16, Ir.evE.eq_17, Ir.evE.eq_19, Ir.evEs, Ir.evRs, Ir.evO, Ir.evOt, Ir.evT, Ir.evI, Ir.evS.eq_1, Ir.evS.eq_2, Ir.evS.eq_3, Ir.evS.eq_4, Ir.evS.eq_5, Ir.evS.eq_6, Ir.evS.eq_9, Ir.evS.eq_10, Ir.evS.eq_11, Ir.evS.eq_12, Ir.evS.eq_13, Ir.Ok_for, Ir.ev2, Ir.startE, Ir.bT_n, Ir.bT_t, Ir.bT_m, Ir.bTs_n, Ir.bTs_c, Ir.wipeE, Ir.mt0, Ir.mt1, Ir.mt2, Ir.mt3, Ir.mt4, Ir.ad0, Ir.ad1, Ir.ad2, Ir.ad3, Ir.arrU, Ir.fu, Ir.ft, Ir.gd, Ir.gRu, Ir.gRt, Ir.sq1, Ir.sq2, Ir.ls1, Ir.rt1, Ir.rt2, Ir.bopR_d, Ir.b_add, Ir.b_sub, Ir.c_lt, Ir.c_le, Ir.c_gt, Ir.c_ge, Ir.c_eqi, Ir.c_eqs, Ir.c_eqb, Ir.c_nei, Ir.c_nes, Ir.c_neb, Ir.c_is, Ir.c_isn, Ir.n1, Ir.n2, Ir.n3, Ir.n4, Ir.n5, Ir.n6, Ir.d_lt, Ir.d_le, Ir.d_gt, Ir.d_ge, Ir.x_tup, Ir.x_tmp, Ir.x_mix, Ir.x_ref, Ir.a0, Ir.a1, Ir.a2, Ir.i30, Ir.i32, Ir.f_len, Ir.l_tup, Ir.l_tmp, Ir.l_mix, Ir.l_ref, Ir.f_int, Ir.f_intb, Ir.f_abs, Ir.f_max, Ir.f_min, Ir.f_tup, Ir.f_list, Ir.f_all, Ir.f_any, Ir.f_isin, Ir.t_int, Ir.t_str, Ir.t_bl, Ir.t_non, Ir.t_tup, Ir.t_mix, Ir.is_ii, Ir.is_ib, Ir.is_tt, Ir.is_it, Ir.is_ss, Ir.p_j, Ir.p_s, Ir.p_p, Ir.tr_b, Ir.s_tmp, Ir.s_tup, Ir.s_str, Ir.boolsD, Ir.strsD, Ir.sqr, Ir.lsr, Ir.ob1, Ir.ob2, Ir.blU, List.map_cons, List.map_nil, List.length_cons, List.length_nil, List.replicate, List.cons_append, List.nil_append, List.append_nil, List.getElem?_cons_zero, List.getElem?_cons_succ, List.getElem?_nil, List.set_cons_zero, List.set_cons_succ, List.set_nil, Option.bind_some, Option.map_some, Option.map_none, Option.bind_none, if_true, if_false, ite_true, ite_false, reduceIte, Bool.not_true, Bool.not_false, List.take_succ_cons, List.take_length, List.take_zero, Nat.add_sub_cancel, Nat.sub_self, Nat.reduceSub, Nat.reduceAdd, reduceCtorEq, Bool.false_eq_true, decide_true, decide_false, List.all_cons, List.any_cons, List.all_nil, List.any_nil, id_eq, Bool.true_and, Bool.and_true, Bool.false_or, Bool.or_false, Ir.zc0, Ir.zc1, Ir.zc2, Ir.zc3, eq_self, Ir.bools_const, Ir.all_const, Ir.any_const, is_within_eq (show (0 : Int) ≤ v by omega) (show v ≤ (size : Int) - 1 by omega)]
  · simp -implicitDefEqProofs only [Ir.Ok_bind, Ir.Ok_map, Ir.Ok_some, Ir.Ok_none, Ir.evSs, Ir.evE.eq_1, Ir.evE.eq_2, Ir.evE.eq_3, Ir.evE.eq_4, Ir.evE.eq_5, Ir.evE.eq_6, Ir.evE.eq_7, Ir.evE.eq_8, Ir.evE.eq_9, Ir.evE.eq_10, Ir.evE.eq_11, Ir.evE.eq_12, Ir.evE.eq_13, Ir.evE.eq_14, Ir.evE.eq_15, Ir.evE.eq_16, Ir.evE.eq_17, Ir.evE.eq_19, Ir.evEs, Ir.evRs, Ir.evO, Ir.evOt, Ir.evT, Ir.evI, Ir.evS.eq_1, Ir.evS.eq_2, Ir.evS.eq_3, Ir.evS.eq_4, Ir.evS.eq_5, Ir.evS.eq_6, Ir.evS.eq_9, Ir.evS.eq_10, Ir.evS.eq_11, Ir.evS.eq_12, Ir.evS.eq_13, Ir.Ok_for, Ir.ev2, Ir.startE, Ir.bT_n, Ir.bT_t, Ir.bT_m, Ir.bTs_n, Ir.bTs_c, Ir.wipeE, Ir.mt0, Ir.mt1, Ir.mt2, Ir.mt3, Ir.mt4, Ir.ad0, Ir.ad1, Ir.ad2, Ir.ad3, Ir.arrU, Ir.fu, Ir.ft, Ir.gd, Ir.gRu, Ir.gRt, Ir.sq1, Ir.sq2, Ir.ls1, Ir.rt1, Ir.rt2, Ir.bopR_d, Ir.b_add, Ir.b_sub, Ir.c_lt, Ir.c_le, Ir.c_gt, Ir.c_ge, Ir.c_eqi, Ir.c_eqs, Ir.c_eqb, Ir.c_nei, Ir.c_nes, Ir.c_neb, Ir.c_is, Ir.c_isn, Ir.n1, Ir.n2, Ir.n3, Ir.n4, Ir.n5, Ir.n6, Ir.d_lt, Ir.d_le, Ir.d_gt, Ir.d_ge, Ir.x_tup, Ir.x_tmp, Ir.x_mix, Ir.x_ref, Ir.a0, Ir.a1, Ir.a2, Ir.i30, Ir.i32, Ir.f_len, Ir.l_tup, Ir.l_tmp, Ir.l_mix, Ir.l_ref, Ir.f_int, Ir.f_intb, Ir.f_abs, Ir.f_max, Ir.f_min, Ir.f_tup, Ir.f_list, Ir.f_all, Ir.f_any, Ir.f_isin, Ir.t_int, Ir.t_str, Ir.t_bl, Ir.t_non, Ir.t_tup, Ir.t_mix, Ir.is_ii, Ir.is_ib, Ir.is_tt, Ir.is_it, Ir.is_ss, Ir.p_j, Ir.p_s, Ir.p_p, Ir.tr_b, Ir.s_tmp, Ir.s_tup, Ir.s_str, Ir.boolsD, Ir.strsD, Ir.sqr, Ir.lsr, Ir.ob1, Ir.ob2, Ir.blU, List.map_cons, List.map_nil, List.length_cons, List.length_nil, List.replicate, List.cons_append, List.nil_append, List.append_nil, List.getElem?_cons_zero, List.getElem?_cons_succ, List.getElem?_nil, List.set_cons_zero, List.set_cons_succ, List.set_nil, Option.bind_some, Option.map_some, Option.map_none, Option.bind_none, if_true, if_false, ite_true, ite_false, reduceIte, Bool.not_true, Bool.not_false, List.take_succ_cons, List.take_length, List.take_zero, Nat.add_sub_cancel, Nat.sub_self, Nat.reduceSub, Nat.reduceAdd, reduceCtorEq, Bool.false_eq_true, decide_true, decide_false, List.all_cons, List.any_cons, List.all_nil, List.any_nil, id_eq, Bool.true_and, Bool.and_true, Bool.false_or, Bool.or_false, Ir.zc0, Ir.zc1, Ir.zc2, Ir.zc3, eq_self, Ir.bools_const, Ir.all_const, Ir.any_const]
theorem is_a_state_eq {k own others size : Nat} {s : Int × List Int} {S : Store} (h : StOk own others size s) (hl : others ≤ 1000) : run pd.fds (k + 4) 11 [.d (stD s), .d (.int own), .d (.int others), .d (.int size)] S = some (.d (.bl true), S) := by
  obtain ⟨h1, h2, h3⟩ := h
  refine run_eq ⟨4, 4, ir_is_a_state⟩ rfl rfl ?_
  have a := are_indexes_eq (k := k) (S := S) h3 (by omega)
  rw [h2] at a
  simp -implicitDefEqProofs only [Ir.Ok_bind, Ir.Ok_map, Ir.Ok_some, Ir.Ok_none, Ir.evSs, Ir.evE.eq_1, Ir.evE.eq_2, Ir.evE.eq_3, Ir.evE.eq_4, Ir.evE.eq_5, Ir.evE.eq_6, Ir.evE.eq_7, Ir.evE.eq_8, Ir.evE.eq_9, Ir.evE.eq_10, Ir.evE.eq_11, Ir.evE.eq_12, Ir.evE.eq_13, Ir.evE.eq_14, Ir.evE.eq_15, Ir.evE.eq_16, Ir.evE.eq_17, Ir.evE.eq_19, Ir.evEs, Ir.evRs, Ir.evO, Ir.evOt, Ir.evT, Ir.evI, Ir.evS.eq_1, Ir.evS.eq_2, Ir.evS.eq_3, Ir.evS.eq_4, Ir.evS.eq_5, Ir.evS.eq_6, Ir.evS.eq_9, Ir.evS.eq_10, Ir.evS.eq_11, Ir.evS.eq_12, Ir.evS.eq_13, Ir.Ok_for, Ir.ev2, Ir.startE, Ir.bT_n, Ir.bT_t, Ir.bT_m, Ir.bTs_n, Ir.bTs_c, Ir.wipeE, Ir.mt0, Ir.mt1, Ir.mt2, Ir.mt3, Ir.mt4, Ir.ad0, Ir.ad1, Ir.ad2, Ir.ad3, Ir.arrU, Ir.fu, Ir.ft, Ir.gd, Ir.gRu, Ir.gRt, Ir.sq1, Ir.sq2, Ir.ls1, Ir.rt1, Ir.rt2, Ir.bopR_d, Ir.b_add, Ir.b_sub, Ir.c_lt, Ir.c_le, Ir.c_gt, Ir.c_ge, Ir.c_eqi, Ir.c_eqs, Ir.c_eqb, Ir.c_nei, Ir.c_nes, Ir.c_neb, Ir.c_is, Ir.c_isn, Ir.n1, Ir.n2, Ir.n3, Ir.n4, Ir.n5, Ir.n6, Ir.d_lt, Ir.d_le, Ir.d_gt, Ir.d_ge, Ir.x_tup, Ir.x_tmp, Ir.x_mix, Ir.x_ref, Ir.a0, Ir.a1, Ir.a2, Ir.i30, Ir.i32, Ir.f_len, Ir.l_tup, Ir.l_tmp, Ir.l_mix, Ir.l_ref, Ir.f_int, Ir.f_intb, Ir.f_abs, Ir.f_max, Ir.f_min, Ir.f_tup, Ir.f_list, Ir.f_all, Ir.f_any, Ir.f_isin, Ir.t_int, Ir.t_str, Ir.t_bl, Ir.t_non, Ir.t_tup, Ir.t_mix, Ir.is_ii, Ir.is_ib, Ir.is_tt, Ir.is_it, Ir.is_ss, Ir.p_j, Ir.p_s, Ir.p_p, Ir.tr_b, Ir.s_tmp, Ir.s_tup, Ir.s_str, Ir.boolsD, Ir.strsD, Ir.sqr, Ir.lsr, Ir.ob1, Ir.ob2, Ir.blU, List.map_cons, List.map_nil, List.length_cons, List.length_nil, List.replicate, List.cons_append, List.nil_append, List.append_nil, List.getElem?_cons_zero, List.getElem?_cons_succ, List.getElem?_nil, List.set_cons_zero, List.set_cons_succ, List.set_nil, Option.bind_some, Option.map_some, Option.map_none, Option.bind_none, if_true, if_false, ite_true, ite_false, reduceIte, Bool.not_true, Bool.not_false, List.take_succ_cons, List.take_length, List.take_zero, Nat.add_sub_cancel, Nat.sub_self, Nat.reduceSub, Nat.reduceAdd, reduceCtorEq, Bool.false_eq_true, decide_true, decide_false, List.all_cons, List.any_cons, List.all_nil, List.any_nil, id_eq, Bool.true_and, Bool.and_true, Bool.false_or, Bool.or_false, Ir.zc0, Ir.zc1, Ir.zc2, Ir.zc3, eq_self, Ir.bools_const, Ir.all_const, Ir.any_const, ir_is_a_state, stD, is_within_eq (show (0 : Int) ≤ s.1 by omega) (show s.1 ≤ (own : Int) - 1 by omega), a]
theorem is_a_machine_eq {k rows cols : Nat} {own others : Nat} {t u : List (List Int)} {S : Store} {i : Int} {m : List (Int × List Int)} (ht : TabOk rows cols t) (h1 : 1 ≤ rows) (hs : (i = 0 ∧ own = rows ∧ others = cols) ∨ (i = 1 ∧ own = cols ∧ others = rows)) (hm : MOk own others m) (hl : others ≤ 1000) :
    run pd.fds (k + 5) 12 [.d (.tup [tabD t, tabD u]), .d (.int i), .d (machD m), .d (.int 400)] S = some (.d (.bl true), S) := by
  obtain ⟨⟨m1, m2⟩, m3⟩ := hm
  have e1 : (1 : Int) ≤ (m.length : Int) := by omega
  have e2 : (m.length : Int) ≤ 400 := by omega
  have o1 : (if i = 0 then (rows : Int) else cols) = own := by
    rcases hs with ⟨rfl, rfl, rfl⟩ | ⟨rfl, rfl, rfl⟩ <;> rfl
  have o2 : (if 1 - i = 0 then (rows : Int) else cols) = others := by
    rcases hs with ⟨rfl, rfl, rfl⟩ | ⟨rfl, rfl, rfl⟩ <;> rfl
  refine run_eq ⟨4, 7, ir_is_a_machine⟩ rfl rfl ?_
  simp -implicitDefEqProofs only [Ir.Ok_bind, Ir.Ok_map, Ir.Ok_some, Ir.Ok_none, Ir.evSs, Ir.evE.eq_1, Ir.evE.eq_2, Ir.evE.eq_3, Ir.evE.eq_4, Ir.evE.eq_5, Ir.evE.eq_6, Ir.evE.eq_7, Ir.evE.eq_8, Ir.evE.eq_9, Ir.evE.eq_10, Ir.evE.eq_11, Ir.evE.eq_12, Ir.evE.eq_13, Ir.evE.eq_14, Ir.evE.eq_15, Ir.evE.eq_16, Ir.evE.eq_17, Ir.evE.eq_19, Ir.evEs, Ir.evRs, Ir.evO, Ir.evOt, Ir.evT, Ir.evI, Ir.evS.eq_1, Ir.evS.eq_2, Ir.evS.eq_3, Ir.evS.eq_4, Ir.evS.eq_5, Ir.evS.eq_6, Ir.evS.eq_9, Ir.evS.eq_10, Ir.evS.eq_11, Ir.evS.eq_12, Ir.evS.eq_13, Ir.Ok_for, Ir.ev2, Ir.startE, Ir.bT_n, Ir.bT_t, Ir.bT_m, Ir.bTs_n, Ir.bTs_c, Ir.wipeE, Ir.mt0, Ir.mt1, Ir.mt2, Ir.mt3, Ir.mt4, Ir.ad0, Ir.ad1, Ir.ad2, Ir.ad3, Ir.arrU, Ir.fu, Ir.ft, Ir.gd, Ir.gRu, Ir.gRt, Ir.sq1, Ir.sq2, Ir.ls1, Ir.rt1, Ir.rt2, Ir.bopR_d, Ir.b_add, Ir.b_sub, Ir.c_lt, Ir.c_le, Ir.c_gt, Ir.c_ge, Ir.c_eqi, Ir.c_eqs, Ir.c_eqb, Ir.c_nei, Ir.c_nes, Ir.c_neb, Ir.c_is, Ir.c_isn, Ir.n1, Ir.n2, Ir.n3, Ir.n4, Ir.n5, Ir.n6, Ir.d_lt, Ir.d_le, Ir.d_gt, Ir.d_ge, Ir.x_tup, Ir.x_tmp, Ir.x_mix, Ir.x_ref, Ir.a0, Ir.a1, Ir.a2, Ir.i30, Ir.i32, Ir.f_len, Ir.l_tup, Ir.l_tmp, Ir.l_mix, Ir.l_ref, Ir.f_int, Ir.f_intb, Ir.f_abs, Ir.f_max, Ir.f_min, Ir.f_tup, Ir.f_list, Ir.f_all, Ir.f_any, Ir.f_isin, Ir.t_int, Ir.t_str, Ir.t_bl, Ir.t_non, Ir.t_tup, Ir.t_mix, Ir.is_ii, Ir.is_ib, Ir.is_tt, Ir.is_it, Ir.is_ss, Ir.p_j, Ir.p_s, Ir.p_p, Ir.tr_b, Ir.s_tmp, Ir.s_tup, Ir.s_str, Ir.boolsD, Ir.strsD, Ir.sqr, Ir.lsr, Ir.ob1, Ir.ob2, Ir.blU, List.map_cons, List.map_nil, List.length_cons, List.length_nil, List.replicate, List.cons_append, List.nil_append, List.append_nil, List.getElem?_cons_zero, List.getElem?_cons_succ, List.getElem?_nil, List.set_cons_zero, List.set_cons_succ, List.set_nil, Option.bind_some, Option.map_some, Option.map_none, Option.bind_none, if_true, if_false, ite_true, ite_false, reduceIte, Bool.not_true, Bool.not_false, List.take_succ_cons, List.take_length, List.take_zero, Nat.add_sub_cancel, Nat.sub_self, Nat.reduceSub, Nat.reduceAdd, reduceCtorEq, Bool.false_eq_true, decide_true, decide_false, List.all_cons, List.any_cons, List.all_nil, List.any_nil, id_eq, Bool.true_and, Bool.and_true, Bool.false_or, Bool.or_false, Ir.zc0, Ir.zc1, Ir.zc2, Ir.zc3, eq_self, Ir.bools_const, Ir.all_const, Ir.any_const, ir_is_a_machine, machD, List.length_map, e1, e2, many_of_eq ht h1, o1, o2]
  refine Ok.of (comp_tup (fun _ => .bl true) (xs := m.map stD) (by simp -implicitDefEqProofs only [Ir.Ok_bind, Ir.Ok_map, Ir.Ok_some, Ir.Ok_none, Ir.evSs, Ir.evE.eq_1, Ir.evE.eq_2, Ir.evE.eq_3, Ir.evE.eq_4, Ir.evE.eq_5, Ir.evE.eq_6, Ir.evE.eq_7, Ir.evE.eq_8, Ir.evE.eq_9, Ir.evE.eq_10, Ir.evE.eq_11, Ir.evE.eq_12, Ir.evE.eq_13, Ir.evE.eq_14, Ir.evE.eq_15, Ir.evE.eq_16, Ir.evE.eq_17, Ir.evE.eq_19, Ir.evEs, Ir.evRs, Ir.evO, Ir.evOt, Ir.evT, Ir.evI, Ir.evS.eq_1, Ir.evS.eq_2, Ir.evS.eq_3, Ir.evS.eq_4, Ir.evS.eq_5, Ir.evS.eq_6, Ir.evS.eq_9, Ir.evS.eq_10, Ir.evS.eq_11, Ir.evS.eq_12, Ir.evS.eq_13, Ir.Ok_for, Ir.ev2, Ir.startE, Ir.bT_n, Ir.bT_t, Ir.bT_m, Ir.bTs_n, Ir.bTs_c, Ir.wipeE, Ir.mt0, Ir.mt1, Ir.mt2, Ir.mt3, Ir.mt4, Ir.ad0, Ir.ad1, Ir.ad2, Ir.ad3, Ir.arrU, Ir.fu, Ir.ft, Ir.gd, Ir.gRu, Ir.gRt, Ir.sq1, Ir.sq2, Ir.ls1, Ir.rt1, Ir.rt2, Ir.bopR_d, Ir.b_add, Ir.b_sub, Ir.c_lt, Ir.c_le, Ir.c_gt, Ir.c_ge, Ir.c_eqi, Ir.c_eqs, Ir.c_eqb, Ir.c_nei, Ir.c_nes, Ir.c_neb, Ir.c_is, Ir.c_isn, Ir.n1, Ir.n2, Ir.n3, Ir.n4, Ir.n5, Ir.n6, Ir.d_lt, Ir.d_le, Ir.d_gt, Ir.d_ge, Ir.x_tup, Ir.x_tmp, Ir.x_mix, Ir.x_ref, Ir.a0, Ir.a1, Ir.a2, Ir.i30, Ir.i32, Ir.f_len, Ir.l_tup, Ir.l_tmp, Ir.l_mix, Ir.l_ref, Ir.f_int, Ir.f_intb, Ir.f_abs, Ir.f_max, Ir.f_min, Ir.f_tup, Ir.f_list, Ir.f_all, Ir.f_any, Ir.f_isin, Ir.t_int, Ir.t_str, Ir.t_bl, Ir.t_non, Ir.t_tup, Ir.t_mix, Ir.is_ii, Ir.is_ib, Ir.is_tt, Ir.is_it, Ir.is_ss, Ir.p_j, Ir.p_s, Ir.p_p, Ir.tr_b, Ir.s_tmp, Ir.s_tup, Ir.s_str, Ir.boolsD, Ir.strsD, Ir.sqr, Ir.lsr, Ir.ob1, Ir.ob2, Ir.blU, List.map_cons, List.map_nil, List.length_cons, List.length_nil, List.replicate, List.cons_append, List.nil_append, List.append_nil, List.getElem?_cons_zero, List.getElem?_cons_succ, List.getElem?_nil, List.set_cons_zero, List.set_cons_succ, List.set_nil, Option.bind_some, Option.map_some, Option.map_none, Option.bind_none, if_true, if_false, ite_true, ite_false, reduceIte, Bool.not_true, Bool.not_false, List.take_succ_cons, List.take_length, List.take_zero, Nat.add_sub_cancel, Nat.sub_self, Nat.reduceSub, Nat.reduceAdd, reduceCtorEq, Bool.false_eq_true, decide_true, decide_false, List.all_cons, List.any_cons, List.all_nil, List.any_nil, id_eq, Bool.true_and, Bool.and_true, Bool.false_or, Bool.or_false, Ir.zc0, Ir.zc1, Ir.zc2, Ir.zc3, eq_self, Ir.bools_const, Ir.all_const, Ir.any_const]) (leLim (by simp; omega)) (fun x hx acc => ?_)) ?_
  · obtain ⟨v, hv, rfl⟩ := List.mem_map.mp hx
    simp only [turnC, Ir.Ok_bind, Ir.Ok_map, Ir.Ok_some, Ir.Ok_none, Ir.evSs, Ir.evE.eq_1, Ir.evE.eq_2, Ir.evE.eq_3, Ir.evE.eq_4, Ir.evE.eq_5, Ir.evE.eq_6, Ir.evE.eq_7, Ir.evE.eq_8, Ir.evE.eq_9, Ir.evE.eq_10, Ir.evE.eq_11, Ir.evE.eq_12, Ir.evE.eq_13, Ir.evE.eq_14, Ir.evE.eq_15, Ir.evE.eq_16, Ir.evE.eq_17, Ir.evE.eq_19, Ir.evEs, Ir.evRs, Ir.evO, Ir.evOt, Ir.evT, Ir.evI, Ir.evS.eq_1, Ir.evS.eq_2, Ir.evS.eq_3, Ir.evS.eq_4, Ir.evS.eq_5, Ir.evS.eq_6, Ir.evS.eq_9, Ir.evS.eq_10, Ir.evS.eq_11, Ir.evS.eq_12, Ir.evS.eq_13, Ir.Ok_for, Ir.ev2, Ir.startE, Ir.bT_n, Ir.bT_t, Ir.bT_m, Ir.bTs_n, Ir.bTs_c, Ir.wipeE, Ir.mt0, Ir.mt1, Ir.mt2, Ir.mt3, Ir.mt4, Ir.ad0, Ir.ad1, Ir.ad2, Ir.ad3, Ir.arrU, Ir.fu, Ir.ft, Ir.gd, Ir.gRu, Ir.gRt, Ir.sq1, Ir.sq2, Ir.ls1, Ir.rt1, Ir.rt2, Ir.bopR_d, Ir.b_add, Ir.b_sub, Ir.c_lt, Ir.c_le, Ir.c_gt, Ir.c_ge, Ir.c_eqi, Ir.c_eqs, Ir.c_eqb, Ir.c_nei, Ir.c_nes, Ir.c_neb, Ir.c_is, Ir.c_isn, Ir.n1, Ir.n2, Ir.n3, Ir.n4, Ir.n5, Ir.n6, Ir.d_lt, Ir.d_le, Ir.d_gt, Ir.d_ge, Ir.x_tup, Ir.x_tmp, Ir.x_mix, Ir.x_ref, Ir.a0, Ir.a1, Ir.a2, Ir.i30, Ir.i32, Ir.f_len, Ir.l_tup, Ir.l_tmp, Ir.l_mix, Ir.l_ref, Ir.f_int, Ir.f_intb, Ir.f_abs, Ir.f_max, Ir.f_min, Ir.f_tup, Ir.f_list, Ir.f_all, Ir.f_any, Ir.f_isin, Ir.t_int, Ir.t_str, Ir.t_bl, Ir.t_non, Ir.t_tup, Ir.t_mix, Ir.is_ii, Ir.is_ib, Ir.is_tt, Ir.is_it, Ir.is_ss, Ir.p_j, Ir.p_s, Ir.p_p, Ir.tr_b, Ir.s_tmp, Ir.s_tup, Ir.s_str, Ir.boolsD, Ir.strsD, Ir.sqr, Ir.lsr, Ir.ob1, Ir.ob2, Ir.blU, List.map_cons, List.map_nil, List.length_cons, List.length_nil, List.replicate, List.cons_append, List.nil_append, List.append_nil, List.getElem?_cons_zero, List.getElem?_cons_succ, List.getElem?_nil, List.set_cons_zero, List.set_cons_succ, List.set_nil, Option.bind_some, Option.map_some, Option.map_none, Option.bind_none, if_true, if_false, ite_true, ite_false, reduceIte, Bool.not_true, Bool.not_false, List.take_succ_cons, List.take_length, List.take_zero, Nat.add_sub_cancel, Nat.sub_self, Nat.reduceSub, Nat.reduceAdd, reduceCtorEq, Bool.false_eq_true, decide_true, decide_false, List.all_cons, List.any_cons, List.all_nil, List.any_nil, id_eq, Bool.true_and, Bool.and_true, Bool.false_or, Bool.or_false, Ir.zc0, Ir.zc1, Ir.zc2, Ir.zc3, eq_self, Ir.bools_const, Ir.all_const, Ir.any_const, List.length_map, is_a_state_eq (m3 v hv) hl]
  · simp -implicitDefEqProofs only [Ir.Ok_bind, Ir.Ok_map, Ir.Ok_some, Ir.Ok_none, Ir.evSs, Ir.evE.eq_1, Ir.evE.eq_2, Ir.evE.eq_3, Ir.evE.eq_4, Ir.evE.eq_5, Ir.evE.eq_6, Ir.evE.eq_7, Ir.evE.eq_8, Ir.evE.eq_9, Ir.evE.eq_10, Ir.evE.eq_11, Ir.evE.eq_12, Ir.evE.eq_13, Ir.evE.eq_14, Ir.evE.eq_15, Ir.evE.eq_16, Ir.evE.eq_17, Ir.evE.eq_19, Ir.evEs, Ir.evRs, Ir.evO, Ir.evOt, Ir.evT, Ir.evI, Ir.evS.eq_1, Ir.evS.eq_2, Ir.evS.eq_3, Ir.evS.eq_4, Ir.evS.eq_5, Ir.evS.eq_6, Ir.evS.eq_9, Ir.evS.eq_10, Ir.evS.eq_11, Ir.evS.eq_12, Ir.evS.eq_13, Ir.Ok_for, Ir.ev2, Ir.startE, Ir.bT_n, Ir.bT_t, Ir.bT_m, Ir.bTs_n, Ir.bTs_c, Ir.wipeE, Ir.mt0, Ir.mt1, Ir.mt2, Ir.mt3, Ir.mt4, Ir.ad0, Ir.ad1, Ir.ad2, Ir.ad3, Ir.arrU, Ir.fu, Ir.ft, Ir.gd, Ir.gRu, Ir.gRt, Ir.sq1, Ir.sq2, Ir.ls1, Ir.rt1, Ir.rt2, Ir.bopR_d, Ir.b_add, Ir.b_sub, Ir.c_lt, Ir.c_le, Ir.c_gt, Ir.c_ge, Ir.c_eqi, Ir.c_eqs, Ir.c_eqb, Ir.c_nei, Ir.c_nes, Ir.c_neb, Ir.c_is, Ir.c_isn, Ir.n1, Ir.n2, Ir.n3, Ir.n4, Ir.n5, Ir.n6, Ir.d_lt, Ir.d_le, Ir.d_gt, Ir.d_ge, Ir.x_tup, Ir.x_tmp, Ir.x_mix, Ir.x_ref, Ir.a0, Ir.a1, Ir.a2, Ir.i30, Ir.i32, Ir.f_len, Ir.l_tup, Ir.l_tmp, Ir.l_mix, Ir.l_ref, Ir.f_int, Ir.f_intb, Ir.f_abs, Ir.f_max, Ir.f_min, Ir.f_tup, Ir.f_list, Ir.f_all, Ir.f_any, Ir.f_isin, Ir.t_int, Ir.t_str, Ir.t_bl, Ir.t_non, Ir.t_tup, Ir.t_mix, Ir.is_ii, Ir.is_ib, Ir.is_tt, Ir.is_it, Ir.is_ss, Ir.p_j, Ir.p_s, Ir.p_p, Ir.tr_b, Ir.s_tmp, Ir.s_tup, Ir.s_str, Ir.boolsD, Ir.strsD, Ir.sqr, Ir.lsr, Ir.ob1, Ir.ob2, Ir.blU, List.map_cons, List.map_nil, List.length_cons, List.length_nil, List.replicate, List.cons_append, List.nil_append, List.append_nil, List.getElem?_cons_zero, List.getElem?_cons_succ, List.getElem?_nil, List.set_cons_zero, List.set_cons_succ, List.set_nil, Option.bind_some, Option.map_some, Option.map_none, Option.bind_none, if_true, if_false, ite_true, ite_false, reduceIte, Bool.not_true, Bool.not_false, List.take_succ_cons, List.take_length, List.take_zero, Nat.add_sub_cancel, Nat.sub_self, Nat.reduceSub, Nat.reduceAdd, reduceCtorEq, Bool.false_eq_true, decide_true, decide_false, List.all_cons, List.any_cons, List.all_nil, List.any_nil, id_eq, Bool.true_and, Bool.and_true, Bool.false_or, Bool.or_false, Ir.zc0, Ir.zc1, Ir.zc2, Ir.zc3, eq_self, Ir.bools_const, Ir.all_const, Ir.any_const]
/-! ### a state, a machine shown -/
def SP : Str := " "
def sepM : Str := " ; "
def sepC : Str := ": "
def numT (i : Int) : Str := toString i
def showSt (s : Int × List Int) : Str := ((Str.empty ++ numT s.1) ++ sepC) ++ Txt.join SP (s.2.map numT)
def showM (m : List (Int × List Int)) : Str := Txt.join sepM (m.map showSt)
theorem strsD_map {α : Type} (f : α → Str) : ∀ xs : List α, strsD (xs.map fun x => D.str (f x)) = some (xs.map f)
  | [] => rfl
  | x :: xs => by rw [List.map_cons, strsD, strsD_map f xs]; rfl
theorem numT_small : ∀ n : Nat, n < 1000 → (numT (n : Int)).length ≤ 3 ∧ 1 ≤ (numT (n : Int)).length ∧ PySem.intText? (numT (n : Int)) = some (n : Int) ∧ (numT (n : Int)).cps.toList.all (fun c => decide (48 ≤ c ∧ c ≤ 57)) = true ∧ ((numT (n : Int)).cps.toList[0]? = some 48 → numT (n : Int) = "0") ∧ cutS (numT (n : Int)) none (some 1) ≠ ("-" : Str) := by
  decide +kernel
theorem numT_ok {i : Int} (h : 0 ≤ i ∧ i < 1000) : (numT i).length ≤ 3 ∧ 1 ≤ (numT i).length ∧ PySem.intText? (numT i) = some i ∧ (numT i).cps.toList.all (fun c => decide (48 ≤ c ∧ c ≤ 57)) = true ∧ ((numT i).cps.toList[0]? = some 48 → numT i = "0") ∧ cutS (numT i) none (some 1) ≠ ("-" : Str) := by
  have := numT_small i.toNat (by omega)
  rw [Int.toNat_of_nonneg h.1] at this
  exact this
theorem dig_small {i : Int} (h : 0 ≤ i ∧ i < 1000) : digOk i = true := by
  unfold digOk
  rw [Bool.or_eq_true]
  refine .inl (decide_eq_true ?_)
  rcases Nat.eq_zero_or_pos i.natAbs with e | e
  · rw [e]
    decide
  · have := (Nat.log2_lt (n := i.natAbs) (k := 11) (by omega)).mpr (by omega)
    omega
theorem nlen {i : Int} (h : 0 ≤ i ∧ i < 1000) : (numT i).length ≤ 3 := (numT_ok h).1
theorem sum_le {α : Type} (f : α → Nat) (B : Nat) : ∀ xs : List α, (∀ x ∈ xs, f x ≤ B) → (xs.map f).sum ≤ xs.length * B
  | [], _ => by simp
  | x :: xs, h => by
    have h1 := h x (by simp)
    have h2 := sum_le f B xs fun y hy => h y (by simp [hy])
    simp only [List.map_cons, List.sum_cons, List.length_cons, Nat.add_mul, Nat.one_mul]
    omega
theorem len_app (a b : Str) : (a ++ b).length = a.length + b.length := by
  rw [TL.len_tl, TL.tl_append, List.length_append, ← TL.len_tl, ← TL.len_tl]
theorem joinL_len (S : List Nat) : ∀ xs : List (List Nat), (TL.joinL S xs).length ≤ (xs.map List.length).sum + xs.length * S.length
  | [] => by simp [TL.joinL]
  | [x] => by simp [TL.joinL]
  | x :: y :: r => by
    have := joinL_len S (y :: r)
    simp only [TL.joinL, List.length_append, List.map_cons, List.sum_cons, List.length_cons, Nat.add_mul, Nat.one_mul] at this ⊢
    omega
theorem join_len (y : Str) (xs : List Str) : (Txt.join y xs).length ≤ (xs.map (·.length)).sum + xs.length * y.length := by
  rw [TL.join_eq, TL.len_tl, TL.tl_join]
  refine Nat.le_trans (joinL_len _ _) ?_
  rw [List.map_map, List.length_map, TL.len_tl y]
  have : (List.length ∘ TL.tl) = fun x : Str => x.length := funext fun x => (TL.len_tl x).symm
  rw [this]
  exact Nat.le_refl _
theorem showSt_len {own others size : Nat} {s : Int × List Int} (h : StOk own others size s) (ho : own ≤ 5) (hz : others ≤ 5) (hs : size ≤ 400) : (Txt.join SP (s.2.map numT)).length ≤ 20 ∧ (showSt s).length ≤ 25 := by
  obtain ⟨h1, h2, h3⟩ := h
  have a := join_len SP (s.2.map numT)
  have b := sum_le (fun x : Int => (numT x).length) 3 s.2 fun x hx => nlen (by have := h3 x hx; omega)
  rw [List.map_map, List.length_map] at a
  have e : ((fun x : Str => x.length) ∘ numT) = fun x : Int => (numT x).length := rfl
  rw [e] at a
  have c : SP.length = 1 := rfl
  rw [c] at a
  have d := nlen (i := s.1) (by omega)
  have e1 : (Str.empty : Str).length = 0 := rfl
  have e2 : sepC.length = 2 := rfl
  refine ⟨by omega, ?_⟩
  unfold showSt
  rw [len_app, len_app, len_app, e1, e2]
  omega
end G85

set_option Elab.async false
set_option linter.all false
set_option maxRecDepth 100000
set_option autoImplicit false
/-! P85d: machines shown and read. -/
namespace G85
open PySem L2 Ir
def txtD : D → Str
  | .int i => numT i
  | .str s => s
  | _ => Str.empty
def goodD : D → Bool
  | .int i => digOk i
  | .str _ => true
  | _ => false
theorem fs_ok : ∀ (ds : List D) (acc : Str), acc.length + (ds.map fun d => (txtD d).length).sum ≤ lim → ds.all goodD = true → fsJoin ds acc = some (ds.foldl (fun a d => a ++ txtD d) acc)
  | [], acc, _, _ => rfl
  | d :: ds, acc, h, g => by
    rw [List.all_cons, Bool.and_eq_true] at g
    rw [List.map_cons, List.sum_cons] at h
    have l := len_app acc (txtD d)
    have ih := fs_ok ds (acc ++ txtD d) (by omega) g.2
    cases d with
    | int i =>
      have e : fsJoin (.int i :: ds) acc = fsJoin ds (acc ++ txtD (.int i)) := by
        show (if digOk i = true ∧ (acc ++ numT i).length ≤ lim then fsJoin ds (acc ++ numT i) else none) = _
        have l' : (acc ++ numT i).length = acc.length + (txtD (.int i)).length := l
        rw [if_pos ⟨g.1, by omega⟩]
        rfl
      rw [e, ih]
      rfl
    | str y =>
      have e : fsJoin (.str y :: ds) acc = fsJoin ds (acc ++ txtD (.str y)) := by
        show (if y.length ≤ lim ∧ (acc ++ y).length ≤ lim then fsJoin ds (acc ++ y) else none) = _
        have l' : (acc ++ y).length = acc.length + y.length := l
        have h' : acc.length + (y.length + (ds.map fun d => (txtD d).length).sum) ≤ lim := h
        rw [if_pos ⟨by omega, by omega⟩]
        rfl
      rw [e, ih]
      rfl
    | non => exact absurd g.1 (by decide)
    | bl _ => exact absurd g.1 (by simp [goodD])
    | ty _ => exact absurd g.1 (by simp [goodD])
    | tup _ => exact absurd g.1 (by simp [goodD])
theorem show_state_eq {k own others size : Nat} {s : Int × List Int} {S : Store} (h : StOk own others size s) (ho : own ≤ 5) (hz : others ≤ 5) (hs : size ≤ 400) : run pd.fds (k + 1) 20 [.d (stD s)] S = some (.d (.str (showSt s)), S) := by
  obtain ⟨l1, l2⟩ := showSt_len h ho hz hs
  obtain ⟨h1, h2, h3⟩ := h
  have b := sum_le (fun x : Int => (numT x).length) 3 s.2 fun x hx => nlen (by have := h3 x hx; omega)
  refine run_eq ⟨1, 5, ir_show_state⟩ rfl rfl ?_
  simp -implicitDefEqProofs only [Ir.Ok_bind, Ir.Ok_map, Ir.Ok_some, Ir.Ok_none, Ir.evSs, Ir.evE.eq_1, Ir.evE.eq_2, Ir.evE.eq_3, Ir.evE.eq_4, Ir.evE.eq_5, Ir.evE.eq_6, Ir.evE.eq_7, Ir.evE.eq_8, Ir.evE.eq_9, Ir.evE.eq_10, Ir.evE.eq_11, Ir.evE.eq_12, Ir.evE.eq_13, Ir.evE.eq_14, Ir.evE.eq_15, Ir.evE.eq_16, Ir.evE.eq_17, Ir.evE.eq_19, Ir.evEs, Ir.evRs, Ir.evO, Ir.evOt, Ir.evT, Ir.evI, Ir.evS.eq_1, Ir.evS.eq_2, Ir.evS.eq_3, Ir.evS.eq_4, Ir.evS.eq_5, Ir.evS.eq_6, Ir.evS.eq_9, Ir.evS.eq_10, Ir.evS.eq_11, Ir.evS.eq_12, Ir.evS.eq_13, Ir.Ok_for, Ir.ev2, Ir.startE, Ir.bT_n, Ir.bT_t, Ir.bT_m, Ir.bTs_n, Ir.bTs_c, Ir.wipeE, Ir.mt0, Ir.mt1, Ir.mt2, Ir.mt3, Ir.mt4, Ir.ad0, Ir.ad1, Ir.ad2, Ir.ad3, Ir.arrU, Ir.fu, Ir.ft, Ir.gd, Ir.gRu, Ir.gRt, Ir.sq1, Ir.sq2, Ir.ls1, Ir.rt1, Ir.rt2, Ir.bopR_d, Ir.b_add, Ir.b_sub, Ir.c_lt, Ir.c_le, Ir.c_gt, Ir.c_ge, Ir.c_eqi, Ir.c_eqs, Ir.c_eqb, Ir.c_nei, Ir.c_nes, Ir.c_neb, Ir.c_is, Ir.c_isn, Ir.n1, Ir.n2, Ir.n3, Ir.n4, Ir.n5, Ir.n6, Ir.d_lt, Ir.d_le, Ir.d_gt, Ir.d_ge, Ir.x_tup, Ir.x_tmp, Ir.x_mix, Ir.x_ref, Ir.a0, Ir.a1, Ir.a2, Ir.i30, Ir.i32, Ir.f_len, Ir.l_tup, Ir.l_tmp, Ir.l_mix, Ir.l_ref, Ir.f_int, Ir.f_intb, Ir.f_abs, Ir.f_max, Ir.f_min, Ir.f_tup, Ir.f_list, Ir.f_all, Ir.f_any, Ir.f_isin, Ir.t_int, Ir.t_str, Ir.t_bl, Ir.t_non, Ir.t_tup, Ir.t_mix, Ir.is_ii, Ir.is_ib, Ir.is_tt, Ir.is_it, Ir.is_ss, Ir.p_j, Ir.p_s, Ir.p_p, Ir.tr_b, Ir.s_tmp, Ir.s_tup, Ir.s_str, Ir.boolsD, Ir.strsD, Ir.sqr, Ir.lsr, Ir.ob1, Ir.ob2, Ir.blU, List.map_cons, List.map_nil, List.length_cons, List.length_nil, List.replicate, List.cons_append, List.nil_append, List.append_nil, List.getElem?_cons_zero, List.getElem?_cons_succ, List.getElem?_nil, List.set_cons_zero, List.set_cons_succ, List.set_nil, Option.bind_some, Option.map_some, Option.map_none, Option.bind_none, if_true, if_false, ite_true, ite_false, reduceIte, Bool.not_true, Bool.not_false, List.take_succ_cons, List.take_length, List.take_zero, Nat.add_sub_cancel, Nat.sub_self, Nat.reduceSub, Nat.reduceAdd, reduceCtorEq, Bool.false_eq_true, decide_true, decide_false, List.all_cons, List.any_cons, List.all_nil, List.any_nil, id_eq, Bool.true_and, Bool.and_true, Bool.false_or, Bool.or_false, Ir.zc0, Ir.zc1, Ir.zc2, Ir.zc3, eq_self, Ir.bools_const, Ir.all_const, Ir.any_const, ir_show_state, stD]
  refine Ok.of (comp_tup (fun x => match x with
    | .int i => .str (numT i)
    | _ => .non) (xs := s.2.map .int) (by simp -implicitDefEqProofs only [Ir.Ok_bind, Ir.Ok_map, Ir.Ok_some, Ir.Ok_none, Ir.evSs, Ir.evE.eq_1, Ir.evE.eq_2, Ir.evE.eq_3, Ir.evE.eq_4, Ir.evE.eq_5, Ir.evE.eq_6, Ir.evE.eq_7, Ir.evE.eq_8, Ir.evE.eq_9, Ir.evE.eq_10, Ir.evE.eq_11, Ir.evE.eq_12, Ir.evE.eq_13, Ir.evE.eq_14, Ir.evE.eq_15, Ir.evE.eq_16, Ir.evE.eq_17, Ir.evE.eq_19, Ir.evEs, Ir.evRs, Ir.evO, Ir.evOt, Ir.evT, Ir.evI, Ir.evS.eq_1, Ir.evS.eq_2, Ir.evS.eq_3, Ir.evS.eq_4, Ir.evS.eq_5, Ir.evS.eq_6, Ir.evS.eq_9, Ir.evS.eq_10, Ir.evS.eq_11, Ir.evS.eq_12, Ir.evS.eq_13, Ir.Ok_for, Ir.ev2, Ir.startE, Ir.bT_n, Ir.bT_t, Ir.bT_m, Ir.bTs_n, Ir.bTs_c, Ir.wipeE, Ir.mt0, Ir.mt1, Ir.mt2, Ir.mt3, Ir.mt4, Ir.ad0, Ir.ad1, Ir.ad2, Ir.ad3, Ir.arrU, Ir.fu, Ir.ft, Ir.gd, Ir.gRu, Ir.gRt, Ir.sq1, Ir.sq2, Ir.ls1, Ir.rt1, Ir.rt2, Ir.bopR_d, Ir.b_add, Ir.b_sub, Ir.c_lt, Ir.c_le, Ir.c_gt, Ir.c_ge, Ir.c_eqi, Ir.c_eqs, Ir.c_eqb, Ir.c_nei, Ir.c_nes, Ir.c_neb, Ir.c_is, Ir.c_isn, Ir.n1, Ir.n2, Ir.n3, Ir.n4, Ir.n5, Ir.n6, Ir.d_lt, Ir.d_le, Ir.d_gt, Ir.d_ge, Ir.x_tup, Ir.x_tmp, Ir.x_mix, Ir.x_ref, Ir.a0, Ir.a1, Ir.a2, Ir.i30, Ir.i32, Ir.f_len, Ir.l_tup, Ir.l_tmp, Ir.l_mix, Ir.l_ref, Ir.f_int, Ir.f_intb, Ir.f_abs, Ir.f_max, Ir.f_min, Ir.f_tup, Ir.f_list, Ir.f_all, Ir.f_any, Ir.f_isin, Ir.t_int, Ir.t_str, Ir.t_bl, Ir.t_non, Ir.t_tup, Ir.t_mix, Ir.is_ii, Ir.is_ib, Ir.is_tt, Ir.is_it, Ir.is_ss, Ir.p_j, Ir.p_s, Ir.p_p, Ir.tr_b, Ir.s_tmp, Ir.s_tup, Ir.s_str, Ir.boolsD, Ir.strsD, Ir.sqr, Ir.lsr, Ir.ob1, Ir.ob2, Ir.blU, List.map_cons, List.map_nil, List.length_cons, List.length_nil, List.replicate, List.cons_append, List.nil_append, List.append_nil, List.getElem?_cons_zero, List.getElem?_cons_succ, List.getElem?_nil, List.set_cons_zero, List.set_cons_succ, List.set_nil, Option.bind_some, Option.map_some, Option.map_none, Option.bind_none, if_true, if_false, ite_true, ite_false, reduceIte, Bool.not_true, Bool.not_false, List.take_succ_cons, List.take_length, List.take_zero, Nat.add_sub_cancel, Nat.sub_self, Nat.reduceSub, Nat.reduceAdd, reduceCtorEq, Bool.false_eq_true, decide_true, decide_false, List.all_cons, List.any_cons, List.all_nil, List.any_nil, id_eq, Bool.true_and, Bool.and_true, Bool.false_or, Bool.or_false, Ir.zc0, Ir.zc1, Ir.zc2, Ir.zc3, eq_self, Ir.bools_const, Ir.all_const, Ir.any_const]) (leLim (by simp; omega)) (fun x hx acc => ?_)) ?_
  · obtain ⟨v, hv, rfl⟩ := List.mem_map.mp hx
    have := h3 v hv
    simp only [turnC, Ir.Ok_bind, Ir.Ok_map, Ir.Ok_some, Ir.Ok_none, Ir.evSs, Ir.evE.eq_1, Ir.evE.eq_2, Ir.evE.eq_3, Ir.evE.eq_4, Ir.evE.eq_5, Ir.evE.eq_6, Ir.evE.eq_7, Ir.evE.eq_8, Ir.evE.eq_9, Ir.evE.eq_10, Ir.evE.eq_11, Ir.evE.eq_12, Ir.evE.eq_13, Ir.evE.eq_14, Ir.evE.eq_15, Ir.evE.eq_16, Ir.evE.eq_17, Ir.evE.eq_19, Ir.evEs, Ir.evRs, Ir.evO, Ir.evOt, Ir.evT, Ir.evI, Ir.evS.eq_1, Ir.evS.eq_2, Ir.evS.eq_3, Ir.evS.eq_4, Ir.evS.eq_5, Ir.evS.eq_6, Ir.evS.eq_9, Ir.evS.eq_10, Ir.evS.eq_11, Ir.evS.eq_12, Ir.evS.eq_13, Ir.Ok_for, Ir.ev2, Ir.startE, Ir.bT_n, Ir.bT_t, Ir.bT_m, Ir.bTs_n, Ir.bTs_c, Ir.wipeE, Ir.mt0, Ir.mt1, Ir.mt2, Ir.mt3, Ir.mt4, Ir.ad0, Ir.ad1, Ir.ad2, Ir.ad3, Ir.arrU, Ir.fu, Ir.ft, Ir.gd, Ir.gRu, Ir.gRt, Ir.sq1, Ir.sq2, Ir.ls1, Ir.rt1, Ir.rt2, Ir.bopR_d, Ir.b_add, Ir.b_sub, Ir.c_lt, Ir.c_le, Ir.c_gt, Ir.c_ge, Ir.c_eqi, Ir.c_eqs, Ir.c_eqb, Ir.c_nei, Ir.c_nes, Ir.c_neb, Ir.c_is, Ir.c_isn, Ir.n1, Ir.n2, Ir.n3, Ir.n4, Ir.n5, Ir.n6, Ir.d_lt, Ir.d_le, Ir.d_gt, Ir.d_ge, Ir.x_tup, Ir.x_tmp, Ir.x_mix, Ir.x_ref, Ir.a0, Ir.a1, Ir.a2, Ir.i30, Ir.i32, Ir.f_len, Ir.l_tup, Ir.l_tmp, Ir.l_mix, Ir.l_ref, Ir.f_int, Ir.f_intb, Ir.f_abs, Ir.f_max, Ir.f_min, Ir.f_tup, Ir.f_list, Ir.f_all, Ir.f_any, Ir.f_isin, Ir.t_int, Ir.t_str, Ir.t_bl, Ir.t_non, Ir.t_tup, Ir.t_mix, Ir.is_ii, Ir.is_ib, Ir.is_tt, Ir.is_it, Ir.is_ss, Ir.p_j, Ir.p_s, Ir.p_p, Ir.tr_b, Ir.s_tmp, Ir.s_tup, Ir.s_str, Ir.boolsD, Ir.strsD, Ir.sqr, Ir.lsr, Ir.ob1, Ir.ob2, Ir.blU, List.map_cons, List.map_nil, List.length_cons, List.length_nil, List.replicate, List.cons_append, List.nil_append, List.append_nil, List.getElem?_cons_zero, List.getElem?_cons_succ, List.getElem?_nil, List.set_cons_zero, List.set_cons_succ, List.set_nil, Option.bind_some, Option.map_some, Option.map_none, Option.bind_none, if_true, if_false, ite_true, ite_false, reduceIte, Bool.not_true, Bool.not_false, List.take_succ_cons, List.take_length, List.take_zero, Nat.add_sub_cancel, Nat.sub_self, Nat.reduceSub, Nat.reduceAdd, reduceCtorEq, Bool.false_eq_true, decide_true, decide_false, List.all_cons, List.any_cons, List.all_nil, List.any_nil, id_eq, Bool.true_and, Bool.and_true, Bool.false_or, Bool.or_false, Ir.zc0, Ir.zc1, Ir.zc2, Ir.zc3, eq_self, Ir.bools_const, Ir.all_const, Ir.any_const, f_str (dig_small (i := v) (by omega)), numT]
  · simp -implicitDefEqProofs only [Ir.Ok_bind, Ir.Ok_map, Ir.Ok_some, Ir.Ok_none, Ir.evSs, Ir.evE.eq_1, Ir.evE.eq_2, Ir.evE.eq_3, Ir.evE.eq_4, Ir.evE.eq_5, Ir.evE.eq_6, Ir.evE.eq_7, Ir.evE.eq_8, Ir.evE.eq_9, Ir.evE.eq_10, Ir.evE.eq_11, Ir.evE.eq_12, Ir.evE.eq_13, Ir.evE.eq_14, Ir.evE.eq_15, Ir.evE.eq_16, Ir.evE.eq_17, Ir.evE.eq_19, Ir.evEs, Ir.evRs, Ir.evO, Ir.evOt, Ir.evT, Ir.evI, Ir.evS.eq_1, Ir.evS.eq_2, Ir.evS.eq_3, Ir.evS.eq_4, Ir.evS.eq_5, Ir.evS.eq_6, Ir.evS.eq_9, Ir.evS.eq_10, Ir.evS.eq_11, Ir.evS.eq_12, Ir.evS.eq_13, Ir.Ok_for, Ir.ev2, Ir.startE, Ir.bT_n, Ir.bT_t, Ir.bT_m, Ir.bTs_n, Ir.bTs_c, Ir.wipeE, Ir.mt0, Ir.mt1, Ir.mt2, Ir.mt3, Ir.mt4, Ir.ad0, Ir.ad1, Ir.ad2, Ir.ad3, Ir.arrU, Ir.fu, Ir.ft, Ir.gd, Ir.gRu, Ir.gRt, Ir.sq1, Ir.sq2, Ir.ls1, Ir.rt1, Ir.rt2, Ir.bopR_d, Ir.b_add, Ir.b_sub, Ir.c_lt, Ir.c_le, Ir.c_gt, Ir.c_ge, Ir.c_eqi, Ir.c_eqs, Ir.c_eqb, Ir.c_nei, Ir.c_nes, Ir.c_neb, Ir.c_is, Ir.c_isn, Ir.n1, Ir.n2, Ir.n3, Ir.n4, Ir.n5, Ir.n6, Ir.d_lt, Ir.d_le, Ir.d_gt, Ir.d_ge, Ir.x_tup, Ir.x_tmp, Ir.x_mix, Ir.x_ref, Ir.a0, Ir.a1, Ir.a2, Ir.i30, Ir.i32, Ir.f_len, Ir.l_tup, Ir.l_tmp, Ir.l_mix, Ir.l_ref, Ir.f_int, Ir.f_intb, Ir.f_abs, Ir.f_max, Ir.f_min, Ir.f_tup, Ir.f_list, Ir.f_all, Ir.f_any, Ir.f_isin, Ir.t_int, Ir.t_str, Ir.t_bl, Ir.t_non, Ir.t_tup, Ir.t_mix, Ir.is_ii, Ir.is_ib, Ir.is_tt, Ir.is_it, Ir.is_ss, Ir.p_j, Ir.p_s, Ir.p_p, Ir.tr_b, Ir.s_tmp, Ir.s_tup, Ir.s_str, Ir.boolsD, Ir.strsD, Ir.sqr, Ir.lsr, Ir.ob1, Ir.ob2, Ir.blU, List.map_cons, List.map_nil, List.length_cons, List.length_nil, List.replicate, List.cons_append, List.nil_append, List.append_nil, List.getElem?_cons_zero, List.getElem?_cons_succ, List.getElem?_nil, List.set_cons_zero, List.set_cons_succ, List.set_nil, Option.bind_some, Option.map_some, Option.map_none, Option.bind_none, if_true, if_false, ite_true, ite_false, reduceIte, Bool.not_true, Bool.not_false, List.take_succ_cons, List.take_length, List.take_zero, Nat.add_sub_cancel, Nat.sub_self, Nat.reduceSub, Nat.reduceAdd, reduceCtorEq, Bool.false_eq_true, decide_true, decide_false, List.all_cons, List.any_cons, List.all_nil, List.any_nil, id_eq, Bool.true_and, Bool.and_true, Bool.false_or, Bool.or_false, Ir.zc0, Ir.zc1, Ir.zc2, Ir.zc3, eq_self, Ir.bools_const, Ir.all_const, Ir.any_const, List.map_map]
    have e : ((fun x : D => (match x with
      | .int i => D.str (numT i)
      | _ => .non : D)) ∘ D.int) = fun i : Int => D.str (numT i) := rfl
    rw [e, m_join (r := .tmp (s.2.map fun i : Int => D.str (numT i))) (ys := s.2.map numT) rfl (strsD_map numT s.2) (leLim (by
      rw [List.map_map, List.length_map]
      have e : ((fun x : Str => x.length) ∘ numT) = fun x : Int => (numT x).length := rfl
      have c : (" " : Str).length = 1 := rfl
      rw [e, c]
      omega))]
    simp -implicitDefEqProofs only [Ir.Ok_bind, Ir.Ok_map, Ir.Ok_some, Ir.Ok_none, Ir.evSs, Ir.evE.eq_1, Ir.evE.eq_2, Ir.evE.eq_3, Ir.evE.eq_4, Ir.evE.eq_5, Ir.evE.eq_6, Ir.evE.eq_7, Ir.evE.eq_8, Ir.evE.eq_9, Ir.evE.eq_10, Ir.evE.eq_11, Ir.evE.eq_12, Ir.evE.eq_13, Ir.evE.eq_14, Ir.evE.eq_15, Ir.evE.eq_16, Ir.evE.eq_17, Ir.evE.eq_19, Ir.evEs, Ir.evRs, Ir.evO, Ir.evOt, Ir.evT, Ir.evI, Ir.evS.eq_1, Ir.evS.eq_2, Ir.evS.eq_3, Ir.evS.eq_4, Ir.evS.eq_5, Ir.evS.eq_6, Ir.evS.eq_9, Ir.evS.eq_10, Ir.evS.eq_11, Ir.evS.eq_12, Ir.evS.eq_13, Ir.Ok_for, Ir.ev2, Ir.startE, Ir.bT_n, Ir.bT_t, Ir.bT_m, Ir.bTs_n, Ir.bTs_c, Ir.wipeE, Ir.mt0, Ir.mt1, Ir.mt2, Ir.mt3, Ir.mt4, Ir.ad0, Ir.ad1, Ir.ad2, Ir.ad3, Ir.arrU, Ir.fu, Ir.ft, Ir.gd, Ir.gRu, Ir.gRt, Ir.sq1, Ir.sq2, Ir.ls1, Ir.rt1, Ir.rt2, Ir.bopR_d, Ir.b_add, Ir.b_sub, Ir.c_lt, Ir.c_le, Ir.c_gt, Ir.c_ge, Ir.c_eqi, Ir.c_eqs, Ir.c_eqb, Ir.c_nei, Ir.c_nes, Ir.c_neb, Ir.c_is, Ir.c_isn, Ir.n1, Ir.n2, Ir.n3, Ir.n4, Ir.n5, Ir.n6, Ir.d_lt, Ir.d_le, Ir.d_gt, Ir.d_ge, Ir.x_tup, Ir.x_tmp, Ir.x_mix, Ir.x_ref, Ir.a0, Ir.a1, Ir.a2, Ir.i30, Ir.i32, Ir.f_len, Ir.l_tup, Ir.l_tmp, Ir.l_mix, Ir.l_ref, Ir.f_int, Ir.f_intb, Ir.f_abs, Ir.f_max, Ir.f_min, Ir.f_tup, Ir.f_list, Ir.f_all, Ir.f_any, Ir.f_isin, Ir.t_int, Ir.t_str, Ir.t_bl, Ir.t_non, Ir.t_tup, Ir.t_mix, Ir.is_ii, Ir.is_ib, Ir.is_tt, Ir.is_it, Ir.is_ss, Ir.p_j, Ir.p_s, Ir.p_p, Ir.tr_b, Ir.s_tmp, Ir.s_tup, Ir.s_str, Ir.boolsD, Ir.strsD, Ir.sqr, Ir.lsr, Ir.ob1, Ir.ob2, Ir.blU, List.map_cons, List.map_nil, List.length_cons, List.length_nil, List.replicate, List.cons_append, List.nil_append, List.append_nil, List.getElem?_cons_zero, List.getElem?_cons_succ, List.getElem?_nil, List.set_cons_zero, List.set_cons_succ, List.set_nil, Option.bind_some, Option.map_some, Option.map_none, Option.bind_none, if_true, if_false, ite_true, ite_false, reduceIte, Bool.not_true, Bool.not_false, List.take_succ_cons, List.take_length, List.take_zero, Nat.add_sub_cancel, Nat.sub_self, Nat.reduceSub, Nat.reduceAdd, reduceCtorEq, Bool.false_eq_true, decide_true, decide_false, List.all_cons, List.any_cons, List.all_nil, List.any_nil, id_eq, Bool.true_and, Bool.and_true, Bool.false_or, Bool.or_false, Ir.zc0, Ir.zc1, Ir.zc2, Ir.zc3, eq_self, Ir.bools_const, Ir.all_const, Ir.any_const]
    rw [show Str.ofString ": " = sepC from rfl, show Txt.join (Str.ofString " ") (s.2.map numT) = Txt.join SP (s.2.map numT) from rfl,
      fs_ok _ _ (by
        have d := nlen (i := s.1) (by omega)
        have e1 : (Str.empty : Str).length = 0 := rfl
        have e2 : sepC.length = 2 := rfl
        have e3 : ∀ a b c d : Nat, a + [b, c, d].sum = a + b + c + d := fun a b c d => by simp; omega
        simp only [List.map_cons, List.map_nil, txtD, e1, e2, e3]
        exact leLim (by omega)) (by simp only [List.all_cons, List.all_nil, goodD, dig_small (i := s.1) (by omega), Bool.and_self])]
    simp -implicitDefEqProofs only [Ir.Ok_bind, Ir.Ok_map, Ir.Ok_some, Ir.Ok_none, Ir.evSs, Ir.evE.eq_1, Ir.evE.eq_2, Ir.evE.eq_3, Ir.evE.eq_4, Ir.evE.eq_5, Ir.evE.eq_6, Ir.evE.eq_7, Ir.evE.eq_8, Ir.evE.eq_9, Ir.evE.eq_10, Ir.evE.eq_11, Ir.evE.eq_12, Ir.evE.eq_13, Ir.evE.eq_14, Ir.evE.eq_15, Ir.evE.eq_16, Ir.evE.eq_17, Ir.evE.eq_19, Ir.evEs, Ir.evRs, Ir.evO, Ir.evOt, Ir.evT, Ir.evI, Ir.evS.eq_1, Ir.evS.eq_2, Ir.evS.eq_3, Ir.evS.eq_4, Ir.evS.eq_5, Ir.evS.eq_6, Ir.evS.eq_9, Ir.evS.eq_10, Ir.evS.eq_11, Ir.evS.eq_12, Ir.evS.eq_13, Ir.Ok_for, Ir.ev2, Ir.startE, Ir.bT_n, Ir.bT_t, Ir.bT_m, Ir.bTs_n, Ir.bTs_c, Ir.wipeE, Ir.mt0, Ir.mt1, Ir.mt2, Ir.mt3, Ir.mt4, Ir.ad0, Ir.ad1, Ir.ad2, Ir.ad3, Ir.arrU, Ir.fu, Ir.ft, Ir.gd, Ir.gRu, Ir.gRt, Ir.sq1, Ir.sq2, Ir.ls1, Ir.rt1, Ir.rt2, Ir.bopR_d, Ir.b_add, Ir.b_sub, Ir.c_lt, Ir.c_le, Ir.c_gt, Ir.c_ge, Ir.c_eqi, Ir.c_eqs, Ir.c_eqb, Ir.c_nei, Ir.c_nes, Ir.c_neb, Ir.c_is, Ir.c_isn, Ir.n1, Ir.n2, Ir.n3, Ir.n4, Ir.n5, Ir.n6, Ir.d_lt, Ir.d_le, Ir.d_gt, Ir.d_ge, Ir.x_tup, Ir.x_tmp, Ir.x_mix, Ir.x_ref, Ir.a0, Ir.a1, Ir.a2, Ir.i30, Ir.i32, Ir.f_len, Ir.l_tup, Ir.l_tmp, Ir.l_mix, Ir.l_ref, Ir.f_int, Ir.f_intb, Ir.f_abs, Ir.f_max, Ir.f_min, Ir.f_tup, Ir.f_list, Ir.f_all, Ir.f_any, Ir.f_isin, Ir.t_int, Ir.t_str, Ir.t_bl, Ir.t_non, Ir.t_tup, Ir.t_mix, Ir.is_ii, Ir.is_ib, Ir.is_tt, Ir.is_it, Ir.is_ss, Ir.p_j, Ir.p_s, Ir.p_p, Ir.tr_b, Ir.s_tmp, Ir.s_tup, Ir.s_str, Ir.boolsD, Ir.strsD, Ir.sqr, Ir.lsr, Ir.ob1, Ir.ob2, Ir.blU, List.map_cons, List.map_nil, List.length_cons, List.length_nil, List.replicate, List.cons_append, List.nil_append, List.append_nil, List.getElem?_cons_zero, List.getElem?_cons_succ, List.getElem?_nil, List.set_cons_zero, List.set_cons_succ, List.set_nil, Option.bind_some, Option.map_some, Option.map_none, Option.bind_none, if_true, if_false, ite_true, ite_false, reduceIte, Bool.not_true, Bool.not_false, List.take_succ_cons, List.take_length, List.take_zero, Nat.add_sub_cancel, Nat.sub_self, Nat.reduceSub, Nat.reduceAdd, reduceCtorEq, Bool.false_eq_true, decide_true, decide_false, List.all_cons, List.any_cons, List.all_nil, List.any_nil, id_eq, Bool.true_and, Bool.and_true, Bool.false_or, Bool.or_false, Ir.zc0, Ir.zc1, Ir.zc2, Ir.zc3, eq_self, Ir.bools_const, Ir.all_const, Ir.any_const, List.foldl_cons, List.foldl_nil, txtD, showSt]
end G85

set_option Elab.async false
set_option linter.all false
set_option maxRecDepth 100000
set_option autoImplicit false
/-! P85e: machines shown (2). -/
namespace G85
open PySem L2 Ir
theorem mach_sum {own others : Nat} {m : List (Int × List Int)} (h : MOk own others m) (ho : own ≤ 5) (hz : others ≤ 5) : (m.map fun s => (showSt s).length).sum + m.length * 3 ≤ 20000 := by
  have := sum_le (fun s => (showSt s).length) 25 m fun s hs => (showSt_len (h.2 s hs) ho hz h.1.2).2
  have := h.1.2
  omega
theorem join_m {own others : Nat} {m : List (Int × List Int)} {S : Store} (h : MOk own others m) (ho : own ≤ 5) (hz : others ≤ 5) :
    meR .join (.u (.d (.str " ; "))) [.tmp (m.map fun s => D.str (showSt s))] S = some (.u (.d (.str (showM m))), S) := by
  rw [m_join (r := .tmp (m.map fun s => D.str (showSt s))) (ys := m.map showSt) rfl (strsD_map showSt m) (leLim (by
      have := mach_sum h ho hz
      rw [List.map_map, List.length_map]
      have e : ((fun x : Str => x.length) ∘ showSt) = fun s => (showSt s).length := rfl
      have c : (" ; " : Str).length = 3 := rfl
      rw [e, c]
      omega))]
  rfl
theorem show_machine_eq {k own others : Nat} {m : List (Int × List Int)} {S : Store} (h : MOk own others m) (ho : own ≤ 5) (hz : others ≤ 5) : run pd.fds (k + 2) 21 [.d (machD m)] S = some (.d (.str (showM m)), S) := by
  refine run_eq ⟨1, 2, ir_show_machine⟩ rfl rfl ?_
  simp -implicitDefEqProofs only [Ir.Ok_bind, Ir.Ok_map, Ir.Ok_some, Ir.Ok_none, Ir.evSs, Ir.evE.eq_1, Ir.evE.eq_2, Ir.evE.eq_3, Ir.evE.eq_4, Ir.evE.eq_5, Ir.evE.eq_6, Ir.evE.eq_7, Ir.evE.eq_8, Ir.evE.eq_9, Ir.evE.eq_10, Ir.evE.eq_11, Ir.evE.eq_12, Ir.evE.eq_13, Ir.evE.eq_14, Ir.evE.eq_15, Ir.evE.eq_16, Ir.evE.eq_17, Ir.evE.eq_19, Ir.evEs, Ir.evRs, Ir.evO, Ir.evOt, Ir.evT, Ir.evI, Ir.evS.eq_1, Ir.evS.eq_2, Ir.evS.eq_3, Ir.evS.eq_4, Ir.evS.eq_5, Ir.evS.eq_6, Ir.evS.eq_9, Ir.evS.eq_10, Ir.evS.eq_11, Ir.evS.eq_12, Ir.evS.eq_13, Ir.Ok_for, Ir.ev2, Ir.startE, Ir.bT_n, Ir.bT_t, Ir.bT_m, Ir.bTs_n, Ir.bTs_c, Ir.wipeE, Ir.mt0, Ir.mt1, Ir.mt2, Ir.mt3, Ir.mt4, Ir.ad0, Ir.ad1, Ir.ad2, Ir.ad3, Ir.arrU, Ir.fu, Ir.ft, Ir.gd, Ir.gRu, Ir.gRt, Ir.sq1, Ir.sq2, Ir.ls1, Ir.rt1, Ir.rt2, Ir.bopR_d, Ir.b_add, Ir.b_sub, Ir.c_lt, Ir.c_le, Ir.c_gt, Ir.c_ge, Ir.c_eqi, Ir.c_eqs, Ir.c_eqb, Ir.c_nei, Ir.c_nes, Ir.c_neb, Ir.c_is, Ir.c_isn, Ir.n1, Ir.n2, Ir.n3, Ir.n4, Ir.n5, Ir.n6, Ir.d_lt, Ir.d_le, Ir.d_gt, Ir.d_ge, Ir.x_tup, Ir.x_tmp, Ir.x_mix, Ir.x_ref, Ir.a0, Ir.a1, Ir.a2, Ir.i30, Ir.i32, Ir.f_len, Ir.l_tup, Ir.l_tmp, Ir.l_mix, Ir.l_ref, Ir.f_int, Ir.f_intb, Ir.f_abs, Ir.f_max, Ir.f_min, Ir.f_tup, Ir.f_list, Ir.f_all, Ir.f_any, Ir.f_isin, Ir.t_int, Ir.t_str, Ir.t_bl, Ir.t_non, Ir.t_tup, Ir.t_mix, Ir.is_ii, Ir.is_ib, Ir.is_tt, Ir.is_it, Ir.is_ss, Ir.p_j, Ir.p_s, Ir.p_p, Ir.tr_b, Ir.s_tmp, Ir.s_tup, Ir.s_str, Ir.boolsD, Ir.strsD, Ir.sqr, Ir.lsr, Ir.ob1, Ir.ob2, Ir.blU, List.map_cons, List.map_nil, List.length_cons, List.length_nil, List.replicate, List.cons_append, List.nil_append, List.append_nil, List.getElem?_cons_zero, List.getElem?_cons_succ, List.getElem?_nil, List.set_cons_zero, List.set_cons_succ, List.set_nil, Option.bind_some, Option.map_some, Option.map_none, Option.bind_none, if_true, if_false, ite_true, ite_false, reduceIte, Bool.not_true, Bool.not_false, List.take_succ_cons, List.take_length, List.take_zero, Nat.add_sub_cancel, Nat.sub_self, Nat.reduceSub, Nat.reduceAdd, reduceCtorEq, Bool.false_eq_true, decide_true, decide_false, List.all_cons, List.any_cons, List.all_nil, List.any_nil, id_eq, Bool.true_and, Bool.and_true, Bool.false_or, Bool.or_false, Ir.zc0, Ir.zc1, Ir.zc2, Ir.zc3, eq_self, Ir.bools_const, Ir.all_const, Ir.any_const, ir_show_machine, machD]
  have hl := h.1.2
  refine Ok.of (comp_map2 (fun s => .str (showSt s)) (xs := m) (f := stD) (by simp -implicitDefEqProofs only [Ir.Ok_bind, Ir.Ok_map, Ir.Ok_some, Ir.Ok_none, Ir.evSs, Ir.evE.eq_1, Ir.evE.eq_2, Ir.evE.eq_3, Ir.evE.eq_4, Ir.evE.eq_5, Ir.evE.eq_6, Ir.evE.eq_7, Ir.evE.eq_8, Ir.evE.eq_9, Ir.evE.eq_10, Ir.evE.eq_11, Ir.evE.eq_12, Ir.evE.eq_13, Ir.evE.eq_14, Ir.evE.eq_15, Ir.evE.eq_16, Ir.evE.eq_17, Ir.evE.eq_19, Ir.evEs, Ir.evRs, Ir.evO, Ir.evOt, Ir.evT, Ir.evI, Ir.evS.eq_1, Ir.evS.eq_2, Ir.evS.eq_3, Ir.evS.eq_4, Ir.evS.eq_5, Ir.evS.eq_6, Ir.evS.eq_9, Ir.evS.eq_10, Ir.evS.eq_11, Ir.evS.eq_12, Ir.evS.eq_13, Ir.Ok_for, Ir.ev2, Ir.startE, Ir.bT_n, Ir.bT_t, Ir.bT_m, Ir.bTs_n, Ir.bTs_c, Ir.wipeE, Ir.mt0, Ir.mt1, Ir.mt2, Ir.mt3, Ir.mt4, Ir.ad0, Ir.ad1, Ir.ad2, Ir.ad3, Ir.arrU, Ir.fu, Ir.ft, Ir.gd, Ir.gRu, Ir.gRt, Ir.sq1, Ir.sq2, Ir.ls1, Ir.rt1, Ir.rt2, Ir.bopR_d, Ir.b_add, Ir.b_sub, Ir.c_lt, Ir.c_le, Ir.c_gt, Ir.c_ge, Ir.c_eqi, Ir.c_eqs, Ir.c_eqb, Ir.c_nei, Ir.c_nes, Ir.c_neb, Ir.c_is, Ir.c_isn, Ir.n1, Ir.n2, Ir.n3, Ir.n4, Ir.n5, Ir.n6, Ir.d_lt, Ir.d_le, Ir.d_gt, Ir.d_ge, Ir.x_tup, Ir.x_tmp, Ir.x_mix, Ir.x_ref, Ir.a0, Ir.a1, Ir.a2, Ir.i30, Ir.i32, Ir.f_len, Ir.l_tup, Ir.l_tmp, Ir.l_mix, Ir.l_ref, Ir.f_int, Ir.f_intb, Ir.f_abs, Ir.f_max, Ir.f_min, Ir.f_tup, Ir.f_list, Ir.f_all, Ir.f_any, Ir.f_isin, Ir.t_int, Ir.t_str, Ir.t_bl, Ir.t_non, Ir.t_tup, Ir.t_mix, Ir.is_ii, Ir.is_ib, Ir.is_tt, Ir.is_it, Ir.is_ss, Ir.p_j, Ir.p_s, Ir.p_p, Ir.tr_b, Ir.s_tmp, Ir.s_tup, Ir.s_str, Ir.boolsD, Ir.strsD, Ir.sqr, Ir.lsr, Ir.ob1, Ir.ob2, Ir.blU, List.map_cons, List.map_nil, List.length_cons, List.length_nil, List.replicate, List.cons_append, List.nil_append, List.append_nil, List.getElem?_cons_zero, List.getElem?_cons_succ, List.getElem?_nil, List.set_cons_zero, List.set_cons_succ, List.set_nil, Option.bind_some, Option.map_some, Option.map_none, Option.bind_none, if_true, if_false, ite_true, ite_false, reduceIte, Bool.not_true, Bool.not_false, List.take_succ_cons, List.take_length, List.take_zero, Nat.add_sub_cancel, Nat.sub_self, Nat.reduceSub, Nat.reduceAdd, reduceCtorEq, Bool.false_eq_true, decide_true, decide_false, List.all_cons, List.any_cons, List.all_nil, List.any_nil, id_eq, Bool.true_and, Bool.and_true, Bool.false_or, Bool.or_false, Ir.zc0, Ir.zc1, Ir.zc2, Ir.zc3, eq_self, Ir.bools_const, Ir.all_const, Ir.any_const]) (leLim (by omega)) (fun s hs acc => ?_)) ?_
  · simp only [turnC, Ir.Ok_bind, Ir.Ok_map, Ir.Ok_some, Ir.Ok_none, Ir.evSs, Ir.evE.eq_1, Ir.evE.eq_2, Ir.evE.eq_3, Ir.evE.eq_4, Ir.evE.eq_5, Ir.evE.eq_6, Ir.evE.eq_7, Ir.evE.eq_8, Ir.evE.eq_9, Ir.evE.eq_10, Ir.evE.eq_11, Ir.evE.eq_12, Ir.evE.eq_13, Ir.evE.eq_14, Ir.evE.eq_15, Ir.evE.eq_16, Ir.evE.eq_17, Ir.evE.eq_19, Ir.evEs, Ir.evRs, Ir.evO, Ir.evOt, Ir.evT, Ir.evI, Ir.evS.eq_1, Ir.evS.eq_2, Ir.evS.eq_3, Ir.evS.eq_4, Ir.evS.eq_5, Ir.evS.eq_6, Ir.evS.eq_9, Ir.evS.eq_10, Ir.evS.eq_11, Ir.evS.eq_12, Ir.evS.eq_13, Ir.Ok_for, Ir.ev2, Ir.startE, Ir.bT_n, Ir.bT_t, Ir.bT_m, Ir.bTs_n, Ir.bTs_c, Ir.wipeE, Ir.mt0, Ir.mt1, Ir.mt2, Ir.mt3, Ir.mt4, Ir.ad0, Ir.ad1, Ir.ad2, Ir.ad3, Ir.arrU, Ir.fu, Ir.ft, Ir.gd, Ir.gRu, Ir.gRt, Ir.sq1, Ir.sq2, Ir.ls1, Ir.rt1, Ir.rt2, Ir.bopR_d, Ir.b_add, Ir.b_sub, Ir.c_lt, Ir.c_le, Ir.c_gt, Ir.c_ge, Ir.c_eqi, Ir.c_eqs, Ir.c_eqb, Ir.c_nei, Ir.c_nes, Ir.c_neb, Ir.c_is, Ir.c_isn, Ir.n1, Ir.n2, Ir.n3, Ir.n4, Ir.n5, Ir.n6, Ir.d_lt, Ir.d_le, Ir.d_gt, Ir.d_ge, Ir.x_tup, Ir.x_tmp, Ir.x_mix, Ir.x_ref, Ir.a0, Ir.a1, Ir.a2, Ir.i30, Ir.i32, Ir.f_len, Ir.l_tup, Ir.l_tmp, Ir.l_mix, Ir.l_ref, Ir.f_int, Ir.f_intb, Ir.f_abs, Ir.f_max, Ir.f_min, Ir.f_tup, Ir.f_list, Ir.f_all, Ir.f_any, Ir.f_isin, Ir.t_int, Ir.t_str, Ir.t_bl, Ir.t_non, Ir.t_tup, Ir.t_mix, Ir.is_ii, Ir.is_ib, Ir.is_tt, Ir.is_it, Ir.is_ss, Ir.p_j, Ir.p_s, Ir.p_p, Ir.tr_b, Ir.s_tmp, Ir.s_tup, Ir.s_str, Ir.boolsD, Ir.strsD, Ir.sqr, Ir.lsr, Ir.ob1, Ir.ob2, Ir.blU, List.map_cons, List.map_nil, List.length_cons, List.length_nil, List.replicate, List.cons_append, List.nil_append, List.append_nil, List.getElem?_cons_zero, List.getElem?_cons_succ, List.getElem?_nil, List.set_cons_zero, List.set_cons_succ, List.set_nil, Option.bind_some, Option.map_some, Option.map_none, Option.bind_none, if_true, if_false, ite_true, ite_false, reduceIte, Bool.not_true, Bool.not_false, List.take_succ_cons, List.take_length, List.take_zero, Nat.add_sub_cancel, Nat.sub_self, Nat.reduceSub, Nat.reduceAdd, reduceCtorEq, Bool.false_eq_true, decide_true, decide_false, List.all_cons, List.any_cons, List.all_nil, List.any_nil, id_eq, Bool.true_and, Bool.and_true, Bool.false_or, Bool.or_false, Ir.zc0, Ir.zc1, Ir.zc2, Ir.zc3, eq_self, Ir.bools_const, Ir.all_const, Ir.any_const, show_state_eq (h.2 s hs) ho hz hl]
  · simp -implicitDefEqProofs only [Ir.Ok_bind, Ir.Ok_map, Ir.Ok_some, Ir.Ok_none, Ir.evSs, Ir.evE.eq_1, Ir.evE.eq_2, Ir.evE.eq_3, Ir.evE.eq_4, Ir.evE.eq_5, Ir.evE.eq_6, Ir.evE.eq_7, Ir.evE.eq_8, Ir.evE.eq_9, Ir.evE.eq_10, Ir.evE.eq_11, Ir.evE.eq_12, Ir.evE.eq_13, Ir.evE.eq_14, Ir.evE.eq_15, Ir.evE.eq_16, Ir.evE.eq_17, Ir.evE.eq_19, Ir.evEs, Ir.evRs, Ir.evO, Ir.evOt, Ir.evT, Ir.evI, Ir.evS.eq_1, Ir.evS.eq_2, Ir.evS.eq_3, Ir.evS.eq_4, Ir.evS.eq_5, Ir.evS.eq_6, Ir.evS.eq_9, Ir.evS.eq_10, Ir.evS.eq_11, Ir.evS.eq_12, Ir.evS.eq_13, Ir.Ok_for, Ir.ev2, Ir.startE, Ir.bT_n, Ir.bT_t, Ir.bT_m, Ir.bTs_n, Ir.bTs_c, Ir.wipeE, Ir.mt0, Ir.mt1, Ir.mt2, Ir.mt3, Ir.mt4, Ir.ad0, Ir.ad1, Ir.ad2, Ir.ad3, Ir.arrU, Ir.fu, Ir.ft, Ir.gd, Ir.gRu, Ir.gRt, Ir.sq1, Ir.sq2, Ir.ls1, Ir.rt1, Ir.rt2, Ir.bopR_d, Ir.b_add, Ir.b_sub, Ir.c_lt, Ir.c_le, Ir.c_gt, Ir.c_ge, Ir.c_eqi, Ir.c_eqs, Ir.c_eqb, Ir.c_nei, Ir.c_nes, Ir.c_neb, Ir.c_is, Ir.c_isn, Ir.n1, Ir.n2, Ir.n3, Ir.n4, Ir.n5, Ir.n6, Ir.d_lt, Ir.d_le, Ir.d_gt, Ir.d_ge, Ir.x_tup, Ir.x_tmp, Ir.x_mix, Ir.x_ref, Ir.a0, Ir.a1, Ir.a2, Ir.i30, Ir.i32, Ir.f_len, Ir.l_tup, Ir.l_tmp, Ir.l_mix, Ir.l_ref, Ir.f_int, Ir.f_intb, Ir.f_abs, Ir.f_max, Ir.f_min, Ir.f_tup, Ir.f_list, Ir.f_all, Ir.f_any, Ir.f_isin, Ir.t_int, Ir.t_str, Ir.t_bl, Ir.t_non, Ir.t_tup, Ir.t_mix, Ir.is_ii, Ir.is_ib, Ir.is_tt, Ir.is_it, Ir.is_ss, Ir.p_j, Ir.p_s, Ir.p_p, Ir.tr_b, Ir.s_tmp, Ir.s_tup, Ir.s_str, Ir.boolsD, Ir.strsD, Ir.sqr, Ir.lsr, Ir.ob1, Ir.ob2, Ir.blU, List.map_cons, List.map_nil, List.length_cons, List.length_nil, List.replicate, List.cons_append, List.nil_append, List.append_nil, List.getElem?_cons_zero, List.getElem?_cons_succ, List.getElem?_nil, List.set_cons_zero, List.set_cons_succ, List.set_nil, Option.bind_some, Option.map_some, Option.map_none, Option.bind_none, if_true, if_false, ite_true, ite_false, reduceIte, Bool.not_true, Bool.not_false, List.take_succ_cons, List.take_length, List.take_zero, Nat.add_sub_cancel, Nat.sub_self, Nat.reduceSub, Nat.reduceAdd, reduceCtorEq, Bool.false_eq_true, decide_true, decide_false, List.all_cons, List.any_cons, List.all_nil, List.any_nil, id_eq, Bool.true_and, Bool.and_true, Bool.false_or, Bool.or_false, Ir.zc0, Ir.zc1, Ir.zc2, Ir.zc3, eq_self, Ir.bools_const, Ir.all_const, Ir.any_const, join_m h ho hz]
theorem law_text_eq {k own others : Nat} {m : List (Int × List Int)} {S : Store} (h : MOk own others m) (ho : own ≤ 5) (hz : others ≤ 5) : run pd.fds (k + 1) 28 [.d (machD m)] S = some (.d (.str (showM m)), S) := by
  refine run_eq ⟨1, 4, ir__law_text⟩ rfl rfl ?_
  simp -implicitDefEqProofs only [Ir.Ok_bind, Ir.Ok_map, Ir.Ok_some, Ir.Ok_none, Ir.evSs, Ir.evE.eq_1, Ir.evE.eq_2, Ir.evE.eq_3, Ir.evE.eq_4, Ir.evE.eq_5, Ir.evE.eq_6, Ir.evE.eq_7, Ir.evE.eq_8, Ir.evE.eq_9, Ir.evE.eq_10, Ir.evE.eq_11, Ir.evE.eq_12, Ir.evE.eq_13, Ir.evE.eq_14, Ir.evE.eq_15, Ir.evE.eq_16, Ir.evE.eq_17, Ir.evE.eq_19, Ir.evEs, Ir.evRs, Ir.evO, Ir.evOt, Ir.evT, Ir.evI, Ir.evS.eq_1, Ir.evS.eq_2, Ir.evS.eq_3, Ir.evS.eq_4, Ir.evS.eq_5, Ir.evS.eq_6, Ir.evS.eq_9, Ir.evS.eq_10, Ir.evS.eq_11, Ir.evS.eq_12, Ir.evS.eq_13, Ir.Ok_for, Ir.ev2, Ir.startE, Ir.bT_n, Ir.bT_t, Ir.bT_m, Ir.bTs_n, Ir.bTs_c, Ir.wipeE, Ir.mt0, Ir.mt1, Ir.mt2, Ir.mt3, Ir.mt4, Ir.ad0, Ir.ad1, Ir.ad2, Ir.ad3, Ir.arrU, Ir.fu, Ir.ft, Ir.gd, Ir.gRu, Ir.gRt, Ir.sq1, Ir.sq2, Ir.ls1, Ir.rt1, Ir.rt2, Ir.bopR_d, Ir.b_add, Ir.b_sub, Ir.c_lt, Ir.c_le, Ir.c_gt, Ir.c_ge, Ir.c_eqi, Ir.c_eqs, Ir.c_eqb, Ir.c_nei, Ir.c_nes, Ir.c_neb, Ir.c_is, Ir.c_isn, Ir.n1, Ir.n2, Ir.n3, Ir.n4, Ir.n5, Ir.n6, Ir.d_lt, Ir.d_le, Ir.d_gt, Ir.d_ge, Ir.x_tup, Ir.x_tmp, Ir.x_mix, Ir.x_ref, Ir.a0, Ir.a1, Ir.a2, Ir.i30, Ir.i32, Ir.f_len, Ir.l_tup, Ir.l_tmp, Ir.l_mix, Ir.l_ref, Ir.f_int, Ir.f_intb, Ir.f_abs, Ir.f_max, Ir.f_min, Ir.f_tup, Ir.f_list, Ir.f_all, Ir.f_any, Ir.f_isin, Ir.t_int, Ir.t_str, Ir.t_bl, Ir.t_non, Ir.t_tup, Ir.t_mix, Ir.is_ii, Ir.is_ib, Ir.is_tt, Ir.is_it, Ir.is_ss, Ir.p_j, Ir.p_s, Ir.p_p, Ir.tr_b, Ir.s_tmp, Ir.s_tup, Ir.s_str, Ir.boolsD, Ir.strsD, Ir.sqr, Ir.lsr, Ir.ob1, Ir.ob2, Ir.blU, List.map_cons, List.map_nil, List.length_cons, List.length_nil, List.replicate, List.cons_append, List.nil_append, List.append_nil, List.getElem?_cons_zero, List.getElem?_cons_succ, List.getElem?_nil, List.set_cons_zero, List.set_cons_succ, List.set_nil, Option.bind_some, Option.map_some, Option.map_none, Option.bind_none, if_true, if_false, ite_true, ite_false, reduceIte, Bool.not_true, Bool.not_false, List.take_succ_cons, List.take_length, List.take_zero, Nat.add_sub_cancel, Nat.sub_self, Nat.reduceSub, Nat.reduceAdd, reduceCtorEq, Bool.false_eq_true, decide_true, decide_false, List.all_cons, List.any_cons, List.all_nil, List.any_nil, id_eq, Bool.true_and, Bool.and_true, Bool.false_or, Bool.or_false, Ir.zc0, Ir.zc1, Ir.zc2, Ir.zc3, eq_self, Ir.bools_const, Ir.all_const, Ir.any_const, ir__law_text, machD]
  have hl := h.1.2
  refine Ok.of (comp_map2 (fun s => .str (showSt s)) (xs := m) (f := stD) (by simp -implicitDefEqProofs only [Ir.Ok_bind, Ir.Ok_map, Ir.Ok_some, Ir.Ok_none, Ir.evSs, Ir.evE.eq_1, Ir.evE.eq_2, Ir.evE.eq_3, Ir.evE.eq_4, Ir.evE.eq_5, Ir.evE.eq_6, Ir.evE.eq_7, Ir.evE.eq_8, Ir.evE.eq_9, Ir.evE.eq_10, Ir.evE.eq_11, Ir.evE.eq_12, Ir.evE.eq_13, Ir.evE.eq_14, Ir.evE.eq_15, Ir.evE.eq_16, Ir.evE.eq_17, Ir.evE.eq_19, Ir.evEs, Ir.evRs, Ir.evO, Ir.evOt, Ir.evT, Ir.evI, Ir.evS.eq_1, Ir.evS.eq_2, Ir.evS.eq_3, Ir.evS.eq_4, Ir.evS.eq_5, Ir.evS.eq_6, Ir.evS.eq_9, Ir.evS.eq_10, Ir.evS.eq_11, Ir.evS.eq_12, Ir.evS.eq_13, Ir.Ok_for, Ir.ev2, Ir.startE, Ir.bT_n, Ir.bT_t, Ir.bT_m, Ir.bTs_n, Ir.bTs_c, Ir.wipeE, Ir.mt0, Ir.mt1, Ir.mt2, Ir.mt3, Ir.mt4, Ir.ad0, Ir.ad1, Ir.ad2, Ir.ad3, Ir.arrU, Ir.fu, Ir.ft, Ir.gd, Ir.gRu, Ir.gRt, Ir.sq1, Ir.sq2, Ir.ls1, Ir.rt1, Ir.rt2, Ir.bopR_d, Ir.b_add, Ir.b_sub, Ir.c_lt, Ir.c_le, Ir.c_gt, Ir.c_ge, Ir.c_eqi, Ir.c_eqs, Ir.c_eqb, Ir.c_nei, Ir.c_nes, Ir.c_neb, Ir.c_is, Ir.c_isn, Ir.n1, Ir.n2, Ir.n3, Ir.n4, Ir.n5, Ir.n6, Ir.d_lt, Ir.d_le, Ir.d_gt, Ir.d_ge, Ir.x_tup, Ir.x_tmp, Ir.x_mix, Ir.x_ref, Ir.a0, Ir.a1, Ir.a2, Ir.i30, Ir.i32, Ir.f_len, Ir.l_tup, Ir.l_tmp, Ir.l_mix, Ir.l_ref, Ir.f_int, Ir.f_intb, Ir.f_abs, Ir.f_max, Ir.f_min, Ir.f_tup, Ir.f_list, Ir.f_all, Ir.f_any, Ir.f_isin, Ir.t_int, Ir.t_str, Ir.t_bl, Ir.t_non, Ir.t_tup, Ir.t_mix, Ir.is_ii, Ir.is_ib, Ir.is_tt, Ir.is_it, Ir.is_ss, Ir.p_j, Ir.p_s, Ir.p_p, Ir.tr_b, Ir.s_tmp, Ir.s_tup, Ir.s_str, Ir.boolsD, Ir.strsD, Ir.sqr, Ir.lsr, Ir.ob1, Ir.ob2, Ir.blU, List.map_cons, List.map_nil, List.length_cons, List.length_nil, List.replicate, List.cons_append, List.nil_append, List.append_nil, List.getElem?_cons_zero, List.getElem?_cons_succ, List.getElem?_nil, List.set_cons_zero, List.set_cons_succ, List.set_nil, Option.bind_some, Option.map_some, Option.map_none, Option.bind_none, if_true, if_false, ite_true, ite_false, reduceIte, Bool.not_true, Bool.not_false, List.take_succ_cons, List.take_length, List.take_zero, Nat.add_sub_cancel, Nat.sub_self, Nat.reduceSub, Nat.reduceAdd, reduceCtorEq, Bool.false_eq_true, decide_true, decide_false, List.all_cons, List.any_cons, List.all_nil, List.any_nil, id_eq, Bool.true_and, Bool.and_true, Bool.false_or, Bool.or_false, Ir.zc0, Ir.zc1, Ir.zc2, Ir.zc3, eq_self, Ir.bools_const, Ir.all_const, Ir.any_const]) (leLim (by omega)) (fun s hs acc => ?_)) ?_
  · obtain ⟨h1, h2, h3⟩ := h.2 s hs
    obtain ⟨l1, l2⟩ := showSt_len (h.2 s hs) ho hz hl
    have d := nlen (i := s.1) (by omega)
    have e1 : (Str.empty : Str).length = 0 := rfl
    have e2 : (Str.ofString ": ").length = 2 := rfl
    have e3 : ∀ a c d : Nat, a + [c, d].sum = a + c + d := fun a c d => by simp; omega
    simp only [turnC, Ir.Ok_bind, Ir.Ok_map, Ir.Ok_some, Ir.Ok_none, Ir.evSs, Ir.evE.eq_1, Ir.evE.eq_2, Ir.evE.eq_3, Ir.evE.eq_4, Ir.evE.eq_5, Ir.evE.eq_6, Ir.evE.eq_7, Ir.evE.eq_8, Ir.evE.eq_9, Ir.evE.eq_10, Ir.evE.eq_11, Ir.evE.eq_12, Ir.evE.eq_13, Ir.evE.eq_14, Ir.evE.eq_15, Ir.evE.eq_16, Ir.evE.eq_17, Ir.evE.eq_19, Ir.evEs, Ir.evRs, Ir.evO, Ir.evOt, Ir.evT, Ir.evI, Ir.evS.eq_1, Ir.evS.eq_2, Ir.evS.eq_3, Ir.evS.eq_4, Ir.evS.eq_5, Ir.evS.eq_6, Ir.evS.eq_9, Ir.evS.eq_10, Ir.evS.eq_11, Ir.evS.eq_12, Ir.evS.eq_13, Ir.Ok_for, Ir.ev2, Ir.startE, Ir.bT_n, Ir.bT_t, Ir.bT_m, Ir.bTs_n, Ir.bTs_c, Ir.wipeE, Ir.mt0, Ir.mt1, Ir.mt2, Ir.mt3, Ir.mt4, Ir.ad0, Ir.ad1, Ir.ad2, Ir.ad3, Ir.arrU, Ir.fu, Ir.ft, Ir.gd, Ir.gRu, Ir.gRt, Ir.sq1, Ir.sq2, Ir.ls1, Ir.rt1, Ir.rt2, Ir.bopR_d, Ir.b_add, Ir.b_sub, Ir.c_lt, Ir.c_le, Ir.c_gt, Ir.c_ge, Ir.c_eqi, Ir.c_eqs, Ir.c_eqb, Ir.c_nei, Ir.c_nes, Ir.c_neb, Ir.c_is, Ir.c_isn, Ir.n1, Ir.n2, Ir.n3, Ir.n4, Ir.n5, Ir.n6, Ir.d_lt, Ir.d_le, Ir.d_gt, Ir.d_ge, Ir.x_tup, Ir.x_tmp, Ir.x_mix, Ir.x_ref, Ir.a0, Ir.a1, Ir.a2, Ir.i30, Ir.i32, Ir.f_len, Ir.l_tup, Ir.l_tmp, Ir.l_mix, Ir.l_ref, Ir.f_int, Ir.f_intb, Ir.f_abs, Ir.f_max, Ir.f_min, Ir.f_tup, Ir.f_list, Ir.f_all, Ir.f_any, Ir.f_isin, Ir.t_int, Ir.t_str, Ir.t_bl, Ir.t_non, Ir.t_tup, Ir.t_mix, Ir.is_ii, Ir.is_ib, Ir.is_tt, Ir.is_it, Ir.is_ss, Ir.p_j, Ir.p_s, Ir.p_p, Ir.tr_b, Ir.s_tmp, Ir.s_tup, Ir.s_str, Ir.boolsD, Ir.strsD, Ir.sqr, Ir.lsr, Ir.ob1, Ir.ob2, Ir.blU, List.map_cons, List.map_nil, List.length_cons, List.length_nil, List.replicate, List.cons_append, List.nil_append, List.append_nil, List.getElem?_cons_zero, List.getElem?_cons_succ, List.getElem?_nil, List.set_cons_zero, List.set_cons_succ, List.set_nil, Option.bind_some, Option.map_some, Option.map_none, Option.bind_none, if_true, if_false, ite_true, ite_false, reduceIte, Bool.not_true, Bool.not_false, List.take_succ_cons, List.take_length, List.take_zero, Nat.add_sub_cancel, Nat.sub_self, Nat.reduceSub, Nat.reduceAdd, reduceCtorEq, Bool.false_eq_true, decide_true, decide_false, List.all_cons, List.any_cons, List.all_nil, List.any_nil, id_eq, Bool.true_and, Bool.and_true, Bool.false_or, Bool.or_false, Ir.zc0, Ir.zc1, Ir.zc2, Ir.zc3, eq_self, Ir.bools_const, Ir.all_const, Ir.any_const, stD]
    rw [fs_ok _ _ (by
        simp only [List.map_cons, List.map_nil, txtD, e1, e2, e3]
        exact leLim (by omega)) (by simp only [List.all_cons, List.all_nil, goodD, dig_small (i := s.1) (by omega), Bool.and_self])]
    simp -implicitDefEqProofs only [Ir.Ok_bind, Ir.Ok_map, Ir.Ok_some, Ir.Ok_none, Ir.evSs, Ir.evE.eq_1, Ir.evE.eq_2, Ir.evE.eq_3, Ir.evE.eq_4, Ir.evE.eq_5, Ir.evE.eq_6, Ir.evE.eq_7, Ir.evE.eq_8, Ir.evE.eq_9, Ir.evE.eq_10, Ir.evE.eq_11, Ir.evE.eq_12, Ir.evE.eq_13, Ir.evE.eq_14, Ir.evE.eq_15, Ir.evE.eq_16, Ir.evE.eq_17, Ir.evE.eq_19, Ir.evEs, Ir.evRs, Ir.evO, Ir.evOt, Ir.evT, Ir.evI, Ir.evS.eq_1, Ir.evS.eq_2, Ir.evS.eq_3, Ir.evS.eq_4, Ir.evS.eq_5, Ir.evS.eq_6, Ir.evS.eq_9, Ir.evS.eq_10, Ir.evS.eq_11, Ir.evS.eq_12, Ir.evS.eq_13, Ir.Ok_for, Ir.ev2, Ir.startE, Ir.bT_n, Ir.bT_t, Ir.bT_m, Ir.bTs_n, Ir.bTs_c, Ir.wipeE, Ir.mt0, Ir.mt1, Ir.mt2, Ir.mt3, Ir.mt4, Ir.ad0, Ir.ad1, Ir.ad2, Ir.ad3, Ir.arrU, Ir.fu, Ir.ft, Ir.gd, Ir.gRu, Ir.gRt, Ir.sq1, Ir.sq2, Ir.ls1, Ir.rt1, Ir.rt2, Ir.bopR_d, Ir.b_add, Ir.b_sub, Ir.c_lt, Ir.c_le, Ir.c_gt, Ir.c_ge, Ir.c_eqi, Ir.c_eqs, Ir.c_eqb, Ir.c_nei, Ir.c_nes, Ir.c_neb, Ir.c_is, Ir.c_isn, Ir.n1, Ir.n2, Ir.n3, Ir.n4, Ir.n5, Ir.n6, Ir.d_lt, Ir.d_le, Ir.d_gt, Ir.d_ge, Ir.x_tup, Ir.x_tmp, Ir.x_mix, Ir.x_ref, Ir.a0, Ir.a1, Ir.a2, Ir.i30, Ir.i32, Ir.f_len, Ir.l_tup, Ir.l_tmp, Ir.l_mix, Ir.l_ref, Ir.f_int, Ir.f_intb, Ir.f_abs, Ir.f_max, Ir.f_min, Ir.f_tup, Ir.f_list, Ir.f_all, Ir.f_any, Ir.f_isin, Ir.t_int, Ir.t_str, Ir.t_bl, Ir.t_non, Ir.t_tup, Ir.t_mix, Ir.is_ii, Ir.is_ib, Ir.is_tt, Ir.is_it, Ir.is_ss, Ir.p_j, Ir.p_s, Ir.p_p, Ir.tr_b, Ir.s_tmp, Ir.s_tup, Ir.s_str, Ir.boolsD, Ir.strsD, Ir.sqr, Ir.lsr, Ir.ob1, Ir.ob2, Ir.blU, List.map_cons, List.map_nil, List.length_cons, List.length_nil, List.replicate, List.cons_append, List.nil_append, List.append_nil, List.getElem?_cons_zero, List.getElem?_cons_succ, List.getElem?_nil, List.set_cons_zero, List.set_cons_succ, List.set_nil, Option.bind_some, Option.map_some, Option.map_none, Option.bind_none, if_true, if_false, ite_true, ite_false, reduceIte, Bool.not_true, Bool.not_false, List.take_succ_cons, List.take_length, List.take_zero, Nat.add_sub_cancel, Nat.sub_self, Nat.reduceSub, Nat.reduceAdd, reduceCtorEq, Bool.false_eq_true, decide_true, decide_false, List.all_cons, List.any_cons, List.all_nil, List.any_nil, id_eq, Bool.true_and, Bool.and_true, Bool.false_or, Bool.or_false, Ir.zc0, Ir.zc1, Ir.zc2, Ir.zc3, eq_self, Ir.bools_const, Ir.all_const, Ir.any_const, List.foldl_cons, List.foldl_nil, txtD]
    have b := sum_le (fun x : Int => (numT x).length) 3 s.2 fun x hx => nlen (by have := h3 x hx; omega)
    refine Ok.of (comp_map2 (fun i => .str (numT i)) (xs := s.2) (f := .int) (by simp -implicitDefEqProofs only [Ir.Ok_bind, Ir.Ok_map, Ir.Ok_some, Ir.Ok_none, Ir.evSs, Ir.evE.eq_1, Ir.evE.eq_2, Ir.evE.eq_3, Ir.evE.eq_4, Ir.evE.eq_5, Ir.evE.eq_6, Ir.evE.eq_7, Ir.evE.eq_8, Ir.evE.eq_9, Ir.evE.eq_10, Ir.evE.eq_11, Ir.evE.eq_12, Ir.evE.eq_13, Ir.evE.eq_14, Ir.evE.eq_15, Ir.evE.eq_16, Ir.evE.eq_17, Ir.evE.eq_19, Ir.evEs, Ir.evRs, Ir.evO, Ir.evOt, Ir.evT, Ir.evI, Ir.evS.eq_1, Ir.evS.eq_2, Ir.evS.eq_3, Ir.evS.eq_4, Ir.evS.eq_5, Ir.evS.eq_6, Ir.evS.eq_9, Ir.evS.eq_10, Ir.evS.eq_11, Ir.evS.eq_12, Ir.evS.eq_13, Ir.Ok_for, Ir.ev2, Ir.startE, Ir.bT_n, Ir.bT_t, Ir.bT_m, Ir.bTs_n, Ir.bTs_c, Ir.wipeE, Ir.mt0, Ir.mt1, Ir.mt2, Ir.mt3, Ir.mt4, Ir.ad0, Ir.ad1, Ir.ad2, Ir.ad3, Ir.arrU, Ir.fu, Ir.ft, Ir.gd, Ir.gRu, Ir.gRt, Ir.sq1, Ir.sq2, Ir.ls1, Ir.rt1, Ir.rt2, Ir.bopR_d, Ir.b_add, Ir.b_sub, Ir.c_lt, Ir.c_le, Ir.c_gt, Ir.c_ge, Ir.c_eqi, Ir.c_eqs, Ir.c_eqb, Ir.c_nei, Ir.c_nes, Ir.c_neb, Ir.c_is, Ir.c_isn, Ir.n1, Ir.n2, Ir.n3, Ir.n4, Ir.n5, Ir.n6, Ir.d_lt, Ir.d_le, Ir.d_gt, Ir.d_ge, Ir.x_tup, Ir.x_tmp, Ir.x_mix, Ir.x_ref, Ir.a0, Ir.a1, Ir.a2, Ir.i30, Ir.i32, Ir.f_len, Ir.l_tup, Ir.l_tmp, Ir.l_mix, Ir.l_ref, Ir.f_int, Ir.f_intb, Ir.f_abs, Ir.f_max, Ir.f_min, Ir.f_tup, Ir.f_list, Ir.f_all, Ir.f_any, Ir.f_isin, Ir.t_int, Ir.t_str, Ir.t_bl, Ir.t_non, Ir.t_tup, Ir.t_mix, Ir.is_ii, Ir.is_ib, Ir.is_tt, Ir.is_it, Ir.is_ss, Ir.p_j, Ir.p_s, Ir.p_p, Ir.tr_b, Ir.s_tmp, Ir.s_tup, Ir.s_str, Ir.boolsD, Ir.strsD, Ir.sqr, Ir.lsr, Ir.ob1, Ir.ob2, Ir.blU, List.map_cons, List.map_nil, List.length_cons, List.length_nil, List.replicate, List.cons_append, List.nil_append, List.append_nil, List.getElem?_cons_zero, List.getElem?_cons_succ, List.getElem?_nil, List.set_cons_zero, List.set_cons_succ, List.set_nil, Option.bind_some, Option.map_some, Option.map_none, Option.bind_none, if_true, if_false, ite_true, ite_false, reduceIte, Bool.not_true, Bool.not_false, List.take_succ_cons, List.take_length, List.take_zero, Nat.add_sub_cancel, Nat.sub_self, Nat.reduceSub, Nat.reduceAdd, reduceCtorEq, Bool.false_eq_true, decide_true, decide_false, List.all_cons, List.any_cons, List.all_nil, List.any_nil, id_eq, Bool.true_and, Bool.and_true, Bool.false_or, Bool.or_false, Ir.zc0, Ir.zc1, Ir.zc2, Ir.zc3, eq_self, Ir.bools_const, Ir.all_const, Ir.any_const]) (leLim (by omega)) (fun v hv acc => ?_)) ?_
    · have := h3 v hv
      simp only [turnC, Ir.Ok_bind, Ir.Ok_map, Ir.Ok_some, Ir.Ok_none, Ir.evSs, Ir.evE.eq_1, Ir.evE.eq_2, Ir.evE.eq_3, Ir.evE.eq_4, Ir.evE.eq_5, Ir.evE.eq_6, Ir.evE.eq_7, Ir.evE.eq_8, Ir.evE.eq_9, Ir.evE.eq_10, Ir.evE.eq_11, Ir.evE.eq_12, Ir.evE.eq_13, Ir.evE.eq_14, Ir.evE.eq_15, Ir.evE.eq_16, Ir.evE.eq_17, Ir.evE.eq_19, Ir.evEs, Ir.evRs, Ir.evO, Ir.evOt, Ir.evT, Ir.evI, Ir.evS.eq_1, Ir.evS.eq_2, Ir.evS.eq_3, Ir.evS.eq_4, Ir.evS.eq_5, Ir.evS.eq_6, Ir.evS.eq_9, Ir.evS.eq_10, Ir.evS.eq_11, Ir.evS.eq_12, Ir.evS.eq_13, Ir.Ok_for, Ir.ev2, Ir.startE, Ir.bT_n, Ir.bT_t, Ir.bT_m, Ir.bTs_n, Ir.bTs_c, Ir.wipeE, Ir.mt0, Ir.mt1, Ir.mt2, Ir.mt3, Ir.mt4, Ir.ad0, Ir.ad1, Ir.ad2, Ir.ad3, Ir.arrU, Ir.fu, Ir.ft, Ir.gd, Ir.gRu, Ir.gRt, Ir.sq1, Ir.sq2, Ir.ls1, Ir.rt1, Ir.rt2, Ir.bopR_d, Ir.b_add, Ir.b_sub, Ir.c_lt, Ir.c_le, Ir.c_gt, Ir.c_ge, Ir.c_eqi, Ir.c_eqs, Ir.c_eqb, Ir.c_nei, Ir.c_nes, Ir.c_neb, Ir.c_is, Ir.c_isn, Ir.n1, Ir.n2, Ir.n3, Ir.n4, Ir.n5, Ir.n6, Ir.d_lt, Ir.d_le, Ir.d_gt, Ir.d_ge, Ir.x_tup, Ir.x_tmp, Ir.x_mix, Ir.x_ref, Ir.a0, Ir.a1, Ir.a2, Ir.i30, Ir.i32, Ir.f_len, Ir.l_tup, Ir.l_tmp, Ir.l_mix, Ir.l_ref, Ir.f_int, Ir.f_intb, Ir.f_abs, Ir.f_max, Ir.f_min, Ir.f_tup, Ir.f_list, Ir.f_all, Ir.f_any, Ir.f_isin, Ir.t_int, Ir.t_str, Ir.t_bl, Ir.t_non, Ir.t_tup, Ir.t_mix, Ir.is_ii, Ir.is_ib, Ir.is_tt, Ir.is_it, Ir.is_ss, Ir.p_j, Ir.p_s, Ir.p_p, Ir.tr_b, Ir.s_tmp, Ir.s_tup, Ir.s_str, Ir.boolsD, Ir.strsD, Ir.sqr, Ir.lsr, Ir.ob1, Ir.ob2, Ir.blU, List.map_cons, List.map_nil, List.length_cons, List.length_nil, List.replicate, List.cons_append, List.nil_append, List.append_nil, List.getElem?_cons_zero, List.getElem?_cons_succ, List.getElem?_nil, List.set_cons_zero, List.set_cons_succ, List.set_nil, Option.bind_some, Option.map_some, Option.map_none, Option.bind_none, if_true, if_false, ite_true, ite_false, reduceIte, Bool.not_true, Bool.not_false, List.take_succ_cons, List.take_length, List.take_zero, Nat.add_sub_cancel, Nat.sub_self, Nat.reduceSub, Nat.reduceAdd, reduceCtorEq, Bool.false_eq_true, decide_true, decide_false, List.all_cons, List.any_cons, List.all_nil, List.any_nil, id_eq, Bool.true_and, Bool.and_true, Bool.false_or, Bool.or_false, Ir.zc0, Ir.zc1, Ir.zc2, Ir.zc3, eq_self, Ir.bools_const, Ir.all_const, Ir.any_const, f_str (dig_small (i := v) (by omega)), numT]
    · simp -implicitDefEqProofs only [Ir.Ok_bind, Ir.Ok_map, Ir.Ok_some, Ir.Ok_none, Ir.evSs, Ir.evE.eq_1, Ir.evE.eq_2, Ir.evE.eq_3, Ir.evE.eq_4, Ir.evE.eq_5, Ir.evE.eq_6, Ir.evE.eq_7, Ir.evE.eq_8, Ir.evE.eq_9, Ir.evE.eq_10, Ir.evE.eq_11, Ir.evE.eq_12, Ir.evE.eq_13, Ir.evE.eq_14, Ir.evE.eq_15, Ir.evE.eq_16, Ir.evE.eq_17, Ir.evE.eq_19, Ir.evEs, Ir.evRs, Ir.evO, Ir.evOt, Ir.evT, Ir.evI, Ir.evS.eq_1, Ir.evS.eq_2, Ir.evS.eq_3, Ir.evS.eq_4, Ir.evS.eq_5, Ir.evS.eq_6, Ir.evS.eq_9, Ir.evS.eq_10, Ir.evS.eq_11, Ir.evS.eq_12, Ir.evS.eq_13, Ir.Ok_for, Ir.ev2, Ir.startE, Ir.bT_n, Ir.bT_t, Ir.bT_m, Ir.bTs_n, Ir.bTs_c, Ir.wipeE, Ir.mt0, Ir.mt1, Ir.mt2, Ir.mt3, Ir.mt4, Ir.ad0, Ir.ad1, Ir.ad2, Ir.ad3, Ir.arrU, Ir.fu, Ir.ft, Ir.gd, Ir.gRu, Ir.gRt, Ir.sq1, Ir.sq2, Ir.ls1, Ir.rt1, Ir.rt2, Ir.bopR_d, Ir.b_add, Ir.b_sub, Ir.c_lt, Ir.c_le, Ir.c_gt, Ir.c_ge, Ir.c_eqi, Ir.c_eqs, Ir.c_eqb, Ir.c_nei, Ir.c_nes, Ir.c_neb, Ir.c_is, Ir.c_isn, Ir.n1, Ir.n2, Ir.n3, Ir.n4, Ir.n5, Ir.n6, Ir.d_lt, Ir.d_le, Ir.d_gt, Ir.d_ge, Ir.x_tup, Ir.x_tmp, Ir.x_mix, Ir.x_ref, Ir.a0, Ir.a1, Ir.a2, Ir.i30, Ir.i32, Ir.f_len, Ir.l_tup, Ir.l_tmp, Ir.l_mix, Ir.l_ref, Ir.f_int, Ir.f_intb, Ir.f_abs, Ir.f_max, Ir.f_min, Ir.f_tup, Ir.f_list, Ir.f_all, Ir.f_any, Ir.f_isin, Ir.t_int, Ir.t_str, Ir.t_bl, Ir.t_non, Ir.t_tup, Ir.t_mix, Ir.is_ii, Ir.is_ib, Ir.is_tt, Ir.is_it, Ir.is_ss, Ir.p_j, Ir.p_s, Ir.p_p, Ir.tr_b, Ir.s_tmp, Ir.s_tup, Ir.s_str, Ir.boolsD, Ir.strsD, Ir.sqr, Ir.lsr, Ir.ob1, Ir.ob2, Ir.blU, List.map_cons, List.map_nil, List.length_cons, List.length_nil, List.replicate, List.cons_append, List.nil_append, List.append_nil, List.getElem?_cons_zero, List.getElem?_cons_succ, List.getElem?_nil, List.set_cons_zero, List.set_cons_succ, List.set_nil, Option.bind_some, Option.map_some, Option.map_none, Option.bind_none, if_true, if_false, ite_true, ite_false, reduceIte, Bool.not_true, Bool.not_false, List.take_succ_cons, List.take_length, List.take_zero, Nat.add_sub_cancel, Nat.sub_self, Nat.reduceSub, Nat.reduceAdd, reduceCtorEq, Bool.false_eq_true, decide_true, decide_false, List.all_cons, List.any_cons, List.all_nil, List.any_nil, id_eq, Bool.true_and, Bool.and_true, Bool.false_or, Bool.or_false, Ir.zc0, Ir.zc1, Ir.zc2, Ir.zc3, eq_self, Ir.bools_const, Ir.all_const, Ir.any_const]
      rw [m_join (r := .tmp (s.2.map fun i : Int => D.str (numT i))) (ys := s.2.map numT) rfl (strsD_map numT s.2) (leLim (by
        rw [List.map_map, List.length_map]
        have e : ((fun x : Str => x.length) ∘ numT) = fun x : Int => (numT x).length := rfl
        have c : (" " : Str).length = 1 := rfl
        rw [e, c]
        omega))]
      have q : (Str.empty ++ numT s.1 ++ Str.ofString ": ").length + (Txt.join (Str.ofString " ") (s.2.map numT)).length ≤ lim := by
        rw [len_app, len_app, e1, e2, show Txt.join (Str.ofString " ") (s.2.map numT) = Txt.join SP (s.2.map numT) from rfl]
        exact leLim (by omega)
      simp -implicitDefEqProofs only [Ir.Ok_bind, Ir.Ok_map, Ir.Ok_some, Ir.Ok_none, Ir.evSs, Ir.evE.eq_1, Ir.evE.eq_2, Ir.evE.eq_3, Ir.evE.eq_4, Ir.evE.eq_5, Ir.evE.eq_6, Ir.evE.eq_7, Ir.evE.eq_8, Ir.evE.eq_9, Ir.evE.eq_10, Ir.evE.eq_11, Ir.evE.eq_12, Ir.evE.eq_13, Ir.evE.eq_14, Ir.evE.eq_15, Ir.evE.eq_16, Ir.evE.eq_17, Ir.evE.eq_19, Ir.evEs, Ir.evRs, Ir.evO, Ir.evOt, Ir.evT, Ir.evI, Ir.evS.eq_1, Ir.evS.eq_2, Ir.evS.eq_3, Ir.evS.eq_4, Ir.evS.eq_5, Ir.evS.eq_6, Ir.evS.eq_9, Ir.evS.eq_10, Ir.evS.eq_11, Ir.evS.eq_12, Ir.evS.eq_13, Ir.Ok_for, Ir.ev2, Ir.startE, Ir.bT_n, Ir.bT_t, Ir.bT_m, Ir.bTs_n, Ir.bTs_c, Ir.wipeE, Ir.mt0, Ir.mt1, Ir.mt2, Ir.mt3, Ir.mt4, Ir.ad0, Ir.ad1, Ir.ad2, Ir.ad3, Ir.arrU, Ir.fu, Ir.ft, Ir.gd, Ir.gRu, Ir.gRt, Ir.sq1, Ir.sq2, Ir.ls1, Ir.rt1, Ir.rt2, Ir.bopR_d, Ir.b_add, Ir.b_sub, Ir.c_lt, Ir.c_le, Ir.c_gt, Ir.c_ge, Ir.c_eqi, Ir.c_eqs, Ir.c_eqb, Ir.c_nei, Ir.c_nes, Ir.c_neb, Ir.c_is, Ir.c_isn, Ir.n1, Ir.n2, Ir.n3, Ir.n4, Ir.n5, Ir.n6, Ir.d_lt, Ir.d_le, Ir.d_gt, Ir.d_ge, Ir.x_tup, Ir.x_tmp, Ir.x_mix, Ir.x_ref, Ir.a0, Ir.a1, Ir.a2, Ir.i30, Ir.i32, Ir.f_len, Ir.l_tup, Ir.l_tmp, Ir.l_mix, Ir.l_ref, Ir.f_int, Ir.f_intb, Ir.f_abs, Ir.f_max, Ir.f_min, Ir.f_tup, Ir.f_list, Ir.f_all, Ir.f_any, Ir.f_isin, Ir.t_int, Ir.t_str, Ir.t_bl, Ir.t_non, Ir.t_tup, Ir.t_mix, Ir.is_ii, Ir.is_ib, Ir.is_tt, Ir.is_it, Ir.is_ss, Ir.p_j, Ir.p_s, Ir.p_p, Ir.tr_b, Ir.s_tmp, Ir.s_tup, Ir.s_str, Ir.boolsD, Ir.strsD, Ir.sqr, Ir.lsr, Ir.ob1, Ir.ob2, Ir.blU, List.map_cons, List.map_nil, List.length_cons, List.length_nil, List.replicate, List.cons_append, List.nil_append, List.append_nil, List.getElem?_cons_zero, List.getElem?_cons_succ, List.getElem?_nil, List.set_cons_zero, List.set_cons_succ, List.set_nil, Option.bind_some, Option.map_some, Option.map_none, Option.bind_none, if_true, if_false, ite_true, ite_false, reduceIte, Bool.not_true, Bool.not_false, List.take_succ_cons, List.take_length, List.take_zero, Nat.add_sub_cancel, Nat.sub_self, Nat.reduceSub, Nat.reduceAdd, reduceCtorEq, Bool.false_eq_true, decide_true, decide_false, List.all_cons, List.any_cons, List.all_nil, List.any_nil, id_eq, Bool.true_and, Bool.and_true, Bool.false_or, Bool.or_false, Ir.zc0, Ir.zc1, Ir.zc2, Ir.zc3, eq_self, Ir.bools_const, Ir.all_const, Ir.any_const, b_cat q]
      rfl
  · simp -implicitDefEqProofs only [Ir.Ok_bind, Ir.Ok_map, Ir.Ok_some, Ir.Ok_none, Ir.evSs, Ir.evE.eq_1, Ir.evE.eq_2, Ir.evE.eq_3, Ir.evE.eq_4, Ir.evE.eq_5, Ir.evE.eq_6, Ir.evE.eq_7, Ir.evE.eq_8, Ir.evE.eq_9, Ir.evE.eq_10, Ir.evE.eq_11, Ir.evE.eq_12, Ir.evE.eq_13, Ir.evE.eq_14, Ir.evE.eq_15, Ir.evE.eq_16, Ir.evE.eq_17, Ir.evE.eq_19, Ir.evEs, Ir.evRs, Ir.evO, Ir.evOt, Ir.evT, Ir.evI, Ir.evS.eq_1, Ir.evS.eq_2, Ir.evS.eq_3, Ir.evS.eq_4, Ir.evS.eq_5, Ir.evS.eq_6, Ir.evS.eq_9, Ir.evS.eq_10, Ir.evS.eq_11, Ir.evS.eq_12, Ir.evS.eq_13, Ir.Ok_for, Ir.ev2, Ir.startE, Ir.bT_n, Ir.bT_t, Ir.bT_m, Ir.bTs_n, Ir.bTs_c, Ir.wipeE, Ir.mt0, Ir.mt1, Ir.mt2, Ir.mt3, Ir.mt4, Ir.ad0, Ir.ad1, Ir.ad2, Ir.ad3, Ir.arrU, Ir.fu, Ir.ft, Ir.gd, Ir.gRu, Ir.gRt, Ir.sq1, Ir.sq2, Ir.ls1, Ir.rt1, Ir.rt2, Ir.bopR_d, Ir.b_add, Ir.b_sub, Ir.c_lt, Ir.c_le, Ir.c_gt, Ir.c_ge, Ir.c_eqi, Ir.c_eqs, Ir.c_eqb, Ir.c_nei, Ir.c_nes, Ir.c_neb, Ir.c_is, Ir.c_isn, Ir.n1, Ir.n2, Ir.n3, Ir.n4, Ir.n5, Ir.n6, Ir.d_lt, Ir.d_le, Ir.d_gt, Ir.d_ge, Ir.x_tup, Ir.x_tmp, Ir.x_mix, Ir.x_ref, Ir.a0, Ir.a1, Ir.a2, Ir.i30, Ir.i32, Ir.f_len, Ir.l_tup, Ir.l_tmp, Ir.l_mix, Ir.l_ref, Ir.f_int, Ir.f_intb, Ir.f_abs, Ir.f_max, Ir.f_min, Ir.f_tup, Ir.f_list, Ir.f_all, Ir.f_any, Ir.f_isin, Ir.t_int, Ir.t_str, Ir.t_bl, Ir.t_non, Ir.t_tup, Ir.t_mix, Ir.is_ii, Ir.is_ib, Ir.is_tt, Ir.is_it, Ir.is_ss, Ir.p_j, Ir.p_s, Ir.p_p, Ir.tr_b, Ir.s_tmp, Ir.s_tup, Ir.s_str, Ir.boolsD, Ir.strsD, Ir.sqr, Ir.lsr, Ir.ob1, Ir.ob2, Ir.blU, List.map_cons, List.map_nil, List.length_cons, List.length_nil, List.replicate, List.cons_append, List.nil_append, List.append_nil, List.getElem?_cons_zero, List.getElem?_cons_succ, List.getElem?_nil, List.set_cons_zero, List.set_cons_succ, List.set_nil, Option.bind_some, Option.map_some, Option.map_none, Option.bind_none, if_true, if_false, ite_true, ite_false, reduceIte, Bool.not_true, Bool.not_false, List.take_succ_cons, List.take_length, List.take_zero, Nat.add_sub_cancel, Nat.sub_self, Nat.reduceSub, Nat.reduceAdd, reduceCtorEq, Bool.false_eq_true, decide_true, decide_false, List.all_cons, List.any_cons, List.all_nil, List.any_nil, id_eq, Bool.true_and, Bool.and_true, Bool.false_or, Bool.or_false, Ir.zc0, Ir.zc1, Ir.zc2, Ir.zc3, eq_self, Ir.bools_const, Ir.all_const, Ir.any_const, join_m h ho hz]
end G85

set_option Elab.async false
set_option linter.all false
set_option maxRecDepth 100000
set_option autoImplicit false
/-! P85f: texts taken apart. -/
namespace G85
open PySem L2 Ir
theorem sign_ok : ∀ c : Nat, c < 58 → 48 ≤ c → (Builtin.Str.occurrences "0123456789" ⟨#[c]⟩ 0 (("0123456789" : Str).length) 1).isEmpty = false := by
  decide +kernel
theorem sign_in {c : Nat} {S : Store} (h : 48 ≤ c ∧ c ≤ 57) : copR .notin (.u (.d (.str ⟨#[c]⟩))) (.u (.d (.str "0123456789"))) S = some false := by
  show some (!(!(Builtin.Str.occurrences "0123456789" ⟨#[c]⟩ 0 (("0123456789" : Str).length) 1).isEmpty)) = some false
  rw [sign_ok c (by omega) h.1]
  rfl
theorem digits_of {i : Int} (h : 0 ≤ i ∧ i < 1000) {c : Nat} (hc : c ∈ TL.tl (numT i)) : 48 ≤ c ∧ c ≤ 57 := by
  obtain ⟨_, _, _, h4, _⟩ := numT_ok h
  have := List.all_eq_true.mp h4 c hc
  exact of_decide_eq_true this
theorem integer_of_eq {k : Nat} {i : Int} {S : Store} (h : 0 ≤ i ∧ i < 1000) : run pd.fds (k + 1) 13 [.d (.str (numT i)), .d (.int 30)] S = some (.d (.int i), S) := by
  obtain ⟨h1, h2, h3, h4, h5, h6⟩ := numT_ok h
  refine run_eq ⟨2, 4, ir_integer_of⟩ rfl rfl ?_
  have l1 : (numT i).length ≤ lim := leLim (by omega)
  have e1 : slR (.u (.d (.str (numT i)))) none (some 1) S = some (.u (.d (.str (cutS (numT i) none (some 1))))) := by simp only [slR, if_pos l1]
  have e2 : decide (cutS (numT i) none (some 1) = Str.ofString "-") = false := decide_eq_false h6
  have e3 : decide (numT i = Str.ofString "") = false := decide_eq_false fun e => by
    rw [e] at h2
    exact absurd h2 (by decide)
  have e4 : decide ((30 : Int) < ((numT i).length : Int)) = false := decide_eq_false (by omega)
  have ei : intLen (numT i) = true := by
    unfold intLen
    rw [Bool.or_eq_true]
    exact .inl (decide_eq_true (by omega))
  simp -implicitDefEqProofs only [Ir.Ok_bind, Ir.Ok_map, Ir.Ok_some, Ir.Ok_none, Ir.evSs, Ir.evE.eq_1, Ir.evE.eq_2, Ir.evE.eq_3, Ir.evE.eq_4, Ir.evE.eq_5, Ir.evE.eq_6, Ir.evE.eq_7, Ir.evE.eq_8, Ir.evE.eq_9, Ir.evE.eq_10, Ir.evE.eq_11, Ir.evE.eq_12, Ir.evE.eq_13, Ir.evE.eq_14, Ir.evE.eq_15, Ir.evE.eq_16, Ir.evE.eq_17, Ir.evE.eq_19, Ir.evEs, Ir.evRs, Ir.evO, Ir.evOt, Ir.evT, Ir.evI, Ir.evS.eq_1, Ir.evS.eq_2, Ir.evS.eq_3, Ir.evS.eq_4, Ir.evS.eq_5, Ir.evS.eq_6, Ir.evS.eq_9, Ir.evS.eq_10, Ir.evS.eq_11, Ir.evS.eq_12, Ir.evS.eq_13, Ir.Ok_for, Ir.ev2, Ir.startE, Ir.bT_n, Ir.bT_t, Ir.bT_m, Ir.bTs_n, Ir.bTs_c, Ir.wipeE, Ir.mt0, Ir.mt1, Ir.mt2, Ir.mt3, Ir.mt4, Ir.ad0, Ir.ad1, Ir.ad2, Ir.ad3, Ir.arrU, Ir.fu, Ir.ft, Ir.gd, Ir.gRu, Ir.gRt, Ir.sq1, Ir.sq2, Ir.ls1, Ir.rt1, Ir.rt2, Ir.bopR_d, Ir.b_add, Ir.b_sub, Ir.c_lt, Ir.c_le, Ir.c_gt, Ir.c_ge, Ir.c_eqi, Ir.c_eqs, Ir.c_eqb, Ir.c_nei, Ir.c_nes, Ir.c_neb, Ir.c_is, Ir.c_isn, Ir.n1, Ir.n2, Ir.n3, Ir.n4, Ir.n5, Ir.n6, Ir.d_lt, Ir.d_le, Ir.d_gt, Ir.d_ge, Ir.x_tup, Ir.x_tmp, Ir.x_mix, Ir.x_ref, Ir.a0, Ir.a1, Ir.a2, Ir.i30, Ir.i32, Ir.f_len, Ir.l_tup, Ir.l_tmp, Ir.l_mix, Ir.l_ref, Ir.f_int, Ir.f_intb, Ir.f_abs, Ir.f_max, Ir.f_min, Ir.f_tup, Ir.f_list, Ir.f_all, Ir.f_any, Ir.f_isin, Ir.t_int, Ir.t_str, Ir.t_bl, Ir.t_non, Ir.t_tup, Ir.t_mix, Ir.is_ii, Ir.is_ib, Ir.is_tt, Ir.is_it, Ir.is_ss, Ir.p_j, Ir.p_s, Ir.p_p, Ir.tr_b, Ir.s_tmp, Ir.s_tup, Ir.s_str, Ir.boolsD, Ir.strsD, Ir.sqr, Ir.lsr, Ir.ob1, Ir.ob2, Ir.blU, List.map_cons, List.map_nil, List.length_cons, List.length_nil, List.replicate, List.cons_append, List.nil_append, List.append_nil, List.getElem?_cons_zero, List.getElem?_cons_succ, List.getElem?_nil, List.set_cons_zero, List.set_cons_succ, List.set_nil, Option.bind_some, Option.map_some, Option.map_none, Option.bind_none, if_true, if_false, ite_true, ite_false, reduceIte, Bool.not_true, Bool.not_false, List.take_succ_cons, List.take_length, List.take_zero, Nat.add_sub_cancel, Nat.sub_self, Nat.reduceSub, Nat.reduceAdd, reduceCtorEq, Bool.false_eq_true, decide_true, decide_false, List.all_cons, List.any_cons, List.all_nil, List.any_nil, id_eq, Bool.true_and, Bool.and_true, Bool.false_or, Bool.or_false, Ir.zc0, Ir.zc1, Ir.zc2, Ir.zc3, eq_self, Ir.bools_const, Ir.all_const, Ir.any_const, ir_integer_of, e1, e2, e3, l_str l1, e4]
  refine Ok.of (comp_map2 (fun _ => .bl false) (xs := TL.tl (numT i)) (f := fun c => .str ⟨#[c]⟩) (by simp -implicitDefEqProofs only [Ir.Ok_bind, Ir.Ok_map, Ir.Ok_some, Ir.Ok_none, Ir.evSs, Ir.evE.eq_1, Ir.evE.eq_2, Ir.evE.eq_3, Ir.evE.eq_4, Ir.evE.eq_5, Ir.evE.eq_6, Ir.evE.eq_7, Ir.evE.eq_8, Ir.evE.eq_9, Ir.evE.eq_10, Ir.evE.eq_11, Ir.evE.eq_12, Ir.evE.eq_13, Ir.evE.eq_14, Ir.evE.eq_15, Ir.evE.eq_16, Ir.evE.eq_17, Ir.evE.eq_19, Ir.evEs, Ir.evRs, Ir.evO, Ir.evOt, Ir.evT, Ir.evI, Ir.evS.eq_1, Ir.evS.eq_2, Ir.evS.eq_3, Ir.evS.eq_4, Ir.evS.eq_5, Ir.evS.eq_6, Ir.evS.eq_9, Ir.evS.eq_10, Ir.evS.eq_11, Ir.evS.eq_12, Ir.evS.eq_13, Ir.Ok_for, Ir.ev2, Ir.startE, Ir.bT_n, Ir.bT_t, Ir.bT_m, Ir.bTs_n, Ir.bTs_c, Ir.wipeE, Ir.mt0, Ir.mt1, Ir.mt2, Ir.mt3, Ir.mt4, Ir.ad0, Ir.ad1, Ir.ad2, Ir.ad3, Ir.arrU, Ir.fu, Ir.ft, Ir.gd, Ir.gRu, Ir.gRt, Ir.sq1, Ir.sq2, Ir.ls1, Ir.rt1, Ir.rt2, Ir.bopR_d, Ir.b_add, Ir.b_sub, Ir.c_lt, Ir.c_le, Ir.c_gt, Ir.c_ge, Ir.c_eqi, Ir.c_eqs, Ir.c_eqb, Ir.c_nei, Ir.c_nes, Ir.c_neb, Ir.c_is, Ir.c_isn, Ir.n1, Ir.n2, Ir.n3, Ir.n4, Ir.n5, Ir.n6, Ir.d_lt, Ir.d_le, Ir.d_gt, Ir.d_ge, Ir.x_tup, Ir.x_tmp, Ir.x_mix, Ir.x_ref, Ir.a0, Ir.a1, Ir.a2, Ir.i30, Ir.i32, Ir.f_len, Ir.l_tup, Ir.l_tmp, Ir.l_mix, Ir.l_ref, Ir.f_int, Ir.f_intb, Ir.f_abs, Ir.f_max, Ir.f_min, Ir.f_tup, Ir.f_list, Ir.f_all, Ir.f_any, Ir.f_isin, Ir.t_int, Ir.t_str, Ir.t_bl, Ir.t_non, Ir.t_tup, Ir.t_mix, Ir.is_ii, Ir.is_ib, Ir.is_tt, Ir.is_it, Ir.is_ss, Ir.p_j, Ir.p_s, Ir.p_p, Ir.tr_b, Ir.s_tmp, Ir.s_tup, Ir.s_str, Ir.boolsD, Ir.strsD, Ir.sqr, Ir.lsr, Ir.ob1, Ir.ob2, Ir.blU, List.map_cons, List.map_nil, List.length_cons, List.length_nil, List.replicate, List.cons_append, List.nil_append, List.append_nil, List.getElem?_cons_zero, List.getElem?_cons_succ, List.getElem?_nil, List.set_cons_zero, List.set_cons_succ, List.set_nil, Option.bind_some, Option.map_some, Option.map_none, Option.bind_none, if_true, if_false, ite_true, ite_false, reduceIte, Bool.not_true, Bool.not_false, List.take_succ_cons, List.take_length, List.take_zero, Nat.add_sub_cancel, Nat.sub_self, Nat.reduceSub, Nat.reduceAdd, reduceCtorEq, Bool.false_eq_true, decide_true, decide_false, List.all_cons, List.any_cons, List.all_nil, List.any_nil, id_eq, Bool.true_and, Bool.and_true, Bool.false_or, Bool.or_false, Ir.zc0, Ir.zc1, Ir.zc2, Ir.zc3, eq_self, Ir.bools_const, Ir.all_const, Ir.any_const]) (leLim (by rw [← TL.len_tl]; omega)) (fun c hc acc => ?_)) ?_
  · simp only [turnC, Ir.Ok_bind, Ir.Ok_map, Ir.Ok_some, Ir.Ok_none, Ir.evSs, Ir.evE.eq_1, Ir.evE.eq_2, Ir.evE.eq_3, Ir.evE.eq_4, Ir.evE.eq_5, Ir.evE.eq_6, Ir.evE.eq_7, Ir.evE.eq_8, Ir.evE.eq_9, Ir.evE.eq_10, Ir.evE.eq_11, Ir.evE.eq_12, Ir.evE.eq_13, Ir.evE.eq_14, Ir.evE.eq_15, Ir.evE.eq_16, Ir.evE.eq_17, Ir.evE.eq_19, Ir.evEs, Ir.evRs, Ir.evO, Ir.evOt, Ir.evT, Ir.evI, Ir.evS.eq_1, Ir.evS.eq_2, Ir.evS.eq_3, Ir.evS.eq_4, Ir.evS.eq_5, Ir.evS.eq_6, Ir.evS.eq_9, Ir.evS.eq_10, Ir.evS.eq_11, Ir.evS.eq_12, Ir.evS.eq_13, Ir.Ok_for, Ir.ev2, Ir.startE, Ir.bT_n, Ir.bT_t, Ir.bT_m, Ir.bTs_n, Ir.bTs_c, Ir.wipeE, Ir.mt0, Ir.mt1, Ir.mt2, Ir.mt3, Ir.mt4, Ir.ad0, Ir.ad1, Ir.ad2, Ir.ad3, Ir.arrU, Ir.fu, Ir.ft, Ir.gd, Ir.gRu, Ir.gRt, Ir.sq1, Ir.sq2, Ir.ls1, Ir.rt1, Ir.rt2, Ir.bopR_d, Ir.b_add, Ir.b_sub, Ir.c_lt, Ir.c_le, Ir.c_gt, Ir.c_ge, Ir.c_eqi, Ir.c_eqs, Ir.c_eqb, Ir.c_nei, Ir.c_nes, Ir.c_neb, Ir.c_is, Ir.c_isn, Ir.n1, Ir.n2, Ir.n3, Ir.n4, Ir.n5, Ir.n6, Ir.d_lt, Ir.d_le, Ir.d_gt, Ir.d_ge, Ir.x_tup, Ir.x_tmp, Ir.x_mix, Ir.x_ref, Ir.a0, Ir.a1, Ir.a2, Ir.i30, Ir.i32, Ir.f_len, Ir.l_tup, Ir.l_tmp, Ir.l_mix, Ir.l_ref, Ir.f_int, Ir.f_intb, Ir.f_abs, Ir.f_max, Ir.f_min, Ir.f_tup, Ir.f_list, Ir.f_all, Ir.f_any, Ir.f_isin, Ir.t_int, Ir.t_str, Ir.t_bl, Ir.t_non, Ir.t_tup, Ir.t_mix, Ir.is_ii, Ir.is_ib, Ir.is_tt, Ir.is_it, Ir.is_ss, Ir.p_j, Ir.p_s, Ir.p_p, Ir.tr_b, Ir.s_tmp, Ir.s_tup, Ir.s_str, Ir.boolsD, Ir.strsD, Ir.sqr, Ir.lsr, Ir.ob1, Ir.ob2, Ir.blU, List.map_cons, List.map_nil, List.length_cons, List.length_nil, List.replicate, List.cons_append, List.nil_append, List.append_nil, List.getElem?_cons_zero, List.getElem?_cons_succ, List.getElem?_nil, List.set_cons_zero, List.set_cons_succ, List.set_nil, Option.bind_some, Option.map_some, Option.map_none, Option.bind_none, if_true, if_false, ite_true, ite_false, reduceIte, Bool.not_true, Bool.not_false, List.take_succ_cons, List.take_length, List.take_zero, Nat.add_sub_cancel, Nat.sub_self, Nat.reduceSub, Nat.reduceAdd, reduceCtorEq, Bool.false_eq_true, decide_true, decide_false, List.all_cons, List.any_cons, List.all_nil, List.any_nil, id_eq, Bool.true_and, Bool.and_true, Bool.false_or, Bool.or_false, Ir.zc0, Ir.zc1, Ir.zc2, Ir.zc3, eq_self, Ir.bools_const, Ir.all_const, Ir.any_const, sign_in (digits_of h hc)]
  · have b : boolsD ((TL.tl (numT i)).map fun _ => D.bl false) = some ((TL.tl (numT i)).map fun _ => false) := by
      have : ∀ l : List Nat, boolsD (l.map fun _ => D.bl false) = some (l.map fun _ => false) := by
        intro l
        induction l with
        | nil => rfl
        | cons x xs ih => rw [List.map_cons, boolsD, ih]; rfl
      exact this _
    have b2 : ((TL.tl (numT i)).map fun _ => false).any id = false := by simp
    simp -implicitDefEqProofs only [Ir.Ok_bind, Ir.Ok_map, Ir.Ok_some, Ir.Ok_none, Ir.evSs, Ir.evE.eq_1, Ir.evE.eq_2, Ir.evE.eq_3, Ir.evE.eq_4, Ir.evE.eq_5, Ir.evE.eq_6, Ir.evE.eq_7, Ir.evE.eq_8, Ir.evE.eq_9, Ir.evE.eq_10, Ir.evE.eq_11, Ir.evE.eq_12, Ir.evE.eq_13, Ir.evE.eq_14, Ir.evE.eq_15, Ir.evE.eq_16, Ir.evE.eq_17, Ir.evE.eq_19, Ir.evEs, Ir.evRs, Ir.evO, Ir.evOt, Ir.evT, Ir.evI, Ir.evS.eq_1, Ir.evS.eq_2, Ir.evS.eq_3, Ir.evS.eq_4, Ir.evS.eq_5, Ir.evS.eq_6, Ir.evS.eq_9, Ir.evS.eq_10, Ir.evS.eq_11, Ir.evS.eq_12, Ir.evS.eq_13, Ir.Ok_for, Ir.ev2, Ir.startE, Ir.bT_n, Ir.bT_t, Ir.bT_m, Ir.bTs_n, Ir.bTs_c, Ir.wipeE, Ir.mt0, Ir.mt1, Ir.mt2, Ir.mt3, Ir.mt4, Ir.ad0, Ir.ad1, Ir.ad2, Ir.ad3, Ir.arrU, Ir.fu, Ir.ft, Ir.gd, Ir.gRu, Ir.gRt, Ir.sq1, Ir.sq2, Ir.ls1, Ir.rt1, Ir.rt2, Ir.bopR_d, Ir.b_add, Ir.b_sub, Ir.c_lt, Ir.c_le, Ir.c_gt, Ir.c_ge, Ir.c_eqi, Ir.c_eqs, Ir.c_eqb, Ir.c_nei, Ir.c_nes, Ir.c_neb, Ir.c_is, Ir.c_isn, Ir.n1, Ir.n2, Ir.n3, Ir.n4, Ir.n5, Ir.n6, Ir.d_lt, Ir.d_le, Ir.d_gt, Ir.d_ge, Ir.x_tup, Ir.x_tmp, Ir.x_mix, Ir.x_ref, Ir.a0, Ir.a1, Ir.a2, Ir.i30, Ir.i32, Ir.f_len, Ir.l_tup, Ir.l_tmp, Ir.l_mix, Ir.l_ref, Ir.f_int, Ir.f_intb, Ir.f_abs, Ir.f_max, Ir.f_min, Ir.f_tup, Ir.f_list, Ir.f_all, Ir.f_any, Ir.f_isin, Ir.t_int, Ir.t_str, Ir.t_bl, Ir.t_non, Ir.t_tup, Ir.t_mix, Ir.is_ii, Ir.is_ib, Ir.is_tt, Ir.is_it, Ir.is_ss, Ir.p_j, Ir.p_s, Ir.p_p, Ir.tr_b, Ir.s_tmp, Ir.s_tup, Ir.s_str, Ir.boolsD, Ir.strsD, Ir.sqr, Ir.lsr, Ir.ob1, Ir.ob2, Ir.blU, List.map_cons, List.map_nil, List.length_cons, List.length_nil, List.replicate, List.cons_append, List.nil_append, List.append_nil, List.getElem?_cons_zero, List.getElem?_cons_succ, List.getElem?_nil, List.set_cons_zero, List.set_cons_succ, List.set_nil, Option.bind_some, Option.map_some, Option.map_none, Option.bind_none, if_true, if_false, ite_true, ite_false, reduceIte, Bool.not_true, Bool.not_false, List.take_succ_cons, List.take_length, List.take_zero, Nat.add_sub_cancel, Nat.sub_self, Nat.reduceSub, Nat.reduceAdd, reduceCtorEq, Bool.false_eq_true, decide_true, decide_false, List.all_cons, List.any_cons, List.all_nil, List.any_nil, id_eq, Bool.true_and, Bool.and_true, Bool.false_or, Bool.or_false, Ir.zc0, Ir.zc1, Ir.zc2, Ir.zc3, eq_self, Ir.bools_const, Ir.all_const, Ir.any_const, b, b2]
    have hne : 0 < (TL.tl (numT i)).length := by rw [← TL.len_tl]; omega
    obtain ⟨c0, r, hc⟩ : ∃ c0 r, TL.tl (numT i) = c0 :: r := by
      cases q : TL.tl (numT i) with
      | nil => rw [q] at hne; simp at hne
      | cons a b => exact ⟨a, b, rfl⟩
    have e5 : atI (numT i).cps.toList 0 = some c0 := an (by decide) (by show (TL.tl (numT i))[0]? = _; rw [hc]; rfl)
    rw [x_str l1]
    simp -implicitDefEqProofs only [Ir.Ok_bind, Ir.Ok_map, Ir.Ok_some, Ir.Ok_none, Ir.evSs, Ir.evE.eq_1, Ir.evE.eq_2, Ir.evE.eq_3, Ir.evE.eq_4, Ir.evE.eq_5, Ir.evE.eq_6, Ir.evE.eq_7, Ir.evE.eq_8, Ir.evE.eq_9, Ir.evE.eq_10, Ir.evE.eq_11, Ir.evE.eq_12, Ir.evE.eq_13, Ir.evE.eq_14, Ir.evE.eq_15, Ir.evE.eq_16, Ir.evE.eq_17, Ir.evE.eq_19, Ir.evEs, Ir.evRs, Ir.evO, Ir.evOt, Ir.evT, Ir.evI, Ir.evS.eq_1, Ir.evS.eq_2, Ir.evS.eq_3, Ir.evS.eq_4, Ir.evS.eq_5, Ir.evS.eq_6, Ir.evS.eq_9, Ir.evS.eq_10, Ir.evS.eq_11, Ir.evS.eq_12, Ir.evS.eq_13, Ir.Ok_for, Ir.ev2, Ir.startE, Ir.bT_n, Ir.bT_t, Ir.bT_m, Ir.bTs_n, Ir.bTs_c, Ir.wipeE, Ir.mt0, Ir.mt1, Ir.mt2, Ir.mt3, Ir.mt4, Ir.ad0, Ir.ad1, Ir.ad2, Ir.ad3, Ir.arrU, Ir.fu, Ir.ft, Ir.gd, Ir.gRu, Ir.gRt, Ir.sq1, Ir.sq2, Ir.ls1, Ir.rt1, Ir.rt2, Ir.bopR_d, Ir.b_add, Ir.b_sub, Ir.c_lt, Ir.c_le, Ir.c_gt, Ir.c_ge, Ir.c_eqi, Ir.c_eqs, Ir.c_eqb, Ir.c_nei, Ir.c_nes, Ir.c_neb, Ir.c_is, Ir.c_isn, Ir.n1, Ir.n2, Ir.n3, Ir.n4, Ir.n5, Ir.n6, Ir.d_lt, Ir.d_le, Ir.d_gt, Ir.d_ge, Ir.x_tup, Ir.x_tmp, Ir.x_mix, Ir.x_ref, Ir.a0, Ir.a1, Ir.a2, Ir.i30, Ir.i32, Ir.f_len, Ir.l_tup, Ir.l_tmp, Ir.l_mix, Ir.l_ref, Ir.f_int, Ir.f_intb, Ir.f_abs, Ir.f_max, Ir.f_min, Ir.f_tup, Ir.f_list, Ir.f_all, Ir.f_any, Ir.f_isin, Ir.t_int, Ir.t_str, Ir.t_bl, Ir.t_non, Ir.t_tup, Ir.t_mix, Ir.is_ii, Ir.is_ib, Ir.is_tt, Ir.is_it, Ir.is_ss, Ir.p_j, Ir.p_s, Ir.p_p, Ir.tr_b, Ir.s_tmp, Ir.s_tup, Ir.s_str, Ir.boolsD, Ir.strsD, Ir.sqr, Ir.lsr, Ir.ob1, Ir.ob2, Ir.blU, List.map_cons, List.map_nil, List.length_cons, List.length_nil, List.replicate, List.cons_append, List.nil_append, List.append_nil, List.getElem?_cons_zero, List.getElem?_cons_succ, List.getElem?_nil, List.set_cons_zero, List.set_cons_succ, List.set_nil, Option.bind_some, Option.map_some, Option.map_none, Option.bind_none, if_true, if_false, ite_true, ite_false, reduceIte, Bool.not_true, Bool.not_false, List.take_succ_cons, List.take_length, List.take_zero, Nat.add_sub_cancel, Nat.sub_self, Nat.reduceSub, Nat.reduceAdd, reduceCtorEq, Bool.false_eq_true, decide_true, decide_false, List.all_cons, List.any_cons, List.all_nil, List.any_nil, id_eq, Bool.true_and, Bool.and_true, Bool.false_or, Bool.or_false, Ir.zc0, Ir.zc1, Ir.zc2, Ir.zc3, eq_self, Ir.bools_const, Ir.all_const, Ir.any_const, e5]
    by_cases hz : numT i = Str.ofString "0"
    · have e6 : decide (numT i = Str.ofString "0") = true := decide_eq_true hz
      by_cases hz2 : (⟨#[c0]⟩ : Str) = Str.ofString "0"
      · simp -implicitDefEqProofs only [Ir.Ok_bind, Ir.Ok_map, Ir.Ok_some, Ir.Ok_none, Ir.evSs, Ir.evE.eq_1, Ir.evE.eq_2, Ir.evE.eq_3, Ir.evE.eq_4, Ir.evE.eq_5, Ir.evE.eq_6, Ir.evE.eq_7, Ir.evE.eq_8, Ir.evE.eq_9, Ir.evE.eq_10, Ir.evE.eq_11, Ir.evE.eq_12, Ir.evE.eq_13, Ir.evE.eq_14, Ir.evE.eq_15, Ir.evE.eq_16, Ir.evE.eq_17, Ir.evE.eq_19, Ir.evEs, Ir.evRs, Ir.evO, Ir.evOt, Ir.evT, Ir.evI, Ir.evS.eq_1, Ir.evS.eq_2, Ir.evS.eq_3, Ir.evS.eq_4, Ir.evS.eq_5, Ir.evS.eq_6, Ir.evS.eq_9, Ir.evS.eq_10, Ir.evS.eq_11, Ir.evS.eq_12, Ir.evS.eq_13, Ir.Ok_for, Ir.ev2, Ir.startE, Ir.bT_n, Ir.bT_t, Ir.bT_m, Ir.bTs_n, Ir.bTs_c, Ir.wipeE, Ir.mt0, Ir.mt1, Ir.mt2, Ir.mt3, Ir.mt4, Ir.ad0, Ir.ad1, Ir.ad2, Ir.ad3, Ir.arrU, Ir.fu, Ir.ft, Ir.gd, Ir.gRu, Ir.gRt, Ir.sq1, Ir.sq2, Ir.ls1, Ir.rt1, Ir.rt2, Ir.bopR_d, Ir.b_add, Ir.b_sub, Ir.c_lt, Ir.c_le, Ir.c_gt, Ir.c_ge, Ir.c_eqi, Ir.c_eqs, Ir.c_eqb, Ir.c_nei, Ir.c_nes, Ir.c_neb, Ir.c_is, Ir.c_isn, Ir.n1, Ir.n2, Ir.n3, Ir.n4, Ir.n5, Ir.n6, Ir.d_lt, Ir.d_le, Ir.d_gt, Ir.d_ge, Ir.x_tup, Ir.x_tmp, Ir.x_mix, Ir.x_ref, Ir.a0, Ir.a1, Ir.a2, Ir.i30, Ir.i32, Ir.f_len, Ir.l_tup, Ir.l_tmp, Ir.l_mix, Ir.l_ref, Ir.f_int, Ir.f_intb, Ir.f_abs, Ir.f_max, Ir.f_min, Ir.f_tup, Ir.f_list, Ir.f_all, Ir.f_any, Ir.f_isin, Ir.t_int, Ir.t_str, Ir.t_bl, Ir.t_non, Ir.t_tup, Ir.t_mix, Ir.is_ii, Ir.is_ib, Ir.is_tt, Ir.is_it, Ir.is_ss, Ir.p_j, Ir.p_s, Ir.p_p, Ir.tr_b, Ir.s_tmp, Ir.s_tup, Ir.s_str, Ir.boolsD, Ir.strsD, Ir.sqr, Ir.lsr, Ir.ob1, Ir.ob2, Ir.blU, List.map_cons, List.map_nil, List.length_cons, List.length_nil, List.replicate, List.cons_append, List.nil_append, List.append_nil, List.getElem?_cons_zero, List.getElem?_cons_succ, List.getElem?_nil, List.set_cons_zero, List.set_cons_succ, List.set_nil, Option.bind_some, Option.map_some, Option.map_none, Option.bind_none, if_true, if_false, ite_true, ite_false, reduceIte, Bool.not_true, Bool.not_false, List.take_succ_cons, List.take_length, List.take_zero, Nat.add_sub_cancel, Nat.sub_self, Nat.reduceSub, Nat.reduceAdd, reduceCtorEq, Bool.false_eq_true, decide_true, decide_false, List.all_cons, List.any_cons, List.all_nil, List.any_nil, id_eq, Bool.true_and, Bool.and_true, Bool.false_or, Bool.or_false, Ir.zc0, Ir.zc1, Ir.zc2, Ir.zc3, eq_self, Ir.bools_const, Ir.all_const, Ir.any_const, decide_eq_true hz2, e6, f_ints ei h3]
      · simp -implicitDefEqProofs only [Ir.Ok_bind, Ir.Ok_map, Ir.Ok_some, Ir.Ok_none, Ir.evSs, Ir.evE.eq_1, Ir.evE.eq_2, Ir.evE.eq_3, Ir.evE.eq_4, Ir.evE.eq_5, Ir.evE.eq_6, Ir.evE.eq_7, Ir.evE.eq_8, Ir.evE.eq_9, Ir.evE.eq_10, Ir.evE.eq_11, Ir.evE.eq_12, Ir.evE.eq_13, Ir.evE.eq_14, Ir.evE.eq_15, Ir.evE.eq_16, Ir.evE.eq_17, Ir.evE.eq_19, Ir.evEs, Ir.evRs, Ir.evO, Ir.evOt, Ir.evT, Ir.evI, Ir.evS.eq_1, Ir.evS.eq_2, Ir.evS.eq_3, Ir.evS.eq_4, Ir.evS.eq_5, Ir.evS.eq_6, Ir.evS.eq_9, Ir.evS.eq_10, Ir.evS.eq_11, Ir.evS.eq_12, Ir.evS.eq_13, Ir.Ok_for, Ir.ev2, Ir.startE, Ir.bT_n, Ir.bT_t, Ir.bT_m, Ir.bTs_n, Ir.bTs_c, Ir.wipeE, Ir.mt0, Ir.mt1, Ir.mt2, Ir.mt3, Ir.mt4, Ir.ad0, Ir.ad1, Ir.ad2, Ir.ad3, Ir.arrU, Ir.fu, Ir.ft, Ir.gd, Ir.gRu, Ir.gRt, Ir.sq1, Ir.sq2, Ir.ls1, Ir.rt1, Ir.rt2, Ir.bopR_d, Ir.b_add, Ir.b_sub, Ir.c_lt, Ir.c_le, Ir.c_gt, Ir.c_ge, Ir.c_eqi, Ir.c_eqs, Ir.c_eqb, Ir.c_nei, Ir.c_nes, Ir.c_neb, Ir.c_is, Ir.c_isn, Ir.n1, Ir.n2, Ir.n3, Ir.n4, Ir.n5, Ir.n6, Ir.d_lt, Ir.d_le, Ir.d_gt, Ir.d_ge, Ir.x_tup, Ir.x_tmp, Ir.x_mix, Ir.x_ref, Ir.a0, Ir.a1, Ir.a2, Ir.i30, Ir.i32, Ir.f_len, Ir.l_tup, Ir.l_tmp, Ir.l_mix, Ir.l_ref, Ir.f_int, Ir.f_intb, Ir.f_abs, Ir.f_max, Ir.f_min, Ir.f_tup, Ir.f_list, Ir.f_all, Ir.f_any, Ir.f_isin, Ir.t_int, Ir.t_str, Ir.t_bl, Ir.t_non, Ir.t_tup, Ir.t_mix, Ir.is_ii, Ir.is_ib, Ir.is_tt, Ir.is_it, Ir.is_ss, Ir.p_j, Ir.p_s, Ir.p_p, Ir.tr_b, Ir.s_tmp, Ir.s_tup, Ir.s_str, Ir.boolsD, Ir.strsD, Ir.sqr, Ir.lsr, Ir.ob1, Ir.ob2, Ir.blU, List.map_cons, List.map_nil, List.length_cons, List.length_nil, List.replicate, List.cons_append, List.nil_append, List.append_nil, List.getElem?_cons_zero, List.getElem?_cons_succ, List.getElem?_nil, List.set_cons_zero, List.set_cons_succ, List.set_nil, Option.bind_some, Option.map_some, Option.map_none, Option.bind_none, if_true, if_false, ite_true, ite_false, reduceIte, Bool.not_true, Bool.not_false, List.take_succ_cons, List.take_length, List.take_zero, Nat.add_sub_cancel, Nat.sub_self, Nat.reduceSub, Nat.reduceAdd, reduceCtorEq, Bool.false_eq_true, decide_true, decide_false, List.all_cons, List.any_cons, List.all_nil, List.any_nil, id_eq, Bool.true_and, Bool.and_true, Bool.false_or, Bool.or_false, Ir.zc0, Ir.zc1, Ir.zc2, Ir.zc3, eq_self, Ir.bools_const, Ir.all_const, Ir.any_const, decide_eq_false hz2, f_ints ei h3]
    · have hz2 : ¬ (⟨#[c0]⟩ : Str) = Str.ofString "0" := by
        intro e
        have e7 : c0 = 48 := by
          have := congrArg TL.tl e
          rw [TL.tl_ofString] at this
          exact List.cons.inj this |>.1
        refine hz (h5 ?_)
        show (TL.tl (numT i))[0]? = _
        rw [hc, e7]
        rfl
      simp -implicitDefEqProofs only [Ir.Ok_bind, Ir.Ok_map, Ir.Ok_some, Ir.Ok_none, Ir.evSs, Ir.evE.eq_1, Ir.evE.eq_2, Ir.evE.eq_3, Ir.evE.eq_4, Ir.evE.eq_5, Ir.evE.eq_6, Ir.evE.eq_7, Ir.evE.eq_8, Ir.evE.eq_9, Ir.evE.eq_10, Ir.evE.eq_11, Ir.evE.eq_12, Ir.evE.eq_13, Ir.evE.eq_14, Ir.evE.eq_15, Ir.evE.eq_16, Ir.evE.eq_17, Ir.evE.eq_19, Ir.evEs, Ir.evRs, Ir.evO, Ir.evOt, Ir.evT, Ir.evI, Ir.evS.eq_1, Ir.evS.eq_2, Ir.evS.eq_3, Ir.evS.eq_4, Ir.evS.eq_5, Ir.evS.eq_6, Ir.evS.eq_9, Ir.evS.eq_10, Ir.evS.eq_11, Ir.evS.eq_12, Ir.evS.eq_13, Ir.Ok_for, Ir.ev2, Ir.startE, Ir.bT_n, Ir.bT_t, Ir.bT_m, Ir.bTs_n, Ir.bTs_c, Ir.wipeE, Ir.mt0, Ir.mt1, Ir.mt2, Ir.mt3, Ir.mt4, Ir.ad0, Ir.ad1, Ir.ad2, Ir.ad3, Ir.arrU, Ir.fu, Ir.ft, Ir.gd, Ir.gRu, Ir.gRt, Ir.sq1, Ir.sq2, Ir.ls1, Ir.rt1, Ir.rt2, Ir.bopR_d, Ir.b_add, Ir.b_sub, Ir.c_lt, Ir.c_le, Ir.c_gt, Ir.c_ge, Ir.c_eqi, Ir.c_eqs, Ir.c_eqb, Ir.c_nei, Ir.c_nes, Ir.c_neb, Ir.c_is, Ir.c_isn, Ir.n1, Ir.n2, Ir.n3, Ir.n4, Ir.n5, Ir.n6, Ir.d_lt, Ir.d_le, Ir.d_gt, Ir.d_ge, Ir.x_tup, Ir.x_tmp, Ir.x_mix, Ir.x_ref, Ir.a0, Ir.a1, Ir.a2, Ir.i30, Ir.i32, Ir.f_len, Ir.l_tup, Ir.l_tmp, Ir.l_mix, Ir.l_ref, Ir.f_int, Ir.f_intb, Ir.f_abs, Ir.f_max, Ir.f_min, Ir.f_tup, Ir.f_list, Ir.f_all, Ir.f_any, Ir.f_isin, Ir.t_int, Ir.t_str, Ir.t_bl, Ir.t_non, Ir.t_tup, Ir.t_mix, Ir.is_ii, Ir.is_ib, Ir.is_tt, Ir.is_it, Ir.is_ss, Ir.p_j, Ir.p_s, Ir.p_p, Ir.tr_b, Ir.s_tmp, Ir.s_tup, Ir.s_str, Ir.boolsD, Ir.strsD, Ir.sqr, Ir.lsr, Ir.ob1, Ir.ob2, Ir.blU, List.map_cons, List.map_nil, List.length_cons, List.length_nil, List.replicate, List.cons_append, List.nil_append, List.append_nil, List.getElem?_cons_zero, List.getElem?_cons_succ, List.getElem?_nil, List.set_cons_zero, List.set_cons_succ, List.set_nil, Option.bind_some, Option.map_some, Option.map_none, Option.bind_none, if_true, if_false, ite_true, ite_false, reduceIte, Bool.not_true, Bool.not_false, List.take_succ_cons, List.take_length, List.take_zero, Nat.add_sub_cancel, Nat.sub_self, Nat.reduceSub, Nat.reduceAdd, reduceCtorEq, Bool.false_eq_true, decide_true, decide_false, List.all_cons, List.any_cons, List.all_nil, List.any_nil, id_eq, Bool.true_and, Bool.and_true, Bool.false_or, Bool.or_false, Ir.zc0, Ir.zc1, Ir.zc2, Ir.zc3, eq_self, Ir.bools_const, Ir.all_const, Ir.any_const, decide_eq_false hz2, f_ints ei h3]
theorem split_nums {ns : List Int} (hne : ns ≠ []) (h : ∀ x ∈ ns, 0 ≤ x ∧ x < 1000) : Txt.split (Txt.join SP (ns.map numT)) SP = ns.map numT := by
  refine TL.split_join (y := SP) (s := 32) (S := []) rfl (by decide +kernel) (by simpa using hne) fun p hp hc => ?_
  obtain ⟨x, hx, rfl⟩ := List.mem_map.mp hp
  have := digits_of (h x hx) hc
  omega
theorem gc_new {S : Store} {ob : Ob} : gcU S.length (.ref S.length) (S ++ [ob]) = some (.ref S.length, S ++ [ob]) := by
  simp [gcU]
theorem integers_of_eq {k : Nat} {ns : List Int} {S : Store} (hne : ns ≠ []) (h : ∀ x ∈ ns, 0 ≤ x ∧ x < 1000) (hl : ns.length ≤ 1000) (hl2 : (Txt.join SP (ns.map numT)).length ≤ 1000) :
    run pd.fds (k + 2) 14 [.d (.str (Txt.join SP (ns.map numT))), .d (.str SP), .d (.int 30)] S = some (.ref S.length, S ++ [.lst (ns.map .int)]) := by
  refine run_eq ⟨3, 4, ir_integers_of⟩ rfl rfl ?_
  have hs : (SP.length == 0) = false ∧ (Txt.join SP (ns.map numT)).length + 2 ≤ lim := ⟨rfl, leLim (by omega)⟩
  simp -implicitDefEqProofs only [Ir.Ok_bind, Ir.Ok_map, Ir.Ok_some, Ir.Ok_none, Ir.evSs, Ir.evE.eq_1, Ir.evE.eq_2, Ir.evE.eq_3, Ir.evE.eq_4, Ir.evE.eq_5, Ir.evE.eq_6, Ir.evE.eq_7, Ir.evE.eq_8, Ir.evE.eq_9, Ir.evE.eq_10, Ir.evE.eq_11, Ir.evE.eq_12, Ir.evE.eq_13, Ir.evE.eq_14, Ir.evE.eq_15, Ir.evE.eq_16, Ir.evE.eq_17, Ir.evE.eq_19, Ir.evEs, Ir.evRs, Ir.evO, Ir.evOt, Ir.evT, Ir.evI, Ir.evS.eq_1, Ir.evS.eq_2, Ir.evS.eq_3, Ir.evS.eq_4, Ir.evS.eq_5, Ir.evS.eq_6, Ir.evS.eq_9, Ir.evS.eq_10, Ir.evS.eq_11, Ir.evS.eq_12, Ir.evS.eq_13, Ir.Ok_for, Ir.ev2, Ir.startE, Ir.bT_n, Ir.bT_t, Ir.bT_m, Ir.bTs_n, Ir.bTs_c, Ir.wipeE, Ir.mt0, Ir.mt1, Ir.mt2, Ir.mt3, Ir.mt4, Ir.ad0, Ir.ad1, Ir.ad2, Ir.ad3, Ir.arrU, Ir.fu, Ir.ft, Ir.gd, Ir.gRu, Ir.gRt, Ir.sq1, Ir.sq2, Ir.ls1, Ir.rt1, Ir.rt2, Ir.bopR_d, Ir.b_add, Ir.b_sub, Ir.c_lt, Ir.c_le, Ir.c_gt, Ir.c_ge, Ir.c_eqi, Ir.c_eqs, Ir.c_eqb, Ir.c_nei, Ir.c_nes, Ir.c_neb, Ir.c_is, Ir.c_isn, Ir.n1, Ir.n2, Ir.n3, Ir.n4, Ir.n5, Ir.n6, Ir.d_lt, Ir.d_le, Ir.d_gt, Ir.d_ge, Ir.x_tup, Ir.x_tmp, Ir.x_mix, Ir.x_ref, Ir.a0, Ir.a1, Ir.a2, Ir.i30, Ir.i32, Ir.f_len, Ir.l_tup, Ir.l_tmp, Ir.l_mix, Ir.l_ref, Ir.f_int, Ir.f_intb, Ir.f_abs, Ir.f_max, Ir.f_min, Ir.f_tup, Ir.f_list, Ir.f_all, Ir.f_any, Ir.f_isin, Ir.t_int, Ir.t_str, Ir.t_bl, Ir.t_non, Ir.t_tup, Ir.t_mix, Ir.is_ii, Ir.is_ib, Ir.is_tt, Ir.is_it, Ir.is_ss, Ir.p_j, Ir.p_s, Ir.p_p, Ir.tr_b, Ir.s_tmp, Ir.s_tup, Ir.s_str, Ir.boolsD, Ir.strsD, Ir.sqr, Ir.lsr, Ir.ob1, Ir.ob2, Ir.blU, List.map_cons, List.map_nil, List.length_cons, List.length_nil, List.replicate, List.cons_append, List.nil_append, List.append_nil, List.getElem?_cons_zero, List.getElem?_cons_succ, List.getElem?_nil, List.set_cons_zero, List.set_cons_succ, List.set_nil, Option.bind_some, Option.map_some, Option.map_none, Option.bind_none, if_true, if_false, ite_true, ite_false, reduceIte, Bool.not_true, Bool.not_false, List.take_succ_cons, List.take_length, List.take_zero, Nat.add_sub_cancel, Nat.sub_self, Nat.reduceSub, Nat.reduceAdd, reduceCtorEq, Bool.false_eq_true, decide_true, decide_false, List.all_cons, List.any_cons, List.all_nil, List.any_nil, id_eq, Bool.true_and, Bool.and_true, Bool.false_or, Bool.or_false, Ir.zc0, Ir.zc1, Ir.zc2, Ir.zc3, eq_self, Ir.bools_const, Ir.all_const, Ir.any_const, ir_integers_of]
  have ei : strD (Txt.split (Txt.join SP (ns.map numT)) SP) = ns.map fun i => D.str (numT i) := by
    rw [split_nums hne h, strD, List.map_map]
    rfl
  refine Ok.of (comp_tmp2 (fun i => .int i) (xs := ns) (f := fun i => .str (numT i)) (by simp -implicitDefEqProofs only [Ir.Ok_bind, Ir.Ok_map, Ir.Ok_some, Ir.Ok_none, Ir.evSs, Ir.evE.eq_1, Ir.evE.eq_2, Ir.evE.eq_3, Ir.evE.eq_4, Ir.evE.eq_5, Ir.evE.eq_6, Ir.evE.eq_7, Ir.evE.eq_8, Ir.evE.eq_9, Ir.evE.eq_10, Ir.evE.eq_11, Ir.evE.eq_12, Ir.evE.eq_13, Ir.evE.eq_14, Ir.evE.eq_15, Ir.evE.eq_16, Ir.evE.eq_17, Ir.evE.eq_19, Ir.evEs, Ir.evRs, Ir.evO, Ir.evOt, Ir.evT, Ir.evI, Ir.evS.eq_1, Ir.evS.eq_2, Ir.evS.eq_3, Ir.evS.eq_4, Ir.evS.eq_5, Ir.evS.eq_6, Ir.evS.eq_9, Ir.evS.eq_10, Ir.evS.eq_11, Ir.evS.eq_12, Ir.evS.eq_13, Ir.Ok_for, Ir.ev2, Ir.startE, Ir.bT_n, Ir.bT_t, Ir.bT_m, Ir.bTs_n, Ir.bTs_c, Ir.wipeE, Ir.mt0, Ir.mt1, Ir.mt2, Ir.mt3, Ir.mt4, Ir.ad0, Ir.ad1, Ir.ad2, Ir.ad3, Ir.arrU, Ir.fu, Ir.ft, Ir.gd, Ir.gRu, Ir.gRt, Ir.sq1, Ir.sq2, Ir.ls1, Ir.rt1, Ir.rt2, Ir.bopR_d, Ir.b_add, Ir.b_sub, Ir.c_lt, Ir.c_le, Ir.c_gt, Ir.c_ge, Ir.c_eqi, Ir.c_eqs, Ir.c_eqb, Ir.c_nei, Ir.c_nes, Ir.c_neb, Ir.c_is, Ir.c_isn, Ir.n1, Ir.n2, Ir.n3, Ir.n4, Ir.n5, Ir.n6, Ir.d_lt, Ir.d_le, Ir.d_gt, Ir.d_ge, Ir.x_tup, Ir.x_tmp, Ir.x_mix, Ir.x_ref, Ir.a0, Ir.a1, Ir.a2, Ir.i30, Ir.i32, Ir.f_len, Ir.l_tup, Ir.l_tmp, Ir.l_mix, Ir.l_ref, Ir.f_int, Ir.f_intb, Ir.f_abs, Ir.f_max, Ir.f_min, Ir.f_tup, Ir.f_list, Ir.f_all, Ir.f_any, Ir.f_isin, Ir.t_int, Ir.t_str, Ir.t_bl, Ir.t_non, Ir.t_tup, Ir.t_mix, Ir.is_ii, Ir.is_ib, Ir.is_tt, Ir.is_it, Ir.is_ss, Ir.p_j, Ir.p_s, Ir.p_p, Ir.tr_b, Ir.s_tmp, Ir.s_tup, Ir.s_str, Ir.boolsD, Ir.strsD, Ir.sqr, Ir.lsr, Ir.ob1, Ir.ob2, Ir.blU, List.map_cons, List.map_nil, List.length_cons, List.length_nil, List.replicate, List.cons_append, List.nil_append, List.append_nil, List.getElem?_cons_zero, List.getElem?_cons_succ, List.getElem?_nil, List.set_cons_zero, List.set_cons_succ, List.set_nil, Option.bind_some, Option.map_some, Option.map_none, Option.bind_none, if_true, if_false, ite_true, ite_false, reduceIte, Bool.not_true, Bool.not_false, List.take_succ_cons, List.take_length, List.take_zero, Nat.add_sub_cancel, Nat.sub_self, Nat.reduceSub, Nat.reduceAdd, reduceCtorEq, Bool.false_eq_true, decide_true, decide_false, List.all_cons, List.any_cons, List.all_nil, List.any_nil, id_eq, Bool.true_and, Bool.and_true, Bool.false_or, Bool.or_false, Ir.zc0, Ir.zc1, Ir.zc2, Ir.zc3, eq_self, Ir.bools_const, Ir.all_const, Ir.any_const, m_split hs, ei]) (leLim (by omega)) (fun x hx acc => ?_)) ?_
  · simp only [turnC, Ir.Ok_bind, Ir.Ok_map, Ir.Ok_some, Ir.Ok_none, Ir.evSs, Ir.evE.eq_1, Ir.evE.eq_2, Ir.evE.eq_3, Ir.evE.eq_4, Ir.evE.eq_5, Ir.evE.eq_6, Ir.evE.eq_7, Ir.evE.eq_8, Ir.evE.eq_9, Ir.evE.eq_10, Ir.evE.eq_11, Ir.evE.eq_12, Ir.evE.eq_13, Ir.evE.eq_14, Ir.evE.eq_15, Ir.evE.eq_16, Ir.evE.eq_17, Ir.evE.eq_19, Ir.evEs, Ir.evRs, Ir.evO, Ir.evOt, Ir.evT, Ir.evI, Ir.evS.eq_1, Ir.evS.eq_2, Ir.evS.eq_3, Ir.evS.eq_4, Ir.evS.eq_5, Ir.evS.eq_6, Ir.evS.eq_9, Ir.evS.eq_10, Ir.evS.eq_11, Ir.evS.eq_12, Ir.evS.eq_13, Ir.Ok_for, Ir.ev2, Ir.startE, Ir.bT_n, Ir.bT_t, Ir.bT_m, Ir.bTs_n, Ir.bTs_c, Ir.wipeE, Ir.mt0, Ir.mt1, Ir.mt2, Ir.mt3, Ir.mt4, Ir.ad0, Ir.ad1, Ir.ad2, Ir.ad3, Ir.arrU, Ir.fu, Ir.ft, Ir.gd, Ir.gRu, Ir.gRt, Ir.sq1, Ir.sq2, Ir.ls1, Ir.rt1, Ir.rt2, Ir.bopR_d, Ir.b_add, Ir.b_sub, Ir.c_lt, Ir.c_le, Ir.c_gt, Ir.c_ge, Ir.c_eqi, Ir.c_eqs, Ir.c_eqb, Ir.c_nei, Ir.c_nes, Ir.c_neb, Ir.c_is, Ir.c_isn, Ir.n1, Ir.n2, Ir.n3, Ir.n4, Ir.n5, Ir.n6, Ir.d_lt, Ir.d_le, Ir.d_gt, Ir.d_ge, Ir.x_tup, Ir.x_tmp, Ir.x_mix, Ir.x_ref, Ir.a0, Ir.a1, Ir.a2, Ir.i30, Ir.i32, Ir.f_len, Ir.l_tup, Ir.l_tmp, Ir.l_mix, Ir.l_ref, Ir.f_int, Ir.f_intb, Ir.f_abs, Ir.f_max, Ir.f_min, Ir.f_tup, Ir.f_list, Ir.f_all, Ir.f_any, Ir.f_isin, Ir.t_int, Ir.t_str, Ir.t_bl, Ir.t_non, Ir.t_tup, Ir.t_mix, Ir.is_ii, Ir.is_ib, Ir.is_tt, Ir.is_it, Ir.is_ss, Ir.p_j, Ir.p_s, Ir.p_p, Ir.tr_b, Ir.s_tmp, Ir.s_tup, Ir.s_str, Ir.boolsD, Ir.strsD, Ir.sqr, Ir.lsr, Ir.ob1, Ir.ob2, Ir.blU, List.map_cons, List.map_nil, List.length_cons, List.length_nil, List.replicate, List.cons_append, List.nil_append, List.append_nil, List.getElem?_cons_zero, List.getElem?_cons_succ, List.getElem?_nil, List.set_cons_zero, List.set_cons_succ, List.set_nil, Option.bind_some, Option.map_some, Option.map_none, Option.bind_none, if_true, if_false, ite_true, ite_false, reduceIte, Bool.not_true, Bool.not_false, List.take_succ_cons, List.take_length, List.take_zero, Nat.add_sub_cancel, Nat.sub_self, Nat.reduceSub, Nat.reduceAdd, reduceCtorEq, Bool.false_eq_true, decide_true, decide_false, List.all_cons, List.any_cons, List.all_nil, List.any_nil, id_eq, Bool.true_and, Bool.and_true, Bool.false_or, Bool.or_false, Ir.zc0, Ir.zc1, Ir.zc2, Ir.zc3, eq_self, Ir.bools_const, Ir.all_const, Ir.any_const, integer_of_eq (h x hx)]
  · simp -implicitDefEqProofs only [Ir.Ok_bind, Ir.Ok_map, Ir.Ok_some, Ir.Ok_none, Ir.evSs, Ir.evE.eq_1, Ir.evE.eq_2, Ir.evE.eq_3, Ir.evE.eq_4, Ir.evE.eq_5, Ir.evE.eq_6, Ir.evE.eq_7, Ir.evE.eq_8, Ir.evE.eq_9, Ir.evE.eq_10, Ir.evE.eq_11, Ir.evE.eq_12, Ir.evE.eq_13, Ir.evE.eq_14, Ir.evE.eq_15, Ir.evE.eq_16, Ir.evE.eq_17, Ir.evE.eq_19, Ir.evEs, Ir.evRs, Ir.evO, Ir.evOt, Ir.evT, Ir.evI, Ir.evS.eq_1, Ir.evS.eq_2, Ir.evS.eq_3, Ir.evS.eq_4, Ir.evS.eq_5, Ir.evS.eq_6, Ir.evS.eq_9, Ir.evS.eq_10, Ir.evS.eq_11, Ir.evS.eq_12, Ir.evS.eq_13, Ir.Ok_for, Ir.ev2, Ir.startE, Ir.bT_n, Ir.bT_t, Ir.bT_m, Ir.bTs_n, Ir.bTs_c, Ir.wipeE, Ir.mt0, Ir.mt1, Ir.mt2, Ir.mt3, Ir.mt4, Ir.ad0, Ir.ad1, Ir.ad2, Ir.ad3, Ir.arrU, Ir.fu, Ir.ft, Ir.gd, Ir.gRu, Ir.gRt, Ir.sq1, Ir.sq2, Ir.ls1, Ir.rt1, Ir.rt2, Ir.bopR_d, Ir.b_add, Ir.b_sub, Ir.c_lt, Ir.c_le, Ir.c_gt, Ir.c_ge, Ir.c_eqi, Ir.c_eqs, Ir.c_eqb, Ir.c_nei, Ir.c_nes, Ir.c_neb, Ir.c_is, Ir.c_isn, Ir.n1, Ir.n2, Ir.n3, Ir.n4, Ir.n5, Ir.n6, Ir.d_lt, Ir.d_le, Ir.d_gt, Ir.d_ge, Ir.x_tup, Ir.x_tmp, Ir.x_mix, Ir.x_ref, Ir.a0, Ir.a1, Ir.a2, Ir.i30, Ir.i32, Ir.f_len, Ir.l_tup, Ir.l_tmp, Ir.l_mix, Ir.l_ref, Ir.f_int, Ir.f_intb, Ir.f_abs, Ir.f_max, Ir.f_min, Ir.f_tup, Ir.f_list, Ir.f_all, Ir.f_any, Ir.f_isin, Ir.t_int, Ir.t_str, Ir.t_bl, Ir.t_non, Ir.t_tup, Ir.t_mix, Ir.is_ii, Ir.is_ib, Ir.is_tt, Ir.is_it, Ir.is_ss, Ir.p_j, Ir.p_s, Ir.p_p, Ir.tr_b, Ir.s_tmp, Ir.s_tup, Ir.s_str, Ir.boolsD, Ir.strsD, Ir.sqr, Ir.lsr, Ir.ob1, Ir.ob2, Ir.blU, List.map_cons, List.map_nil, List.length_cons, List.length_nil, List.replicate, List.cons_append, List.nil_append, List.append_nil, List.getElem?_cons_zero, List.getElem?_cons_succ, List.getElem?_nil, List.set_cons_zero, List.set_cons_succ, List.set_nil, Option.bind_some, Option.map_some, Option.map_none, Option.bind_none, if_true, if_false, ite_true, ite_false, reduceIte, Bool.not_true, Bool.not_false, List.take_succ_cons, List.take_length, List.take_zero, Nat.add_sub_cancel, Nat.sub_self, Nat.reduceSub, Nat.reduceAdd, reduceCtorEq, Bool.false_eq_true, decide_true, decide_false, List.all_cons, List.any_cons, List.all_nil, List.any_nil, id_eq, Bool.true_and, Bool.and_true, Bool.false_or, Bool.or_false, Ir.zc0, Ir.zc1, Ir.zc2, Ir.zc3, eq_self, Ir.bools_const, Ir.all_const, Ir.any_const, gc_new]
theorem part_st {s : Int × List Int} (h : 0 ≤ s.1 ∧ s.1 < 1000) : Txt.partition (showSt s) sepC = (numT s.1, sepC, Txt.join SP (s.2.map numT)) := by
  unfold showSt
  have e : Str.empty ++ numT s.1 = numT s.1 := TL.ext_tl (by rw [TL.tl_append]; rfl)
  rw [e]
  refine TL.partition_app (y := sepC) (s := 58) (S := [32]) rfl fun hc => ?_
  have := digits_of h hc
  omega
theorem none_in {S : Store} {n : Nat} {ns : List Int} (h : S[n]? = some (.lst (ns.map .int))) : copR .in_ (.u (.d .non)) (.u (.ref n)) S = some false := by
  have e1 : inOk .non (ns.map .int) = true := by
    unfold inOk
    rw [Bool.or_eq_true]
    left
    simp [flatD]
  have e2 : ((ns.map D.int).any fun y => pyeq y .non) = false := by
    simp [pyeq]
  show ((seqR (.u (.ref n)) S).bind fun ds => if inOk .non ds = true then some (ds.any fun y => pyeq y .non) else none) = some false
  rw [sq3 h]
  simp only [Option.bind_some, e1, if_true, e2]
theorem state_in_eq {k own others size : Nat} {s : Int × List Int} {S : Store} (h : StOk own others size s) (ho : own ≤ 5) (hz : 1 ≤ others ∧ others ≤ 5) (hs : size ≤ 400) :
    run pd.fds (k + 3) 15 [.d (.str (showSt s))] S = some (.d (stD s), S) := by
  obtain ⟨l1, l2⟩ := showSt_len h ho hz.2 hs
  obtain ⟨h1, h2, h3⟩ := h
  have hp : (sepC.length == 0) = false ∧ (showSt s).length ≤ lim := ⟨rfl, leLim (by omega)⟩
  have hne : s.2 ≠ [] := fun e => by rw [e] at h2; simp at h2; omega
  refine run_eq ⟨1, 6, ir_state_in⟩ rfl rfl ?_
  simp -implicitDefEqProofs only [Ir.Ok_bind, Ir.Ok_map, Ir.Ok_some, Ir.Ok_none, Ir.evSs, Ir.evE.eq_1, Ir.evE.eq_2, Ir.evE.eq_3, Ir.evE.eq_4, Ir.evE.eq_5, Ir.evE.eq_6, Ir.evE.eq_7, Ir.evE.eq_8, Ir.evE.eq_9, Ir.evE.eq_10, Ir.evE.eq_11, Ir.evE.eq_12, Ir.evE.eq_13, Ir.evE.eq_14, Ir.evE.eq_15, Ir.evE.eq_16, Ir.evE.eq_17, Ir.evE.eq_19, Ir.evEs, Ir.evRs, Ir.evO, Ir.evOt, Ir.evT, Ir.evI, Ir.evS.eq_1, Ir.evS.eq_2, Ir.evS.eq_3, Ir.evS.eq_4, Ir.evS.eq_5, Ir.evS.eq_6, Ir.evS.eq_9, Ir.evS.eq_10, Ir.evS.eq_11, Ir.evS.eq_12, Ir.evS.eq_13, Ir.Ok_for, Ir.ev2, Ir.startE, Ir.bT_n, Ir.bT_t, Ir.bT_m, Ir.bTs_n, Ir.bTs_c, Ir.wipeE, Ir.mt0, Ir.mt1, Ir.mt2, Ir.mt3, Ir.mt4, Ir.ad0, Ir.ad1, Ir.ad2, Ir.ad3, Ir.arrU, Ir.fu, Ir.ft, Ir.gd, Ir.gRu, Ir.gRt, Ir.sq1, Ir.sq2, Ir.ls1, Ir.rt1, Ir.rt2, Ir.bopR_d, Ir.b_add, Ir.b_sub, Ir.c_lt, Ir.c_le, Ir.c_gt, Ir.c_ge, Ir.c_eqi, Ir.c_eqs, Ir.c_eqb, Ir.c_nei, Ir.c_nes, Ir.c_neb, Ir.c_is, Ir.c_isn, Ir.n1, Ir.n2, Ir.n3, Ir.n4, Ir.n5, Ir.n6, Ir.d_lt, Ir.d_le, Ir.d_gt, Ir.d_ge, Ir.x_tup, Ir.x_tmp, Ir.x_mix, Ir.x_ref, Ir.a0, Ir.a1, Ir.a2, Ir.i30, Ir.i32, Ir.f_len, Ir.l_tup, Ir.l_tmp, Ir.l_mix, Ir.l_ref, Ir.f_int, Ir.f_intb, Ir.f_abs, Ir.f_max, Ir.f_min, Ir.f_tup, Ir.f_list, Ir.f_all, Ir.f_any, Ir.f_isin, Ir.t_int, Ir.t_str, Ir.t_bl, Ir.t_non, Ir.t_tup, Ir.t_mix, Ir.is_ii, Ir.is_ib, Ir.is_tt, Ir.is_it, Ir.is_ss, Ir.p_j, Ir.p_s, Ir.p_p, Ir.tr_b, Ir.s_tmp, Ir.s_tup, Ir.s_str, Ir.boolsD, Ir.strsD, Ir.sqr, Ir.lsr, Ir.ob1, Ir.ob2, Ir.blU, List.map_cons, List.map_nil, List.length_cons, List.length_nil, List.replicate, List.cons_append, List.nil_append, List.append_nil, List.getElem?_cons_zero, List.getElem?_cons_succ, List.getElem?_nil, List.set_cons_zero, List.set_cons_succ, List.set_nil, Option.bind_some, Option.map_some, Option.map_none, Option.bind_none, if_true, if_false, ite_true, ite_false, reduceIte, Bool.not_true, Bool.not_false, List.take_succ_cons, List.take_length, List.take_zero, Nat.add_sub_cancel, Nat.sub_self, Nat.reduceSub, Nat.reduceAdd, reduceCtorEq, Bool.false_eq_true, decide_true, decide_false, List.all_cons, List.any_cons, List.all_nil, List.any_nil, id_eq, Bool.true_and, Bool.and_true, Bool.false_or, Bool.or_false, Ir.zc0, Ir.zc1, Ir.zc2, Ir.zc3, eq_self, Ir.bools_const, Ir.all_const, Ir.any_const, ir_state_in, show Str.ofString ": " = sepC from rfl, m_part hp, part_st (s := s) (by omega)]
  have a := integer_of_eq (k := k + 1) (S := S) (i := s.1) (by omega)
  have b := integers_of_eq (k := k) (S := S) hne (fun x hx => by have := h3 x hx; omega) (by omega) (by omega)
  have e1 : decide (sepC = Str.ofString "") = false := by decide +kernel
  simp -implicitDefEqProofs only [Ir.Ok_bind, Ir.Ok_map, Ir.Ok_some, Ir.Ok_none, Ir.evSs, Ir.evE.eq_1, Ir.evE.eq_2, Ir.evE.eq_3, Ir.evE.eq_4, Ir.evE.eq_5, Ir.evE.eq_6, Ir.evE.eq_7, Ir.evE.eq_8, Ir.evE.eq_9, Ir.evE.eq_10, Ir.evE.eq_11, Ir.evE.eq_12, Ir.evE.eq_13, Ir.evE.eq_14, Ir.evE.eq_15, Ir.evE.eq_16, Ir.evE.eq_17, Ir.evE.eq_19, Ir.evEs, Ir.evRs, Ir.evO, Ir.evOt, Ir.evT, Ir.evI, Ir.evS.eq_1, Ir.evS.eq_2, Ir.evS.eq_3, Ir.evS.eq_4, Ir.evS.eq_5, Ir.evS.eq_6, Ir.evS.eq_9, Ir.evS.eq_10, Ir.evS.eq_11, Ir.evS.eq_12, Ir.evS.eq_13, Ir.Ok_for, Ir.ev2, Ir.startE, Ir.bT_n, Ir.bT_t, Ir.bT_m, Ir.bTs_n, Ir.bTs_c, Ir.wipeE, Ir.mt0, Ir.mt1, Ir.mt2, Ir.mt3, Ir.mt4, Ir.ad0, Ir.ad1, Ir.ad2, Ir.ad3, Ir.arrU, Ir.fu, Ir.ft, Ir.gd, Ir.gRu, Ir.gRt, Ir.sq1, Ir.sq2, Ir.ls1, Ir.rt1, Ir.rt2, Ir.bopR_d, Ir.b_add, Ir.b_sub, Ir.c_lt, Ir.c_le, Ir.c_gt, Ir.c_ge, Ir.c_eqi, Ir.c_eqs, Ir.c_eqb, Ir.c_nei, Ir.c_nes, Ir.c_neb, Ir.c_is, Ir.c_isn, Ir.n1, Ir.n2, Ir.n3, Ir.n4, Ir.n5, Ir.n6, Ir.d_lt, Ir.d_le, Ir.d_gt, Ir.d_ge, Ir.x_tup, Ir.x_tmp, Ir.x_mix, Ir.x_ref, Ir.a0, Ir.a1, Ir.a2, Ir.i30, Ir.i32, Ir.f_len, Ir.l_tup, Ir.l_tmp, Ir.l_mix, Ir.l_ref, Ir.f_int, Ir.f_intb, Ir.f_abs, Ir.f_max, Ir.f_min, Ir.f_tup, Ir.f_list, Ir.f_all, Ir.f_any, Ir.f_isin, Ir.t_int, Ir.t_str, Ir.t_bl, Ir.t_non, Ir.t_tup, Ir.t_mix, Ir.is_ii, Ir.is_ib, Ir.is_tt, Ir.is_it, Ir.is_ss, Ir.p_j, Ir.p_s, Ir.p_p, Ir.tr_b, Ir.s_tmp, Ir.s_tup, Ir.s_str, Ir.boolsD, Ir.strsD, Ir.sqr, Ir.lsr, Ir.ob1, Ir.ob2, Ir.blU, List.map_cons, List.map_nil, List.length_cons, List.length_nil, List.replicate, List.cons_append, List.nil_append, List.append_nil, List.getElem?_cons_zero, List.getElem?_cons_succ, List.getElem?_nil, List.set_cons_zero, List.set_cons_succ, List.set_nil, Option.bind_some, Option.map_some, Option.map_none, Option.bind_none, if_true, if_false, ite_true, ite_false, reduceIte, Bool.not_true, Bool.not_false, List.take_succ_cons, List.take_length, List.take_zero, Nat.add_sub_cancel, Nat.sub_self, Nat.reduceSub, Nat.reduceAdd, reduceCtorEq, Bool.false_eq_true, decide_true, decide_false, List.all_cons, List.any_cons, List.all_nil, List.any_nil, id_eq, Bool.true_and, Bool.and_true, Bool.false_or, Bool.or_false, Ir.zc0, Ir.zc1, Ir.zc2, Ir.zc3, eq_self, Ir.bools_const, Ir.all_const, Ir.any_const, a, show Str.ofString " " = SP from rfl, b, gc_new, e1]
  rw [none_in (ns := s.2) (by simp)]
  have g1 : (S ++ [Ob.lst (s.2.map D.int)])[S.length]? = some (.lst (s.2.map D.int)) := by simp
  have g2 : List.take S.length (S ++ [Ob.lst (s.2.map D.int)]) = S := by simp
  simp -implicitDefEqProofs only [Ir.Ok_bind, Ir.Ok_map, Ir.Ok_some, Ir.Ok_none, Ir.evSs, Ir.evE.eq_1, Ir.evE.eq_2, Ir.evE.eq_3, Ir.evE.eq_4, Ir.evE.eq_5, Ir.evE.eq_6, Ir.evE.eq_7, Ir.evE.eq_8, Ir.evE.eq_9, Ir.evE.eq_10, Ir.evE.eq_11, Ir.evE.eq_12, Ir.evE.eq_13, Ir.evE.eq_14, Ir.evE.eq_15, Ir.evE.eq_16, Ir.evE.eq_17, Ir.evE.eq_19, Ir.evEs, Ir.evRs, Ir.evO, Ir.evOt, Ir.evT, Ir.evI, Ir.evS.eq_1, Ir.evS.eq_2, Ir.evS.eq_3, Ir.evS.eq_4, Ir.evS.eq_5, Ir.evS.eq_6, Ir.evS.eq_9, Ir.evS.eq_10, Ir.evS.eq_11, Ir.evS.eq_12, Ir.evS.eq_13, Ir.Ok_for, Ir.ev2, Ir.startE, Ir.bT_n, Ir.bT_t, Ir.bT_m, Ir.bTs_n, Ir.bTs_c, Ir.wipeE, Ir.mt0, Ir.mt1, Ir.mt2, Ir.mt3, Ir.mt4, Ir.ad0, Ir.ad1, Ir.ad2, Ir.ad3, Ir.arrU, Ir.fu, Ir.ft, Ir.gd, Ir.gRu, Ir.gRt, Ir.sq1, Ir.sq2, Ir.ls1, Ir.rt1, Ir.rt2, Ir.bopR_d, Ir.b_add, Ir.b_sub, Ir.c_lt, Ir.c_le, Ir.c_gt, Ir.c_ge, Ir.c_eqi, Ir.c_eqs, Ir.c_eqb, Ir.c_nei, Ir.c_nes, Ir.c_neb, Ir.c_is, Ir.c_isn, Ir.n1, Ir.n2, Ir.n3, Ir.n4, Ir.n5, Ir.n6, Ir.d_lt, Ir.d_le, Ir.d_gt, Ir.d_ge, Ir.x_tup, Ir.x_tmp, Ir.x_mix, Ir.x_ref, Ir.a0, Ir.a1, Ir.a2, Ir.i30, Ir.i32, Ir.f_len, Ir.l_tup, Ir.l_tmp, Ir.l_mix, Ir.l_ref, Ir.f_int, Ir.f_intb, Ir.f_abs, Ir.f_max, Ir.f_min, Ir.f_tup, Ir.f_list, Ir.f_all, Ir.f_any, Ir.f_isin, Ir.t_int, Ir.t_str, Ir.t_bl, Ir.t_non, Ir.t_tup, Ir.t_mix, Ir.is_ii, Ir.is_ib, Ir.is_tt, Ir.is_it, Ir.is_ss, Ir.p_j, Ir.p_s, Ir.p_p, Ir.tr_b, Ir.s_tmp, Ir.s_tup, Ir.s_str, Ir.boolsD, Ir.strsD, Ir.sqr, Ir.lsr, Ir.ob1, Ir.ob2, Ir.blU, List.map_cons, List.map_nil, List.length_cons, List.length_nil, List.replicate, List.cons_append, List.nil_append, List.append_nil, List.getElem?_cons_zero, List.getElem?_cons_succ, List.getElem?_nil, List.set_cons_zero, List.set_cons_succ, List.set_nil, Option.bind_some, Option.map_some, Option.map_none, Option.bind_none, if_true, if_false, ite_true, ite_false, reduceIte, Bool.not_true, Bool.not_false, List.take_succ_cons, List.take_length, List.take_zero, Nat.add_sub_cancel, Nat.sub_self, Nat.reduceSub, Nat.reduceAdd, reduceCtorEq, Bool.false_eq_true, decide_true, decide_false, List.all_cons, List.any_cons, List.all_nil, List.any_nil, id_eq, Bool.true_and, Bool.and_true, Bool.false_or, Bool.or_false, Ir.zc0, Ir.zc1, Ir.zc2, Ir.zc3, eq_self, Ir.bools_const, Ir.all_const, Ir.any_const, g1, g2, stD]
/-- the separator of states begins nowhere within a state -/
theorem pre_free {p q : List Nat} (h1 : 59 ∉ p) (h2 : ∀ c, p.getLast? = some c → c ≠ 32) : ∀ i, i < p.length → TL.pre [32, 59, 32] ((p ++ q).drop i) = false := by
  intro i hi
  cases e : TL.pre [32, 59, 32] ((p ++ q).drop i) with
  | false => rfl
  | true =>
    exfalso
    unfold TL.pre at e
    have e1 : ((p ++ q).drop i).take 3 = [32, 59, 32] := eq_of_beq e
    have a0 : (p ++ q)[i]? = some 32 := by
      have := congrArg (fun l : List Nat => l[0]?) e1
      simpa using this
    have a1 : (p ++ q)[i + 1]? = some 59 := by
      have := congrArg (fun l : List Nat => l[1]?) e1
      simpa using this
    rw [List.getElem?_append_left hi] at a0
    by_cases hl : i + 1 < p.length
    · rw [List.getElem?_append_left hl] at a1
      exact h1 (List.mem_of_getElem? a1)
    · refine h2 32 ?_ rfl
      rw [List.getLast?_eq_getElem?, show p.length - 1 = i by omega]
      exact a0
theorem spl_join' {S : List Nat} (hS : S ≠ []) : ∀ {parts : List (List Nat)}, parts ≠ [] → (∀ p ∈ parts, ∀ q, ∀ i, i < p.length → TL.pre S ((p ++ q).drop i) = false) → TL.spl S 0 [] (TL.joinL S parts) = parts
  | [], h, _ => absurd rfl h
  | [p], _, hp => by
    show TL.spl S 0 [] p = [p]
    rw [TL.spl_last fun i hi => by
      have := hp p (by simp) [] i hi
      rw [List.append_nil] at this
      exact this, List.nil_append]
  | p :: q :: r, _, hp => by
    show TL.spl S 0 [] (p ++ (S ++ TL.joinL S (q :: r))) = p :: q :: r
    rw [TL.spl_part hS fun i hi => hp p (List.mem_cons_self ..) _ i hi, List.nil_append, spl_join' hS (by simp) fun z hz => hp z (List.mem_cons_of_mem _ hz)]
theorem joinL_last : ∀ {parts : List (List Nat)}, parts ≠ [] → (∀ p ∈ parts, p ≠ [] ∧ ∀ c ∈ p, 48 ≤ c ∧ c ≤ 57) → (∃ c, (TL.joinL [32] parts).getLast? = some c ∧ 48 ≤ c) ∧ ∀ c ∈ TL.joinL [32] parts, c ≤ 57
  | [], h, _ => absurd rfl h
  | [p], _, hp => by
    obtain ⟨h1, h2⟩ := hp p (by simp)
    refine ⟨⟨p.getLast h1, List.getLast?_eq_some_getLast h1, (h2 _ (List.getLast_mem h1)).1⟩, fun c hc => (h2 c hc).2⟩
  | p :: q :: r, _, hp => by
    obtain ⟨⟨c, e1, e2⟩, e3⟩ := joinL_last (parts := q :: r) (by simp) fun z hz => hp z (List.mem_cons_of_mem _ hz)
    refine ⟨⟨c, ?_, e2⟩, fun d hd => ?_⟩
    · show (p ++ ([32] ++ TL.joinL [32] (q :: r))).getLast? = some c
      rw [List.getLast?_append, List.getLast?_append, e1]
      rfl
    · have hd' : d ∈ p ++ ([32] ++ TL.joinL [32] (q :: r)) := hd
      rcases List.mem_append.mp hd' with h | h
      · exact ((hp p (by simp)).2 d h).2
      · rcases List.mem_append.mp h with h | h
        · rw [List.mem_singleton.mp h]
          decide
        · exact e3 d h
theorem st_shape {own others size : Nat} {s : Int × List Int} (h : StOk own others size s) (ho : own ≤ 5) (hz : 1 ≤ others ∧ others ≤ 5) (hs : size ≤ 400) : 59 ∉ TL.tl (showSt s) ∧ ∀ c, (TL.tl (showSt s)).getLast? = some c → c ≠ 32 := by
  obtain ⟨h1, h2, h3⟩ := h
  have hne : s.2 ≠ [] := fun e => by rw [e] at h2; simp at h2; omega
  have key := joinL_last (parts := (s.2.map numT).map TL.tl) (by simpa using hne) fun p hp => by
    obtain ⟨x, hx, rfl⟩ := List.mem_map.mp hp
    obtain ⟨v, hv, rfl⟩ := List.mem_map.mp hx
    have b : 0 ≤ v ∧ v < 1000 := by have := h3 v hv; omega
    refine ⟨fun e => ?_, fun c hc => digits_of b hc⟩
    have := (numT_ok b).2.1
    rw [TL.len_tl, e] at this
    simp at this
  obtain ⟨⟨c, e1, e2⟩, e3⟩ := key
  have et : TL.tl (showSt s) = (TL.tl (numT s.1) ++ [58, 32]) ++ TL.joinL [32] ((s.2.map numT).map TL.tl) := by
    unfold showSt
    rw [TL.tl_append, TL.tl_append, TL.tl_append, TL.join_eq, TL.tl_join]
    rfl
  rw [et]
  refine ⟨fun h => ?_, fun d hd => ?_⟩
  · rcases List.mem_append.mp h with h | h
    · rcases List.mem_append.mp h with h | h
      · have := digits_of (i := s.1) (by omega) h
        omega
      · simp at h
    · have := e3 _ h
      omega
  · rw [List.getLast?_append, e1] at hd
    cases hd
    omega
theorem split_m {own others : Nat} {m : List (Int × List Int)} (h : MOk own others m) (ho : own ≤ 5) (hz : 1 ≤ others ∧ others ≤ 5) : Txt.split (showM m) sepM = m.map showSt := by
  refine TL.map_tl_inj ?_
  have hne : m ≠ [] := fun e => by have := h.1.1; rw [e] at this; simp at this
  rw [TL.split_spl _ sepM (by decide) (TL.kind_ok (by decide +kernel))]
  unfold showM
  rw [TL.join_eq, TL.tl_join, show TL.tl sepM = [32, 59, 32] from rfl]
  refine spl_join' (by simp) (by simpa using hne) fun p hp q => ?_
  obtain ⟨x, hx, rfl⟩ := List.mem_map.mp hp
  obtain ⟨s, hs, rfl⟩ := List.mem_map.mp hx
  obtain ⟨a, b⟩ := st_shape (h.2 s hs) ho hz h.1.2
  exact pre_free a b
theorem showM_len {own others : Nat} {m : List (Int × List Int)} (h : MOk own others m) (ho : own ≤ 5) (hz : others ≤ 5) : (showM m).length ≤ 20000 := by
  have a := join_len sepM (m.map showSt)
  have b := mach_sum h ho hz
  rw [List.map_map, List.length_map] at a
  have e : ((fun x : Str => x.length) ∘ showSt) = fun s => (showSt s).length := rfl
  have c : sepM.length = 3 := rfl
  rw [e, c] at a
  unfold showM
  omega
theorem okd_st (s : Int × List Int) (n : Nat) : okd (n + 2) (stD s) = true := by
  simp [okd, stD]
theorem none_inM {S : Store} {m : List (Int × List Int)} : copR .in_ (.u (.d .non)) (.u (.d (.tup (m.map stD)))) S = some false := by
  have e1 : inOk .non (m.map stD) = true := by
    unfold inOk
    rw [Bool.or_eq_true]
    right
    rw [Bool.and_eq_true]
    refine ⟨rfl, List.all_eq_true.mpr fun x hx => ?_⟩
    obtain ⟨s, hs, rfl⟩ := List.mem_map.mp hx
    exact okd_st s 38
  have e2 : ((m.map stD).any fun y => pyeq y .non) = false := by
    simp [pyeq, stD]
  show ((seqR (.u (.d (.tup (m.map stD)))) S).bind fun ds => if inOk .non ds = true then some (ds.any fun y => pyeq y .non) else none) = some false
  simp only [seqR, Option.bind_some, e1, if_true, e2]
theorem states_in_eq {k own others : Nat} {m : List (Int × List Int)} {S : Store} (h : MOk own others m) (ho : own ≤ 5) (hz : 1 ≤ others ∧ others ≤ 5) : run pd.fds (k + 4) 16 [.d (.str (showM m))] S = some (.d (machD m), S) := by
  have hl := h.1.2
  refine run_eq ⟨1, 3, ir_states_in⟩ rfl rfl ?_
  have hs : (sepM.length == 0) = false ∧ (showM m).length + 2 ≤ lim := ⟨rfl, leLim (by have := showM_len h ho hz.2; omega)⟩
  have ei : strD (Txt.split (showM m) sepM) = m.map fun s => D.str (showSt s) := by
    rw [split_m h ho hz, strD, List.map_map]
    rfl
  simp -implicitDefEqProofs only [Ir.Ok_bind, Ir.Ok_map, Ir.Ok_some, Ir.Ok_none, Ir.evSs, Ir.evE.eq_1, Ir.evE.eq_2, Ir.evE.eq_3, Ir.evE.eq_4, Ir.evE.eq_5, Ir.evE.eq_6, Ir.evE.eq_7, Ir.evE.eq_8, Ir.evE.eq_9, Ir.evE.eq_10, Ir.evE.eq_11, Ir.evE.eq_12, Ir.evE.eq_13, Ir.evE.eq_14, Ir.evE.eq_15, Ir.evE.eq_16, Ir.evE.eq_17, Ir.evE.eq_19, Ir.evEs, Ir.evRs, Ir.evO, Ir.evOt, Ir.evT, Ir.evI, Ir.evS.eq_1, Ir.evS.eq_2, Ir.evS.eq_3, Ir.evS.eq_4, Ir.evS.eq_5, Ir.evS.eq_6, Ir.evS.eq_9, Ir.evS.eq_10, Ir.evS.eq_11, Ir.evS.eq_12, Ir.evS.eq_13, Ir.Ok_for, Ir.ev2, Ir.startE, Ir.bT_n, Ir.bT_t, Ir.bT_m, Ir.bTs_n, Ir.bTs_c, Ir.wipeE, Ir.mt0, Ir.mt1, Ir.mt2, Ir.mt3, Ir.mt4, Ir.ad0, Ir.ad1, Ir.ad2, Ir.ad3, Ir.arrU, Ir.fu, Ir.ft, Ir.gd, Ir.gRu, Ir.gRt, Ir.sq1, Ir.sq2, Ir.ls1, Ir.rt1, Ir.rt2, Ir.bopR_d, Ir.b_add, Ir.b_sub, Ir.c_lt, Ir.c_le, Ir.c_gt, Ir.c_ge, Ir.c_eqi, Ir.c_eqs, Ir.c_eqb, Ir.c_nei, Ir.c_nes, Ir.c_neb, Ir.c_is, Ir.c_isn, Ir.n1, Ir.n2, Ir.n3, Ir.n4, Ir.n5, Ir.n6, Ir.d_lt, Ir.d_le, Ir.d_gt, Ir.d_ge, Ir.x_tup, Ir.x_tmp, Ir.x_mix, Ir.x_ref, Ir.a0, Ir.a1, Ir.a2, Ir.i30, Ir.i32, Ir.f_len, Ir.l_tup, Ir.l_tmp, Ir.l_mix, Ir.l_ref, Ir.f_int, Ir.f_intb, Ir.f_abs, Ir.f_max, Ir.f_min, Ir.f_tup, Ir.f_list, Ir.f_all, Ir.f_any, Ir.f_isin, Ir.t_int, Ir.t_str, Ir.t_bl, Ir.t_non, Ir.t_tup, Ir.t_mix, Ir.is_ii, Ir.is_ib, Ir.is_tt, Ir.is_it, Ir.is_ss, Ir.p_j, Ir.p_s, Ir.p_p, Ir.tr_b, Ir.s_tmp, Ir.s_tup, Ir.s_str, Ir.boolsD, Ir.strsD, Ir.sqr, Ir.lsr, Ir.ob1, Ir.ob2, Ir.blU, List.map_cons, List.map_nil, List.length_cons, List.length_nil, List.replicate, List.cons_append, List.nil_append, List.append_nil, List.getElem?_cons_zero, List.getElem?_cons_succ, List.getElem?_nil, List.set_cons_zero, List.set_cons_succ, List.set_nil, Option.bind_some, Option.map_some, Option.map_none, Option.bind_none, if_true, if_false, ite_true, ite_false, reduceIte, Bool.not_true, Bool.not_false, List.take_succ_cons, List.take_length, List.take_zero, Nat.add_sub_cancel, Nat.sub_self, Nat.reduceSub, Nat.reduceAdd, reduceCtorEq, Bool.false_eq_true, decide_true, decide_false, List.all_cons, List.any_cons, List.all_nil, List.any_nil, id_eq, Bool.true_and, Bool.and_true, Bool.false_or, Bool.or_false, Ir.zc0, Ir.zc1, Ir.zc2, Ir.zc3, eq_self, Ir.bools_const, Ir.all_const, Ir.any_const, ir_states_in]
  refine Ok.of (comp_tmp2 stD (xs := m) (f := fun s => .str (showSt s)) (by simp -implicitDefEqProofs only [Ir.Ok_bind, Ir.Ok_map, Ir.Ok_some, Ir.Ok_none, Ir.evSs, Ir.evE.eq_1, Ir.evE.eq_2, Ir.evE.eq_3, Ir.evE.eq_4, Ir.evE.eq_5, Ir.evE.eq_6, Ir.evE.eq_7, Ir.evE.eq_8, Ir.evE.eq_9, Ir.evE.eq_10, Ir.evE.eq_11, Ir.evE.eq_12, Ir.evE.eq_13, Ir.evE.eq_14, Ir.evE.eq_15, Ir.evE.eq_16, Ir.evE.eq_17, Ir.evE.eq_19, Ir.evEs, Ir.evRs, Ir.evO, Ir.evOt, Ir.evT, Ir.evI, Ir.evS.eq_1, Ir.evS.eq_2, Ir.evS.eq_3, Ir.evS.eq_4, Ir.evS.eq_5, Ir.evS.eq_6, Ir.evS.eq_9, Ir.evS.eq_10, Ir.evS.eq_11, Ir.evS.eq_12, Ir.evS.eq_13, Ir.Ok_for, Ir.ev2, Ir.startE, Ir.bT_n, Ir.bT_t, Ir.bT_m, Ir.bTs_n, Ir.bTs_c, Ir.wipeE, Ir.mt0, Ir.mt1, Ir.mt2, Ir.mt3, Ir.mt4, Ir.ad0, Ir.ad1, Ir.ad2, Ir.ad3, Ir.arrU, Ir.fu, Ir.ft, Ir.gd, Ir.gRu, Ir.gRt, Ir.sq1, Ir.sq2, Ir.ls1, Ir.rt1, Ir.rt2, Ir.bopR_d, Ir.b_add, Ir.b_sub, Ir.c_lt, Ir.c_le, Ir.c_gt, Ir.c_ge, Ir.c_eqi, Ir.c_eqs, Ir.c_eqb, Ir.c_nei, Ir.c_nes, Ir.c_neb, Ir.c_is, Ir.c_isn, Ir.n1, Ir.n2, Ir.n3, Ir.n4, Ir.n5, Ir.n6, Ir.d_lt, Ir.d_le, Ir.d_gt, Ir.d_ge, Ir.x_tup, Ir.x_tmp, Ir.x_mix, Ir.x_ref, Ir.a0, Ir.a1, Ir.a2, Ir.i30, Ir.i32, Ir.f_len, Ir.l_tup, Ir.l_tmp, Ir.l_mix, Ir.l_ref, Ir.f_int, Ir.f_intb, Ir.f_abs, Ir.f_max, Ir.f_min, Ir.f_tup, Ir.f_list, Ir.f_all, Ir.f_any, Ir.f_isin, Ir.t_int, Ir.t_str, Ir.t_bl, Ir.t_non, Ir.t_tup, Ir.t_mix, Ir.is_ii, Ir.is_ib, Ir.is_tt, Ir.is_it, Ir.is_ss, Ir.p_j, Ir.p_s, Ir.p_p, Ir.tr_b, Ir.s_tmp, Ir.s_tup, Ir.s_str, Ir.boolsD, Ir.strsD, Ir.sqr, Ir.lsr, Ir.ob1, Ir.ob2, Ir.blU, List.map_cons, List.map_nil, List.length_cons, List.length_nil, List.replicate, List.cons_append, List.nil_append, List.append_nil, List.getElem?_cons_zero, List.getElem?_cons_succ, List.getElem?_nil, List.set_cons_zero, List.set_cons_succ, List.set_nil, Option.bind_some, Option.map_some, Option.map_none, Option.bind_none, if_true, if_false, ite_true, ite_false, reduceIte, Bool.not_true, Bool.not_false, List.take_succ_cons, List.take_length, List.take_zero, Nat.add_sub_cancel, Nat.sub_self, Nat.reduceSub, Nat.reduceAdd, reduceCtorEq, Bool.false_eq_true, decide_true, decide_false, List.all_cons, List.any_cons, List.all_nil, List.any_nil, id_eq, Bool.true_and, Bool.and_true, Bool.false_or, Bool.or_false, Ir.zc0, Ir.zc1, Ir.zc2, Ir.zc3, eq_self, Ir.bools_const, Ir.all_const, Ir.any_const, show Str.ofString " ; " = sepM from rfl, m_split hs, ei]) (leLim (by omega)) (fun x hx acc => ?_)) ?_
  · simp only [turnC, Ir.Ok_bind, Ir.Ok_map, Ir.Ok_some, Ir.Ok_none, Ir.evSs, Ir.evE.eq_1, Ir.evE.eq_2, Ir.evE.eq_3, Ir.evE.eq_4, Ir.evE.eq_5, Ir.evE.eq_6, Ir.evE.eq_7, Ir.evE.eq_8, Ir.evE.eq_9, Ir.evE.eq_10, Ir.evE.eq_11, Ir.evE.eq_12, Ir.evE.eq_13, Ir.evE.eq_14, Ir.evE.eq_15, Ir.evE.eq_16, Ir.evE.eq_17, Ir.evE.eq_19, Ir.evEs, Ir.evRs, Ir.evO, Ir.evOt, Ir.evT, Ir.evI, Ir.evS.eq_1, Ir.evS.eq_2, Ir.evS.eq_3, Ir.evS.eq_4, Ir.evS.eq_5, Ir.evS.eq_6, Ir.evS.eq_9, Ir.evS.eq_10, Ir.evS.eq_11, Ir.evS.eq_12, Ir.evS.eq_13, Ir.Ok_for, Ir.ev2, Ir.startE, Ir.bT_n, Ir.bT_t, Ir.bT_m, Ir.bTs_n, Ir.bTs_c, Ir.wipeE, Ir.mt0, Ir.mt1, Ir.mt2, Ir.mt3, Ir.mt4, Ir.ad0, Ir.ad1, Ir.ad2, Ir.ad3, Ir.arrU, Ir.fu, Ir.ft, Ir.gd, Ir.gRu, Ir.gRt, Ir.sq1, Ir.sq2, Ir.ls1, Ir.rt1, Ir.rt2, Ir.bopR_d, Ir.b_add, Ir.b_sub, Ir.c_lt, Ir.c_le, Ir.c_gt, Ir.c_ge, Ir.c_eqi, Ir.c_eqs, Ir.c_eqb, Ir.c_nei, Ir.c_nes, Ir.c_neb, Ir.c_is, Ir.c_isn, Ir.n1, Ir.n2, Ir.n3, Ir.n4, Ir.n5, Ir.n6, Ir.d_lt, Ir.d_le, Ir.d_gt, Ir.d_ge, Ir.x_tup, Ir.x_tmp, Ir.x_mix, Ir.x_ref, Ir.a0, Ir.a1, Ir.a2, Ir.i30, Ir.i32, Ir.f_len, Ir.l_tup, Ir.l_tmp, Ir.l_mix, Ir.l_ref, Ir.f_int, Ir.f_intb, Ir.f_abs, Ir.f_max, Ir.f_min, Ir.f_tup, Ir.f_list, Ir.f_all, Ir.f_any, Ir.f_isin, Ir.t_int, Ir.t_str, Ir.t_bl, Ir.t_non, Ir.t_tup, Ir.t_mix, Ir.is_ii, Ir.is_ib, Ir.is_tt, Ir.is_it, Ir.is_ss, Ir.p_j, Ir.p_s, Ir.p_p, Ir.tr_b, Ir.s_tmp, Ir.s_tup, Ir.s_str, Ir.boolsD, Ir.strsD, Ir.sqr, Ir.lsr, Ir.ob1, Ir.ob2, Ir.blU, List.map_cons, List.map_nil, List.length_cons, List.length_nil, List.replicate, List.cons_append, List.nil_append, List.append_nil, List.getElem?_cons_zero, List.getElem?_cons_succ, List.getElem?_nil, List.set_cons_zero, List.set_cons_succ, List.set_nil, Option.bind_some, Option.map_some, Option.map_none, Option.bind_none, if_true, if_false, ite_true, ite_false, reduceIte, Bool.not_true, Bool.not_false, List.take_succ_cons, List.take_length, List.take_zero, Nat.add_sub_cancel, Nat.sub_self, Nat.reduceSub, Nat.reduceAdd, reduceCtorEq, Bool.false_eq_true, decide_true, decide_false, List.all_cons, List.any_cons, List.all_nil, List.any_nil, id_eq, Bool.true_and, Bool.and_true, Bool.false_or, Bool.or_false, Ir.zc0, Ir.zc1, Ir.zc2, Ir.zc3, eq_self, Ir.bools_const, Ir.all_const, Ir.any_const, state_in_eq (h.2 x hx) ho hz hl]
  · simp -implicitDefEqProofs only [Ir.Ok_bind, Ir.Ok_map, Ir.Ok_some, Ir.Ok_none, Ir.evSs, Ir.evE.eq_1, Ir.evE.eq_2, Ir.evE.eq_3, Ir.evE.eq_4, Ir.evE.eq_5, Ir.evE.eq_6, Ir.evE.eq_7, Ir.evE.eq_8, Ir.evE.eq_9, Ir.evE.eq_10, Ir.evE.eq_11, Ir.evE.eq_12, Ir.evE.eq_13, Ir.evE.eq_14, Ir.evE.eq_15, Ir.evE.eq_16, Ir.evE.eq_17, Ir.evE.eq_19, Ir.evEs, Ir.evRs, Ir.evO, Ir.evOt, Ir.evT, Ir.evI, Ir.evS.eq_1, Ir.evS.eq_2, Ir.evS.eq_3, Ir.evS.eq_4, Ir.evS.eq_5, Ir.evS.eq_6, Ir.evS.eq_9, Ir.evS.eq_10, Ir.evS.eq_11, Ir.evS.eq_12, Ir.evS.eq_13, Ir.Ok_for, Ir.ev2, Ir.startE, Ir.bT_n, Ir.bT_t, Ir.bT_m, Ir.bTs_n, Ir.bTs_c, Ir.wipeE, Ir.mt0, Ir.mt1, Ir.mt2, Ir.mt3, Ir.mt4, Ir.ad0, Ir.ad1, Ir.ad2, Ir.ad3, Ir.arrU, Ir.fu, Ir.ft, Ir.gd, Ir.gRu, Ir.gRt, Ir.sq1, Ir.sq2, Ir.ls1, Ir.rt1, Ir.rt2, Ir.bopR_d, Ir.b_add, Ir.b_sub, Ir.c_lt, Ir.c_le, Ir.c_gt, Ir.c_ge, Ir.c_eqi, Ir.c_eqs, Ir.c_eqb, Ir.c_nei, Ir.c_nes, Ir.c_neb, Ir.c_is, Ir.c_isn, Ir.n1, Ir.n2, Ir.n3, Ir.n4, Ir.n5, Ir.n6, Ir.d_lt, Ir.d_le, Ir.d_gt, Ir.d_ge, Ir.x_tup, Ir.x_tmp, Ir.x_mix, Ir.x_ref, Ir.a0, Ir.a1, Ir.a2, Ir.i30, Ir.i32, Ir.f_len, Ir.l_tup, Ir.l_tmp, Ir.l_mix, Ir.l_ref, Ir.f_int, Ir.f_intb, Ir.f_abs, Ir.f_max, Ir.f_min, Ir.f_tup, Ir.f_list, Ir.f_all, Ir.f_any, Ir.f_isin, Ir.t_int, Ir.t_str, Ir.t_bl, Ir.t_non, Ir.t_tup, Ir.t_mix, Ir.is_ii, Ir.is_ib, Ir.is_tt, Ir.is_it, Ir.is_ss, Ir.p_j, Ir.p_s, Ir.p_p, Ir.tr_b, Ir.s_tmp, Ir.s_tup, Ir.s_str, Ir.boolsD, Ir.strsD, Ir.sqr, Ir.lsr, Ir.ob1, Ir.ob2, Ir.blU, List.map_cons, List.map_nil, List.length_cons, List.length_nil, List.replicate, List.cons_append, List.nil_append, List.append_nil, List.getElem?_cons_zero, List.getElem?_cons_succ, List.getElem?_nil, List.set_cons_zero, List.set_cons_succ, List.set_nil, Option.bind_some, Option.map_some, Option.map_none, Option.bind_none, if_true, if_false, ite_true, ite_false, reduceIte, Bool.not_true, Bool.not_false, List.take_succ_cons, List.take_length, List.take_zero, Nat.add_sub_cancel, Nat.sub_self, Nat.reduceSub, Nat.reduceAdd, reduceCtorEq, Bool.false_eq_true, decide_true, decide_false, List.all_cons, List.any_cons, List.all_nil, List.any_nil, id_eq, Bool.true_and, Bool.and_true, Bool.false_or, Bool.or_false, Ir.zc0, Ir.zc1, Ir.zc2, Ir.zc3, eq_self, Ir.bools_const, Ir.all_const, Ir.any_const, none_inM, machD]
theorem machine_in_eq {k rows cols : Nat} {own others : Nat} {t u : List (List Int)} {S : Store} {i : Int} {m : List (Int × List Int)} (ht : TabOk rows cols t) (h1 : 1 ≤ rows) (hs : (i = 0 ∧ own = rows ∧ others = cols) ∨ (i = 1 ∧ own = cols ∧ others = rows)) (hm : MOk own others m) (ho : own ≤ 5) (hz : 1 ≤ others ∧ others ≤ 5) :
    run pd.fds (k + 6) 17 [.d (.tup [tabD t, tabD u]), .d (.int i), .d (.str (showM m))] S = some (.d (machD m), S) := by
  refine run_eq ⟨3, 4, ir_machine_in⟩ rfl rfl ?_
  have a := is_a_machine_eq (k := k) (S := S) (u := u) ht h1 hs hm (by omega)
  have e : isNonR (.u (.d (machD m))) = false := rfl
  simp -implicitDefEqProofs only [Ir.Ok_bind, Ir.Ok_map, Ir.Ok_some, Ir.Ok_none, Ir.evSs, Ir.evE.eq_1, Ir.evE.eq_2, Ir.evE.eq_3, Ir.evE.eq_4, Ir.evE.eq_5, Ir.evE.eq_6, Ir.evE.eq_7, Ir.evE.eq_8, Ir.evE.eq_9, Ir.evE.eq_10, Ir.evE.eq_11, Ir.evE.eq_12, Ir.evE.eq_13, Ir.evE.eq_14, Ir.evE.eq_15, Ir.evE.eq_16, Ir.evE.eq_17, Ir.evE.eq_19, Ir.evEs, Ir.evRs, Ir.evO, Ir.evOt, Ir.evT, Ir.evI, Ir.evS.eq_1, Ir.evS.eq_2, Ir.evS.eq_3, Ir.evS.eq_4, Ir.evS.eq_5, Ir.evS.eq_6, Ir.evS.eq_9, Ir.evS.eq_10, Ir.evS.eq_11, Ir.evS.eq_12, Ir.evS.eq_13, Ir.Ok_for, Ir.ev2, Ir.startE, Ir.bT_n, Ir.bT_t, Ir.bT_m, Ir.bTs_n, Ir.bTs_c, Ir.wipeE, Ir.mt0, Ir.mt1, Ir.mt2, Ir.mt3, Ir.mt4, Ir.ad0, Ir.ad1, Ir.ad2, Ir.ad3, Ir.arrU, Ir.fu, Ir.ft, Ir.gd, Ir.gRu, Ir.gRt, Ir.sq1, Ir.sq2, Ir.ls1, Ir.rt1, Ir.rt2, Ir.bopR_d, Ir.b_add, Ir.b_sub, Ir.c_lt, Ir.c_le, Ir.c_gt, Ir.c_ge, Ir.c_eqi, Ir.c_eqs, Ir.c_eqb, Ir.c_nei, Ir.c_nes, Ir.c_neb, Ir.c_is, Ir.c_isn, Ir.n1, Ir.n2, Ir.n3, Ir.n4, Ir.n5, Ir.n6, Ir.d_lt, Ir.d_le, Ir.d_gt, Ir.d_ge, Ir.x_tup, Ir.x_tmp, Ir.x_mix, Ir.x_ref, Ir.a0, Ir.a1, Ir.a2, Ir.i30, Ir.i32, Ir.f_len, Ir.l_tup, Ir.l_tmp, Ir.l_mix, Ir.l_ref, Ir.f_int, Ir.f_intb, Ir.f_abs, Ir.f_max, Ir.f_min, Ir.f_tup, Ir.f_list, Ir.f_all, Ir.f_any, Ir.f_isin, Ir.t_int, Ir.t_str, Ir.t_bl, Ir.t_non, Ir.t_tup, Ir.t_mix, Ir.is_ii, Ir.is_ib, Ir.is_tt, Ir.is_it, Ir.is_ss, Ir.p_j, Ir.p_s, Ir.p_p, Ir.tr_b, Ir.s_tmp, Ir.s_tup, Ir.s_str, Ir.boolsD, Ir.strsD, Ir.sqr, Ir.lsr, Ir.ob1, Ir.ob2, Ir.blU, List.map_cons, List.map_nil, List.length_cons, List.length_nil, List.replicate, List.cons_append, List.nil_append, List.append_nil, List.getElem?_cons_zero, List.getElem?_cons_succ, List.getElem?_nil, List.set_cons_zero, List.set_cons_succ, List.set_nil, Option.bind_some, Option.map_some, Option.map_none, Option.bind_none, if_true, if_false, ite_true, ite_false, reduceIte, Bool.not_true, Bool.not_false, List.take_succ_cons, List.take_length, List.take_zero, Nat.add_sub_cancel, Nat.sub_self, Nat.reduceSub, Nat.reduceAdd, reduceCtorEq, Bool.false_eq_true, decide_true, decide_false, List.all_cons, List.any_cons, List.all_nil, List.any_nil, id_eq, Bool.true_and, Bool.and_true, Bool.false_or, Bool.or_false, Ir.zc0, Ir.zc1, Ir.zc2, Ir.zc3, eq_self, Ir.bools_const, Ir.all_const, Ir.any_const, ir_machine_in, states_in_eq hm ho hz, e, a]
theorem read_machine_eq {k rows cols : Nat} {own others : Nat} {t u : List (List Int)} {S : Store} {i : Int} {m : List (Int × List Int)} (ht : TabOk rows cols t) (hu : TabOk rows cols u) (h1 : 1 ≤ rows ∧ rows ≤ 5) (h2 : 1 ≤ cols ∧ cols ≤ 5)
    (hs : (i = 0 ∧ own = rows ∧ others = cols) ∨ (i = 1 ∧ own = cols ∧ others = rows)) (hm : MOk own others m) :
    run pd.fds (k + 8) 18 [.d (.tup [tabD t, tabD u]), .d (.int i), .d (.str (showM m))] S = some (.d (machD m), S) := by
  refine run_eq ⟨3, 4, ir_read_machine⟩ rfl rfl ?_
  have b : own ≤ 5 ∧ 1 ≤ others ∧ others ≤ 5 := by
    rcases hs with ⟨rfl, rfl, rfl⟩ | ⟨rfl, rfl, rfl⟩ <;> omega
  have a := machine_in_eq (k := k + 1) (S := S) (u := u) ht h1.1 hs hm b.1 b.2
  have e : isNonR (.u (.d (machD m))) = false := rfl
  simp -implicitDefEqProofs only [Ir.Ok_bind, Ir.Ok_map, Ir.Ok_some, Ir.Ok_none, Ir.evSs, Ir.evE.eq_1, Ir.evE.eq_2, Ir.evE.eq_3, Ir.evE.eq_4, Ir.evE.eq_5, Ir.evE.eq_6, Ir.evE.eq_7, Ir.evE.eq_8, Ir.evE.eq_9, Ir.evE.eq_10, Ir.evE.eq_11, Ir.evE.eq_12, Ir.evE.eq_13, Ir.evE.eq_14, Ir.evE.eq_15, Ir.evE.eq_16, Ir.evE.eq_17, Ir.evE.eq_19, Ir.evEs, Ir.evRs, Ir.evO, Ir.evOt, Ir.evT, Ir.evI, Ir.evS.eq_1, Ir.evS.eq_2, Ir.evS.eq_3, Ir.evS.eq_4, Ir.evS.eq_5, Ir.evS.eq_6, Ir.evS.eq_9, Ir.evS.eq_10, Ir.evS.eq_11, Ir.evS.eq_12, Ir.evS.eq_13, Ir.Ok_for, Ir.ev2, Ir.startE, Ir.bT_n, Ir.bT_t, Ir.bT_m, Ir.bTs_n, Ir.bTs_c, Ir.wipeE, Ir.mt0, Ir.mt1, Ir.mt2, Ir.mt3, Ir.mt4, Ir.ad0, Ir.ad1, Ir.ad2, Ir.ad3, Ir.arrU, Ir.fu, Ir.ft, Ir.gd, Ir.gRu, Ir.gRt, Ir.sq1, Ir.sq2, Ir.ls1, Ir.rt1, Ir.rt2, Ir.bopR_d, Ir.b_add, Ir.b_sub, Ir.c_lt, Ir.c_le, Ir.c_gt, Ir.c_ge, Ir.c_eqi, Ir.c_eqs, Ir.c_eqb, Ir.c_nei, Ir.c_nes, Ir.c_neb, Ir.c_is, Ir.c_isn, Ir.n1, Ir.n2, Ir.n3, Ir.n4, Ir.n5, Ir.n6, Ir.d_lt, Ir.d_le, Ir.d_gt, Ir.d_ge, Ir.x_tup, Ir.x_tmp, Ir.x_mix, Ir.x_ref, Ir.a0, Ir.a1, Ir.a2, Ir.i30, Ir.i32, Ir.f_len, Ir.l_tup, Ir.l_tmp, Ir.l_mix, Ir.l_ref, Ir.f_int, Ir.f_intb, Ir.f_abs, Ir.f_max, Ir.f_min, Ir.f_tup, Ir.f_list, Ir.f_all, Ir.f_any, Ir.f_isin, Ir.t_int, Ir.t_str, Ir.t_bl, Ir.t_non, Ir.t_tup, Ir.t_mix, Ir.is_ii, Ir.is_ib, Ir.is_tt, Ir.is_it, Ir.is_ss, Ir.p_j, Ir.p_s, Ir.p_p, Ir.tr_b, Ir.s_tmp, Ir.s_tup, Ir.s_str, Ir.boolsD, Ir.strsD, Ir.sqr, Ir.lsr, Ir.ob1, Ir.ob2, Ir.blU, List.map_cons, List.map_nil, List.length_cons, List.length_nil, List.replicate, List.cons_append, List.nil_append, List.append_nil, List.getElem?_cons_zero, List.getElem?_cons_succ, List.getElem?_nil, List.set_cons_zero, List.set_cons_succ, List.set_nil, Option.bind_some, Option.map_some, Option.map_none, Option.bind_none, if_true, if_false, ite_true, ite_false, reduceIte, Bool.not_true, Bool.not_false, List.take_succ_cons, List.take_length, List.take_zero, Nat.add_sub_cancel, Nat.sub_self, Nat.reduceSub, Nat.reduceAdd, reduceCtorEq, Bool.false_eq_true, decide_true, decide_false, List.all_cons, List.any_cons, List.all_nil, List.any_nil, id_eq, Bool.true_and, Bool.and_true, Bool.false_or, Bool.or_false, Ir.zc0, Ir.zc1, Ir.zc2, Ir.zc3, eq_self, Ir.bools_const, Ir.all_const, Ir.any_const, ir_read_machine, need_game_eq ht hu h1 h2, need_side_eq (i := i) (show i = 0 ∨ i = 1 by rcases hs with ⟨h, _⟩ | ⟨h, _⟩ <;> omega), a, e]
end G85

set_option Elab.async false
set_option linter.all false
set_option maxRecDepth 100000
set_option autoImplicit false
/-! P85g: the law's own looks. -/
namespace G85
open PySem L2 Ir
theorem rng_mem {n : Nat} {x : D} (h : x ∈ rngD 0 n) : ∃ j : Nat, x = .int j ∧ j < n := by
  obtain ⟨j, hj⟩ := List.getElem?_of_mem h
  obtain ⟨e, l⟩ := gE hj
  exact ⟨j, e, l⟩
theorem same_int {k : Nat} {v : Int} {S : Store} : run pd.fds (k + 1) 29 [.d (.int v), .d (.int v)] S = some (.d (.bl true), S) := by
  refine run_eq ⟨2, 3, ir__law_same⟩ rfl rfl ?_
  simp -implicitDefEqProofs only [Ir.Ok_bind, Ir.Ok_map, Ir.Ok_some, Ir.Ok_none, Ir.evSs, Ir.evE.eq_1, Ir.evE.eq_2, Ir.evE.eq_3, Ir.evE.eq_4, Ir.evE.eq_5, Ir.evE.eq_6, Ir.evE.eq_7, Ir.evE.eq_8, Ir.evE.eq_9, Ir.evE.eq_10, Ir.evE.eq_11, Ir.evE.eq_12, Ir.evE.eq_13, Ir.evE.eq_14, Ir.evE.eq_15, Ir.evE.eq_16, Ir.evE.eq_17, Ir.evE.eq_19, Ir.evEs, Ir.evRs, Ir.evO, Ir.evOt, Ir.evT, Ir.evI, Ir.evS.eq_1, Ir.evS.eq_2, Ir.evS.eq_3, Ir.evS.eq_4, Ir.evS.eq_5, Ir.evS.eq_6, Ir.evS.eq_9, Ir.evS.eq_10, Ir.evS.eq_11, Ir.evS.eq_12, Ir.evS.eq_13, Ir.Ok_for, Ir.ev2, Ir.startE, Ir.bT_n, Ir.bT_t, Ir.bT_m, Ir.bTs_n, Ir.bTs_c, Ir.wipeE, Ir.mt0, Ir.mt1, Ir.mt2, Ir.mt3, Ir.mt4, Ir.ad0, Ir.ad1, Ir.ad2, Ir.ad3, Ir.arrU, Ir.fu, Ir.ft, Ir.gd, Ir.gRu, Ir.gRt, Ir.sq1, Ir.sq2, Ir.ls1, Ir.rt1, Ir.rt2, Ir.bopR_d, Ir.b_add, Ir.b_sub, Ir.c_lt, Ir.c_le, Ir.c_gt, Ir.c_ge, Ir.c_eqi, Ir.c_eqs, Ir.c_eqb, Ir.c_nei, Ir.c_nes, Ir.c_neb, Ir.c_is, Ir.c_isn, Ir.n1, Ir.n2, Ir.n3, Ir.n4, Ir.n5, Ir.n6, Ir.d_lt, Ir.d_le, Ir.d_gt, Ir.d_ge, Ir.x_tup, Ir.x_tmp, Ir.x_mix, Ir.x_ref, Ir.a0, Ir.a1, Ir.a2, Ir.i30, Ir.i32, Ir.f_len, Ir.l_tup, Ir.l_tmp, Ir.l_mix, Ir.l_ref, Ir.f_int, Ir.f_intb, Ir.f_abs, Ir.f_max, Ir.f_min, Ir.f_tup, Ir.f_list, Ir.f_all, Ir.f_any, Ir.f_isin, Ir.t_int, Ir.t_str, Ir.t_bl, Ir.t_non, Ir.t_tup, Ir.t_mix, Ir.is_ii, Ir.is_ib, Ir.is_tt, Ir.is_it, Ir.is_ss, Ir.p_j, Ir.p_s, Ir.p_p, Ir.tr_b, Ir.s_tmp, Ir.s_tup, Ir.s_str, Ir.boolsD, Ir.strsD, Ir.sqr, Ir.lsr, Ir.ob1, Ir.ob2, Ir.blU, List.map_cons, List.map_nil, List.length_cons, List.length_nil, List.replicate, List.cons_append, List.nil_append, List.append_nil, List.getElem?_cons_zero, List.getElem?_cons_succ, List.getElem?_nil, List.set_cons_zero, List.set_cons_succ, List.set_nil, Option.bind_some, Option.map_some, Option.map_none, Option.bind_none, if_true, if_false, ite_true, ite_false, reduceIte, Bool.not_true, Bool.not_false, List.take_succ_cons, List.take_length, List.take_zero, Nat.add_sub_cancel, Nat.sub_self, Nat.reduceSub, Nat.reduceAdd, reduceCtorEq, Bool.false_eq_true, decide_true, decide_false, List.all_cons, List.any_cons, List.all_nil, List.any_nil, id_eq, Bool.true_and, Bool.and_true, Bool.false_or, Bool.or_false, Ir.zc0, Ir.zc1, Ir.zc2, Ir.zc3, eq_self, Ir.bools_const, Ir.all_const, Ir.any_const, ir__law_same]
theorem same_tup {k : Nat} {xs : List D} {S : Store} (hl : xs.length ≤ 1000) (h : ∀ x ∈ xs, ∀ S, run pd.fds k 29 [.d x, .d x] S = some (.d (.bl true), S)) : run pd.fds (k + 1) 29 [.d (.tup xs), .d (.tup xs)] S = some (.d (.bl true), S) := by
  refine run_eq ⟨2, 3, ir__law_same⟩ rfl rfl ?_
  have e1 : decide ((xs.length : Int) = xs.length) = true := decide_eq_true rfl
  simp -implicitDefEqProofs only [Ir.Ok_bind, Ir.Ok_map, Ir.Ok_some, Ir.Ok_none, Ir.evSs, Ir.evE.eq_1, Ir.evE.eq_2, Ir.evE.eq_3, Ir.evE.eq_4, Ir.evE.eq_5, Ir.evE.eq_6, Ir.evE.eq_7, Ir.evE.eq_8, Ir.evE.eq_9, Ir.evE.eq_10, Ir.evE.eq_11, Ir.evE.eq_12, Ir.evE.eq_13, Ir.evE.eq_14, Ir.evE.eq_15, Ir.evE.eq_16, Ir.evE.eq_17, Ir.evE.eq_19, Ir.evEs, Ir.evRs, Ir.evO, Ir.evOt, Ir.evT, Ir.evI, Ir.evS.eq_1, Ir.evS.eq_2, Ir.evS.eq_3, Ir.evS.eq_4, Ir.evS.eq_5, Ir.evS.eq_6, Ir.evS.eq_9, Ir.evS.eq_10, Ir.evS.eq_11, Ir.evS.eq_12, Ir.evS.eq_13, Ir.Ok_for, Ir.ev2, Ir.startE, Ir.bT_n, Ir.bT_t, Ir.bT_m, Ir.bTs_n, Ir.bTs_c, Ir.wipeE, Ir.mt0, Ir.mt1, Ir.mt2, Ir.mt3, Ir.mt4, Ir.ad0, Ir.ad1, Ir.ad2, Ir.ad3, Ir.arrU, Ir.fu, Ir.ft, Ir.gd, Ir.gRu, Ir.gRt, Ir.sq1, Ir.sq2, Ir.ls1, Ir.rt1, Ir.rt2, Ir.bopR_d, Ir.b_add, Ir.b_sub, Ir.c_lt, Ir.c_le, Ir.c_gt, Ir.c_ge, Ir.c_eqi, Ir.c_eqs, Ir.c_eqb, Ir.c_nei, Ir.c_nes, Ir.c_neb, Ir.c_is, Ir.c_isn, Ir.n1, Ir.n2, Ir.n3, Ir.n4, Ir.n5, Ir.n6, Ir.d_lt, Ir.d_le, Ir.d_gt, Ir.d_ge, Ir.x_tup, Ir.x_tmp, Ir.x_mix, Ir.x_ref, Ir.a0, Ir.a1, Ir.a2, Ir.i30, Ir.i32, Ir.f_len, Ir.l_tup, Ir.l_tmp, Ir.l_mix, Ir.l_ref, Ir.f_int, Ir.f_intb, Ir.f_abs, Ir.f_max, Ir.f_min, Ir.f_tup, Ir.f_list, Ir.f_all, Ir.f_any, Ir.f_isin, Ir.t_int, Ir.t_str, Ir.t_bl, Ir.t_non, Ir.t_tup, Ir.t_mix, Ir.is_ii, Ir.is_ib, Ir.is_tt, Ir.is_it, Ir.is_ss, Ir.p_j, Ir.p_s, Ir.p_p, Ir.tr_b, Ir.s_tmp, Ir.s_tup, Ir.s_str, Ir.boolsD, Ir.strsD, Ir.sqr, Ir.lsr, Ir.ob1, Ir.ob2, Ir.blU, List.map_cons, List.map_nil, List.length_cons, List.length_nil, List.replicate, List.cons_append, List.nil_append, List.append_nil, List.getElem?_cons_zero, List.getElem?_cons_succ, List.getElem?_nil, List.set_cons_zero, List.set_cons_succ, List.set_nil, Option.bind_some, Option.map_some, Option.map_none, Option.bind_none, if_true, if_false, ite_true, ite_false, reduceIte, Bool.not_true, Bool.not_false, List.take_succ_cons, List.take_length, List.take_zero, Nat.add_sub_cancel, Nat.sub_self, Nat.reduceSub, Nat.reduceAdd, reduceCtorEq, Bool.false_eq_true, decide_true, decide_false, List.all_cons, List.any_cons, List.all_nil, List.any_nil, id_eq, Bool.true_and, Bool.and_true, Bool.false_or, Bool.or_false, Ir.zc0, Ir.zc1, Ir.zc2, Ir.zc3, eq_self, Ir.bools_const, Ir.all_const, Ir.any_const, ir__law_same]
  refine Ok.of (comp_tup (fun _ => .bl true) (xs := rngD 0 xs.length) (evI_rng (j := (xs.length : Int)) (by simp -implicitDefEqProofs only [Ir.Ok_bind, Ir.Ok_map, Ir.Ok_some, Ir.Ok_none, Ir.evSs, Ir.evE.eq_1, Ir.evE.eq_2, Ir.evE.eq_3, Ir.evE.eq_4, Ir.evE.eq_5, Ir.evE.eq_6, Ir.evE.eq_7, Ir.evE.eq_8, Ir.evE.eq_9, Ir.evE.eq_10, Ir.evE.eq_11, Ir.evE.eq_12, Ir.evE.eq_13, Ir.evE.eq_14, Ir.evE.eq_15, Ir.evE.eq_16, Ir.evE.eq_17, Ir.evE.eq_19, Ir.evEs, Ir.evRs, Ir.evO, Ir.evOt, Ir.evT, Ir.evI, Ir.evS.eq_1, Ir.evS.eq_2, Ir.evS.eq_3, Ir.evS.eq_4, Ir.evS.eq_5, Ir.evS.eq_6, Ir.evS.eq_9, Ir.evS.eq_10, Ir.evS.eq_11, Ir.evS.eq_12, Ir.evS.eq_13, Ir.Ok_for, Ir.ev2, Ir.startE, Ir.bT_n, Ir.bT_t, Ir.bT_m, Ir.bTs_n, Ir.bTs_c, Ir.wipeE, Ir.mt0, Ir.mt1, Ir.mt2, Ir.mt3, Ir.mt4, Ir.ad0, Ir.ad1, Ir.ad2, Ir.ad3, Ir.arrU, Ir.fu, Ir.ft, Ir.gd, Ir.gRu, Ir.gRt, Ir.sq1, Ir.sq2, Ir.ls1, Ir.rt1, Ir.rt2, Ir.bopR_d, Ir.b_add, Ir.b_sub, Ir.c_lt, Ir.c_le, Ir.c_gt, Ir.c_ge, Ir.c_eqi, Ir.c_eqs, Ir.c_eqb, Ir.c_nei, Ir.c_nes, Ir.c_neb, Ir.c_is, Ir.c_isn, Ir.n1, Ir.n2, Ir.n3, Ir.n4, Ir.n5, Ir.n6, Ir.d_lt, Ir.d_le, Ir.d_gt, Ir.d_ge, Ir.x_tup, Ir.x_tmp, Ir.x_mix, Ir.x_ref, Ir.a0, Ir.a1, Ir.a2, Ir.i30, Ir.i32, Ir.f_len, Ir.l_tup, Ir.l_tmp, Ir.l_mix, Ir.l_ref, Ir.f_int, Ir.f_intb, Ir.f_abs, Ir.f_max, Ir.f_min, Ir.f_tup, Ir.f_list, Ir.f_all, Ir.f_any, Ir.f_isin, Ir.t_int, Ir.t_str, Ir.t_bl, Ir.t_non, Ir.t_tup, Ir.t_mix, Ir.is_ii, Ir.is_ib, Ir.is_tt, Ir.is_it, Ir.is_ss, Ir.p_j, Ir.p_s, Ir.p_p, Ir.tr_b, Ir.s_tmp, Ir.s_tup, Ir.s_str, Ir.boolsD, Ir.strsD, Ir.sqr, Ir.lsr, Ir.ob1, Ir.ob2, Ir.blU, List.map_cons, List.map_nil, List.length_cons, List.length_nil, List.replicate, List.cons_append, List.nil_append, List.append_nil, List.getElem?_cons_zero, List.getElem?_cons_succ, List.getElem?_nil, List.set_cons_zero, List.set_cons_succ, List.set_nil, Option.bind_some, Option.map_some, Option.map_none, Option.bind_none, if_true, if_false, ite_true, ite_false, reduceIte, Bool.not_true, Bool.not_false, List.take_succ_cons, List.take_length, List.take_zero, Nat.add_sub_cancel, Nat.sub_self, Nat.reduceSub, Nat.reduceAdd, reduceCtorEq, Bool.false_eq_true, decide_true, decide_false, List.all_cons, List.any_cons, List.all_nil, List.any_nil, id_eq, Bool.true_and, Bool.and_true, Bool.false_or, Bool.or_false, Ir.zc0, Ir.zc1, Ir.zc2, Ir.zc3, eq_self, Ir.bools_const, Ir.all_const, Ir.any_const]) (by omega) (by omega)) (leLim (by rw [se]; omega)) (fun x hx acc => ?_)) ?_
  · obtain ⟨j, rfl, hj⟩ := rng_mem hx
    have e2 : atI xs (j : Int) = some xs[j] := an (by omega) (by rw [Int.toNat_natCast]; exact List.getElem?_eq_getElem hj)
    simp only [turnC, Ir.Ok_bind, Ir.Ok_map, Ir.Ok_some, Ir.Ok_none, Ir.evSs, Ir.evE.eq_1, Ir.evE.eq_2, Ir.evE.eq_3, Ir.evE.eq_4, Ir.evE.eq_5, Ir.evE.eq_6, Ir.evE.eq_7, Ir.evE.eq_8, Ir.evE.eq_9, Ir.evE.eq_10, Ir.evE.eq_11, Ir.evE.eq_12, Ir.evE.eq_13, Ir.evE.eq_14, Ir.evE.eq_15, Ir.evE.eq_16, Ir.evE.eq_17, Ir.evE.eq_19, Ir.evEs, Ir.evRs, Ir.evO, Ir.evOt, Ir.evT, Ir.evI, Ir.evS.eq_1, Ir.evS.eq_2, Ir.evS.eq_3, Ir.evS.eq_4, Ir.evS.eq_5, Ir.evS.eq_6, Ir.evS.eq_9, Ir.evS.eq_10, Ir.evS.eq_11, Ir.evS.eq_12, Ir.evS.eq_13, Ir.Ok_for, Ir.ev2, Ir.startE, Ir.bT_n, Ir.bT_t, Ir.bT_m, Ir.bTs_n, Ir.bTs_c, Ir.wipeE, Ir.mt0, Ir.mt1, Ir.mt2, Ir.mt3, Ir.mt4, Ir.ad0, Ir.ad1, Ir.ad2, Ir.ad3, Ir.arrU, Ir.fu, Ir.ft, Ir.gd, Ir.gRu, Ir.gRt, Ir.sq1, Ir.sq2, Ir.ls1, Ir.rt1, Ir.rt2, Ir.bopR_d, Ir.b_add, Ir.b_sub, Ir.c_lt, Ir.c_le, Ir.c_gt, Ir.c_ge, Ir.c_eqi, Ir.c_eqs, Ir.c_eqb, Ir.c_nei, Ir.c_nes, Ir.c_neb, Ir.c_is, Ir.c_isn, Ir.n1, Ir.n2, Ir.n3, Ir.n4, Ir.n5, Ir.n6, Ir.d_lt, Ir.d_le, Ir.d_gt, Ir.d_ge, Ir.x_tup, Ir.x_tmp, Ir.x_mix, Ir.x_ref, Ir.a0, Ir.a1, Ir.a2, Ir.i30, Ir.i32, Ir.f_len, Ir.l_tup, Ir.l_tmp, Ir.l_mix, Ir.l_ref, Ir.f_int, Ir.f_intb, Ir.f_abs, Ir.f_max, Ir.f_min, Ir.f_tup, Ir.f_list, Ir.f_all, Ir.f_any, Ir.f_isin, Ir.t_int, Ir.t_str, Ir.t_bl, Ir.t_non, Ir.t_tup, Ir.t_mix, Ir.is_ii, Ir.is_ib, Ir.is_tt, Ir.is_it, Ir.is_ss, Ir.p_j, Ir.p_s, Ir.p_p, Ir.tr_b, Ir.s_tmp, Ir.s_tup, Ir.s_str, Ir.boolsD, Ir.strsD, Ir.sqr, Ir.lsr, Ir.ob1, Ir.ob2, Ir.blU, List.map_cons, List.map_nil, List.length_cons, List.length_nil, List.replicate, List.cons_append, List.nil_append, List.append_nil, List.getElem?_cons_zero, List.getElem?_cons_succ, List.getElem?_nil, List.set_cons_zero, List.set_cons_succ, List.set_nil, Option.bind_some, Option.map_some, Option.map_none, Option.bind_none, if_true, if_false, ite_true, ite_false, reduceIte, Bool.not_true, Bool.not_false, List.take_succ_cons, List.take_length, List.take_zero, Nat.add_sub_cancel, Nat.sub_self, Nat.reduceSub, Nat.reduceAdd, reduceCtorEq, Bool.false_eq_true, decide_true, decide_false, List.all_cons, List.any_cons, List.all_nil, List.any_nil, id_eq, Bool.true_and, Bool.and_true, Bool.false_or, Bool.or_false, Ir.zc0, Ir.zc1, Ir.zc2, Ir.zc3, eq_self, Ir.bools_const, Ir.all_const, Ir.any_const, e2, h xs[j] (List.getElem_mem hj)]
  · simp -implicitDefEqProofs only [Ir.Ok_bind, Ir.Ok_map, Ir.Ok_some, Ir.Ok_none, Ir.evSs, Ir.evE.eq_1, Ir.evE.eq_2, Ir.evE.eq_3, Ir.evE.eq_4, Ir.evE.eq_5, Ir.evE.eq_6, Ir.evE.eq_7, Ir.evE.eq_8, Ir.evE.eq_9, Ir.evE.eq_10, Ir.evE.eq_11, Ir.evE.eq_12, Ir.evE.eq_13, Ir.evE.eq_14, Ir.evE.eq_15, Ir.evE.eq_16, Ir.evE.eq_17, Ir.evE.eq_19, Ir.evEs, Ir.evRs, Ir.evO, Ir.evOt, Ir.evT, Ir.evI, Ir.evS.eq_1, Ir.evS.eq_2, Ir.evS.eq_3, Ir.evS.eq_4, Ir.evS.eq_5, Ir.evS.eq_6, Ir.evS.eq_9, Ir.evS.eq_10, Ir.evS.eq_11, Ir.evS.eq_12, Ir.evS.eq_13, Ir.Ok_for, Ir.ev2, Ir.startE, Ir.bT_n, Ir.bT_t, Ir.bT_m, Ir.bTs_n, Ir.bTs_c, Ir.wipeE, Ir.mt0, Ir.mt1, Ir.mt2, Ir.mt3, Ir.mt4, Ir.ad0, Ir.ad1, Ir.ad2, Ir.ad3, Ir.arrU, Ir.fu, Ir.ft, Ir.gd, Ir.gRu, Ir.gRt, Ir.sq1, Ir.sq2, Ir.ls1, Ir.rt1, Ir.rt2, Ir.bopR_d, Ir.b_add, Ir.b_sub, Ir.c_lt, Ir.c_le, Ir.c_gt, Ir.c_ge, Ir.c_eqi, Ir.c_eqs, Ir.c_eqb, Ir.c_nei, Ir.c_nes, Ir.c_neb, Ir.c_is, Ir.c_isn, Ir.n1, Ir.n2, Ir.n3, Ir.n4, Ir.n5, Ir.n6, Ir.d_lt, Ir.d_le, Ir.d_gt, Ir.d_ge, Ir.x_tup, Ir.x_tmp, Ir.x_mix, Ir.x_ref, Ir.a0, Ir.a1, Ir.a2, Ir.i30, Ir.i32, Ir.f_len, Ir.l_tup, Ir.l_tmp, Ir.l_mix, Ir.l_ref, Ir.f_int, Ir.f_intb, Ir.f_abs, Ir.f_max, Ir.f_min, Ir.f_tup, Ir.f_list, Ir.f_all, Ir.f_any, Ir.f_isin, Ir.t_int, Ir.t_str, Ir.t_bl, Ir.t_non, Ir.t_tup, Ir.t_mix, Ir.is_ii, Ir.is_ib, Ir.is_tt, Ir.is_it, Ir.is_ss, Ir.p_j, Ir.p_s, Ir.p_p, Ir.tr_b, Ir.s_tmp, Ir.s_tup, Ir.s_str, Ir.boolsD, Ir.strsD, Ir.sqr, Ir.lsr, Ir.ob1, Ir.ob2, Ir.blU, List.map_cons, List.map_nil, List.length_cons, List.length_nil, List.replicate, List.cons_append, List.nil_append, List.append_nil, List.getElem?_cons_zero, List.getElem?_cons_succ, List.getElem?_nil, List.set_cons_zero, List.set_cons_succ, List.set_nil, Option.bind_some, Option.map_some, Option.map_none, Option.bind_none, if_true, if_false, ite_true, ite_false, reduceIte, Bool.not_true, Bool.not_false, List.take_succ_cons, List.take_length, List.take_zero, Nat.add_sub_cancel, Nat.sub_self, Nat.reduceSub, Nat.reduceAdd, reduceCtorEq, Bool.false_eq_true, decide_true, decide_false, List.all_cons, List.any_cons, List.all_nil, List.any_nil, id_eq, Bool.true_and, Bool.and_true, Bool.false_or, Bool.or_false, Ir.zc0, Ir.zc1, Ir.zc2, Ir.zc3, eq_self, Ir.bools_const, Ir.all_const, Ir.any_const]
theorem same_st {k own others size : Nat} {s : Int × List Int} {S : Store} (h : StOk own others size s) (hl : others ≤ 1000) : run pd.fds (k + 3) 29 [.d (stD s), .d (stD s)] S = some (.d (.bl true), S) := by
  refine same_tup (by simp) fun x hx S => ?_
  simp only [List.mem_cons, List.not_mem_nil, or_false] at hx
  rcases hx with rfl | rfl
  · exact same_int (k := k + 1)
  · refine same_tup (by simp; have := h.2.1; omega) fun x hx S => ?_
    obtain ⟨v, hv, rfl⟩ := List.mem_map.mp hx
    exact same_int
theorem same_mach {k own others : Nat} {m : List (Int × List Int)} {S : Store} (h : MOk own others m) (hl : others ≤ 1000) : run pd.fds (k + 4) 29 [.d (machD m), .d (machD m)] S = some (.d (.bl true), S) := by
  refine same_tup (by simp; have := h.1.2; omega) fun x hx S => ?_
  obtain ⟨s, hs, rfl⟩ := List.mem_map.mp hx
  exact same_st (h.2 s hs) hl
theorem machine_right_eq {k rows cols : Nat} {own others : Nat} {t u : List (List Int)} {S : Store} {i w : Int} {m : List (Int × List Int)} (ht : TabOk rows cols t) (hu : TabOk rows cols u) (h1 : 1 ≤ rows ∧ rows ≤ 5) (h2 : 1 ≤ cols ∧ cols ≤ 5)
    (hs : (i = 0 ∧ own = rows ∧ others = cols) ∨ (i = 1 ∧ own = cols ∧ others = rows)) (hm : MOk own others m) :
    run pd.fds (k + 9) 30 [.d (.tup [tabD t, tabD u]), .d (.int i), .d (machD m), .d (.int w)] S = some (.d (.bl true), S) := by
  have b : own ≤ 5 ∧ 1 ≤ others ∧ others ≤ 5 := by
    rcases hs with ⟨rfl, rfl, rfl⟩ | ⟨rfl, rfl, rfl⟩ <;> omega
  refine run_eq ⟨4, 7, ir__law_machine_right⟩ rfl rfl ?_
  by_cases hw : w = 0
  · simp -implicitDefEqProofs only [Ir.Ok_bind, Ir.Ok_map, Ir.Ok_some, Ir.Ok_none, Ir.evSs, Ir.evE.eq_1, Ir.evE.eq_2, Ir.evE.eq_3, Ir.evE.eq_4, Ir.evE.eq_5, Ir.evE.eq_6, Ir.evE.eq_7, Ir.evE.eq_8, Ir.evE.eq_9, Ir.evE.eq_10, Ir.evE.eq_11, Ir.evE.eq_12, Ir.evE.eq_13, Ir.evE.eq_14, Ir.evE.eq_15, Ir.evE.eq_16, Ir.evE.eq_17, Ir.evE.eq_19, Ir.evEs, Ir.evRs, Ir.evO, Ir.evOt, Ir.evT, Ir.evI, Ir.evS.eq_1, Ir.evS.eq_2, Ir.evS.eq_3, Ir.evS.eq_4, Ir.evS.eq_5, Ir.evS.eq_6, Ir.evS.eq_9, Ir.evS.eq_10, Ir.evS.eq_11, Ir.evS.eq_12, Ir.evS.eq_13, Ir.Ok_for, Ir.ev2, Ir.startE, Ir.bT_n, Ir.bT_t, Ir.bT_m, Ir.bTs_n, Ir.bTs_c, Ir.wipeE, Ir.mt0, Ir.mt1, Ir.mt2, Ir.mt3, Ir.mt4, Ir.ad0, Ir.ad1, Ir.ad2, Ir.ad3, Ir.arrU, Ir.fu, Ir.ft, Ir.gd, Ir.gRu, Ir.gRt, Ir.sq1, Ir.sq2, Ir.ls1, Ir.rt1, Ir.rt2, Ir.bopR_d, Ir.b_add, Ir.b_sub, Ir.c_lt, Ir.c_le, Ir.c_gt, Ir.c_ge, Ir.c_eqi, Ir.c_eqs, Ir.c_eqb, Ir.c_nei, Ir.c_nes, Ir.c_neb, Ir.c_is, Ir.c_isn, Ir.n1, Ir.n2, Ir.n3, Ir.n4, Ir.n5, Ir.n6, Ir.d_lt, Ir.d_le, Ir.d_gt, Ir.d_ge, Ir.x_tup, Ir.x_tmp, Ir.x_mix, Ir.x_ref, Ir.a0, Ir.a1, Ir.a2, Ir.i30, Ir.i32, Ir.f_len, Ir.l_tup, Ir.l_tmp, Ir.l_mix, Ir.l_ref, Ir.f_int, Ir.f_intb, Ir.f_abs, Ir.f_max, Ir.f_min, Ir.f_tup, Ir.f_list, Ir.f_all, Ir.f_any, Ir.f_isin, Ir.t_int, Ir.t_str, Ir.t_bl, Ir.t_non, Ir.t_tup, Ir.t_mix, Ir.is_ii, Ir.is_ib, Ir.is_tt, Ir.is_it, Ir.is_ss, Ir.p_j, Ir.p_s, Ir.p_p, Ir.tr_b, Ir.s_tmp, Ir.s_tup, Ir.s_str, Ir.boolsD, Ir.strsD, Ir.sqr, Ir.lsr, Ir.ob1, Ir.ob2, Ir.blU, List.map_cons, List.map_nil, List.length_cons, List.length_nil, List.replicate, List.cons_append, List.nil_append, List.append_nil, List.getElem?_cons_zero, List.getElem?_cons_succ, List.getElem?_nil, List.set_cons_zero, List.set_cons_succ, List.set_nil, Option.bind_some, Option.map_some, Option.map_none, Option.bind_none, if_true, if_false, ite_true, ite_false, reduceIte, Bool.not_true, Bool.not_false, List.take_succ_cons, List.take_length, List.take_zero, Nat.add_sub_cancel, Nat.sub_self, Nat.reduceSub, Nat.reduceAdd, reduceCtorEq, Bool.false_eq_true, decide_true, decide_false, List.all_cons, List.any_cons, List.all_nil, List.any_nil, id_eq, Bool.true_and, Bool.and_true, Bool.false_or, Bool.or_false, Ir.zc0, Ir.zc1, Ir.zc2, Ir.zc3, eq_self, Ir.bools_const, Ir.all_const, Ir.any_const, ir__law_machine_right, hw, show_machine_eq hm b.1 b.2.2, law_text_eq hm b.1 b.2.2, read_machine_eq ht hu h1 h2 hs hm, same_mach hm (show others ≤ 1000 by omega)]
  · simp -implicitDefEqProofs only [Ir.Ok_bind, Ir.Ok_map, Ir.Ok_some, Ir.Ok_none, Ir.evSs, Ir.evE.eq_1, Ir.evE.eq_2, Ir.evE.eq_3, Ir.evE.eq_4, Ir.evE.eq_5, Ir.evE.eq_6, Ir.evE.eq_7, Ir.evE.eq_8, Ir.evE.eq_9, Ir.evE.eq_10, Ir.evE.eq_11, Ir.evE.eq_12, Ir.evE.eq_13, Ir.evE.eq_14, Ir.evE.eq_15, Ir.evE.eq_16, Ir.evE.eq_17, Ir.evE.eq_19, Ir.evEs, Ir.evRs, Ir.evO, Ir.evOt, Ir.evT, Ir.evI, Ir.evS.eq_1, Ir.evS.eq_2, Ir.evS.eq_3, Ir.evS.eq_4, Ir.evS.eq_5, Ir.evS.eq_6, Ir.evS.eq_9, Ir.evS.eq_10, Ir.evS.eq_11, Ir.evS.eq_12, Ir.evS.eq_13, Ir.Ok_for, Ir.ev2, Ir.startE, Ir.bT_n, Ir.bT_t, Ir.bT_m, Ir.bTs_n, Ir.bTs_c, Ir.wipeE, Ir.mt0, Ir.mt1, Ir.mt2, Ir.mt3, Ir.mt4, Ir.ad0, Ir.ad1, Ir.ad2, Ir.ad3, Ir.arrU, Ir.fu, Ir.ft, Ir.gd, Ir.gRu, Ir.gRt, Ir.sq1, Ir.sq2, Ir.ls1, Ir.rt1, Ir.rt2, Ir.bopR_d, Ir.b_add, Ir.b_sub, Ir.c_lt, Ir.c_le, Ir.c_gt, Ir.c_ge, Ir.c_eqi, Ir.c_eqs, Ir.c_eqb, Ir.c_nei, Ir.c_nes, Ir.c_neb, Ir.c_is, Ir.c_isn, Ir.n1, Ir.n2, Ir.n3, Ir.n4, Ir.n5, Ir.n6, Ir.d_lt, Ir.d_le, Ir.d_gt, Ir.d_ge, Ir.x_tup, Ir.x_tmp, Ir.x_mix, Ir.x_ref, Ir.a0, Ir.a1, Ir.a2, Ir.i30, Ir.i32, Ir.f_len, Ir.l_tup, Ir.l_tmp, Ir.l_mix, Ir.l_ref, Ir.f_int, Ir.f_intb, Ir.f_abs, Ir.f_max, Ir.f_min, Ir.f_tup, Ir.f_list, Ir.f_all, Ir.f_any, Ir.f_isin, Ir.t_int, Ir.t_str, Ir.t_bl, Ir.t_non, Ir.t_tup, Ir.t_mix, Ir.is_ii, Ir.is_ib, Ir.is_tt, Ir.is_it, Ir.is_ss, Ir.p_j, Ir.p_s, Ir.p_p, Ir.tr_b, Ir.s_tmp, Ir.s_tup, Ir.s_str, Ir.boolsD, Ir.strsD, Ir.sqr, Ir.lsr, Ir.ob1, Ir.ob2, Ir.blU, List.map_cons, List.map_nil, List.length_cons, List.length_nil, List.replicate, List.cons_append, List.nil_append, List.append_nil, List.getElem?_cons_zero, List.getElem?_cons_succ, List.getElem?_nil, List.set_cons_zero, List.set_cons_succ, List.set_nil, Option.bind_some, Option.map_some, Option.map_none, Option.bind_none, if_true, if_false, ite_true, ite_false, reduceIte, Bool.not_true, Bool.not_false, List.take_succ_cons, List.take_length, List.take_zero, Nat.add_sub_cancel, Nat.sub_self, Nat.reduceSub, Nat.reduceAdd, reduceCtorEq, Bool.false_eq_true, decide_true, decide_false, List.all_cons, List.any_cons, List.all_nil, List.any_nil, id_eq, Bool.true_and, Bool.and_true, Bool.false_or, Bool.or_false, Ir.zc0, Ir.zc1, Ir.zc2, Ir.zc3, eq_self, Ir.bools_const, Ir.all_const, Ir.any_const, ir__law_machine_right, decide_eq_false hw, show_machine_eq hm b.1 b.2.2, law_text_eq hm b.1 b.2.2, read_machine_eq ht hu h1 h2 hs hm, same_mach hm (show others ≤ 1000 by omega)]
/-! ### plays -/
def ocD (p : Int × Int) : D := .tup [.int p.1, .int p.2]
def showP (p : Int × Int) : Str := ((Str.empty ++ numT p.1) ++ "/") ++ numT p.2
def showO (os : List (Int × Int)) : Str := match os with
  | [] => "-"
  | p :: r => Txt.join " " ((p :: r).map showP)
def OcOk (os : List (Int × Int)) : Prop := os.length ≤ 20 ∧ ∀ p ∈ os, (0 ≤ p.1 ∧ p.1 < 1000) ∧ (0 ≤ p.2 ∧ p.2 < 1000)
theorem showP_len {p : Int × Int} (h1 : 0 ≤ p.1 ∧ p.1 < 1000) (h2 : 0 ≤ p.2 ∧ p.2 < 1000) : (showP p).length ≤ 7 := by
  have a := nlen h1
  have b := nlen h2
  have e1 : (Str.empty : Str).length = 0 := rfl
  have e2 : ("/" : Str).length = 1 := rfl
  unfold showP
  rw [len_app, len_app, len_app, e1, e2]
  omega
theorem oc_sum {os : List (Int × Int)} (h : OcOk os) : (os.map fun p => (showP p).length).sum + os.length ≤ 200 := by
  have := sum_le (fun p => (showP p).length) 7 os fun p hp => showP_len (h.2 p hp).1 (h.2 p hp).2
  have := h.1
  omega
theorem fs_oc {p : Int × Int} (h1 : 0 ≤ p.1 ∧ p.1 < 1000) (h2 : 0 ≤ p.2 ∧ p.2 < 1000) : fsJoin [.int p.1, .str "/", .int p.2] Str.empty = some (showP p) := by
  have a := nlen h1
  have b := nlen h2
  have e1 : (Str.empty : Str).length = 0 := rfl
  have e2 : ("/" : Str).length = 1 := rfl
  have e3 : ∀ a b c d : Nat, a + [b, c, d].sum = a + b + c + d := fun a b c d => by simp; omega
  rw [fs_ok _ _ (by
    simp only [List.map_cons, List.map_nil, txtD, e1, e2, e3]
    exact leLim (by omega)) (by simp only [List.all_cons, List.all_nil, goodD, dig_small h1, dig_small h2, Bool.and_self])]
  rfl
theorem join_o {os : List (Int × Int)} {S : Store} (h : OcOk os) (hne : os ≠ []) : meR .join (.u (.d (.str " "))) [.tmp (os.map fun p => D.str (showP p))] S = some (.u (.d (.str (showO os))), S) := by
  rw [m_join (r := .tmp (os.map fun p => D.str (showP p))) (ys := os.map showP) rfl (strsD_map showP os) (leLim (by
      have := oc_sum h
      rw [List.map_map, List.length_map]
      have e : ((fun x : Str => x.length) ∘ showP) = fun s => (showP s).length := rfl
      have c : (" " : Str).length = 1 := rfl
      rw [e, c]
      omega))]
  cases os with
  | nil => exact absurd rfl hne
  | cons p r => rfl
theorem showO_len {os : List (Int × Int)} (h : OcOk os) : (showO os).length ≤ 300 := by
  cases os with
  | nil => decide
  | cons p r =>
    have a := join_len " " ((p :: r).map showP)
    have b := oc_sum h
    rw [List.map_map, List.length_map] at a
    have e : ((fun x : Str => x.length) ∘ showP) = fun s => (showP s).length := rfl
    have c : (" " : Str).length = 1 := rfl
    rw [e, c] at a
    show (Txt.join " " ((p :: r).map showP)).length ≤ 300
    omega
theorem show_outcomes_eq {k : Nat} {os : List (Int × Int)} {S : Store} (h : OcOk os) : run pd.fds (k + 1) 22 [.d (.tup (os.map ocD))] S = some (.d (.str (showO os)), S) := by
  refine run_eq ⟨1, 3, ir_show_outcomes⟩ rfl rfl ?_
  have hl := h.1
  by_cases hne : os = []
  · subst hne
    simp -implicitDefEqProofs only [Ir.Ok_bind, Ir.Ok_map, Ir.Ok_some, Ir.Ok_none, Ir.evSs, Ir.evE.eq_1, Ir.evE.eq_2, Ir.evE.eq_3, Ir.evE.eq_4, Ir.evE.eq_5, Ir.evE.eq_6, Ir.evE.eq_7, Ir.evE.eq_8, Ir.evE.eq_9, Ir.evE.eq_10, Ir.evE.eq_11, Ir.evE.eq_12, Ir.evE.eq_13, Ir.evE.eq_14, Ir.evE.eq_15, Ir.evE.eq_16, Ir.evE.eq_17, Ir.evE.eq_19, Ir.evEs, Ir.evRs, Ir.evO, Ir.evOt, Ir.evT, Ir.evI, Ir.evS.eq_1, Ir.evS.eq_2, Ir.evS.eq_3, Ir.evS.eq_4, Ir.evS.eq_5, Ir.evS.eq_6, Ir.evS.eq_9, Ir.evS.eq_10, Ir.evS.eq_11, Ir.evS.eq_12, Ir.evS.eq_13, Ir.Ok_for, Ir.ev2, Ir.startE, Ir.bT_n, Ir.bT_t, Ir.bT_m, Ir.bTs_n, Ir.bTs_c, Ir.wipeE, Ir.mt0, Ir.mt1, Ir.mt2, Ir.mt3, Ir.mt4, Ir.ad0, Ir.ad1, Ir.ad2, Ir.ad3, Ir.arrU, Ir.fu, Ir.ft, Ir.gd, Ir.gRu, Ir.gRt, Ir.sq1, Ir.sq2, Ir.ls1, Ir.rt1, Ir.rt2, Ir.bopR_d, Ir.b_add, Ir.b_sub, Ir.c_lt, Ir.c_le, Ir.c_gt, Ir.c_ge, Ir.c_eqi, Ir.c_eqs, Ir.c_eqb, Ir.c_nei, Ir.c_nes, Ir.c_neb, Ir.c_is, Ir.c_isn, Ir.n1, Ir.n2, Ir.n3, Ir.n4, Ir.n5, Ir.n6, Ir.d_lt, Ir.d_le, Ir.d_gt, Ir.d_ge, Ir.x_tup, Ir.x_tmp, Ir.x_mix, Ir.x_ref, Ir.a0, Ir.a1, Ir.a2, Ir.i30, Ir.i32, Ir.f_len, Ir.l_tup, Ir.l_tmp, Ir.l_mix, Ir.l_ref, Ir.f_int, Ir.f_intb, Ir.f_abs, Ir.f_max, Ir.f_min, Ir.f_tup, Ir.f_list, Ir.f_all, Ir.f_any, Ir.f_isin, Ir.t_int, Ir.t_str, Ir.t_bl, Ir.t_non, Ir.t_tup, Ir.t_mix, Ir.is_ii, Ir.is_ib, Ir.is_tt, Ir.is_it, Ir.is_ss, Ir.p_j, Ir.p_s, Ir.p_p, Ir.tr_b, Ir.s_tmp, Ir.s_tup, Ir.s_str, Ir.boolsD, Ir.strsD, Ir.sqr, Ir.lsr, Ir.ob1, Ir.ob2, Ir.blU, List.map_cons, List.map_nil, List.length_cons, List.length_nil, List.replicate, List.cons_append, List.nil_append, List.append_nil, List.getElem?_cons_zero, List.getElem?_cons_succ, List.getElem?_nil, List.set_cons_zero, List.set_cons_succ, List.set_nil, Option.bind_some, Option.map_some, Option.map_none, Option.bind_none, if_true, if_false, ite_true, ite_false, reduceIte, Bool.not_true, Bool.not_false, List.take_succ_cons, List.take_length, List.take_zero, Nat.add_sub_cancel, Nat.sub_self, Nat.reduceSub, Nat.reduceAdd, reduceCtorEq, Bool.false_eq_true, decide_true, decide_false, List.all_cons, List.any_cons, List.all_nil, List.any_nil, id_eq, Bool.true_and, Bool.and_true, Bool.false_or, Bool.or_false, Ir.zc0, Ir.zc1, Ir.zc2, Ir.zc3, eq_self, Ir.bools_const, Ir.all_const, Ir.any_const, ir_show_outcomes]
    rfl
  · have e0 : decide ((os.length : Int) = 0) = false := decide_eq_false fun e => hne (List.length_eq_zero_iff.mp (by omega))
    simp -implicitDefEqProofs only [Ir.Ok_bind, Ir.Ok_map, Ir.Ok_some, Ir.Ok_none, Ir.evSs, Ir.evE.eq_1, Ir.evE.eq_2, Ir.evE.eq_3, Ir.evE.eq_4, Ir.evE.eq_5, Ir.evE.eq_6, Ir.evE.eq_7, Ir.evE.eq_8, Ir.evE.eq_9, Ir.evE.eq_10, Ir.evE.eq_11, Ir.evE.eq_12, Ir.evE.eq_13, Ir.evE.eq_14, Ir.evE.eq_15, Ir.evE.eq_16, Ir.evE.eq_17, Ir.evE.eq_19, Ir.evEs, Ir.evRs, Ir.evO, Ir.evOt, Ir.evT, Ir.evI, Ir.evS.eq_1, Ir.evS.eq_2, Ir.evS.eq_3, Ir.evS.eq_4, Ir.evS.eq_5, Ir.evS.eq_6, Ir.evS.eq_9, Ir.evS.eq_10, Ir.evS.eq_11, Ir.evS.eq_12, Ir.evS.eq_13, Ir.Ok_for, Ir.ev2, Ir.startE, Ir.bT_n, Ir.bT_t, Ir.bT_m, Ir.bTs_n, Ir.bTs_c, Ir.wipeE, Ir.mt0, Ir.mt1, Ir.mt2, Ir.mt3, Ir.mt4, Ir.ad0, Ir.ad1, Ir.ad2, Ir.ad3, Ir.arrU, Ir.fu, Ir.ft, Ir.gd, Ir.gRu, Ir.gRt, Ir.sq1, Ir.sq2, Ir.ls1, Ir.rt1, Ir.rt2, Ir.bopR_d, Ir.b_add, Ir.b_sub, Ir.c_lt, Ir.c_le, Ir.c_gt, Ir.c_ge, Ir.c_eqi, Ir.c_eqs, Ir.c_eqb, Ir.c_nei, Ir.c_nes, Ir.c_neb, Ir.c_is, Ir.c_isn, Ir.n1, Ir.n2, Ir.n3, Ir.n4, Ir.n5, Ir.n6, Ir.d_lt, Ir.d_le, Ir.d_gt, Ir.d_ge, Ir.x_tup, Ir.x_tmp, Ir.x_mix, Ir.x_ref, Ir.a0, Ir.a1, Ir.a2, Ir.i30, Ir.i32, Ir.f_len, Ir.l_tup, Ir.l_tmp, Ir.l_mix, Ir.l_ref, Ir.f_int, Ir.f_intb, Ir.f_abs, Ir.f_max, Ir.f_min, Ir.f_tup, Ir.f_list, Ir.f_all, Ir.f_any, Ir.f_isin, Ir.t_int, Ir.t_str, Ir.t_bl, Ir.t_non, Ir.t_tup, Ir.t_mix, Ir.is_ii, Ir.is_ib, Ir.is_tt, Ir.is_it, Ir.is_ss, Ir.p_j, Ir.p_s, Ir.p_p, Ir.tr_b, Ir.s_tmp, Ir.s_tup, Ir.s_str, Ir.boolsD, Ir.strsD, Ir.sqr, Ir.lsr, Ir.ob1, Ir.ob2, Ir.blU, List.map_cons, List.map_nil, List.length_cons, List.length_nil, List.replicate, List.cons_append, List.nil_append, List.append_nil, List.getElem?_cons_zero, List.getElem?_cons_succ, List.getElem?_nil, List.set_cons_zero, List.set_cons_succ, List.set_nil, Option.bind_some, Option.map_some, Option.map_none, Option.bind_none, if_true, if_false, ite_true, ite_false, reduceIte, Bool.not_true, Bool.not_false, List.take_succ_cons, List.take_length, List.take_zero, Nat.add_sub_cancel, Nat.sub_self, Nat.reduceSub, Nat.reduceAdd, reduceCtorEq, Bool.false_eq_true, decide_true, decide_false, List.all_cons, List.any_cons, List.all_nil, List.any_nil, id_eq, Bool.true_and, Bool.and_true, Bool.false_or, Bool.or_false, Ir.zc0, Ir.zc1, Ir.zc2, Ir.zc3, eq_self, Ir.bools_const, Ir.all_const, Ir.any_const, ir_show_outcomes, List.length_map, e0]
    refine Ok.of (comp_map2 (fun p => .str (showP p)) (xs := os) (f := ocD) (by simp -implicitDefEqProofs only [Ir.Ok_bind, Ir.Ok_map, Ir.Ok_some, Ir.Ok_none, Ir.evSs, Ir.evE.eq_1, Ir.evE.eq_2, Ir.evE.eq_3, Ir.evE.eq_4, Ir.evE.eq_5, Ir.evE.eq_6, Ir.evE.eq_7, Ir.evE.eq_8, Ir.evE.eq_9, Ir.evE.eq_10, Ir.evE.eq_11, Ir.evE.eq_12, Ir.evE.eq_13, Ir.evE.eq_14, Ir.evE.eq_15, Ir.evE.eq_16, Ir.evE.eq_17, Ir.evE.eq_19, Ir.evEs, Ir.evRs, Ir.evO, Ir.evOt, Ir.evT, Ir.evI, Ir.evS.eq_1, Ir.evS.eq_2, Ir.evS.eq_3, Ir.evS.eq_4, Ir.evS.eq_5, Ir.evS.eq_6, Ir.evS.eq_9, Ir.evS.eq_10, Ir.evS.eq_11, Ir.evS.eq_12, Ir.evS.eq_13, Ir.Ok_for, Ir.ev2, Ir.startE, Ir.bT_n, Ir.bT_t, Ir.bT_m, Ir.bTs_n, Ir.bTs_c, Ir.wipeE, Ir.mt0, Ir.mt1, Ir.mt2, Ir.mt3, Ir.mt4, Ir.ad0, Ir.ad1, Ir.ad2, Ir.ad3, Ir.arrU, Ir.fu, Ir.ft, Ir.gd, Ir.gRu, Ir.gRt, Ir.sq1, Ir.sq2, Ir.ls1, Ir.rt1, Ir.rt2, Ir.bopR_d, Ir.b_add, Ir.b_sub, Ir.c_lt, Ir.c_le, Ir.c_gt, Ir.c_ge, Ir.c_eqi, Ir.c_eqs, Ir.c_eqb, Ir.c_nei, Ir.c_nes, Ir.c_neb, Ir.c_is, Ir.c_isn, Ir.n1, Ir.n2, Ir.n3, Ir.n4, Ir.n5, Ir.n6, Ir.d_lt, Ir.d_le, Ir.d_gt, Ir.d_ge, Ir.x_tup, Ir.x_tmp, Ir.x_mix, Ir.x_ref, Ir.a0, Ir.a1, Ir.a2, Ir.i30, Ir.i32, Ir.f_len, Ir.l_tup, Ir.l_tmp, Ir.l_mix, Ir.l_ref, Ir.f_int, Ir.f_intb, Ir.f_abs, Ir.f_max, Ir.f_min, Ir.f_tup, Ir.f_list, Ir.f_all, Ir.f_any, Ir.f_isin, Ir.t_int, Ir.t_str, Ir.t_bl, Ir.t_non, Ir.t_tup, Ir.t_mix, Ir.is_ii, Ir.is_ib, Ir.is_tt, Ir.is_it, Ir.is_ss, Ir.p_j, Ir.p_s, Ir.p_p, Ir.tr_b, Ir.s_tmp, Ir.s_tup, Ir.s_str, Ir.boolsD, Ir.strsD, Ir.sqr, Ir.lsr, Ir.ob1, Ir.ob2, Ir.blU, List.map_cons, List.map_nil, List.length_cons, List.length_nil, List.replicate, List.cons_append, List.nil_append, List.append_nil, List.getElem?_cons_zero, List.getElem?_cons_succ, List.getElem?_nil, List.set_cons_zero, List.set_cons_succ, List.set_nil, Option.bind_some, Option.map_some, Option.map_none, Option.bind_none, if_true, if_false, ite_true, ite_false, reduceIte, Bool.not_true, Bool.not_false, List.take_succ_cons, List.take_length, List.take_zero, Nat.add_sub_cancel, Nat.sub_self, Nat.reduceSub, Nat.reduceAdd, reduceCtorEq, Bool.false_eq_true, decide_true, decide_false, List.all_cons, List.any_cons, List.all_nil, List.any_nil, id_eq, Bool.true_and, Bool.and_true, Bool.false_or, Bool.or_false, Ir.zc0, Ir.zc1, Ir.zc2, Ir.zc3, eq_self, Ir.bools_const, Ir.all_const, Ir.any_const]) (leLim (by omega)) (fun p hp acc => ?_)) ?_
    · simp only [turnC, Ir.Ok_bind, Ir.Ok_map, Ir.Ok_some, Ir.Ok_none, Ir.evSs, Ir.evE.eq_1, Ir.evE.eq_2, Ir.evE.eq_3, Ir.evE.eq_4, Ir.evE.eq_5, Ir.evE.eq_6, Ir.evE.eq_7, Ir.evE.eq_8, Ir.evE.eq_9, Ir.evE.eq_10, Ir.evE.eq_11, Ir.evE.eq_12, Ir.evE.eq_13, Ir.evE.eq_14, Ir.evE.eq_15, Ir.evE.eq_16, Ir.evE.eq_17, Ir.evE.eq_19, Ir.evEs, Ir.evRs, Ir.evO, Ir.evOt, Ir.evT, Ir.evI, Ir.evS.eq_1, Ir.evS.eq_2, Ir.evS.eq_3, Ir.evS.eq_4, Ir.evS.eq_5, Ir.evS.eq_6, Ir.evS.eq_9, Ir.evS.eq_10, Ir.evS.eq_11, Ir.evS.eq_12, Ir.evS.eq_13, Ir.Ok_for, Ir.ev2, Ir.startE, Ir.bT_n, Ir.bT_t, Ir.bT_m, Ir.bTs_n, Ir.bTs_c, Ir.wipeE, Ir.mt0, Ir.mt1, Ir.mt2, Ir.mt3, Ir.mt4, Ir.ad0, Ir.ad1, Ir.ad2, Ir.ad3, Ir.arrU, Ir.fu, Ir.ft, Ir.gd, Ir.gRu, Ir.gRt, Ir.sq1, Ir.sq2, Ir.ls1, Ir.rt1, Ir.rt2, Ir.bopR_d, Ir.b_add, Ir.b_sub, Ir.c_lt, Ir.c_le, Ir.c_gt, Ir.c_ge, Ir.c_eqi, Ir.c_eqs, Ir.c_eqb, Ir.c_nei, Ir.c_nes, Ir.c_neb, Ir.c_is, Ir.c_isn, Ir.n1, Ir.n2, Ir.n3, Ir.n4, Ir.n5, Ir.n6, Ir.d_lt, Ir.d_le, Ir.d_gt, Ir.d_ge, Ir.x_tup, Ir.x_tmp, Ir.x_mix, Ir.x_ref, Ir.a0, Ir.a1, Ir.a2, Ir.i30, Ir.i32, Ir.f_len, Ir.l_tup, Ir.l_tmp, Ir.l_mix, Ir.l_ref, Ir.f_int, Ir.f_intb, Ir.f_abs, Ir.f_max, Ir.f_min, Ir.f_tup, Ir.f_list, Ir.f_all, Ir.f_any, Ir.f_isin, Ir.t_int, Ir.t_str, Ir.t_bl, Ir.t_non, Ir.t_tup, Ir.t_mix, Ir.is_ii, Ir.is_ib, Ir.is_tt, Ir.is_it, Ir.is_ss, Ir.p_j, Ir.p_s, Ir.p_p, Ir.tr_b, Ir.s_tmp, Ir.s_tup, Ir.s_str, Ir.boolsD, Ir.strsD, Ir.sqr, Ir.lsr, Ir.ob1, Ir.ob2, Ir.blU, List.map_cons, List.map_nil, List.length_cons, List.length_nil, List.replicate, List.cons_append, List.nil_append, List.append_nil, List.getElem?_cons_zero, List.getElem?_cons_succ, List.getElem?_nil, List.set_cons_zero, List.set_cons_succ, List.set_nil, Option.bind_some, Option.map_some, Option.map_none, Option.bind_none, if_true, if_false, ite_true, ite_false, reduceIte, Bool.not_true, Bool.not_false, List.take_succ_cons, List.take_length, List.take_zero, Nat.add_sub_cancel, Nat.sub_self, Nat.reduceSub, Nat.reduceAdd, reduceCtorEq, Bool.false_eq_true, decide_true, decide_false, List.all_cons, List.any_cons, List.all_nil, List.any_nil, id_eq, Bool.true_and, Bool.and_true, Bool.false_or, Bool.or_false, Ir.zc0, Ir.zc1, Ir.zc2, Ir.zc3, eq_self, Ir.bools_const, Ir.all_const, Ir.any_const, ocD, fs_oc (h.2 p hp).1 (h.2 p hp).2]
    · simp -implicitDefEqProofs only [Ir.Ok_bind, Ir.Ok_map, Ir.Ok_some, Ir.Ok_none, Ir.evSs, Ir.evE.eq_1, Ir.evE.eq_2, Ir.evE.eq_3, Ir.evE.eq_4, Ir.evE.eq_5, Ir.evE.eq_6, Ir.evE.eq_7, Ir.evE.eq_8, Ir.evE.eq_9, Ir.evE.eq_10, Ir.evE.eq_11, Ir.evE.eq_12, Ir.evE.eq_13, Ir.evE.eq_14, Ir.evE.eq_15, Ir.evE.eq_16, Ir.evE.eq_17, Ir.evE.eq_19, Ir.evEs, Ir.evRs, Ir.evO, Ir.evOt, Ir.evT, Ir.evI, Ir.evS.eq_1, Ir.evS.eq_2, Ir.evS.eq_3, Ir.evS.eq_4, Ir.evS.eq_5, Ir.evS.eq_6, Ir.evS.eq_9, Ir.evS.eq_10, Ir.evS.eq_11, Ir.evS.eq_12, Ir.evS.eq_13, Ir.Ok_for, Ir.ev2, Ir.startE, Ir.bT_n, Ir.bT_t, Ir.bT_m, Ir.bTs_n, Ir.bTs_c, Ir.wipeE, Ir.mt0, Ir.mt1, Ir.mt2, Ir.mt3, Ir.mt4, Ir.ad0, Ir.ad1, Ir.ad2, Ir.ad3, Ir.arrU, Ir.fu, Ir.ft, Ir.gd, Ir.gRu, Ir.gRt, Ir.sq1, Ir.sq2, Ir.ls1, Ir.rt1, Ir.rt2, Ir.bopR_d, Ir.b_add, Ir.b_sub, Ir.c_lt, Ir.c_le, Ir.c_gt, Ir.c_ge, Ir.c_eqi, Ir.c_eqs, Ir.c_eqb, Ir.c_nei, Ir.c_nes, Ir.c_neb, Ir.c_is, Ir.c_isn, Ir.n1, Ir.n2, Ir.n3, Ir.n4, Ir.n5, Ir.n6, Ir.d_lt, Ir.d_le, Ir.d_gt, Ir.d_ge, Ir.x_tup, Ir.x_tmp, Ir.x_mix, Ir.x_ref, Ir.a0, Ir.a1, Ir.a2, Ir.i30, Ir.i32, Ir.f_len, Ir.l_tup, Ir.l_tmp, Ir.l_mix, Ir.l_ref, Ir.f_int, Ir.f_intb, Ir.f_abs, Ir.f_max, Ir.f_min, Ir.f_tup, Ir.f_list, Ir.f_all, Ir.f_any, Ir.f_isin, Ir.t_int, Ir.t_str, Ir.t_bl, Ir.t_non, Ir.t_tup, Ir.t_mix, Ir.is_ii, Ir.is_ib, Ir.is_tt, Ir.is_it, Ir.is_ss, Ir.p_j, Ir.p_s, Ir.p_p, Ir.tr_b, Ir.s_tmp, Ir.s_tup, Ir.s_str, Ir.boolsD, Ir.strsD, Ir.sqr, Ir.lsr, Ir.ob1, Ir.ob2, Ir.blU, List.map_cons, List.map_nil, List.length_cons, List.length_nil, List.replicate, List.cons_append, List.nil_append, List.append_nil, List.getElem?_cons_zero, List.getElem?_cons_succ, List.getElem?_nil, List.set_cons_zero, List.set_cons_succ, List.set_nil, Option.bind_some, Option.map_some, Option.map_none, Option.bind_none, if_true, if_false, ite_true, ite_false, reduceIte, Bool.not_true, Bool.not_false, List.take_succ_cons, List.take_length, List.take_zero, Nat.add_sub_cancel, Nat.sub_self, Nat.reduceSub, Nat.reduceAdd, reduceCtorEq, Bool.false_eq_true, decide_true, decide_false, List.all_cons, List.any_cons, List.all_nil, List.any_nil, id_eq, Bool.true_and, Bool.and_true, Bool.false_or, Bool.or_false, Ir.zc0, Ir.zc1, Ir.zc2, Ir.zc3, eq_self, Ir.bools_const, Ir.all_const, Ir.any_const, join_o h hne]
theorem law_outcomes_eq {k : Nat} {os : List (Int × Int)} {S : Store} (h : OcOk os) : run pd.fds (k + 1) 31 [.d (.tup (os.map ocD))] S = some (.d (.str (showO os)), S) := by
  refine run_eq ⟨1, 3, ir__law_outcomes⟩ rfl rfl ?_
  have hl := h.1
  by_cases hne : os = []
  · subst hne
    have e0 : decide ((0 : Int) < 0) = false := by decide
    simp -implicitDefEqProofs only [Ir.Ok_bind, Ir.Ok_map, Ir.Ok_some, Ir.Ok_none, Ir.evSs, Ir.evE.eq_1, Ir.evE.eq_2, Ir.evE.eq_3, Ir.evE.eq_4, Ir.evE.eq_5, Ir.evE.eq_6, Ir.evE.eq_7, Ir.evE.eq_8, Ir.evE.eq_9, Ir.evE.eq_10, Ir.evE.eq_11, Ir.evE.eq_12, Ir.evE.eq_13, Ir.evE.eq_14, Ir.evE.eq_15, Ir.evE.eq_16, Ir.evE.eq_17, Ir.evE.eq_19, Ir.evEs, Ir.evRs, Ir.evO, Ir.evOt, Ir.evT, Ir.evI, Ir.evS.eq_1, Ir.evS.eq_2, Ir.evS.eq_3, Ir.evS.eq_4, Ir.evS.eq_5, Ir.evS.eq_6, Ir.evS.eq_9, Ir.evS.eq_10, Ir.evS.eq_11, Ir.evS.eq_12, Ir.evS.eq_13, Ir.Ok_for, Ir.ev2, Ir.startE, Ir.bT_n, Ir.bT_t, Ir.bT_m, Ir.bTs_n, Ir.bTs_c, Ir.wipeE, Ir.mt0, Ir.mt1, Ir.mt2, Ir.mt3, Ir.mt4, Ir.ad0, Ir.ad1, Ir.ad2, Ir.ad3, Ir.arrU, Ir.fu, Ir.ft, Ir.gd, Ir.gRu, Ir.gRt, Ir.sq1, Ir.sq2, Ir.ls1, Ir.rt1, Ir.rt2, Ir.bopR_d, Ir.b_add, Ir.b_sub, Ir.c_lt, Ir.c_le, Ir.c_gt, Ir.c_ge, Ir.c_eqi, Ir.c_eqs, Ir.c_eqb, Ir.c_nei, Ir.c_nes, Ir.c_neb, Ir.c_is, Ir.c_isn, Ir.n1, Ir.n2, Ir.n3, Ir.n4, Ir.n5, Ir.n6, Ir.d_lt, Ir.d_le, Ir.d_gt, Ir.d_ge, Ir.x_tup, Ir.x_tmp, Ir.x_mix, Ir.x_ref, Ir.a0, Ir.a1, Ir.a2, Ir.i30, Ir.i32, Ir.f_len, Ir.l_tup, Ir.l_tmp, Ir.l_mix, Ir.l_ref, Ir.f_int, Ir.f_intb, Ir.f_abs, Ir.f_max, Ir.f_min, Ir.f_tup, Ir.f_list, Ir.f_all, Ir.f_any, Ir.f_isin, Ir.t_int, Ir.t_str, Ir.t_bl, Ir.t_non, Ir.t_tup, Ir.t_mix, Ir.is_ii, Ir.is_ib, Ir.is_tt, Ir.is_it, Ir.is_ss, Ir.p_j, Ir.p_s, Ir.p_p, Ir.tr_b, Ir.s_tmp, Ir.s_tup, Ir.s_str, Ir.boolsD, Ir.strsD, Ir.sqr, Ir.lsr, Ir.ob1, Ir.ob2, Ir.blU, List.map_cons, List.map_nil, List.length_cons, List.length_nil, List.replicate, List.cons_append, List.nil_append, List.append_nil, List.getElem?_cons_zero, List.getElem?_cons_succ, List.getElem?_nil, List.set_cons_zero, List.set_cons_succ, List.set_nil, Option.bind_some, Option.map_some, Option.map_none, Option.bind_none, if_true, if_false, ite_true, ite_false, reduceIte, Bool.not_true, Bool.not_false, List.take_succ_cons, List.take_length, List.take_zero, Nat.add_sub_cancel, Nat.sub_self, Nat.reduceSub, Nat.reduceAdd, reduceCtorEq, Bool.false_eq_true, decide_true, decide_false, List.all_cons, List.any_cons, List.all_nil, List.any_nil, id_eq, Bool.true_and, Bool.and_true, Bool.false_or, Bool.or_false, Ir.zc0, Ir.zc1, Ir.zc2, Ir.zc3, eq_self, Ir.bools_const, Ir.all_const, Ir.any_const, ir__law_outcomes, e0]
    rfl
  · have e0 : decide ((0 : Int) < (os.length : Int)) = true := decide_eq_true (by
      have : 0 < os.length := List.length_pos_iff.mpr hne
      omega)
    simp -implicitDefEqProofs only [Ir.Ok_bind, Ir.Ok_map, Ir.Ok_some, Ir.Ok_none, Ir.evSs, Ir.evE.eq_1, Ir.evE.eq_2, Ir.evE.eq_3, Ir.evE.eq_4, Ir.evE.eq_5, Ir.evE.eq_6, Ir.evE.eq_7, Ir.evE.eq_8, Ir.evE.eq_9, Ir.evE.eq_10, Ir.evE.eq_11, Ir.evE.eq_12, Ir.evE.eq_13, Ir.evE.eq_14, Ir.evE.eq_15, Ir.evE.eq_16, Ir.evE.eq_17, Ir.evE.eq_19, Ir.evEs, Ir.evRs, Ir.evO, Ir.evOt, Ir.evT, Ir.evI, Ir.evS.eq_1, Ir.evS.eq_2, Ir.evS.eq_3, Ir.evS.eq_4, Ir.evS.eq_5, Ir.evS.eq_6, Ir.evS.eq_9, Ir.evS.eq_10, Ir.evS.eq_11, Ir.evS.eq_12, Ir.evS.eq_13, Ir.Ok_for, Ir.ev2, Ir.startE, Ir.bT_n, Ir.bT_t, Ir.bT_m, Ir.bTs_n, Ir.bTs_c, Ir.wipeE, Ir.mt0, Ir.mt1, Ir.mt2, Ir.mt3, Ir.mt4, Ir.ad0, Ir.ad1, Ir.ad2, Ir.ad3, Ir.arrU, Ir.fu, Ir.ft, Ir.gd, Ir.gRu, Ir.gRt, Ir.sq1, Ir.sq2, Ir.ls1, Ir.rt1, Ir.rt2, Ir.bopR_d, Ir.b_add, Ir.b_sub, Ir.c_lt, Ir.c_le, Ir.c_gt, Ir.c_ge, Ir.c_eqi, Ir.c_eqs, Ir.c_eqb, Ir.c_nei, Ir.c_nes, Ir.c_neb, Ir.c_is, Ir.c_isn, Ir.n1, Ir.n2, Ir.n3, Ir.n4, Ir.n5, Ir.n6, Ir.d_lt, Ir.d_le, Ir.d_gt, Ir.d_ge, Ir.x_tup, Ir.x_tmp, Ir.x_mix, Ir.x_ref, Ir.a0, Ir.a1, Ir.a2, Ir.i30, Ir.i32, Ir.f_len, Ir.l_tup, Ir.l_tmp, Ir.l_mix, Ir.l_ref, Ir.f_int, Ir.f_intb, Ir.f_abs, Ir.f_max, Ir.f_min, Ir.f_tup, Ir.f_list, Ir.f_all, Ir.f_any, Ir.f_isin, Ir.t_int, Ir.t_str, Ir.t_bl, Ir.t_non, Ir.t_tup, Ir.t_mix, Ir.is_ii, Ir.is_ib, Ir.is_tt, Ir.is_it, Ir.is_ss, Ir.p_j, Ir.p_s, Ir.p_p, Ir.tr_b, Ir.s_tmp, Ir.s_tup, Ir.s_str, Ir.boolsD, Ir.strsD, Ir.sqr, Ir.lsr, Ir.ob1, Ir.ob2, Ir.blU, List.map_cons, List.map_nil, List.length_cons, List.length_nil, List.replicate, List.cons_append, List.nil_append, List.append_nil, List.getElem?_cons_zero, List.getElem?_cons_succ, List.getElem?_nil, List.set_cons_zero, List.set_cons_succ, List.set_nil, Option.bind_some, Option.map_some, Option.map_none, Option.bind_none, if_true, if_false, ite_true, ite_false, reduceIte, Bool.not_true, Bool.not_false, List.take_succ_cons, List.take_length, List.take_zero, Nat.add_sub_cancel, Nat.sub_self, Nat.reduceSub, Nat.reduceAdd, reduceCtorEq, Bool.false_eq_true, decide_true, decide_false, List.all_cons, List.any_cons, List.all_nil, List.any_nil, id_eq, Bool.true_and, Bool.and_true, Bool.false_or, Bool.or_false, Ir.zc0, Ir.zc1, Ir.zc2, Ir.zc3, eq_self, Ir.bools_const, Ir.all_const, Ir.any_const, ir__law_outcomes, List.length_map, e0]
    refine Ok.of (comp_map2 (fun p => .str (showP p)) (xs := os) (f := ocD) (by simp -implicitDefEqProofs only [Ir.Ok_bind, Ir.Ok_map, Ir.Ok_some, Ir.Ok_none, Ir.evSs, Ir.evE.eq_1, Ir.evE.eq_2, Ir.evE.eq_3, Ir.evE.eq_4, Ir.evE.eq_5, Ir.evE.eq_6, Ir.evE.eq_7, Ir.evE.eq_8, Ir.evE.eq_9, Ir.evE.eq_10, Ir.evE.eq_11, Ir.evE.eq_12, Ir.evE.eq_13, Ir.evE.eq_14, Ir.evE.eq_15, Ir.evE.eq_16, Ir.evE.eq_17, Ir.evE.eq_19, Ir.evEs, Ir.evRs, Ir.evO, Ir.evOt, Ir.evT, Ir.evI, Ir.evS.eq_1, Ir.evS.eq_2, Ir.evS.eq_3, Ir.evS.eq_4, Ir.evS.eq_5, Ir.evS.eq_6, Ir.evS.eq_9, Ir.evS.eq_10, Ir.evS.eq_11, Ir.evS.eq_12, Ir.evS.eq_13, Ir.Ok_for, Ir.ev2, Ir.startE, Ir.bT_n, Ir.bT_t, Ir.bT_m, Ir.bTs_n, Ir.bTs_c, Ir.wipeE, Ir.mt0, Ir.mt1, Ir.mt2, Ir.mt3, Ir.mt4, Ir.ad0, Ir.ad1, Ir.ad2, Ir.ad3, Ir.arrU, Ir.fu, Ir.ft, Ir.gd, Ir.gRu, Ir.gRt, Ir.sq1, Ir.sq2, Ir.ls1, Ir.rt1, Ir.rt2, Ir.bopR_d, Ir.b_add, Ir.b_sub, Ir.c_lt, Ir.c_le, Ir.c_gt, Ir.c_ge, Ir.c_eqi, Ir.c_eqs, Ir.c_eqb, Ir.c_nei, Ir.c_nes, Ir.c_neb, Ir.c_is, Ir.c_isn, Ir.n1, Ir.n2, Ir.n3, Ir.n4, Ir.n5, Ir.n6, Ir.d_lt, Ir.d_le, Ir.d_gt, Ir.d_ge, Ir.x_tup, Ir.x_tmp, Ir.x_mix, Ir.x_ref, Ir.a0, Ir.a1, Ir.a2, Ir.i30, Ir.i32, Ir.f_len, Ir.l_tup, Ir.l_tmp, Ir.l_mix, Ir.l_ref, Ir.f_int, Ir.f_intb, Ir.f_abs, Ir.f_max, Ir.f_min, Ir.f_tup, Ir.f_list, Ir.f_all, Ir.f_any, Ir.f_isin, Ir.t_int, Ir.t_str, Ir.t_bl, Ir.t_non, Ir.t_tup, Ir.t_mix, Ir.is_ii, Ir.is_ib, Ir.is_tt, Ir.is_it, Ir.is_ss, Ir.p_j, Ir.p_s, Ir.p_p, Ir.tr_b, Ir.s_tmp, Ir.s_tup, Ir.s_str, Ir.boolsD, Ir.strsD, Ir.sqr, Ir.lsr, Ir.ob1, Ir.ob2, Ir.blU, List.map_cons, List.map_nil, List.length_cons, List.length_nil, List.replicate, List.cons_append, List.nil_append, List.append_nil, List.getElem?_cons_zero, List.getElem?_cons_succ, List.getElem?_nil, List.set_cons_zero, List.set_cons_succ, List.set_nil, Option.bind_some, Option.map_some, Option.map_none, Option.bind_none, if_true, if_false, ite_true, ite_false, reduceIte, Bool.not_true, Bool.not_false, List.take_succ_cons, List.take_length, List.take_zero, Nat.add_sub_cancel, Nat.sub_self, Nat.reduceSub, Nat.reduceAdd, reduceCtorEq, Bool.false_eq_true, decide_true, decide_false, List.all_cons, List.any_cons, List.all_nil, List.any_nil, id_eq, Bool.true_and, Bool.and_true, Bool.false_or, Bool.or_false, Ir.zc0, Ir.zc1, Ir.zc2, Ir.zc3, eq_self, Ir.bools_const, Ir.all_const, Ir.any_const]) (leLim (by omega)) (fun p hp acc => ?_)) ?_
    · simp only [turnC, Ir.Ok_bind, Ir.Ok_map, Ir.Ok_some, Ir.Ok_none, Ir.evSs, Ir.evE.eq_1, Ir.evE.eq_2, Ir.evE.eq_3, Ir.evE.eq_4, Ir.evE.eq_5, Ir.evE.eq_6, Ir.evE.eq_7, Ir.evE.eq_8, Ir.evE.eq_9, Ir.evE.eq_10, Ir.evE.eq_11, Ir.evE.eq_12, Ir.evE.eq_13, Ir.evE.eq_14, Ir.evE.eq_15, Ir.evE.eq_16, Ir.evE.eq_17, Ir.evE.eq_19, Ir.evEs, Ir.evRs, Ir.evO, Ir.evOt, Ir.evT, Ir.evI, Ir.evS.eq_1, Ir.evS.eq_2, Ir.evS.eq_3, Ir.evS.eq_4, Ir.evS.eq_5, Ir.evS.eq_6, Ir.evS.eq_9, Ir.evS.eq_10, Ir.evS.eq_11, Ir.evS.eq_12, Ir.evS.eq_13, Ir.Ok_for, Ir.ev2, Ir.startE, Ir.bT_n, Ir.bT_t, Ir.bT_m, Ir.bTs_n, Ir.bTs_c, Ir.wipeE, Ir.mt0, Ir.mt1, Ir.mt2, Ir.mt3, Ir.mt4, Ir.ad0, Ir.ad1, Ir.ad2, Ir.ad3, Ir.arrU, Ir.fu, Ir.ft, Ir.gd, Ir.gRu, Ir.gRt, Ir.sq1, Ir.sq2, Ir.ls1, Ir.rt1, Ir.rt2, Ir.bopR_d, Ir.b_add, Ir.b_sub, Ir.c_lt, Ir.c_le, Ir.c_gt, Ir.c_ge, Ir.c_eqi, Ir.c_eqs, Ir.c_eqb, Ir.c_nei, Ir.c_nes, Ir.c_neb, Ir.c_is, Ir.c_isn, Ir.n1, Ir.n2, Ir.n3, Ir.n4, Ir.n5, Ir.n6, Ir.d_lt, Ir.d_le, Ir.d_gt, Ir.d_ge, Ir.x_tup, Ir.x_tmp, Ir.x_mix, Ir.x_ref, Ir.a0, Ir.a1, Ir.a2, Ir.i30, Ir.i32, Ir.f_len, Ir.l_tup, Ir.l_tmp, Ir.l_mix, Ir.l_ref, Ir.f_int, Ir.f_intb, Ir.f_abs, Ir.f_max, Ir.f_min, Ir.f_tup, Ir.f_list, Ir.f_all, Ir.f_any, Ir.f_isin, Ir.t_int, Ir.t_str, Ir.t_bl, Ir.t_non, Ir.t_tup, Ir.t_mix, Ir.is_ii, Ir.is_ib, Ir.is_tt, Ir.is_it, Ir.is_ss, Ir.p_j, Ir.p_s, Ir.p_p, Ir.tr_b, Ir.s_tmp, Ir.s_tup, Ir.s_str, Ir.boolsD, Ir.strsD, Ir.sqr, Ir.lsr, Ir.ob1, Ir.ob2, Ir.blU, List.map_cons, List.map_nil, List.length_cons, List.length_nil, List.replicate, List.cons_append, List.nil_append, List.append_nil, List.getElem?_cons_zero, List.getElem?_cons_succ, List.getElem?_nil, List.set_cons_zero, List.set_cons_succ, List.set_nil, Option.bind_some, Option.map_some, Option.map_none, Option.bind_none, if_true, if_false, ite_true, ite_false, reduceIte, Bool.not_true, Bool.not_false, List.take_succ_cons, List.take_length, List.take_zero, Nat.add_sub_cancel, Nat.sub_self, Nat.reduceSub, Nat.reduceAdd, reduceCtorEq, Bool.false_eq_true, decide_true, decide_false, List.all_cons, List.any_cons, List.all_nil, List.any_nil, id_eq, Bool.true_and, Bool.and_true, Bool.false_or, Bool.or_false, Ir.zc0, Ir.zc1, Ir.zc2, Ir.zc3, eq_self, Ir.bools_const, Ir.all_const, Ir.any_const, ocD, fs_oc (h.2 p hp).1 (h.2 p hp).2]
    · simp -implicitDefEqProofs only [Ir.Ok_bind, Ir.Ok_map, Ir.Ok_some, Ir.Ok_none, Ir.evSs, Ir.evE.eq_1, Ir.evE.eq_2, Ir.evE.eq_3, Ir.evE.eq_4, Ir.evE.eq_5, Ir.evE.eq_6, Ir.evE.eq_7, Ir.evE.eq_8, Ir.evE.eq_9, Ir.evE.eq_10, Ir.evE.eq_11, Ir.evE.eq_12, Ir.evE.eq_13, Ir.evE.eq_14, Ir.evE.eq_15, Ir.evE.eq_16, Ir.evE.eq_17, Ir.evE.eq_19, Ir.evEs, Ir.evRs, Ir.evO, Ir.evOt, Ir.evT, Ir.evI, Ir.evS.eq_1, Ir.evS.eq_2, Ir.evS.eq_3, Ir.evS.eq_4, Ir.evS.eq_5, Ir.evS.eq_6, Ir.evS.eq_9, Ir.evS.eq_10, Ir.evS.eq_11, Ir.evS.eq_12, Ir.evS.eq_13, Ir.Ok_for, Ir.ev2, Ir.startE, Ir.bT_n, Ir.bT_t, Ir.bT_m, Ir.bTs_n, Ir.bTs_c, Ir.wipeE, Ir.mt0, Ir.mt1, Ir.mt2, Ir.mt3, Ir.mt4, Ir.ad0, Ir.ad1, Ir.ad2, Ir.ad3, Ir.arrU, Ir.fu, Ir.ft, Ir.gd, Ir.gRu, Ir.gRt, Ir.sq1, Ir.sq2, Ir.ls1, Ir.rt1, Ir.rt2, Ir.bopR_d, Ir.b_add, Ir.b_sub, Ir.c_lt, Ir.c_le, Ir.c_gt, Ir.c_ge, Ir.c_eqi, Ir.c_eqs, Ir.c_eqb, Ir.c_nei, Ir.c_nes, Ir.c_neb, Ir.c_is, Ir.c_isn, Ir.n1, Ir.n2, Ir.n3, Ir.n4, Ir.n5, Ir.n6, Ir.d_lt, Ir.d_le, Ir.d_gt, Ir.d_ge, Ir.x_tup, Ir.x_tmp, Ir.x_mix, Ir.x_ref, Ir.a0, Ir.a1, Ir.a2, Ir.i30, Ir.i32, Ir.f_len, Ir.l_tup, Ir.l_tmp, Ir.l_mix, Ir.l_ref, Ir.f_int, Ir.f_intb, Ir.f_abs, Ir.f_max, Ir.f_min, Ir.f_tup, Ir.f_list, Ir.f_all, Ir.f_any, Ir.f_isin, Ir.t_int, Ir.t_str, Ir.t_bl, Ir.t_non, Ir.t_tup, Ir.t_mix, Ir.is_ii, Ir.is_ib, Ir.is_tt, Ir.is_it, Ir.is_ss, Ir.p_j, Ir.p_s, Ir.p_p, Ir.tr_b, Ir.s_tmp, Ir.s_tup, Ir.s_str, Ir.boolsD, Ir.strsD, Ir.sqr, Ir.lsr, Ir.ob1, Ir.ob2, Ir.blU, List.map_cons, List.map_nil, List.length_cons, List.length_nil, List.replicate, List.cons_append, List.nil_append, List.append_nil, List.getElem?_cons_zero, List.getElem?_cons_succ, List.getElem?_nil, List.set_cons_zero, List.set_cons_succ, List.set_nil, Option.bind_some, Option.map_some, Option.map_none, Option.bind_none, if_true, if_false, ite_true, ite_false, reduceIte, Bool.not_true, Bool.not_false, List.take_succ_cons, List.take_length, List.take_zero, Nat.add_sub_cancel, Nat.sub_self, Nat.reduceSub, Nat.reduceAdd, reduceCtorEq, Bool.false_eq_true, decide_true, decide_false, List.all_cons, List.any_cons, List.all_nil, List.any_nil, id_eq, Bool.true_and, Bool.and_true, Bool.false_or, Bool.or_false, Ir.zc0, Ir.zc1, Ir.zc2, Ir.zc3, eq_self, Ir.bools_const, Ir.all_const, Ir.any_const, join_o h hne]
def showPl (a b : List (Int × Int)) : Str := ((Str.empty ++ showO a) ++ " | ") ++ showO b
theorem show_play_eq {k : Nat} {a b : List (Int × Int)} {S : Store} (ha : OcOk a) (hb : OcOk b) : run pd.fds (k + 2) 23 [.d (.tup [.tup (a.map ocD), .tup (b.map ocD)])] S = some (.d (.str (showPl a b)), S) := by
  refine run_eq ⟨1, 3, ir_show_play⟩ rfl rfl ?_
  have la := showO_len ha
  have lb := showO_len hb
  have e1 : (Str.empty : Str).length = 0 := rfl
  have e2 : (Str.ofString " | ").length = 3 := rfl
  have e3 : ∀ a b c d : Nat, a + [b, c, d].sum = a + b + c + d := fun a b c d => by simp; omega
  simp -implicitDefEqProofs only [Ir.Ok_bind, Ir.Ok_map, Ir.Ok_some, Ir.Ok_none, Ir.evSs, Ir.evE.eq_1, Ir.evE.eq_2, Ir.evE.eq_3, Ir.evE.eq_4, Ir.evE.eq_5, Ir.evE.eq_6, Ir.evE.eq_7, Ir.evE.eq_8, Ir.evE.eq_9, Ir.evE.eq_10, Ir.evE.eq_11, Ir.evE.eq_12, Ir.evE.eq_13, Ir.evE.eq_14, Ir.evE.eq_15, Ir.evE.eq_16, Ir.evE.eq_17, Ir.evE.eq_19, Ir.evEs, Ir.evRs, Ir.evO, Ir.evOt, Ir.evT, Ir.evI, Ir.evS.eq_1, Ir.evS.eq_2, Ir.evS.eq_3, Ir.evS.eq_4, Ir.evS.eq_5, Ir.evS.eq_6, Ir.evS.eq_9, Ir.evS.eq_10, Ir.evS.eq_11, Ir.evS.eq_12, Ir.evS.eq_13, Ir.Ok_for, Ir.ev2, Ir.startE, Ir.bT_n, Ir.bT_t, Ir.bT_m, Ir.bTs_n, Ir.bTs_c, Ir.wipeE, Ir.mt0, Ir.mt1, Ir.mt2, Ir.mt3, Ir.mt4, Ir.ad0, Ir.ad1, Ir.ad2, Ir.ad3, Ir.arrU, Ir.fu, Ir.ft, Ir.gd, Ir.gRu, Ir.gRt, Ir.sq1, Ir.sq2, Ir.ls1, Ir.rt1, Ir.rt2, Ir.bopR_d, Ir.b_add, Ir.b_sub, Ir.c_lt, Ir.c_le, Ir.c_gt, Ir.c_ge, Ir.c_eqi, Ir.c_eqs, Ir.c_eqb, Ir.c_nei, Ir.c_nes, Ir.c_neb, Ir.c_is, Ir.c_isn, Ir.n1, Ir.n2, Ir.n3, Ir.n4, Ir.n5, Ir.n6, Ir.d_lt, Ir.d_le, Ir.d_gt, Ir.d_ge, Ir.x_tup, Ir.x_tmp, Ir.x_mix, Ir.x_ref, Ir.a0, Ir.a1, Ir.a2, Ir.i30, Ir.i32, Ir.f_len, Ir.l_tup, Ir.l_tmp, Ir.l_mix, Ir.l_ref, Ir.f_int, Ir.f_intb, Ir.f_abs, Ir.f_max, Ir.f_min, Ir.f_tup, Ir.f_list, Ir.f_all, Ir.f_any, Ir.f_isin, Ir.t_int, Ir.t_str, Ir.t_bl, Ir.t_non, Ir.t_tup, Ir.t_mix, Ir.is_ii, Ir.is_ib, Ir.is_tt, Ir.is_it, Ir.is_ss, Ir.p_j, Ir.p_s, Ir.p_p, Ir.tr_b, Ir.s_tmp, Ir.s_tup, Ir.s_str, Ir.boolsD, Ir.strsD, Ir.sqr, Ir.lsr, Ir.ob1, Ir.ob2, Ir.blU, List.map_cons, List.map_nil, List.length_cons, List.length_nil, List.replicate, List.cons_append, List.nil_append, List.append_nil, List.getElem?_cons_zero, List.getElem?_cons_succ, List.getElem?_nil, List.set_cons_zero, List.set_cons_succ, List.set_nil, Option.bind_some, Option.map_some, Option.map_none, Option.bind_none, if_true, if_false, ite_true, ite_false, reduceIte, Bool.not_true, Bool.not_false, List.take_succ_cons, List.take_length, List.take_zero, Nat.add_sub_cancel, Nat.sub_self, Nat.reduceSub, Nat.reduceAdd, reduceCtorEq, Bool.false_eq_true, decide_true, decide_false, List.all_cons, List.any_cons, List.all_nil, List.any_nil, id_eq, Bool.true_and, Bool.and_true, Bool.false_or, Bool.or_false, Ir.zc0, Ir.zc1, Ir.zc2, Ir.zc3, eq_self, Ir.bools_const, Ir.all_const, Ir.any_const, ir_show_play, show_outcomes_eq ha, show_outcomes_eq hb]
  rw [fs_ok _ _ (by
    simp only [List.map_cons, List.map_nil, txtD, e1, e2, e3]
    exact leLim (by omega)) (by simp only [List.all_cons, List.all_nil, goodD, Bool.and_self])]
  simp -implicitDefEqProofs only [Ir.Ok_bind, Ir.Ok_map, Ir.Ok_some, Ir.Ok_none, Ir.evSs, Ir.evE.eq_1, Ir.evE.eq_2, Ir.evE.eq_3, Ir.evE.eq_4, Ir.evE.eq_5, Ir.evE.eq_6, Ir.evE.eq_7, Ir.evE.eq_8, Ir.evE.eq_9, Ir.evE.eq_10, Ir.evE.eq_11, Ir.evE.eq_12, Ir.evE.eq_13, Ir.evE.eq_14, Ir.evE.eq_15, Ir.evE.eq_16, Ir.evE.eq_17, Ir.evE.eq_19, Ir.evEs, Ir.evRs, Ir.evO, Ir.evOt, Ir.evT, Ir.evI, Ir.evS.eq_1, Ir.evS.eq_2, Ir.evS.eq_3, Ir.evS.eq_4, Ir.evS.eq_5, Ir.evS.eq_6, Ir.evS.eq_9, Ir.evS.eq_10, Ir.evS.eq_11, Ir.evS.eq_12, Ir.evS.eq_13, Ir.Ok_for, Ir.ev2, Ir.startE, Ir.bT_n, Ir.bT_t, Ir.bT_m, Ir.bTs_n, Ir.bTs_c, Ir.wipeE, Ir.mt0, Ir.mt1, Ir.mt2, Ir.mt3, Ir.mt4, Ir.ad0, Ir.ad1, Ir.ad2, Ir.ad3, Ir.arrU, Ir.fu, Ir.ft, Ir.gd, Ir.gRu, Ir.gRt, Ir.sq1, Ir.sq2, Ir.ls1, Ir.rt1, Ir.rt2, Ir.bopR_d, Ir.b_add, Ir.b_sub, Ir.c_lt, Ir.c_le, Ir.c_gt, Ir.c_ge, Ir.c_eqi, Ir.c_eqs, Ir.c_eqb, Ir.c_nei, Ir.c_nes, Ir.c_neb, Ir.c_is, Ir.c_isn, Ir.n1, Ir.n2, Ir.n3, Ir.n4, Ir.n5, Ir.n6, Ir.d_lt, Ir.d_le, Ir.d_gt, Ir.d_ge, Ir.x_tup, Ir.x_tmp, Ir.x_mix, Ir.x_ref, Ir.a0, Ir.a1, Ir.a2, Ir.i30, Ir.i32, Ir.f_len, Ir.l_tup, Ir.l_tmp, Ir.l_mix, Ir.l_ref, Ir.f_int, Ir.f_intb, Ir.f_abs, Ir.f_max, Ir.f_min, Ir.f_tup, Ir.f_list, Ir.f_all, Ir.f_any, Ir.f_isin, Ir.t_int, Ir.t_str, Ir.t_bl, Ir.t_non, Ir.t_tup, Ir.t_mix, Ir.is_ii, Ir.is_ib, Ir.is_tt, Ir.is_it, Ir.is_ss, Ir.p_j, Ir.p_s, Ir.p_p, Ir.tr_b, Ir.s_tmp, Ir.s_tup, Ir.s_str, Ir.boolsD, Ir.strsD, Ir.sqr, Ir.lsr, Ir.ob1, Ir.ob2, Ir.blU, List.map_cons, List.map_nil, List.length_cons, List.length_nil, List.replicate, List.cons_append, List.nil_append, List.append_nil, List.getElem?_cons_zero, List.getElem?_cons_succ, List.getElem?_nil, List.set_cons_zero, List.set_cons_succ, List.set_nil, Option.bind_some, Option.map_some, Option.map_none, Option.bind_none, if_true, if_false, ite_true, ite_false, reduceIte, Bool.not_true, Bool.not_false, List.take_succ_cons, List.take_length, List.take_zero, Nat.add_sub_cancel, Nat.sub_self, Nat.reduceSub, Nat.reduceAdd, reduceCtorEq, Bool.false_eq_true, decide_true, decide_false, List.all_cons, List.any_cons, List.all_nil, List.any_nil, id_eq, Bool.true_and, Bool.and_true, Bool.false_or, Bool.or_false, Ir.zc0, Ir.zc1, Ir.zc2, Ir.zc3, eq_self, Ir.bools_const, Ir.all_const, Ir.any_const]
  rfl
end G85

set_option Elab.async false
set_option linter.all false
set_option maxRecDepth 100000
set_option autoImplicit false
/-! P85h: draws. -/
namespace G85
open PySem L2 Ir
theorem take_run {k : Nat} {sc : Ob} {T : Store} {dk : List D} {N m : Int} (h : Dk dk N) (hN : N < 2 ^ 50) (hm : 0 < m) (hm2 : m < 2 ^ 50) :
    Ok (run pd.fds (k + 1) 25 [.ref 1, .d (.int m)] (sc :: .lst dk :: T)) fun p => ∃ (v : Int) (dk' : List D), p = (.d (.int v), sc :: .lst dk' :: T) ∧ 0 ≤ v ∧ v < m ∧ Dk dk' (N + 1) := by
  refine run_ok ⟨2, 5, ir__law_take⟩ rfl rfl ?_
  refine Ok.mono (take_body (Ir.run pd.fds k) (sc := sc) (T := T) h (by omega) hm (by omega)) ?_
  rintro ⟨o, ρ, S⟩ ⟨v, dk', e1, e2, h1, h2, h3⟩
  have e1' : o = .rt (.d (.int v)) := e1
  have e2' : S = sc :: .lst dk' :: T := e2
  subst e1' e2'
  simp -implicitDefEqProofs only [Ir.Ok_bind, Ir.Ok_map, Ir.Ok_some, Ir.Ok_none, Ir.evSs, Ir.evE.eq_1, Ir.evE.eq_2, Ir.evE.eq_3, Ir.evE.eq_4, Ir.evE.eq_5, Ir.evE.eq_6, Ir.evE.eq_7, Ir.evE.eq_8, Ir.evE.eq_9, Ir.evE.eq_10, Ir.evE.eq_11, Ir.evE.eq_12, Ir.evE.eq_13, Ir.evE.eq_14, Ir.evE.eq_15, Ir.evE.eq_16, Ir.evE.eq_17, Ir.evE.eq_19, Ir.evEs, Ir.evRs, Ir.evO, Ir.evOt, Ir.evT, Ir.evI, Ir.evS.eq_1, Ir.evS.eq_2, Ir.evS.eq_3, Ir.evS.eq_4, Ir.evS.eq_5, Ir.evS.eq_6, Ir.evS.eq_9, Ir.evS.eq_10, Ir.evS.eq_11, Ir.evS.eq_12, Ir.evS.eq_13, Ir.Ok_for, Ir.ev2, Ir.startE, Ir.bT_n, Ir.bT_t, Ir.bT_m, Ir.bTs_n, Ir.bTs_c, Ir.wipeE, Ir.mt0, Ir.mt1, Ir.mt2, Ir.mt3, Ir.mt4, Ir.ad0, Ir.ad1, Ir.ad2, Ir.ad3, Ir.arrU, Ir.fu, Ir.ft, Ir.gd, Ir.gRu, Ir.gRt, Ir.sq1, Ir.sq2, Ir.ls1, Ir.rt1, Ir.rt2, Ir.bopR_d, Ir.b_add, Ir.b_sub, Ir.c_lt, Ir.c_le, Ir.c_gt, Ir.c_ge, Ir.c_eqi, Ir.c_eqs, Ir.c_eqb, Ir.c_nei, Ir.c_nes, Ir.c_neb, Ir.c_is, Ir.c_isn, Ir.n1, Ir.n2, Ir.n3, Ir.n4, Ir.n5, Ir.n6, Ir.d_lt, Ir.d_le, Ir.d_gt, Ir.d_ge, Ir.x_tup, Ir.x_tmp, Ir.x_mix, Ir.x_ref, Ir.a0, Ir.a1, Ir.a2, Ir.i30, Ir.i32, Ir.f_len, Ir.l_tup, Ir.l_tmp, Ir.l_mix, Ir.l_ref, Ir.f_int, Ir.f_intb, Ir.f_abs, Ir.f_max, Ir.f_min, Ir.f_tup, Ir.f_list, Ir.f_all, Ir.f_any, Ir.f_isin, Ir.t_int, Ir.t_str, Ir.t_bl, Ir.t_non, Ir.t_tup, Ir.t_mix, Ir.is_ii, Ir.is_ib, Ir.is_tt, Ir.is_it, Ir.is_ss, Ir.p_j, Ir.p_s, Ir.p_p, Ir.tr_b, Ir.s_tmp, Ir.s_tup, Ir.s_str, Ir.boolsD, Ir.strsD, Ir.sqr, Ir.lsr, Ir.ob1, Ir.ob2, Ir.blU, List.map_cons, List.map_nil, List.length_cons, List.length_nil, List.replicate, List.cons_append, List.nil_append, List.append_nil, List.getElem?_cons_zero, List.getElem?_cons_succ, List.getElem?_nil, List.set_cons_zero, List.set_cons_succ, List.set_nil, Option.bind_some, Option.map_some, Option.map_none, Option.bind_none, if_true, if_false, ite_true, ite_false, reduceIte, Bool.not_true, Bool.not_false, List.take_succ_cons, List.take_length, List.take_zero, Nat.add_sub_cancel, Nat.sub_self, Nat.reduceSub, Nat.reduceAdd, reduceCtorEq, Bool.false_eq_true, decide_true, decide_false, List.all_cons, List.any_cons, List.all_nil, List.any_nil, id_eq, Bool.true_and, Bool.and_true, Bool.false_or, Bool.or_false, Ir.zc0, Ir.zc1, Ir.zc2, Ir.zc3, eq_self, Ir.bools_const, Ir.all_const, Ir.any_const]
  exact ⟨v, dk', rfl, h1, h2, h3⟩
theorem maps_of {β : Type} (f : β → D) (R : β → Prop) : ∀ ys : List D, (∀ y ∈ ys, ∃ v, y = f v ∧ R v) → ∃ ns : List β, ys = ns.map f ∧ ns.length = ys.length ∧ ∀ n ∈ ns, R n
  | [], _ => ⟨[], rfl, rfl, fun n hn => by cases hn⟩
  | y :: ys, h => by
    obtain ⟨v, rfl, hv⟩ := h y (by simp)
    obtain ⟨ns, e1, e2, e3⟩ := maps_of f R ys fun z hz => h z (by simp [hz])
    refine ⟨v :: ns, by rw [e1]; rfl, by rw [List.length_cons, List.length_cons, e2], fun n hn => ?_⟩
    rcases List.mem_cons.mp hn with rfl | hn
    · exact hv
    · exact e3 n hn
/-- a comprehension that draws: each turn at most b draws -/
theorem comp_deck {C : Ir.Callee} {own : List Nat} {tg : Tg} {it : Ir.It} {e : E} {ρ : Ir.Env} {S : Store} {sc : Ob} {T : Store} {dk : List D} {xs : List D} {N b : Int} (P : D → Prop)
    (hi : evI C it ρ S = some ((xs, none), sc :: .lst dk :: T)) (hS : S.length = T.length + 2) (hl : xs.length ≤ 1000) (hb : 0 ≤ b) (hN : N + b * 1000 < 2 ^ 45) (hd : Dk dk N)
    (ht : ∀ (x : D), x ∈ xs → ∀ (acc : List D) (dk' : List D) (M : Int), M ≤ N + b * 1000 → Dk dk' M → Ok (turnC C own tg .none e ρ x (sc :: .lst dk' :: (T ++ [.lst acc]))) fun p => ∃ y dk'', p = (some y, sc :: .lst dk'' :: (T ++ [.lst acc])) ∧ P y ∧ Dk dk'' (M + b)) :
    Ok (evE C (.comp own tg it .none e) ρ S) fun p => ∃ ys dk', p = (.tmp ys, sc :: .lst dk' :: T) ∧ ys.length = xs.length ∧ (∀ y ∈ ys, P y) ∧ Dk dk' (N + b * xs.length) := by
  refine comp_ok (fun j acc S' => ∃ dk', S' = sc :: .lst dk' :: T ∧ Dk dk' (N + b * j) ∧ acc.length = j ∧ ∀ y ∈ acc, P y) hi (leLim (by omega)) ⟨dk, rfl, by simpa using hd, rfl, fun y hy => by cases hy⟩ ?_ ?_
  · rintro j x acc S' e1 e2 ⟨dk', rfl, h1, h2, h3⟩
    have hj : j < xs.length := (List.getElem?_eq_some_iff.mp e1).1
    have hM : N + b * j ≤ N + b * 1000 := by
      have : b * (j : Int) ≤ b * 1000 := Int.mul_le_mul_of_nonneg_left (by omega) hb
      omega
    refine Ok.mono (ht x (List.mem_of_getElem? e1) acc dk' _ hM h1) ?_
    rintro p ⟨y, dk'', rfl, h4, h5⟩
    refine ⟨sc :: .lst dk'' :: T, rfl, rfl, fun _ => rfl, dk'', rfl, ?_, by rw [List.length_append, h2]; rfl, fun z hz => ?_⟩
    · have : N + b * ((j + 1 : Nat) : Int) = N + b * j + b := by
        rw [show ((j + 1 : Nat) : Int) = (j : Int) + 1 by omega, Int.mul_add, Int.mul_one]
        omega
      rw [this]
      exact h5
    · rcases List.mem_append.mp hz with hz | hz
      · exact h3 z hz
      · rw [List.mem_singleton.mp hz]
        exact h4
  · rintro ys S' e1 ⟨dk', rfl, h1, h2, h3⟩
    refine ⟨ys, dk', ?_, h2, h3, h1⟩
    rw [hS, show T.length + 2 = (sc :: Ob.lst dk' :: T).length from rfl, List.take_left']
    rfl
/-! ### a machine drawn -/
theorem inner_ints {k : Nat} {sc : Ob} {T : Store} {dk : List D} {N : Int} {own others : Nat} {many : Int} {a b c : Option U} (hl : others ≤ 5) (hm : 0 < many ∧ many < 2 ^ 40) (hN : N < 2 ^ 44) (hd : Dk dk N) :
    Ok (evE (Ir.run pd.fds (k + 1)) (.comp [6] (.n 6) (.rng1 (.var 2)) .none (.call 25 [.a 0, .a 1] (.cons (.var 0) (.cons (.var 3) .nil)))) [some (.ref 1), a, some (.d (.int others)), some (.d (.int many)), b, c, none] (sc :: .lst dk :: T)) fun p => ∃ (ns : List Int) (dk' : List D), p = (.tmp (ns.map .int), sc :: .lst dk' :: T) ∧ ns.length = others ∧ (∀ n ∈ ns, 0 ≤ n ∧ n < many) ∧ Dk dk' (N + 5) := by
  refine Ok.mono (comp_deck (b := 1) (T := T) (sc := sc) (dk := dk) (xs := rngD 0 (others : Int).toNat) (fun y => ∃ v, y = .int v ∧ 0 ≤ v ∧ v < many) (evI_rng (by simp -implicitDefEqProofs only [Ir.Ok_bind, Ir.Ok_map, Ir.Ok_some, Ir.Ok_none, Ir.evSs, Ir.evE.eq_1, Ir.evE.eq_2, Ir.evE.eq_3, Ir.evE.eq_4, Ir.evE.eq_5, Ir.evE.eq_6, Ir.evE.eq_7, Ir.evE.eq_8, Ir.evE.eq_9, Ir.evE.eq_10, Ir.evE.eq_11, Ir.evE.eq_12, Ir.evE.eq_13, Ir.evE.eq_14, Ir.evE.eq_15, Ir.evE.eq_16, Ir.evE.eq_17, Ir.evE.eq_19, Ir.evEs, Ir.evRs, Ir.evO, Ir.evOt, Ir.evT, Ir.evI, Ir.evS.eq_1, Ir.evS.eq_2, Ir.evS.eq_3, Ir.evS.eq_4, Ir.evS.eq_5, Ir.evS.eq_6, Ir.evS.eq_9, Ir.evS.eq_10, Ir.evS.eq_11, Ir.evS.eq_12, Ir.evS.eq_13, Ir.Ok_for, Ir.ev2, Ir.startE, Ir.bT_n, Ir.bT_t, Ir.bT_m, Ir.bTs_n, Ir.bTs_c, Ir.wipeE, Ir.mt0, Ir.mt1, Ir.mt2, Ir.mt3, Ir.mt4, Ir.ad0, Ir.ad1, Ir.ad2, Ir.ad3, Ir.arrU, Ir.fu, Ir.ft, Ir.gd, Ir.gRu, Ir.gRt, Ir.sq1, Ir.sq2, Ir.ls1, Ir.rt1, Ir.rt2, Ir.bopR_d, Ir.b_add, Ir.b_sub, Ir.c_lt, Ir.c_le, Ir.c_gt, Ir.c_ge, Ir.c_eqi, Ir.c_eqs, Ir.c_eqb, Ir.c_nei, Ir.c_nes, Ir.c_neb, Ir.c_is, Ir.c_isn, Ir.n1, Ir.n2, Ir.n3, Ir.n4, Ir.n5, Ir.n6, Ir.d_lt, Ir.d_le, Ir.d_gt, Ir.d_ge, Ir.x_tup, Ir.x_tmp, Ir.x_mix, Ir.x_ref, Ir.a0, Ir.a1, Ir.a2, Ir.i30, Ir.i32, Ir.f_len, Ir.l_tup, Ir.l_tmp, Ir.l_mix, Ir.l_ref, Ir.f_int, Ir.f_intb, Ir.f_abs, Ir.f_max, Ir.f_min, Ir.f_tup, Ir.f_list, Ir.f_all, Ir.f_any, Ir.f_isin, Ir.t_int, Ir.t_str, Ir.t_bl, Ir.t_non, Ir.t_tup, Ir.t_mix, Ir.is_ii, Ir.is_ib, Ir.is_tt, Ir.is_it, Ir.is_ss, Ir.p_j, Ir.p_s, Ir.p_p, Ir.tr_b, Ir.s_tmp, Ir.s_tup, Ir.s_str, Ir.boolsD, Ir.strsD, Ir.sqr, Ir.lsr, Ir.ob1, Ir.ob2, Ir.blU, List.map_cons, List.map_nil, List.length_cons, List.length_nil, List.replicate, List.cons_append, List.nil_append, List.append_nil, List.getElem?_cons_zero, List.getElem?_cons_succ, List.getElem?_nil, List.set_cons_zero, List.set_cons_succ, List.set_nil, Option.bind_some, Option.map_some, Option.map_none, Option.bind_none, if_true, if_false, ite_true, ite_false, reduceIte, Bool.not_true, Bool.not_false, List.take_succ_cons, List.take_length, List.take_zero, Nat.add_sub_cancel, Nat.sub_self, Nat.reduceSub, Nat.reduceAdd, reduceCtorEq, Bool.false_eq_true, decide_true, decide_false, List.all_cons, List.any_cons, List.all_nil, List.any_nil, id_eq, Bool.true_and, Bool.and_true, Bool.false_or, Bool.or_false, Ir.zc0, Ir.zc1, Ir.zc2, Ir.zc3, eq_self, Ir.bools_const, Ir.all_const, Ir.any_const]) (by omega) (by omega)) rfl (by rw [se]; omega) (by omega) (by omega) hd (fun x hx acc dk' M hM hd' => ?_)) ?_
  · simp -implicitDefEqProofs only [turnC, Ir.Ok_bind, Ir.Ok_map, Ir.Ok_some, Ir.Ok_none, Ir.evSs, Ir.evE.eq_1, Ir.evE.eq_2, Ir.evE.eq_3, Ir.evE.eq_4, Ir.evE.eq_5, Ir.evE.eq_6, Ir.evE.eq_7, Ir.evE.eq_8, Ir.evE.eq_9, Ir.evE.eq_10, Ir.evE.eq_11, Ir.evE.eq_12, Ir.evE.eq_13, Ir.evE.eq_14, Ir.evE.eq_15, Ir.evE.eq_16, Ir.evE.eq_17, Ir.evE.eq_19, Ir.evEs, Ir.evRs, Ir.evO, Ir.evOt, Ir.evT, Ir.evI, Ir.evS.eq_1, Ir.evS.eq_2, Ir.evS.eq_3, Ir.evS.eq_4, Ir.evS.eq_5, Ir.evS.eq_6, Ir.evS.eq_9, Ir.evS.eq_10, Ir.evS.eq_11, Ir.evS.eq_12, Ir.evS.eq_13, Ir.Ok_for, Ir.ev2, Ir.startE, Ir.bT_n, Ir.bT_t, Ir.bT_m, Ir.bTs_n, Ir.bTs_c, Ir.wipeE, Ir.mt0, Ir.mt1, Ir.mt2, Ir.mt3, Ir.mt4, Ir.ad0, Ir.ad1, Ir.ad2, Ir.ad3, Ir.arrU, Ir.fu, Ir.ft, Ir.gd, Ir.gRu, Ir.gRt, Ir.sq1, Ir.sq2, Ir.ls1, Ir.rt1, Ir.rt2, Ir.bopR_d, Ir.b_add, Ir.b_sub, Ir.c_lt, Ir.c_le, Ir.c_gt, Ir.c_ge, Ir.c_eqi, Ir.c_eqs, Ir.c_eqb, Ir.c_nei, Ir.c_nes, Ir.c_neb, Ir.c_is, Ir.c_isn, Ir.n1, Ir.n2, Ir.n3, Ir.n4, Ir.n5, Ir.n6, Ir.d_lt, Ir.d_le, Ir.d_gt, Ir.d_ge, Ir.x_tup, Ir.x_tmp, Ir.x_mix, Ir.x_ref, Ir.a0, Ir.a1, Ir.a2, Ir.i30, Ir.i32, Ir.f_len, Ir.l_tup, Ir.l_tmp, Ir.l_mix, Ir.l_ref, Ir.f_int, Ir.f_intb, Ir.f_abs, Ir.f_max, Ir.f_min, Ir.f_tup, Ir.f_list, Ir.f_all, Ir.f_any, Ir.f_isin, Ir.t_int, Ir.t_str, Ir.t_bl, Ir.t_non, Ir.t_tup, Ir.t_mix, Ir.is_ii, Ir.is_ib, Ir.is_tt, Ir.is_it, Ir.is_ss, Ir.p_j, Ir.p_s, Ir.p_p, Ir.tr_b, Ir.s_tmp, Ir.s_tup, Ir.s_str, Ir.boolsD, Ir.strsD, Ir.sqr, Ir.lsr, Ir.ob1, Ir.ob2, Ir.blU, List.map_cons, List.map_nil, List.length_cons, List.length_nil, List.replicate, List.cons_append, List.nil_append, List.append_nil, List.getElem?_cons_zero, List.getElem?_cons_succ, List.getElem?_nil, List.set_cons_zero, List.set_cons_succ, List.set_nil, Option.bind_some, Option.map_some, Option.map_none, Option.bind_none, if_true, if_false, ite_true, ite_false, reduceIte, Bool.not_true, Bool.not_false, List.take_succ_cons, List.take_length, List.take_zero, Nat.add_sub_cancel, Nat.sub_self, Nat.reduceSub, Nat.reduceAdd, reduceCtorEq, Bool.false_eq_true, decide_true, decide_false, List.all_cons, List.any_cons, List.all_nil, List.any_nil, id_eq, Bool.true_and, Bool.and_true, Bool.false_or, Bool.or_false, Ir.zc0, Ir.zc1, Ir.zc2, Ir.zc3, eq_self, Ir.bools_const, Ir.all_const, Ir.any_const]
    refine Ok.mono (take_run hd' (by omega) hm.1 (by omega)) ?_
    rintro p ⟨v, dk'', rfl, hv0, hv1, hd2⟩
    simp -implicitDefEqProofs only [Ir.Ok_bind, Ir.Ok_map, Ir.Ok_some, Ir.Ok_none, Ir.evSs, Ir.evE.eq_1, Ir.evE.eq_2, Ir.evE.eq_3, Ir.evE.eq_4, Ir.evE.eq_5, Ir.evE.eq_6, Ir.evE.eq_7, Ir.evE.eq_8, Ir.evE.eq_9, Ir.evE.eq_10, Ir.evE.eq_11, Ir.evE.eq_12, Ir.evE.eq_13, Ir.evE.eq_14, Ir.evE.eq_15, Ir.evE.eq_16, Ir.evE.eq_17, Ir.evE.eq_19, Ir.evEs, Ir.evRs, Ir.evO, Ir.evOt, Ir.evT, Ir.evI, Ir.evS.eq_1, Ir.evS.eq_2, Ir.evS.eq_3, Ir.evS.eq_4, Ir.evS.eq_5, Ir.evS.eq_6, Ir.evS.eq_9, Ir.evS.eq_10, Ir.evS.eq_11, Ir.evS.eq_12, Ir.evS.eq_13, Ir.Ok_for, Ir.ev2, Ir.startE, Ir.bT_n, Ir.bT_t, Ir.bT_m, Ir.bTs_n, Ir.bTs_c, Ir.wipeE, Ir.mt0, Ir.mt1, Ir.mt2, Ir.mt3, Ir.mt4, Ir.ad0, Ir.ad1, Ir.ad2, Ir.ad3, Ir.arrU, Ir.fu, Ir.ft, Ir.gd, Ir.gRu, Ir.gRt, Ir.sq1, Ir.sq2, Ir.ls1, Ir.rt1, Ir.rt2, Ir.bopR_d, Ir.b_add, Ir.b_sub, Ir.c_lt, Ir.c_le, Ir.c_gt, Ir.c_ge, Ir.c_eqi, Ir.c_eqs, Ir.c_eqb, Ir.c_nei, Ir.c_nes, Ir.c_neb, Ir.c_is, Ir.c_isn, Ir.n1, Ir.n2, Ir.n3, Ir.n4, Ir.n5, Ir.n6, Ir.d_lt, Ir.d_le, Ir.d_gt, Ir.d_ge, Ir.x_tup, Ir.x_tmp, Ir.x_mix, Ir.x_ref, Ir.a0, Ir.a1, Ir.a2, Ir.i30, Ir.i32, Ir.f_len, Ir.l_tup, Ir.l_tmp, Ir.l_mix, Ir.l_ref, Ir.f_int, Ir.f_intb, Ir.f_abs, Ir.f_max, Ir.f_min, Ir.f_tup, Ir.f_list, Ir.f_all, Ir.f_any, Ir.f_isin, Ir.t_int, Ir.t_str, Ir.t_bl, Ir.t_non, Ir.t_tup, Ir.t_mix, Ir.is_ii, Ir.is_ib, Ir.is_tt, Ir.is_it, Ir.is_ss, Ir.p_j, Ir.p_s, Ir.p_p, Ir.tr_b, Ir.s_tmp, Ir.s_tup, Ir.s_str, Ir.boolsD, Ir.strsD, Ir.sqr, Ir.lsr, Ir.ob1, Ir.ob2, Ir.blU, List.map_cons, List.map_nil, List.length_cons, List.length_nil, List.replicate, List.cons_append, List.nil_append, List.append_nil, List.getElem?_cons_zero, List.getElem?_cons_succ, List.getElem?_nil, List.set_cons_zero, List.set_cons_succ, List.set_nil, Option.bind_some, Option.map_some, Option.map_none, Option.bind_none, if_true, if_false, ite_true, ite_false, reduceIte, Bool.not_true, Bool.not_false, List.take_succ_cons, List.take_length, List.take_zero, Nat.add_sub_cancel, Nat.sub_self, Nat.reduceSub, Nat.reduceAdd, reduceCtorEq, Bool.false_eq_true, decide_true, decide_false, List.all_cons, List.any_cons, List.all_nil, List.any_nil, id_eq, Bool.true_and, Bool.and_true, Bool.false_or, Bool.or_false, Ir.zc0, Ir.zc1, Ir.zc2, Ir.zc3, eq_self, Ir.bools_const, Ir.all_const, Ir.any_const]
    exact ⟨_, _, rfl, ⟨v, rfl, hv0, hv1⟩, hd2⟩
  · rintro p ⟨ys, dk', rfl, e1, e2, e3⟩
    obtain ⟨ns, rfl, e4, e5⟩ := maps_of D.int (fun v => 0 ≤ v ∧ v < many) ys e2
    rw [se] at e1
    refine ⟨ns, dk', rfl, by rw [e4, e1]; omega, e5, e3.mono ?_⟩
    rw [se]
    omega
theorem any_machine_ok {k : Nat} {sc : Ob} {dk : List D} {N : Int} {own others many : Nat} (hl : others ≤ 5) (ho : 0 < own ∧ own < 2 ^ 40) (hm : 0 < many ∧ many ≤ 1000) (hN : N < 2 ^ 40) (hd : Dk dk N) :
    Ok (run pd.fds (k + 2) 27 [.ref 1, .d (.int own), .d (.int others), .d (.int many)] [sc, .lst dk]) fun p => ∃ (m : List (Int × List Int)) (dk' : List D), p = (.d (machD m), [sc, .lst dk']) ∧ m.length = many ∧ (∀ s ∈ m, StOk own others many s) ∧ Dk dk' (N + 10000) := by
  refine run_ok ⟨4, 7, ir__law_any_machine⟩ rfl rfl ?_
  simp -implicitDefEqProofs only [Ir.Ok_bind, Ir.Ok_map, Ir.Ok_some, Ir.Ok_none, Ir.evSs, Ir.evE.eq_1, Ir.evE.eq_2, Ir.evE.eq_3, Ir.evE.eq_4, Ir.evE.eq_5, Ir.evE.eq_6, Ir.evE.eq_7, Ir.evE.eq_8, Ir.evE.eq_9, Ir.evE.eq_10, Ir.evE.eq_11, Ir.evE.eq_12, Ir.evE.eq_13, Ir.evE.eq_14, Ir.evE.eq_15, Ir.evE.eq_16, Ir.evE.eq_17, Ir.evE.eq_19, Ir.evEs, Ir.evRs, Ir.evO, Ir.evOt, Ir.evT, Ir.evI, Ir.evS.eq_1, Ir.evS.eq_2, Ir.evS.eq_3, Ir.evS.eq_4, Ir.evS.eq_5, Ir.evS.eq_6, Ir.evS.eq_9, Ir.evS.eq_10, Ir.evS.eq_11, Ir.evS.eq_12, Ir.evS.eq_13, Ir.Ok_for, Ir.ev2, Ir.startE, Ir.bT_n, Ir.bT_t, Ir.bT_m, Ir.bTs_n, Ir.bTs_c, Ir.wipeE, Ir.mt0, Ir.mt1, Ir.mt2, Ir.mt3, Ir.mt4, Ir.ad0, Ir.ad1, Ir.ad2, Ir.ad3, Ir.arrU, Ir.fu, Ir.ft, Ir.gd, Ir.gRu, Ir.gRt, Ir.sq1, Ir.sq2, Ir.ls1, Ir.rt1, Ir.rt2, Ir.bopR_d, Ir.b_add, Ir.b_sub, Ir.c_lt, Ir.c_le, Ir.c_gt, Ir.c_ge, Ir.c_eqi, Ir.c_eqs, Ir.c_eqb, Ir.c_nei, Ir.c_nes, Ir.c_neb, Ir.c_is, Ir.c_isn, Ir.n1, Ir.n2, Ir.n3, Ir.n4, Ir.n5, Ir.n6, Ir.d_lt, Ir.d_le, Ir.d_gt, Ir.d_ge, Ir.x_tup, Ir.x_tmp, Ir.x_mix, Ir.x_ref, Ir.a0, Ir.a1, Ir.a2, Ir.i30, Ir.i32, Ir.f_len, Ir.l_tup, Ir.l_tmp, Ir.l_mix, Ir.l_ref, Ir.f_int, Ir.f_intb, Ir.f_abs, Ir.f_max, Ir.f_min, Ir.f_tup, Ir.f_list, Ir.f_all, Ir.f_any, Ir.f_isin, Ir.t_int, Ir.t_str, Ir.t_bl, Ir.t_non, Ir.t_tup, Ir.t_mix, Ir.is_ii, Ir.is_ib, Ir.is_tt, Ir.is_it, Ir.is_ss, Ir.p_j, Ir.p_s, Ir.p_p, Ir.tr_b, Ir.s_tmp, Ir.s_tup, Ir.s_str, Ir.boolsD, Ir.strsD, Ir.sqr, Ir.lsr, Ir.ob1, Ir.ob2, Ir.blU, List.map_cons, List.map_nil, List.length_cons, List.length_nil, List.replicate, List.cons_append, List.nil_append, List.append_nil, List.getElem?_cons_zero, List.getElem?_cons_succ, List.getElem?_nil, List.set_cons_zero, List.set_cons_succ, List.set_nil, Option.bind_some, Option.map_some, Option.map_none, Option.bind_none, if_true, if_false, ite_true, ite_false, reduceIte, Bool.not_true, Bool.not_false, List.take_succ_cons, List.take_length, List.take_zero, Nat.add_sub_cancel, Nat.sub_self, Nat.reduceSub, Nat.reduceAdd, reduceCtorEq, Bool.false_eq_true, decide_true, decide_false, List.all_cons, List.any_cons, List.all_nil, List.any_nil, id_eq, Bool.true_and, Bool.and_true, Bool.false_or, Bool.or_false, Ir.zc0, Ir.zc1, Ir.zc2, Ir.zc3, eq_self, Ir.bools_const, Ir.all_const, Ir.any_const, ir__law_any_machine, rg (j := (many : Int)) ⟨by omega, by omega⟩]
  refine forL_ok (fun j ρ S => ∃ (m : List (Int × List Int)) (dk' : List D), ρ = [some (.ref 1), some (.d (.int own)), some (.d (.int others)), some (.d (.int many)), some (.ref 2), none, none] ∧ S = [sc, .lst dk', .lst (m.map stD)] ∧ m.length = j ∧ (∀ s ∈ m, StOk own others many s) ∧ Dk dk' (N + 10 * j)) _ 0 _ _ ⟨[], dk, rfl, rfl, rfl, fun s hs => (by cases hs), by simpa using hd⟩ ?_ ?_
  · rintro j x ρ S e1 ⟨m, dk', rfl, rfl, h1, h2, h3⟩
    obtain ⟨rfl, hj⟩ := gE e1
    have pa : mePre .append (.ref 2) [sc, .lst dk', .lst (m.map stD)] = true := rfl
    simp -implicitDefEqProofs only [turnF, Ir.Ok_bind, Ir.Ok_map, Ir.Ok_some, Ir.Ok_none, Ir.evSs, Ir.evE.eq_1, Ir.evE.eq_2, Ir.evE.eq_3, Ir.evE.eq_4, Ir.evE.eq_5, Ir.evE.eq_6, Ir.evE.eq_7, Ir.evE.eq_8, Ir.evE.eq_9, Ir.evE.eq_10, Ir.evE.eq_11, Ir.evE.eq_12, Ir.evE.eq_13, Ir.evE.eq_14, Ir.evE.eq_15, Ir.evE.eq_16, Ir.evE.eq_17, Ir.evE.eq_19, Ir.evEs, Ir.evRs, Ir.evO, Ir.evOt, Ir.evT, Ir.evI, Ir.evS.eq_1, Ir.evS.eq_2, Ir.evS.eq_3, Ir.evS.eq_4, Ir.evS.eq_5, Ir.evS.eq_6, Ir.evS.eq_9, Ir.evS.eq_10, Ir.evS.eq_11, Ir.evS.eq_12, Ir.evS.eq_13, Ir.Ok_for, Ir.ev2, Ir.startE, Ir.bT_n, Ir.bT_t, Ir.bT_m, Ir.bTs_n, Ir.bTs_c, Ir.wipeE, Ir.mt0, Ir.mt1, Ir.mt2, Ir.mt3, Ir.mt4, Ir.ad0, Ir.ad1, Ir.ad2, Ir.ad3, Ir.arrU, Ir.fu, Ir.ft, Ir.gd, Ir.gRu, Ir.gRt, Ir.sq1, Ir.sq2, Ir.ls1, Ir.rt1, Ir.rt2, Ir.bopR_d, Ir.b_add, Ir.b_sub, Ir.c_lt, Ir.c_le, Ir.c_gt, Ir.c_ge, Ir.c_eqi, Ir.c_eqs, Ir.c_eqb, Ir.c_nei, Ir.c_nes, Ir.c_neb, Ir.c_is, Ir.c_isn, Ir.n1, Ir.n2, Ir.n3, Ir.n4, Ir.n5, Ir.n6, Ir.d_lt, Ir.d_le, Ir.d_gt, Ir.d_ge, Ir.x_tup, Ir.x_tmp, Ir.x_mix, Ir.x_ref, Ir.a0, Ir.a1, Ir.a2, Ir.i30, Ir.i32, Ir.f_len, Ir.l_tup, Ir.l_tmp, Ir.l_mix, Ir.l_ref, Ir.f_int, Ir.f_intb, Ir.f_abs, Ir.f_max, Ir.f_min, Ir.f_tup, Ir.f_list, Ir.f_all, Ir.f_any, Ir.f_isin, Ir.t_int, Ir.t_str, Ir.t_bl, Ir.t_non, Ir.t_tup, Ir.t_mix, Ir.is_ii, Ir.is_ib, Ir.is_tt, Ir.is_it, Ir.is_ss, Ir.p_j, Ir.p_s, Ir.p_p, Ir.tr_b, Ir.s_tmp, Ir.s_tup, Ir.s_str, Ir.boolsD, Ir.strsD, Ir.sqr, Ir.lsr, Ir.ob1, Ir.ob2, Ir.blU, List.map_cons, List.map_nil, List.length_cons, List.length_nil, List.replicate, List.cons_append, List.nil_append, List.append_nil, List.getElem?_cons_zero, List.getElem?_cons_succ, List.getElem?_nil, List.set_cons_zero, List.set_cons_succ, List.set_nil, Option.bind_some, Option.map_some, Option.map_none, Option.bind_none, if_true, if_false, ite_true, ite_false, reduceIte, Bool.not_true, Bool.not_false, List.take_succ_cons, List.take_length, List.take_zero, Nat.add_sub_cancel, Nat.sub_self, Nat.reduceSub, Nat.reduceAdd, reduceCtorEq, Bool.false_eq_true, decide_true, decide_false, List.all_cons, List.any_cons, List.all_nil, List.any_nil, id_eq, Bool.true_and, Bool.and_true, Bool.false_or, Bool.or_false, Ir.zc0, Ir.zc1, Ir.zc2, Ir.zc3, eq_self, Ir.bools_const, Ir.all_const, Ir.any_const, pa]
    refine Ok.mono (take_run (T := [.lst (m.map stD)]) h3 (by omega) (by omega : (0 : Int) < own) (by omega)) ?_
    rintro p ⟨v, dk'', rfl, hv0, hv1, hd2⟩
    simp -implicitDefEqProofs only [Ir.Ok_bind, Ir.Ok_map, Ir.Ok_some, Ir.Ok_none, Ir.evSs, Ir.evE.eq_1, Ir.evE.eq_2, Ir.evE.eq_3, Ir.evE.eq_4, Ir.evE.eq_5, Ir.evE.eq_6, Ir.evE.eq_7, Ir.evE.eq_8, Ir.evE.eq_9, Ir.evE.eq_10, Ir.evE.eq_11, Ir.evE.eq_12, Ir.evE.eq_13, Ir.evE.eq_14, Ir.evE.eq_15, Ir.evE.eq_16, Ir.evE.eq_17, Ir.evE.eq_19, Ir.evEs, Ir.evRs, Ir.evO, Ir.evOt, Ir.evT, Ir.evI, Ir.evS.eq_1, Ir.evS.eq_2, Ir.evS.eq_3, Ir.evS.eq_4, Ir.evS.eq_5, Ir.evS.eq_6, Ir.evS.eq_9, Ir.evS.eq_10, Ir.evS.eq_11, Ir.evS.eq_12, Ir.evS.eq_13, Ir.Ok_for, Ir.ev2, Ir.startE, Ir.bT_n, Ir.bT_t, Ir.bT_m, Ir.bTs_n, Ir.bTs_c, Ir.wipeE, Ir.mt0, Ir.mt1, Ir.mt2, Ir.mt3, Ir.mt4, Ir.ad0, Ir.ad1, Ir.ad2, Ir.ad3, Ir.arrU, Ir.fu, Ir.ft, Ir.gd, Ir.gRu, Ir.gRt, Ir.sq1, Ir.sq2, Ir.ls1, Ir.rt1, Ir.rt2, Ir.bopR_d, Ir.b_add, Ir.b_sub, Ir.c_lt, Ir.c_le, Ir.c_gt, Ir.c_ge, Ir.c_eqi, Ir.c_eqs, Ir.c_eqb, Ir.c_nei, Ir.c_nes, Ir.c_neb, Ir.c_is, Ir.c_isn, Ir.n1, Ir.n2, Ir.n3, Ir.n4, Ir.n5, Ir.n6, Ir.d_lt, Ir.d_le, Ir.d_gt, Ir.d_ge, Ir.x_tup, Ir.x_tmp, Ir.x_mix, Ir.x_ref, Ir.a0, Ir.a1, Ir.a2, Ir.i30, Ir.i32, Ir.f_len, Ir.l_tup, Ir.l_tmp, Ir.l_mix, Ir.l_ref, Ir.f_int, Ir.f_intb, Ir.f_abs, Ir.f_max, Ir.f_min, Ir.f_tup, Ir.f_list, Ir.f_all, Ir.f_any, Ir.f_isin, Ir.t_int, Ir.t_str, Ir.t_bl, Ir.t_non, Ir.t_tup, Ir.t_mix, Ir.is_ii, Ir.is_ib, Ir.is_tt, Ir.is_it, Ir.is_ss, Ir.p_j, Ir.p_s, Ir.p_p, Ir.tr_b, Ir.s_tmp, Ir.s_tup, Ir.s_str, Ir.boolsD, Ir.strsD, Ir.sqr, Ir.lsr, Ir.ob1, Ir.ob2, Ir.blU, List.map_cons, List.map_nil, List.length_cons, List.length_nil, List.replicate, List.cons_append, List.nil_append, List.append_nil, List.getElem?_cons_zero, List.getElem?_cons_succ, List.getElem?_nil, List.set_cons_zero, List.set_cons_succ, List.set_nil, Option.bind_some, Option.map_some, Option.map_none, Option.bind_none, if_true, if_false, ite_true, ite_false, reduceIte, Bool.not_true, Bool.not_false, List.take_succ_cons, List.take_length, List.take_zero, Nat.add_sub_cancel, Nat.sub_self, Nat.reduceSub, Nat.reduceAdd, reduceCtorEq, Bool.false_eq_true, decide_true, decide_false, List.all_cons, List.any_cons, List.all_nil, List.any_nil, id_eq, Bool.true_and, Bool.and_true, Bool.false_or, Bool.or_false, Ir.zc0, Ir.zc1, Ir.zc2, Ir.zc3, eq_self, Ir.bools_const, Ir.all_const, Ir.any_const]
    refine Ok.mono (inner_ints (own := own) (many := (many : Int)) hl (by omega) (by omega) hd2) ?_
    rintro p ⟨ns, dk3, rfl, e2, e3, hd3⟩
    have ma : meR .append (.u (.ref 2)) [.u (.d (.tup [.int v, .tup (ns.map .int)]))] [sc, .lst dk3, .lst (m.map stD)] = some (.u (.d .non), [sc, .lst dk3, .lst (m.map stD ++ [stD (v, ns)])]) :=
      m_app rfl (leLim (n := (m.map stD).length + 1) (by rw [List.length_map]; omega))
    have td : tidy [5, 6] 3 [some (.ref 1), some (.d (.int own)), some (.d (.int others)), some (.d (.int many)), some (.ref 2), some (.d (.int j)), none] [sc, .lst dk3, .lst (m.map stD ++ [stD (v, ns)])] =
        ([some (.ref 1), some (.d (.int own)), some (.d (.int others)), some (.d (.int many)), some (.ref 2), none, none], [sc, .lst dk3, .lst (m.map stD ++ [stD (v, ns)])]) := rfl
    simp -implicitDefEqProofs only [Ir.Ok_bind, Ir.Ok_map, Ir.Ok_some, Ir.Ok_none, Ir.evSs, Ir.evE.eq_1, Ir.evE.eq_2, Ir.evE.eq_3, Ir.evE.eq_4, Ir.evE.eq_5, Ir.evE.eq_6, Ir.evE.eq_7, Ir.evE.eq_8, Ir.evE.eq_9, Ir.evE.eq_10, Ir.evE.eq_11, Ir.evE.eq_12, Ir.evE.eq_13, Ir.evE.eq_14, Ir.evE.eq_15, Ir.evE.eq_16, Ir.evE.eq_17, Ir.evE.eq_19, Ir.evEs, Ir.evRs, Ir.evO, Ir.evOt, Ir.evT, Ir.evI, Ir.evS.eq_1, Ir.evS.eq_2, Ir.evS.eq_3, Ir.evS.eq_4, Ir.evS.eq_5, Ir.evS.eq_6, Ir.evS.eq_9, Ir.evS.eq_10, Ir.evS.eq_11, Ir.evS.eq_12, Ir.evS.eq_13, Ir.Ok_for, Ir.ev2, Ir.startE, Ir.bT_n, Ir.bT_t, Ir.bT_m, Ir.bTs_n, Ir.bTs_c, Ir.wipeE, Ir.mt0, Ir.mt1, Ir.mt2, Ir.mt3, Ir.mt4, Ir.ad0, Ir.ad1, Ir.ad2, Ir.ad3, Ir.arrU, Ir.fu, Ir.ft, Ir.gd, Ir.gRu, Ir.gRt, Ir.sq1, Ir.sq2, Ir.ls1, Ir.rt1, Ir.rt2, Ir.bopR_d, Ir.b_add, Ir.b_sub, Ir.c_lt, Ir.c_le, Ir.c_gt, Ir.c_ge, Ir.c_eqi, Ir.c_eqs, Ir.c_eqb, Ir.c_nei, Ir.c_nes, Ir.c_neb, Ir.c_is, Ir.c_isn, Ir.n1, Ir.n2, Ir.n3, Ir.n4, Ir.n5, Ir.n6, Ir.d_lt, Ir.d_le, Ir.d_gt, Ir.d_ge, Ir.x_tup, Ir.x_tmp, Ir.x_mix, Ir.x_ref, Ir.a0, Ir.a1, Ir.a2, Ir.i30, Ir.i32, Ir.f_len, Ir.l_tup, Ir.l_tmp, Ir.l_mix, Ir.l_ref, Ir.f_int, Ir.f_intb, Ir.f_abs, Ir.f_max, Ir.f_min, Ir.f_tup, Ir.f_list, Ir.f_all, Ir.f_any, Ir.f_isin, Ir.t_int, Ir.t_str, Ir.t_bl, Ir.t_non, Ir.t_tup, Ir.t_mix, Ir.is_ii, Ir.is_ib, Ir.is_tt, Ir.is_it, Ir.is_ss, Ir.p_j, Ir.p_s, Ir.p_p, Ir.tr_b, Ir.s_tmp, Ir.s_tup, Ir.s_str, Ir.boolsD, Ir.strsD, Ir.sqr, Ir.lsr, Ir.ob1, Ir.ob2, Ir.blU, List.map_cons, List.map_nil, List.length_cons, List.length_nil, List.replicate, List.cons_append, List.nil_append, List.append_nil, List.getElem?_cons_zero, List.getElem?_cons_succ, List.getElem?_nil, List.set_cons_zero, List.set_cons_succ, List.set_nil, Option.bind_some, Option.map_some, Option.map_none, Option.bind_none, if_true, if_false, ite_true, ite_false, reduceIte, Bool.not_true, Bool.not_false, List.take_succ_cons, List.take_length, List.take_zero, Nat.add_sub_cancel, Nat.sub_self, Nat.reduceSub, Nat.reduceAdd, reduceCtorEq, Bool.false_eq_true, decide_true, decide_false, List.all_cons, List.any_cons, List.all_nil, List.any_nil, id_eq, Bool.true_and, Bool.and_true, Bool.false_or, Bool.or_false, Ir.zc0, Ir.zc1, Ir.zc2, Ir.zc3, eq_self, Ir.bools_const, Ir.all_const, Ir.any_const, ma, held0, td]
    refine ⟨trivial, m ++ [(v, ns)], dk3, trivial, by rw [List.map_append]; rfl, by rw [List.length_append, h1]; rfl, fun s hs => ?_, hd3.mono (by omega)⟩
    rcases List.mem_append.mp hs with hs | hs
    · exact h2 s hs
    · rw [List.mem_singleton.mp hs]
      exact ⟨⟨hv0, hv1⟩, e2, e3⟩
  · rintro ρ S ⟨m, dk', rfl, rfl, h1, h2, h3⟩
    have td : tidy [] 3 [some (.ref 1), some (.d (.int own)), some (.d (.int others)), some (.d (.int many)), some (.ref 2), none, none] [sc, .lst dk', .lst (m.map stD)] =
        ([some (.ref 1), some (.d (.int own)), some (.d (.int others)), some (.d (.int many)), some (.ref 2), none, none], [sc, .lst dk', .lst (m.map stD)]) := rfl
    simp -implicitDefEqProofs only [Ir.Ok_bind, Ir.Ok_map, Ir.Ok_some, Ir.Ok_none, Ir.evSs, Ir.evE.eq_1, Ir.evE.eq_2, Ir.evE.eq_3, Ir.evE.eq_4, Ir.evE.eq_5, Ir.evE.eq_6, Ir.evE.eq_7, Ir.evE.eq_8, Ir.evE.eq_9, Ir.evE.eq_10, Ir.evE.eq_11, Ir.evE.eq_12, Ir.evE.eq_13, Ir.evE.eq_14, Ir.evE.eq_15, Ir.evE.eq_16, Ir.evE.eq_17, Ir.evE.eq_19, Ir.evEs, Ir.evRs, Ir.evO, Ir.evOt, Ir.evT, Ir.evI, Ir.evS.eq_1, Ir.evS.eq_2, Ir.evS.eq_3, Ir.evS.eq_4, Ir.evS.eq_5, Ir.evS.eq_6, Ir.evS.eq_9, Ir.evS.eq_10, Ir.evS.eq_11, Ir.evS.eq_12, Ir.evS.eq_13, Ir.Ok_for, Ir.ev2, Ir.startE, Ir.bT_n, Ir.bT_t, Ir.bT_m, Ir.bTs_n, Ir.bTs_c, Ir.wipeE, Ir.mt0, Ir.mt1, Ir.mt2, Ir.mt3, Ir.mt4, Ir.ad0, Ir.ad1, Ir.ad2, Ir.ad3, Ir.arrU, Ir.fu, Ir.ft, Ir.gd, Ir.gRu, Ir.gRt, Ir.sq1, Ir.sq2, Ir.ls1, Ir.rt1, Ir.rt2, Ir.bopR_d, Ir.b_add, Ir.b_sub, Ir.c_lt, Ir.c_le, Ir.c_gt, Ir.c_ge, Ir.c_eqi, Ir.c_eqs, Ir.c_eqb, Ir.c_nei, Ir.c_nes, Ir.c_neb, Ir.c_is, Ir.c_isn, Ir.n1, Ir.n2, Ir.n3, Ir.n4, Ir.n5, Ir.n6, Ir.d_lt, Ir.d_le, Ir.d_gt, Ir.d_ge, Ir.x_tup, Ir.x_tmp, Ir.x_mix, Ir.x_ref, Ir.a0, Ir.a1, Ir.a2, Ir.i30, Ir.i32, Ir.f_len, Ir.l_tup, Ir.l_tmp, Ir.l_mix, Ir.l_ref, Ir.f_int, Ir.f_intb, Ir.f_abs, Ir.f_max, Ir.f_min, Ir.f_tup, Ir.f_list, Ir.f_all, Ir.f_any, Ir.f_isin, Ir.t_int, Ir.t_str, Ir.t_bl, Ir.t_non, Ir.t_tup, Ir.t_mix, Ir.is_ii, Ir.is_ib, Ir.is_tt, Ir.is_it, Ir.is_ss, Ir.p_j, Ir.p_s, Ir.p_p, Ir.tr_b, Ir.s_tmp, Ir.s_tup, Ir.s_str, Ir.boolsD, Ir.strsD, Ir.sqr, Ir.lsr, Ir.ob1, Ir.ob2, Ir.blU, List.map_cons, List.map_nil, List.length_cons, List.length_nil, List.replicate, List.cons_append, List.nil_append, List.append_nil, List.getElem?_cons_zero, List.getElem?_cons_succ, List.getElem?_nil, List.set_cons_zero, List.set_cons_succ, List.set_nil, Option.bind_some, Option.map_some, Option.map_none, Option.bind_none, if_true, if_false, ite_true, ite_false, reduceIte, Bool.not_true, Bool.not_false, List.take_succ_cons, List.take_length, List.take_zero, Nat.add_sub_cancel, Nat.sub_self, Nat.reduceSub, Nat.reduceAdd, reduceCtorEq, Bool.false_eq_true, decide_true, decide_false, List.all_cons, List.any_cons, List.all_nil, List.any_nil, id_eq, Bool.true_and, Bool.and_true, Bool.false_or, Bool.or_false, Ir.zc0, Ir.zc1, Ir.zc2, Ir.zc3, eq_self, Ir.bools_const, Ir.all_const, Ir.any_const, forEnd, td]
    rw [se] at h1 h3
    exact ⟨m, dk', rfl, by omega, h2, h3.mono (by omega)⟩
/-! ### a game drawn -/
theorem row_ok {k : Nat} {sc : Ob} {T : Store} {dk : List D} {N : Int} {cols : Nat} {lo wd : Int} {a b d f g h : Option U} (hc : cols ≤ 5) (hw : 0 < wd ∧ wd < 3000) (hN : N < 2 ^ 44) (hd : Dk dk N) :
    Ok (evE (Ir.run pd.fds (k + 1)) (.comp [7] (.n 7) (.rng1 (.var 3)) .none (.bin .add (.var 4) (.call 25 [.a 0, .a 1] (.cons (.var 0) (.cons (.var 5) .nil))))) [some (.ref 1), a, b, some (.d (.int cols)), some (.d (.int lo)), some (.d (.int wd)), d, f, g, h] (sc :: .lst dk :: T)) fun p =>
      ∃ (ns : List Int) (dk' : List D), p = (.tmp (ns.map .int), sc :: .lst dk' :: T) ∧ ns.length = cols ∧ (∀ n ∈ ns, lo ≤ n ∧ n < lo + wd) ∧ Dk dk' (N + 5) := by
  refine Ok.mono (comp_deck (b := 1) (T := T) (sc := sc) (dk := dk) (xs := rngD 0 (cols : Int).toNat) (fun y => ∃ v, y = .int v ∧ lo ≤ v ∧ v < lo + wd) (evI_rng (by simp -implicitDefEqProofs only [Ir.Ok_bind, Ir.Ok_map, Ir.Ok_some, Ir.Ok_none, Ir.evSs, Ir.evE.eq_1, Ir.evE.eq_2, Ir.evE.eq_3, Ir.evE.eq_4, Ir.evE.eq_5, Ir.evE.eq_6, Ir.evE.eq_7, Ir.evE.eq_8, Ir.evE.eq_9, Ir.evE.eq_10, Ir.evE.eq_11, Ir.evE.eq_12, Ir.evE.eq_13, Ir.evE.eq_14, Ir.evE.eq_15, Ir.evE.eq_16, Ir.evE.eq_17, Ir.evE.eq_19, Ir.evEs, Ir.evRs, Ir.evO, Ir.evOt, Ir.evT, Ir.evI, Ir.evS.eq_1, Ir.evS.eq_2, Ir.evS.eq_3, Ir.evS.eq_4, Ir.evS.eq_5, Ir.evS.eq_6, Ir.evS.eq_9, Ir.evS.eq_10, Ir.evS.eq_11, Ir.evS.eq_12, Ir.evS.eq_13, Ir.Ok_for, Ir.ev2, Ir.startE, Ir.bT_n, Ir.bT_t, Ir.bT_m, Ir.bTs_n, Ir.bTs_c, Ir.wipeE, Ir.mt0, Ir.mt1, Ir.mt2, Ir.mt3, Ir.mt4, Ir.ad0, Ir.ad1, Ir.ad2, Ir.ad3, Ir.arrU, Ir.fu, Ir.ft, Ir.gd, Ir.gRu, Ir.gRt, Ir.sq1, Ir.sq2, Ir.ls1, Ir.rt1, Ir.rt2, Ir.bopR_d, Ir.b_add, Ir.b_sub, Ir.c_lt, Ir.c_le, Ir.c_gt, Ir.c_ge, Ir.c_eqi, Ir.c_eqs, Ir.c_eqb, Ir.c_nei, Ir.c_nes, Ir.c_neb, Ir.c_is, Ir.c_isn, Ir.n1, Ir.n2, Ir.n3, Ir.n4, Ir.n5, Ir.n6, Ir.d_lt, Ir.d_le, Ir.d_gt, Ir.d_ge, Ir.x_tup, Ir.x_tmp, Ir.x_mix, Ir.x_ref, Ir.a0, Ir.a1, Ir.a2, Ir.i30, Ir.i32, Ir.f_len, Ir.l_tup, Ir.l_tmp, Ir.l_mix, Ir.l_ref, Ir.f_int, Ir.f_intb, Ir.f_abs, Ir.f_max, Ir.f_min, Ir.f_tup, Ir.f_list, Ir.f_all, Ir.f_any, Ir.f_isin, Ir.t_int, Ir.t_str, Ir.t_bl, Ir.t_non, Ir.t_tup, Ir.t_mix, Ir.is_ii, Ir.is_ib, Ir.is_tt, Ir.is_it, Ir.is_ss, Ir.p_j, Ir.p_s, Ir.p_p, Ir.tr_b, Ir.s_tmp, Ir.s_tup, Ir.s_str, Ir.boolsD, Ir.strsD, Ir.sqr, Ir.lsr, Ir.ob1, Ir.ob2, Ir.blU, List.map_cons, List.map_nil, List.length_cons, List.length_nil, List.replicate, List.cons_append, List.nil_append, List.append_nil, List.getElem?_cons_zero, List.getElem?_cons_succ, List.getElem?_nil, List.set_cons_zero, List.set_cons_succ, List.set_nil, Option.bind_some, Option.map_some, Option.map_none, Option.bind_none, if_true, if_false, ite_true, ite_false, reduceIte, Bool.not_true, Bool.not_false, List.take_succ_cons, List.take_length, List.take_zero, Nat.add_sub_cancel, Nat.sub_self, Nat.reduceSub, Nat.reduceAdd, reduceCtorEq, Bool.false_eq_true, decide_true, decide_false, List.all_cons, List.any_cons, List.all_nil, List.any_nil, id_eq, Bool.true_and, Bool.and_true, Bool.false_or, Bool.or_false, Ir.zc0, Ir.zc1, Ir.zc2, Ir.zc3, eq_self, Ir.bools_const, Ir.all_const, Ir.any_const]) (by omega) (by omega)) rfl (by rw [se]; omega) (by omega) (by omega) hd (fun x hx acc dk' M hM hd' => ?_)) ?_
  · simp -implicitDefEqProofs only [turnC, Ir.Ok_bind, Ir.Ok_map, Ir.Ok_some, Ir.Ok_none, Ir.evSs, Ir.evE.eq_1, Ir.evE.eq_2, Ir.evE.eq_3, Ir.evE.eq_4, Ir.evE.eq_5, Ir.evE.eq_6, Ir.evE.eq_7, Ir.evE.eq_8, Ir.evE.eq_9, Ir.evE.eq_10, Ir.evE.eq_11, Ir.evE.eq_12, Ir.evE.eq_13, Ir.evE.eq_14, Ir.evE.eq_15, Ir.evE.eq_16, Ir.evE.eq_17, Ir.evE.eq_19, Ir.evEs, Ir.evRs, Ir.evO, Ir.evOt, Ir.evT, Ir.evI, Ir.evS.eq_1, Ir.evS.eq_2, Ir.evS.eq_3, Ir.evS.eq_4, Ir.evS.eq_5, Ir.evS.eq_6, Ir.evS.eq_9, Ir.evS.eq_10, Ir.evS.eq_11, Ir.evS.eq_12, Ir.evS.eq_13, Ir.Ok_for, Ir.ev2, Ir.startE, Ir.bT_n, Ir.bT_t, Ir.bT_m, Ir.bTs_n, Ir.bTs_c, Ir.wipeE, Ir.mt0, Ir.mt1, Ir.mt2, Ir.mt3, Ir.mt4, Ir.ad0, Ir.ad1, Ir.ad2, Ir.ad3, Ir.arrU, Ir.fu, Ir.ft, Ir.gd, Ir.gRu, Ir.gRt, Ir.sq1, Ir.sq2, Ir.ls1, Ir.rt1, Ir.rt2, Ir.bopR_d, Ir.b_add, Ir.b_sub, Ir.c_lt, Ir.c_le, Ir.c_gt, Ir.c_ge, Ir.c_eqi, Ir.c_eqs, Ir.c_eqb, Ir.c_nei, Ir.c_nes, Ir.c_neb, Ir.c_is, Ir.c_isn, Ir.n1, Ir.n2, Ir.n3, Ir.n4, Ir.n5, Ir.n6, Ir.d_lt, Ir.d_le, Ir.d_gt, Ir.d_ge, Ir.x_tup, Ir.x_tmp, Ir.x_mix, Ir.x_ref, Ir.a0, Ir.a1, Ir.a2, Ir.i30, Ir.i32, Ir.f_len, Ir.l_tup, Ir.l_tmp, Ir.l_mix, Ir.l_ref, Ir.f_int, Ir.f_intb, Ir.f_abs, Ir.f_max, Ir.f_min, Ir.f_tup, Ir.f_list, Ir.f_all, Ir.f_any, Ir.f_isin, Ir.t_int, Ir.t_str, Ir.t_bl, Ir.t_non, Ir.t_tup, Ir.t_mix, Ir.is_ii, Ir.is_ib, Ir.is_tt, Ir.is_it, Ir.is_ss, Ir.p_j, Ir.p_s, Ir.p_p, Ir.tr_b, Ir.s_tmp, Ir.s_tup, Ir.s_str, Ir.boolsD, Ir.strsD, Ir.sqr, Ir.lsr, Ir.ob1, Ir.ob2, Ir.blU, List.map_cons, List.map_nil, List.length_cons, List.length_nil, List.replicate, List.cons_append, List.nil_append, List.append_nil, List.getElem?_cons_zero, List.getElem?_cons_succ, List.getElem?_nil, List.set_cons_zero, List.set_cons_succ, List.set_nil, Option.bind_some, Option.map_some, Option.map_none, Option.bind_none, if_true, if_false, ite_true, ite_false, reduceIte, Bool.not_true, Bool.not_false, List.take_succ_cons, List.take_length, List.take_zero, Nat.add_sub_cancel, Nat.sub_self, Nat.reduceSub, Nat.reduceAdd, reduceCtorEq, Bool.false_eq_true, decide_true, decide_false, List.all_cons, List.any_cons, List.all_nil, List.any_nil, id_eq, Bool.true_and, Bool.and_true, Bool.false_or, Bool.or_false, Ir.zc0, Ir.zc1, Ir.zc2, Ir.zc3, eq_self, Ir.bools_const, Ir.all_const, Ir.any_const]
    refine Ok.mono (take_run hd' (by omega) hw.1 (by omega)) ?_
    rintro p ⟨v, dk'', rfl, hv0, hv1, hd2⟩
    simp -implicitDefEqProofs only [Ir.Ok_bind, Ir.Ok_map, Ir.Ok_some, Ir.Ok_none, Ir.evSs, Ir.evE.eq_1, Ir.evE.eq_2, Ir.evE.eq_3, Ir.evE.eq_4, Ir.evE.eq_5, Ir.evE.eq_6, Ir.evE.eq_7, Ir.evE.eq_8, Ir.evE.eq_9, Ir.evE.eq_10, Ir.evE.eq_11, Ir.evE.eq_12, Ir.evE.eq_13, Ir.evE.eq_14, Ir.evE.eq_15, Ir.evE.eq_16, Ir.evE.eq_17, Ir.evE.eq_19, Ir.evEs, Ir.evRs, Ir.evO, Ir.evOt, Ir.evT, Ir.evI, Ir.evS.eq_1, Ir.evS.eq_2, Ir.evS.eq_3, Ir.evS.eq_4, Ir.evS.eq_5, Ir.evS.eq_6, Ir.evS.eq_9, Ir.evS.eq_10, Ir.evS.eq_11, Ir.evS.eq_12, Ir.evS.eq_13, Ir.Ok_for, Ir.ev2, Ir.startE, Ir.bT_n, Ir.bT_t, Ir.bT_m, Ir.bTs_n, Ir.bTs_c, Ir.wipeE, Ir.mt0, Ir.mt1, Ir.mt2, Ir.mt3, Ir.mt4, Ir.ad0, Ir.ad1, Ir.ad2, Ir.ad3, Ir.arrU, Ir.fu, Ir.ft, Ir.gd, Ir.gRu, Ir.gRt, Ir.sq1, Ir.sq2, Ir.ls1, Ir.rt1, Ir.rt2, Ir.bopR_d, Ir.b_add, Ir.b_sub, Ir.c_lt, Ir.c_le, Ir.c_gt, Ir.c_ge, Ir.c_eqi, Ir.c_eqs, Ir.c_eqb, Ir.c_nei, Ir.c_nes, Ir.c_neb, Ir.c_is, Ir.c_isn, Ir.n1, Ir.n2, Ir.n3, Ir.n4, Ir.n5, Ir.n6, Ir.d_lt, Ir.d_le, Ir.d_gt, Ir.d_ge, Ir.x_tup, Ir.x_tmp, Ir.x_mix, Ir.x_ref, Ir.a0, Ir.a1, Ir.a2, Ir.i30, Ir.i32, Ir.f_len, Ir.l_tup, Ir.l_tmp, Ir.l_mix, Ir.l_ref, Ir.f_int, Ir.f_intb, Ir.f_abs, Ir.f_max, Ir.f_min, Ir.f_tup, Ir.f_list, Ir.f_all, Ir.f_any, Ir.f_isin, Ir.t_int, Ir.t_str, Ir.t_bl, Ir.t_non, Ir.t_tup, Ir.t_mix, Ir.is_ii, Ir.is_ib, Ir.is_tt, Ir.is_it, Ir.is_ss, Ir.p_j, Ir.p_s, Ir.p_p, Ir.tr_b, Ir.s_tmp, Ir.s_tup, Ir.s_str, Ir.boolsD, Ir.strsD, Ir.sqr, Ir.lsr, Ir.ob1, Ir.ob2, Ir.blU, List.map_cons, List.map_nil, List.length_cons, List.length_nil, List.replicate, List.cons_append, List.nil_append, List.append_nil, List.getElem?_cons_zero, List.getElem?_cons_succ, List.getElem?_nil, List.set_cons_zero, List.set_cons_succ, List.set_nil, Option.bind_some, Option.map_some, Option.map_none, Option.bind_none, if_true, if_false, ite_true, ite_false, reduceIte, Bool.not_true, Bool.not_false, List.take_succ_cons, List.take_length, List.take_zero, Nat.add_sub_cancel, Nat.sub_self, Nat.reduceSub, Nat.reduceAdd, reduceCtorEq, Bool.false_eq_true, decide_true, decide_false, List.all_cons, List.any_cons, List.all_nil, List.any_nil, id_eq, Bool.true_and, Bool.and_true, Bool.false_or, Bool.or_false, Ir.zc0, Ir.zc1, Ir.zc2, Ir.zc3, eq_self, Ir.bools_const, Ir.all_const, Ir.any_const]
    exact ⟨_, _, rfl, ⟨_, rfl, by omega, by omega⟩, hd2⟩
  · rintro p ⟨ys, dk', rfl, e1, e2, e3⟩
    obtain ⟨ns, rfl, e4, e5⟩ := maps_of D.int (fun v => lo ≤ v ∧ v < lo + wd) ys e2
    rw [se] at e1
    refine ⟨ns, dk', rfl, by rw [e4, e1]; omega, e5, e3.mono ?_⟩
    rw [se]
    omega
theorem tab_ok {k : Nat} {sc : Ob} {T : Store} {dk : List D} {N : Int} {rows cols : Nat} {lo wd : Int} {a d f g h : Option U} (hr : rows ≤ 5) (hc : cols ≤ 5) (hw : 0 < wd ∧ wd < 3000) (hlo : -1000 ≤ lo ∧ lo + wd ≤ 1001) (hN : N < 2 ^ 43) (hd : Dk dk N) :
    Ok (evE (Ir.run pd.fds (k + 1)) (.comp [8] (.n 8) (.rng1 (.var 2)) .none (.bi .tuple (.cons (.comp [7] (.n 7) (.rng1 (.var 3)) .none (.bin .add (.var 4) (.call 25 [.a 0, .a 1] (.cons (.var 0) (.cons (.var 5) .nil))))) .nil)))
      [some (.ref 1), a, some (.d (.int rows)), some (.d (.int cols)), some (.d (.int lo)), some (.d (.int wd)), d, f, g, h] (sc :: .lst dk :: T)) fun p => ∃ (t : List (List Int)) (dk' : List D), p = (.tmp (t.map rowD), sc :: .lst dk' :: T) ∧ TabOk rows cols t ∧ Dk dk' (N + 25) := by
  refine Ok.mono (comp_deck (b := 5) (T := T) (sc := sc) (dk := dk) (xs := rngD 0 (rows : Int).toNat) (fun y => ∃ r, y = rowD r ∧ (r.length = cols ∧ ∀ x ∈ r, -1000 ≤ x ∧ x ≤ 1000)) (evI_rng (by simp -implicitDefEqProofs only [Ir.Ok_bind, Ir.Ok_map, Ir.Ok_some, Ir.Ok_none, Ir.evSs, Ir.evE.eq_1, Ir.evE.eq_2, Ir.evE.eq_3, Ir.evE.eq_4, Ir.evE.eq_5, Ir.evE.eq_6, Ir.evE.eq_7, Ir.evE.eq_8, Ir.evE.eq_9, Ir.evE.eq_10, Ir.evE.eq_11, Ir.evE.eq_12, Ir.evE.eq_13, Ir.evE.eq_14, Ir.evE.eq_15, Ir.evE.eq_16, Ir.evE.eq_17, Ir.evE.eq_19, Ir.evEs, Ir.evRs, Ir.evO, Ir.evOt, Ir.evT, Ir.evI, Ir.evS.eq_1, Ir.evS.eq_2, Ir.evS.eq_3, Ir.evS.eq_4, Ir.evS.eq_5, Ir.evS.eq_6, Ir.evS.eq_9, Ir.evS.eq_10, Ir.evS.eq_11, Ir.evS.eq_12, Ir.evS.eq_13, Ir.Ok_for, Ir.ev2, Ir.startE, Ir.bT_n, Ir.bT_t, Ir.bT_m, Ir.bTs_n, Ir.bTs_c, Ir.wipeE, Ir.mt0, Ir.mt1, Ir.mt2, Ir.mt3, Ir.mt4, Ir.ad0, Ir.ad1, Ir.ad2, Ir.ad3, Ir.arrU, Ir.fu, Ir.ft, Ir.gd, Ir.gRu, Ir.gRt, Ir.sq1, Ir.sq2, Ir.ls1, Ir.rt1, Ir.rt2, Ir.bopR_d, Ir.b_add, Ir.b_sub, Ir.c_lt, Ir.c_le, Ir.c_gt, Ir.c_ge, Ir.c_eqi, Ir.c_eqs, Ir.c_eqb, Ir.c_nei, Ir.c_nes, Ir.c_neb, Ir.c_is, Ir.c_isn, Ir.n1, Ir.n2, Ir.n3, Ir.n4, Ir.n5, Ir.n6, Ir.d_lt, Ir.d_le, Ir.d_gt, Ir.d_ge, Ir.x_tup, Ir.x_tmp, Ir.x_mix, Ir.x_ref, Ir.a0, Ir.a1, Ir.a2, Ir.i30, Ir.i32, Ir.f_len, Ir.l_tup, Ir.l_tmp, Ir.l_mix, Ir.l_ref, Ir.f_int, Ir.f_intb, Ir.f_abs, Ir.f_max, Ir.f_min, Ir.f_tup, Ir.f_list, Ir.f_all, Ir.f_any, Ir.f_isin, Ir.t_int, Ir.t_str, Ir.t_bl, Ir.t_non, Ir.t_tup, Ir.t_mix, Ir.is_ii, Ir.is_ib, Ir.is_tt, Ir.is_it, Ir.is_ss, Ir.p_j, Ir.p_s, Ir.p_p, Ir.tr_b, Ir.s_tmp, Ir.s_tup, Ir.s_str, Ir.boolsD, Ir.strsD, Ir.sqr, Ir.lsr, Ir.ob1, Ir.ob2, Ir.blU, List.map_cons, List.map_nil, List.length_cons, List.length_nil, List.replicate, List.cons_append, List.nil_append, List.append_nil, List.getElem?_cons_zero, List.getElem?_cons_succ, List.getElem?_nil, List.set_cons_zero, List.set_cons_succ, List.set_nil, Option.bind_some, Option.map_some, Option.map_none, Option.bind_none, if_true, if_false, ite_true, ite_false, reduceIte, Bool.not_true, Bool.not_false, List.take_succ_cons, List.take_length, List.take_zero, Nat.add_sub_cancel, Nat.sub_self, Nat.reduceSub, Nat.reduceAdd, reduceCtorEq, Bool.false_eq_true, decide_true, decide_false, List.all_cons, List.any_cons, List.all_nil, List.any_nil, id_eq, Bool.true_and, Bool.and_true, Bool.false_or, Bool.or_false, Ir.zc0, Ir.zc1, Ir.zc2, Ir.zc3, eq_self, Ir.bools_const, Ir.all_const, Ir.any_const]) (by omega) (by omega)) rfl (by rw [se]; omega) (by omega) (by omega) hd (fun x hx acc dk' M hM hd' => ?_)) ?_
  · simp -implicitDefEqProofs only [turnC, Ir.Ok_bind, Ir.Ok_map, Ir.Ok_some, Ir.Ok_none, Ir.evSs, Ir.evE.eq_1, Ir.evE.eq_2, Ir.evE.eq_3, Ir.evE.eq_4, Ir.evE.eq_5, Ir.evE.eq_6, Ir.evE.eq_7, Ir.evE.eq_8, Ir.evE.eq_9, Ir.evE.eq_10, Ir.evE.eq_11, Ir.evE.eq_12, Ir.evE.eq_13, Ir.evE.eq_14, Ir.evE.eq_15, Ir.evE.eq_16, Ir.evE.eq_17, Ir.evE.eq_19, Ir.evEs, Ir.evRs, Ir.evO, Ir.evOt, Ir.evT, Ir.evI, Ir.evS.eq_1, Ir.evS.eq_2, Ir.evS.eq_3, Ir.evS.eq_4, Ir.evS.eq_5, Ir.evS.eq_6, Ir.evS.eq_9, Ir.evS.eq_10, Ir.evS.eq_11, Ir.evS.eq_12, Ir.evS.eq_13, Ir.Ok_for, Ir.ev2, Ir.startE, Ir.bT_n, Ir.bT_t, Ir.bT_m, Ir.bTs_n, Ir.bTs_c, Ir.wipeE, Ir.mt0, Ir.mt1, Ir.mt2, Ir.mt3, Ir.mt4, Ir.ad0, Ir.ad1, Ir.ad2, Ir.ad3, Ir.arrU, Ir.fu, Ir.ft, Ir.gd, Ir.gRu, Ir.gRt, Ir.sq1, Ir.sq2, Ir.ls1, Ir.rt1, Ir.rt2, Ir.bopR_d, Ir.b_add, Ir.b_sub, Ir.c_lt, Ir.c_le, Ir.c_gt, Ir.c_ge, Ir.c_eqi, Ir.c_eqs, Ir.c_eqb, Ir.c_nei, Ir.c_nes, Ir.c_neb, Ir.c_is, Ir.c_isn, Ir.n1, Ir.n2, Ir.n3, Ir.n4, Ir.n5, Ir.n6, Ir.d_lt, Ir.d_le, Ir.d_gt, Ir.d_ge, Ir.x_tup, Ir.x_tmp, Ir.x_mix, Ir.x_ref, Ir.a0, Ir.a1, Ir.a2, Ir.i30, Ir.i32, Ir.f_len, Ir.l_tup, Ir.l_tmp, Ir.l_mix, Ir.l_ref, Ir.f_int, Ir.f_intb, Ir.f_abs, Ir.f_max, Ir.f_min, Ir.f_tup, Ir.f_list, Ir.f_all, Ir.f_any, Ir.f_isin, Ir.t_int, Ir.t_str, Ir.t_bl, Ir.t_non, Ir.t_tup, Ir.t_mix, Ir.is_ii, Ir.is_ib, Ir.is_tt, Ir.is_it, Ir.is_ss, Ir.p_j, Ir.p_s, Ir.p_p, Ir.tr_b, Ir.s_tmp, Ir.s_tup, Ir.s_str, Ir.boolsD, Ir.strsD, Ir.sqr, Ir.lsr, Ir.ob1, Ir.ob2, Ir.blU, List.map_cons, List.map_nil, List.length_cons, List.length_nil, List.replicate, List.cons_append, List.nil_append, List.append_nil, List.getElem?_cons_zero, List.getElem?_cons_succ, List.getElem?_nil, List.set_cons_zero, List.set_cons_succ, List.set_nil, Option.bind_some, Option.map_some, Option.map_none, Option.bind_none, if_true, if_false, ite_true, ite_false, reduceIte, Bool.not_true, Bool.not_false, List.take_succ_cons, List.take_length, List.take_zero, Nat.add_sub_cancel, Nat.sub_self, Nat.reduceSub, Nat.reduceAdd, reduceCtorEq, Bool.false_eq_true, decide_true, decide_false, List.all_cons, List.any_cons, List.all_nil, List.any_nil, id_eq, Bool.true_and, Bool.and_true, Bool.false_or, Bool.or_false, Ir.zc0, Ir.zc1, Ir.zc2, Ir.zc3, eq_self, Ir.bools_const, Ir.all_const, Ir.any_const]
    refine Ok.mono (row_ok hc hw (by omega) hd') ?_
    rintro p ⟨ns, dk'', rfl, e1, e2, hd2⟩
    simp -implicitDefEqProofs only [Ir.Ok_bind, Ir.Ok_map, Ir.Ok_some, Ir.Ok_none, Ir.evSs, Ir.evE.eq_1, Ir.evE.eq_2, Ir.evE.eq_3, Ir.evE.eq_4, Ir.evE.eq_5, Ir.evE.eq_6, Ir.evE.eq_7, Ir.evE.eq_8, Ir.evE.eq_9, Ir.evE.eq_10, Ir.evE.eq_11, Ir.evE.eq_12, Ir.evE.eq_13, Ir.evE.eq_14, Ir.evE.eq_15, Ir.evE.eq_16, Ir.evE.eq_17, Ir.evE.eq_19, Ir.evEs, Ir.evRs, Ir.evO, Ir.evOt, Ir.evT, Ir.evI, Ir.evS.eq_1, Ir.evS.eq_2, Ir.evS.eq_3, Ir.evS.eq_4, Ir.evS.eq_5, Ir.evS.eq_6, Ir.evS.eq_9, Ir.evS.eq_10, Ir.evS.eq_11, Ir.evS.eq_12, Ir.evS.eq_13, Ir.Ok_for, Ir.ev2, Ir.startE, Ir.bT_n, Ir.bT_t, Ir.bT_m, Ir.bTs_n, Ir.bTs_c, Ir.wipeE, Ir.mt0, Ir.mt1, Ir.mt2, Ir.mt3, Ir.mt4, Ir.ad0, Ir.ad1, Ir.ad2, Ir.ad3, Ir.arrU, Ir.fu, Ir.ft, Ir.gd, Ir.gRu, Ir.gRt, Ir.sq1, Ir.sq2, Ir.ls1, Ir.rt1, Ir.rt2, Ir.bopR_d, Ir.b_add, Ir.b_sub, Ir.c_lt, Ir.c_le, Ir.c_gt, Ir.c_ge, Ir.c_eqi, Ir.c_eqs, Ir.c_eqb, Ir.c_nei, Ir.c_nes, Ir.c_neb, Ir.c_is, Ir.c_isn, Ir.n1, Ir.n2, Ir.n3, Ir.n4, Ir.n5, Ir.n6, Ir.d_lt, Ir.d_le, Ir.d_gt, Ir.d_ge, Ir.x_tup, Ir.x_tmp, Ir.x_mix, Ir.x_ref, Ir.a0, Ir.a1, Ir.a2, Ir.i30, Ir.i32, Ir.f_len, Ir.l_tup, Ir.l_tmp, Ir.l_mix, Ir.l_ref, Ir.f_int, Ir.f_intb, Ir.f_abs, Ir.f_max, Ir.f_min, Ir.f_tup, Ir.f_list, Ir.f_all, Ir.f_any, Ir.f_isin, Ir.t_int, Ir.t_str, Ir.t_bl, Ir.t_non, Ir.t_tup, Ir.t_mix, Ir.is_ii, Ir.is_ib, Ir.is_tt, Ir.is_it, Ir.is_ss, Ir.p_j, Ir.p_s, Ir.p_p, Ir.tr_b, Ir.s_tmp, Ir.s_tup, Ir.s_str, Ir.boolsD, Ir.strsD, Ir.sqr, Ir.lsr, Ir.ob1, Ir.ob2, Ir.blU, List.map_cons, List.map_nil, List.length_cons, List.length_nil, List.replicate, List.cons_append, List.nil_append, List.append_nil, List.getElem?_cons_zero, List.getElem?_cons_succ, List.getElem?_nil, List.set_cons_zero, List.set_cons_succ, List.set_nil, Option.bind_some, Option.map_some, Option.map_none, Option.bind_none, if_true, if_false, ite_true, ite_false, reduceIte, Bool.not_true, Bool.not_false, List.take_succ_cons, List.take_length, List.take_zero, Nat.add_sub_cancel, Nat.sub_self, Nat.reduceSub, Nat.reduceAdd, reduceCtorEq, Bool.false_eq_true, decide_true, decide_false, List.all_cons, List.any_cons, List.all_nil, List.any_nil, id_eq, Bool.true_and, Bool.and_true, Bool.false_or, Bool.or_false, Ir.zc0, Ir.zc1, Ir.zc2, Ir.zc3, eq_self, Ir.bools_const, Ir.all_const, Ir.any_const]
    exact ⟨_, _, rfl, ⟨ns, rfl, e1, fun x hx => by have := e2 x hx; omega⟩, hd2⟩
  · rintro p ⟨ys, dk', rfl, e1, e2, e3⟩
    obtain ⟨ns, rfl, e4, e5⟩ := maps_of rowD (fun r => r.length = cols ∧ ∀ x ∈ r, -1000 ≤ x ∧ x ≤ 1000) ys e2
    rw [se] at e1
    refine ⟨ns, dk', rfl, ⟨by rw [e4, e1]; omega, e5⟩, e3.mono ?_⟩
    rw [se]
    omega
end G85

set_option Elab.async false
set_option linter.all false
set_option maxRecDepth 100000
set_option autoImplicit false
/-! P85i: a game, a play drawn. -/
namespace G85
open PySem L2 Ir
theorem lowd {n : Nat} {x : D} : R.low n (.u (.d x)) = true := rfl
theorem game_ok {k : Nat} {sc : Ob} {dk : List D} {N : Int} (hN : N < 2 ^ 40) (hd : Dk dk N) :
    Ok (run pd.fds (k + 2) 26 [.ref 1, .d (.int 5)] [sc, .lst dk]) fun p => ∃ (rows cols : Nat) (t u : List (List Int)) (dk' : List D), p = (.d (.tup [tabD t, tabD u]), [sc, .lst dk']) ∧ (1 ≤ rows ∧ rows ≤ 5) ∧ (1 ≤ cols ∧ cols ≤ 5) ∧ TabOk rows cols t ∧ TabOk rows cols u ∧ Dk dk' (N + 100) := by
  refine run_ok ⟨2, 10, ir__law_game⟩ rfl rfl ?_
  simp -implicitDefEqProofs only [Ir.Ok_bind, Ir.Ok_map, Ir.Ok_some, Ir.Ok_none, Ir.evSs, Ir.evE.eq_1, Ir.evE.eq_2, Ir.evE.eq_3, Ir.evE.eq_4, Ir.evE.eq_5, Ir.evE.eq_6, Ir.evE.eq_7, Ir.evE.eq_8, Ir.evE.eq_9, Ir.evE.eq_10, Ir.evE.eq_11, Ir.evE.eq_12, Ir.evE.eq_13, Ir.evE.eq_14, Ir.evE.eq_15, Ir.evE.eq_16, Ir.evE.eq_17, Ir.evE.eq_19, Ir.evEs, Ir.evRs, Ir.evO, Ir.evOt, Ir.evT, Ir.evI, Ir.evS.eq_1, Ir.evS.eq_2, Ir.evS.eq_3, Ir.evS.eq_4, Ir.evS.eq_5, Ir.evS.eq_6, Ir.evS.eq_9, Ir.evS.eq_10, Ir.evS.eq_11, Ir.evS.eq_12, Ir.evS.eq_13, Ir.Ok_for, Ir.ev2, Ir.startE, Ir.bT_n, Ir.bT_t, Ir.bT_m, Ir.bTs_n, Ir.bTs_c, Ir.wipeE, Ir.mt0, Ir.mt1, Ir.mt2, Ir.mt3, Ir.mt4, Ir.ad0, Ir.ad1, Ir.ad2, Ir.ad3, Ir.arrU, Ir.fu, Ir.ft, Ir.gd, Ir.gRu, Ir.gRt, Ir.sq1, Ir.sq2, Ir.ls1, Ir.rt1, Ir.rt2, Ir.bopR_d, Ir.b_add, Ir.b_sub, Ir.c_lt, Ir.c_le, Ir.c_gt, Ir.c_ge, Ir.c_eqi, Ir.c_eqs, Ir.c_eqb, Ir.c_nei, Ir.c_nes, Ir.c_neb, Ir.c_is, Ir.c_isn, Ir.n1, Ir.n2, Ir.n3, Ir.n4, Ir.n5, Ir.n6, Ir.d_lt, Ir.d_le, Ir.d_gt, Ir.d_ge, Ir.x_tup, Ir.x_tmp, Ir.x_mix, Ir.x_ref, Ir.a0, Ir.a1, Ir.a2, Ir.i30, Ir.i32, Ir.f_len, Ir.l_tup, Ir.l_tmp, Ir.l_mix, Ir.l_ref, Ir.f_int, Ir.f_intb, Ir.f_abs, Ir.f_max, Ir.f_min, Ir.f_tup, Ir.f_list, Ir.f_all, Ir.f_any, Ir.f_isin, Ir.t_int, Ir.t_str, Ir.t_bl, Ir.t_non, Ir.t_tup, Ir.t_mix, Ir.is_ii, Ir.is_ib, Ir.is_tt, Ir.is_it, Ir.is_ss, Ir.p_j, Ir.p_s, Ir.p_p, Ir.tr_b, Ir.s_tmp, Ir.s_tup, Ir.s_str, Ir.boolsD, Ir.strsD, Ir.sqr, Ir.lsr, Ir.ob1, Ir.ob2, Ir.blU, List.map_cons, List.map_nil, List.length_cons, List.length_nil, List.replicate, List.cons_append, List.nil_append, List.append_nil, List.getElem?_cons_zero, List.getElem?_cons_succ, List.getElem?_nil, List.set_cons_zero, List.set_cons_succ, List.set_nil, Option.bind_some, Option.map_some, Option.map_none, Option.bind_none, if_true, if_false, ite_true, ite_false, reduceIte, Bool.not_true, Bool.not_false, List.take_succ_cons, List.take_length, List.take_zero, Nat.add_sub_cancel, Nat.sub_self, Nat.reduceSub, Nat.reduceAdd, reduceCtorEq, Bool.false_eq_true, decide_true, decide_false, List.all_cons, List.any_cons, List.all_nil, List.any_nil, id_eq, Bool.true_and, Bool.and_true, Bool.false_or, Bool.or_false, Ir.zc0, Ir.zc1, Ir.zc2, Ir.zc3, eq_self, Ir.bools_const, Ir.all_const, Ir.any_const, ir__law_game]
  refine Ok.mono (take_run (T := []) hd (by omega) (by decide) (by decide)) ?_
  rintro p ⟨v1, d1, rfl, a1, b1, h1⟩
  simp -implicitDefEqProofs only [Ir.Ok_bind, Ir.Ok_map, Ir.Ok_some, Ir.Ok_none, Ir.evSs, Ir.evE.eq_1, Ir.evE.eq_2, Ir.evE.eq_3, Ir.evE.eq_4, Ir.evE.eq_5, Ir.evE.eq_6, Ir.evE.eq_7, Ir.evE.eq_8, Ir.evE.eq_9, Ir.evE.eq_10, Ir.evE.eq_11, Ir.evE.eq_12, Ir.evE.eq_13, Ir.evE.eq_14, Ir.evE.eq_15, Ir.evE.eq_16, Ir.evE.eq_17, Ir.evE.eq_19, Ir.evEs, Ir.evRs, Ir.evO, Ir.evOt, Ir.evT, Ir.evI, Ir.evS.eq_1, Ir.evS.eq_2, Ir.evS.eq_3, Ir.evS.eq_4, Ir.evS.eq_5, Ir.evS.eq_6, Ir.evS.eq_9, Ir.evS.eq_10, Ir.evS.eq_11, Ir.evS.eq_12, Ir.evS.eq_13, Ir.Ok_for, Ir.ev2, Ir.startE, Ir.bT_n, Ir.bT_t, Ir.bT_m, Ir.bTs_n, Ir.bTs_c, Ir.wipeE, Ir.mt0, Ir.mt1, Ir.mt2, Ir.mt3, Ir.mt4, Ir.ad0, Ir.ad1, Ir.ad2, Ir.ad3, Ir.arrU, Ir.fu, Ir.ft, Ir.gd, Ir.gRu, Ir.gRt, Ir.sq1, Ir.sq2, Ir.ls1, Ir.rt1, Ir.rt2, Ir.bopR_d, Ir.b_add, Ir.b_sub, Ir.c_lt, Ir.c_le, Ir.c_gt, Ir.c_ge, Ir.c_eqi, Ir.c_eqs, Ir.c_eqb, Ir.c_nei, Ir.c_nes, Ir.c_neb, Ir.c_is, Ir.c_isn, Ir.n1, Ir.n2, Ir.n3, Ir.n4, Ir.n5, Ir.n6, Ir.d_lt, Ir.d_le, Ir.d_gt, Ir.d_ge, Ir.x_tup, Ir.x_tmp, Ir.x_mix, Ir.x_ref, Ir.a0, Ir.a1, Ir.a2, Ir.i30, Ir.i32, Ir.f_len, Ir.l_tup, Ir.l_tmp, Ir.l_mix, Ir.l_ref, Ir.f_int, Ir.f_intb, Ir.f_abs, Ir.f_max, Ir.f_min, Ir.f_tup, Ir.f_list, Ir.f_all, Ir.f_any, Ir.f_isin, Ir.t_int, Ir.t_str, Ir.t_bl, Ir.t_non, Ir.t_tup, Ir.t_mix, Ir.is_ii, Ir.is_ib, Ir.is_tt, Ir.is_it, Ir.is_ss, Ir.p_j, Ir.p_s, Ir.p_p, Ir.tr_b, Ir.s_tmp, Ir.s_tup, Ir.s_str, Ir.boolsD, Ir.strsD, Ir.sqr, Ir.lsr, Ir.ob1, Ir.ob2, Ir.blU, List.map_cons, List.map_nil, List.length_cons, List.length_nil, List.replicate, List.cons_append, List.nil_append, List.append_nil, List.getElem?_cons_zero, List.getElem?_cons_succ, List.getElem?_nil, List.set_cons_zero, List.set_cons_succ, List.set_nil, Option.bind_some, Option.map_some, Option.map_none, Option.bind_none, if_true, if_false, ite_true, ite_false, reduceIte, Bool.not_true, Bool.not_false, List.take_succ_cons, List.take_length, List.take_zero, Nat.add_sub_cancel, Nat.sub_self, Nat.reduceSub, Nat.reduceAdd, reduceCtorEq, Bool.false_eq_true, decide_true, decide_false, List.all_cons, List.any_cons, List.all_nil, List.any_nil, id_eq, Bool.true_and, Bool.and_true, Bool.false_or, Bool.or_false, Ir.zc0, Ir.zc1, Ir.zc2, Ir.zc3, eq_self, Ir.bools_const, Ir.all_const, Ir.any_const]
  refine Ok.mono (take_run (T := []) h1 (by omega) (by decide) (by decide)) ?_
  rintro p ⟨v2, d2, rfl, a2, b2, h2⟩
  obtain ⟨rows, hr⟩ : ∃ r : Nat, 1 + v1 = (r : Int) := ⟨(1 + v1).toNat, by omega⟩
  obtain ⟨cols, hc⟩ : ∃ r : Nat, 1 + v2 = (r : Int) := ⟨(1 + v2).toNat, by omega⟩
  simp -implicitDefEqProofs only [Ir.Ok_bind, Ir.Ok_map, Ir.Ok_some, Ir.Ok_none, Ir.evSs, Ir.evE.eq_1, Ir.evE.eq_2, Ir.evE.eq_3, Ir.evE.eq_4, Ir.evE.eq_5, Ir.evE.eq_6, Ir.evE.eq_7, Ir.evE.eq_8, Ir.evE.eq_9, Ir.evE.eq_10, Ir.evE.eq_11, Ir.evE.eq_12, Ir.evE.eq_13, Ir.evE.eq_14, Ir.evE.eq_15, Ir.evE.eq_16, Ir.evE.eq_17, Ir.evE.eq_19, Ir.evEs, Ir.evRs, Ir.evO, Ir.evOt, Ir.evT, Ir.evI, Ir.evS.eq_1, Ir.evS.eq_2, Ir.evS.eq_3, Ir.evS.eq_4, Ir.evS.eq_5, Ir.evS.eq_6, Ir.evS.eq_9, Ir.evS.eq_10, Ir.evS.eq_11, Ir.evS.eq_12, Ir.evS.eq_13, Ir.Ok_for, Ir.ev2, Ir.startE, Ir.bT_n, Ir.bT_t, Ir.bT_m, Ir.bTs_n, Ir.bTs_c, Ir.wipeE, Ir.mt0, Ir.mt1, Ir.mt2, Ir.mt3, Ir.mt4, Ir.ad0, Ir.ad1, Ir.ad2, Ir.ad3, Ir.arrU, Ir.fu, Ir.ft, Ir.gd, Ir.gRu, Ir.gRt, Ir.sq1, Ir.sq2, Ir.ls1, Ir.rt1, Ir.rt2, Ir.bopR_d, Ir.b_add, Ir.b_sub, Ir.c_lt, Ir.c_le, Ir.c_gt, Ir.c_ge, Ir.c_eqi, Ir.c_eqs, Ir.c_eqb, Ir.c_nei, Ir.c_nes, Ir.c_neb, Ir.c_is, Ir.c_isn, Ir.n1, Ir.n2, Ir.n3, Ir.n4, Ir.n5, Ir.n6, Ir.d_lt, Ir.d_le, Ir.d_gt, Ir.d_ge, Ir.x_tup, Ir.x_tmp, Ir.x_mix, Ir.x_ref, Ir.a0, Ir.a1, Ir.a2, Ir.i30, Ir.i32, Ir.f_len, Ir.l_tup, Ir.l_tmp, Ir.l_mix, Ir.l_ref, Ir.f_int, Ir.f_intb, Ir.f_abs, Ir.f_max, Ir.f_min, Ir.f_tup, Ir.f_list, Ir.f_all, Ir.f_any, Ir.f_isin, Ir.t_int, Ir.t_str, Ir.t_bl, Ir.t_non, Ir.t_tup, Ir.t_mix, Ir.is_ii, Ir.is_ib, Ir.is_tt, Ir.is_it, Ir.is_ss, Ir.p_j, Ir.p_s, Ir.p_p, Ir.tr_b, Ir.s_tmp, Ir.s_tup, Ir.s_str, Ir.boolsD, Ir.strsD, Ir.sqr, Ir.lsr, Ir.ob1, Ir.ob2, Ir.blU, List.map_cons, List.map_nil, List.length_cons, List.length_nil, List.replicate, List.cons_append, List.nil_append, List.append_nil, List.getElem?_cons_zero, List.getElem?_cons_succ, List.getElem?_nil, List.set_cons_zero, List.set_cons_succ, List.set_nil, Option.bind_some, Option.map_some, Option.map_none, Option.bind_none, if_true, if_false, ite_true, ite_false, reduceIte, Bool.not_true, Bool.not_false, List.take_succ_cons, List.take_length, List.take_zero, Nat.add_sub_cancel, Nat.sub_self, Nat.reduceSub, Nat.reduceAdd, reduceCtorEq, Bool.false_eq_true, decide_true, decide_false, List.all_cons, List.any_cons, List.all_nil, List.any_nil, id_eq, Bool.true_and, Bool.and_true, Bool.false_or, Bool.or_false, Ir.zc0, Ir.zc1, Ir.zc2, Ir.zc3, eq_self, Ir.bools_const, Ir.all_const, Ir.any_const, hr, hc]
  refine Ok.mono (take_run (T := [.lst [.tup [.int 0, .int 2], .tup [.int (-1), .int 4], .tup [.int (-1000), .int 2001]]]) h2 (by omega) (by decide) (by decide)) ?_
  rintro p ⟨v3, d3, rfl, a3, b3, h3⟩
  have hx : ∃ lo wd : Int, atI [D.tup [.int 0, .int 2], .tup [.int (-1), .int 4], .tup [.int (-1000), .int 2001]] v3 = some (.tup [.int lo, .int wd]) ∧ (0 < wd ∧ wd < 3000) ∧ (-1000 ≤ lo ∧ lo + wd ≤ 1001) := by
    have : v3 = 0 ∨ v3 = 1 ∨ v3 = 2 := by omega
    rcases this with rfl | rfl | rfl
    · exact ⟨0, 2, Ir.a0, by decide, by decide⟩
    · exact ⟨-1, 4, Ir.a1, by decide, by decide⟩
    · exact ⟨-1000, 2001, Ir.a2, by decide, by decide⟩
  obtain ⟨lo, wd, ex, hw, hlo⟩ := hx
  simp -implicitDefEqProofs only [Ir.Ok_bind, Ir.Ok_map, Ir.Ok_some, Ir.Ok_none, Ir.evSs, Ir.evE.eq_1, Ir.evE.eq_2, Ir.evE.eq_3, Ir.evE.eq_4, Ir.evE.eq_5, Ir.evE.eq_6, Ir.evE.eq_7, Ir.evE.eq_8, Ir.evE.eq_9, Ir.evE.eq_10, Ir.evE.eq_11, Ir.evE.eq_12, Ir.evE.eq_13, Ir.evE.eq_14, Ir.evE.eq_15, Ir.evE.eq_16, Ir.evE.eq_17, Ir.evE.eq_19, Ir.evEs, Ir.evRs, Ir.evO, Ir.evOt, Ir.evT, Ir.evI, Ir.evS.eq_1, Ir.evS.eq_2, Ir.evS.eq_3, Ir.evS.eq_4, Ir.evS.eq_5, Ir.evS.eq_6, Ir.evS.eq_9, Ir.evS.eq_10, Ir.evS.eq_11, Ir.evS.eq_12, Ir.evS.eq_13, Ir.Ok_for, Ir.ev2, Ir.startE, Ir.bT_n, Ir.bT_t, Ir.bT_m, Ir.bTs_n, Ir.bTs_c, Ir.wipeE, Ir.mt0, Ir.mt1, Ir.mt2, Ir.mt3, Ir.mt4, Ir.ad0, Ir.ad1, Ir.ad2, Ir.ad3, Ir.arrU, Ir.fu, Ir.ft, Ir.gd, Ir.gRu, Ir.gRt, Ir.sq1, Ir.sq2, Ir.ls1, Ir.rt1, Ir.rt2, Ir.bopR_d, Ir.b_add, Ir.b_sub, Ir.c_lt, Ir.c_le, Ir.c_gt, Ir.c_ge, Ir.c_eqi, Ir.c_eqs, Ir.c_eqb, Ir.c_nei, Ir.c_nes, Ir.c_neb, Ir.c_is, Ir.c_isn, Ir.n1, Ir.n2, Ir.n3, Ir.n4, Ir.n5, Ir.n6, Ir.d_lt, Ir.d_le, Ir.d_gt, Ir.d_ge, Ir.x_tup, Ir.x_tmp, Ir.x_mix, Ir.x_ref, Ir.a0, Ir.a1, Ir.a2, Ir.i30, Ir.i32, Ir.f_len, Ir.l_tup, Ir.l_tmp, Ir.l_mix, Ir.l_ref, Ir.f_int, Ir.f_intb, Ir.f_abs, Ir.f_max, Ir.f_min, Ir.f_tup, Ir.f_list, Ir.f_all, Ir.f_any, Ir.f_isin, Ir.t_int, Ir.t_str, Ir.t_bl, Ir.t_non, Ir.t_tup, Ir.t_mix, Ir.is_ii, Ir.is_ib, Ir.is_tt, Ir.is_it, Ir.is_ss, Ir.p_j, Ir.p_s, Ir.p_p, Ir.tr_b, Ir.s_tmp, Ir.s_tup, Ir.s_str, Ir.boolsD, Ir.strsD, Ir.sqr, Ir.lsr, Ir.ob1, Ir.ob2, Ir.blU, List.map_cons, List.map_nil, List.length_cons, List.length_nil, List.replicate, List.cons_append, List.nil_append, List.append_nil, List.getElem?_cons_zero, List.getElem?_cons_succ, List.getElem?_nil, List.set_cons_zero, List.set_cons_succ, List.set_nil, Option.bind_some, Option.map_some, Option.map_none, Option.bind_none, if_true, if_false, ite_true, ite_false, reduceIte, Bool.not_true, Bool.not_false, List.take_succ_cons, List.take_length, List.take_zero, Nat.add_sub_cancel, Nat.sub_self, Nat.reduceSub, Nat.reduceAdd, reduceCtorEq, Bool.false_eq_true, decide_true, decide_false, List.all_cons, List.any_cons, List.all_nil, List.any_nil, id_eq, Bool.true_and, Bool.and_true, Bool.false_or, Bool.or_false, Ir.zc0, Ir.zc1, Ir.zc2, Ir.zc3, eq_self, Ir.bools_const, Ir.all_const, Ir.any_const, lowd, and_self, ex]
  refine Ok.mono (tab_ok (T := []) (by omega) (by omega) hw hlo (by omega) h3) ?_
  rintro p ⟨t, d4, rfl, ht, h4⟩
  simp -implicitDefEqProofs only [Ir.Ok_bind, Ir.Ok_map, Ir.Ok_some, Ir.Ok_none, Ir.evSs, Ir.evE.eq_1, Ir.evE.eq_2, Ir.evE.eq_3, Ir.evE.eq_4, Ir.evE.eq_5, Ir.evE.eq_6, Ir.evE.eq_7, Ir.evE.eq_8, Ir.evE.eq_9, Ir.evE.eq_10, Ir.evE.eq_11, Ir.evE.eq_12, Ir.evE.eq_13, Ir.evE.eq_14, Ir.evE.eq_15, Ir.evE.eq_16, Ir.evE.eq_17, Ir.evE.eq_19, Ir.evEs, Ir.evRs, Ir.evO, Ir.evOt, Ir.evT, Ir.evI, Ir.evS.eq_1, Ir.evS.eq_2, Ir.evS.eq_3, Ir.evS.eq_4, Ir.evS.eq_5, Ir.evS.eq_6, Ir.evS.eq_9, Ir.evS.eq_10, Ir.evS.eq_11, Ir.evS.eq_12, Ir.evS.eq_13, Ir.Ok_for, Ir.ev2, Ir.startE, Ir.bT_n, Ir.bT_t, Ir.bT_m, Ir.bTs_n, Ir.bTs_c, Ir.wipeE, Ir.mt0, Ir.mt1, Ir.mt2, Ir.mt3, Ir.mt4, Ir.ad0, Ir.ad1, Ir.ad2, Ir.ad3, Ir.arrU, Ir.fu, Ir.ft, Ir.gd, Ir.gRu, Ir.gRt, Ir.sq1, Ir.sq2, Ir.ls1, Ir.rt1, Ir.rt2, Ir.bopR_d, Ir.b_add, Ir.b_sub, Ir.c_lt, Ir.c_le, Ir.c_gt, Ir.c_ge, Ir.c_eqi, Ir.c_eqs, Ir.c_eqb, Ir.c_nei, Ir.c_nes, Ir.c_neb, Ir.c_is, Ir.c_isn, Ir.n1, Ir.n2, Ir.n3, Ir.n4, Ir.n5, Ir.n6, Ir.d_lt, Ir.d_le, Ir.d_gt, Ir.d_ge, Ir.x_tup, Ir.x_tmp, Ir.x_mix, Ir.x_ref, Ir.a0, Ir.a1, Ir.a2, Ir.i30, Ir.i32, Ir.f_len, Ir.l_tup, Ir.l_tmp, Ir.l_mix, Ir.l_ref, Ir.f_int, Ir.f_intb, Ir.f_abs, Ir.f_max, Ir.f_min, Ir.f_tup, Ir.f_list, Ir.f_all, Ir.f_any, Ir.f_isin, Ir.t_int, Ir.t_str, Ir.t_bl, Ir.t_non, Ir.t_tup, Ir.t_mix, Ir.is_ii, Ir.is_ib, Ir.is_tt, Ir.is_it, Ir.is_ss, Ir.p_j, Ir.p_s, Ir.p_p, Ir.tr_b, Ir.s_tmp, Ir.s_tup, Ir.s_str, Ir.boolsD, Ir.strsD, Ir.sqr, Ir.lsr, Ir.ob1, Ir.ob2, Ir.blU, List.map_cons, List.map_nil, List.length_cons, List.length_nil, List.replicate, List.cons_append, List.nil_append, List.append_nil, List.getElem?_cons_zero, List.getElem?_cons_succ, List.getElem?_nil, List.set_cons_zero, List.set_cons_succ, List.set_nil, Option.bind_some, Option.map_some, Option.map_none, Option.bind_none, if_true, if_false, ite_true, ite_false, reduceIte, Bool.not_true, Bool.not_false, List.take_succ_cons, List.take_length, List.take_zero, Nat.add_sub_cancel, Nat.sub_self, Nat.reduceSub, Nat.reduceAdd, reduceCtorEq, Bool.false_eq_true, decide_true, decide_false, List.all_cons, List.any_cons, List.all_nil, List.any_nil, id_eq, Bool.true_and, Bool.and_true, Bool.false_or, Bool.or_false, Ir.zc0, Ir.zc1, Ir.zc2, Ir.zc3, eq_self, Ir.bools_const, Ir.all_const, Ir.any_const]
  refine Ok.mono (tab_ok (T := []) (by omega) (by omega) hw hlo (by omega) h4) ?_
  rintro p ⟨u, d5, rfl, hu, h5⟩
  simp -implicitDefEqProofs only [Ir.Ok_bind, Ir.Ok_map, Ir.Ok_some, Ir.Ok_none, Ir.evSs, Ir.evE.eq_1, Ir.evE.eq_2, Ir.evE.eq_3, Ir.evE.eq_4, Ir.evE.eq_5, Ir.evE.eq_6, Ir.evE.eq_7, Ir.evE.eq_8, Ir.evE.eq_9, Ir.evE.eq_10, Ir.evE.eq_11, Ir.evE.eq_12, Ir.evE.eq_13, Ir.evE.eq_14, Ir.evE.eq_15, Ir.evE.eq_16, Ir.evE.eq_17, Ir.evE.eq_19, Ir.evEs, Ir.evRs, Ir.evO, Ir.evOt, Ir.evT, Ir.evI, Ir.evS.eq_1, Ir.evS.eq_2, Ir.evS.eq_3, Ir.evS.eq_4, Ir.evS.eq_5, Ir.evS.eq_6, Ir.evS.eq_9, Ir.evS.eq_10, Ir.evS.eq_11, Ir.evS.eq_12, Ir.evS.eq_13, Ir.Ok_for, Ir.ev2, Ir.startE, Ir.bT_n, Ir.bT_t, Ir.bT_m, Ir.bTs_n, Ir.bTs_c, Ir.wipeE, Ir.mt0, Ir.mt1, Ir.mt2, Ir.mt3, Ir.mt4, Ir.ad0, Ir.ad1, Ir.ad2, Ir.ad3, Ir.arrU, Ir.fu, Ir.ft, Ir.gd, Ir.gRu, Ir.gRt, Ir.sq1, Ir.sq2, Ir.ls1, Ir.rt1, Ir.rt2, Ir.bopR_d, Ir.b_add, Ir.b_sub, Ir.c_lt, Ir.c_le, Ir.c_gt, Ir.c_ge, Ir.c_eqi, Ir.c_eqs, Ir.c_eqb, Ir.c_nei, Ir.c_nes, Ir.c_neb, Ir.c_is, Ir.c_isn, Ir.n1, Ir.n2, Ir.n3, Ir.n4, Ir.n5, Ir.n6, Ir.d_lt, Ir.d_le, Ir.d_gt, Ir.d_ge, Ir.x_tup, Ir.x_tmp, Ir.x_mix, Ir.x_ref, Ir.a0, Ir.a1, Ir.a2, Ir.i30, Ir.i32, Ir.f_len, Ir.l_tup, Ir.l_tmp, Ir.l_mix, Ir.l_ref, Ir.f_int, Ir.f_intb, Ir.f_abs, Ir.f_max, Ir.f_min, Ir.f_tup, Ir.f_list, Ir.f_all, Ir.f_any, Ir.f_isin, Ir.t_int, Ir.t_str, Ir.t_bl, Ir.t_non, Ir.t_tup, Ir.t_mix, Ir.is_ii, Ir.is_ib, Ir.is_tt, Ir.is_it, Ir.is_ss, Ir.p_j, Ir.p_s, Ir.p_p, Ir.tr_b, Ir.s_tmp, Ir.s_tup, Ir.s_str, Ir.boolsD, Ir.strsD, Ir.sqr, Ir.lsr, Ir.ob1, Ir.ob2, Ir.blU, List.map_cons, List.map_nil, List.length_cons, List.length_nil, List.replicate, List.cons_append, List.nil_append, List.append_nil, List.getElem?_cons_zero, List.getElem?_cons_succ, List.getElem?_nil, List.set_cons_zero, List.set_cons_succ, List.set_nil, Option.bind_some, Option.map_some, Option.map_none, Option.bind_none, if_true, if_false, ite_true, ite_false, reduceIte, Bool.not_true, Bool.not_false, List.take_succ_cons, List.take_length, List.take_zero, Nat.add_sub_cancel, Nat.sub_self, Nat.reduceSub, Nat.reduceAdd, reduceCtorEq, Bool.false_eq_true, decide_true, decide_false, List.all_cons, List.any_cons, List.all_nil, List.any_nil, id_eq, Bool.true_and, Bool.and_true, Bool.false_or, Bool.or_false, Ir.zc0, Ir.zc1, Ir.zc2, Ir.zc3, eq_self, Ir.bools_const, Ir.all_const, Ir.any_const]
  exact ⟨rows, cols, t, u, d5, rfl, by omega, by omega, ht, hu, h5.mono (by omega)⟩
theorem pairs_ok {k : Nat} {sc : Ob} {S : Store} {dk : List D} {N : Int} {rows cols n : Nat} {a b c d f g : Option U} {src : Ir.It} (hr : 0 < rows ∧ rows ≤ 5) (hc : 0 < cols ∧ cols ≤ 5) (hn : n ≤ 20) (hS : S.length = 2) (hN : N < 2 ^ 40) (hd : Dk dk N)
    (hi : evI (Ir.run pd.fds (k + 1)) src [some (.ref 1), some (.d (.int rows)), some (.d (.int cols)), a, b, c, d, f, g] S = some ((rngD 0 n, none), [sc, .lst dk])) :
    Ok (evE (Ir.run pd.fds (k + 1)) (.comp [4] (.n 4) src .none (.tup (.cons (.call 25 [.a 0, .a 1] (.cons (.var 0) (.cons (.var 1) .nil))) (.cons (.call 25 [.a 0, .a 1] (.cons (.var 0) (.cons (.var 2) .nil))) .nil))))
      [some (.ref 1), some (.d (.int rows)), some (.d (.int cols)), a, b, c, d, f, g] S) fun p => ∃ (os : List (Int × Int)) (dk' : List D), p = (.tmp (os.map ocD), [sc, .lst dk']) ∧ os.length = n ∧ OcOk os ∧ Dk dk' (N + 100) := by
  refine Ok.mono (comp_deck (b := 2) (T := []) (sc := sc) (dk := dk) (xs := rngD 0 n) (fun y => ∃ r, y = ocD r ∧ ((0 ≤ r.1 ∧ r.1 < 1000) ∧ (0 ≤ r.2 ∧ r.2 < 1000))) hi hS (by rw [se]; omega) (by omega) (by omega) hd (fun x hx acc dk' M hM hd' => ?_)) ?_
  · simp -implicitDefEqProofs only [turnC, Ir.Ok_bind, Ir.Ok_map, Ir.Ok_some, Ir.Ok_none, Ir.evSs, Ir.evE.eq_1, Ir.evE.eq_2, Ir.evE.eq_3, Ir.evE.eq_4, Ir.evE.eq_5, Ir.evE.eq_6, Ir.evE.eq_7, Ir.evE.eq_8, Ir.evE.eq_9, Ir.evE.eq_10, Ir.evE.eq_11, Ir.evE.eq_12, Ir.evE.eq_13, Ir.evE.eq_14, Ir.evE.eq_15, Ir.evE.eq_16, Ir.evE.eq_17, Ir.evE.eq_19, Ir.evEs, Ir.evRs, Ir.evO, Ir.evOt, Ir.evT, Ir.evI, Ir.evS.eq_1, Ir.evS.eq_2, Ir.evS.eq_3, Ir.evS.eq_4, Ir.evS.eq_5, Ir.evS.eq_6, Ir.evS.eq_9, Ir.evS.eq_10, Ir.evS.eq_11, Ir.evS.eq_12, Ir.evS.eq_13, Ir.Ok_for, Ir.ev2, Ir.startE, Ir.bT_n, Ir.bT_t, Ir.bT_m, Ir.bTs_n, Ir.bTs_c, Ir.wipeE, Ir.mt0, Ir.mt1, Ir.mt2, Ir.mt3, Ir.mt4, Ir.ad0, Ir.ad1, Ir.ad2, Ir.ad3, Ir.arrU, Ir.fu, Ir.ft, Ir.gd, Ir.gRu, Ir.gRt, Ir.sq1, Ir.sq2, Ir.ls1, Ir.rt1, Ir.rt2, Ir.bopR_d, Ir.b_add, Ir.b_sub, Ir.c_lt, Ir.c_le, Ir.c_gt, Ir.c_ge, Ir.c_eqi, Ir.c_eqs, Ir.c_eqb, Ir.c_nei, Ir.c_nes, Ir.c_neb, Ir.c_is, Ir.c_isn, Ir.n1, Ir.n2, Ir.n3, Ir.n4, Ir.n5, Ir.n6, Ir.d_lt, Ir.d_le, Ir.d_gt, Ir.d_ge, Ir.x_tup, Ir.x_tmp, Ir.x_mix, Ir.x_ref, Ir.a0, Ir.a1, Ir.a2, Ir.i30, Ir.i32, Ir.f_len, Ir.l_tup, Ir.l_tmp, Ir.l_mix, Ir.l_ref, Ir.f_int, Ir.f_intb, Ir.f_abs, Ir.f_max, Ir.f_min, Ir.f_tup, Ir.f_list, Ir.f_all, Ir.f_any, Ir.f_isin, Ir.t_int, Ir.t_str, Ir.t_bl, Ir.t_non, Ir.t_tup, Ir.t_mix, Ir.is_ii, Ir.is_ib, Ir.is_tt, Ir.is_it, Ir.is_ss, Ir.p_j, Ir.p_s, Ir.p_p, Ir.tr_b, Ir.s_tmp, Ir.s_tup, Ir.s_str, Ir.boolsD, Ir.strsD, Ir.sqr, Ir.lsr, Ir.ob1, Ir.ob2, Ir.blU, List.map_cons, List.map_nil, List.length_cons, List.length_nil, List.replicate, List.cons_append, List.nil_append, List.append_nil, List.getElem?_cons_zero, List.getElem?_cons_succ, List.getElem?_nil, List.set_cons_zero, List.set_cons_succ, List.set_nil, Option.bind_some, Option.map_some, Option.map_none, Option.bind_none, if_true, if_false, ite_true, ite_false, reduceIte, Bool.not_true, Bool.not_false, List.take_succ_cons, List.take_length, List.take_zero, Nat.add_sub_cancel, Nat.sub_self, Nat.reduceSub, Nat.reduceAdd, reduceCtorEq, Bool.false_eq_true, decide_true, decide_false, List.all_cons, List.any_cons, List.all_nil, List.any_nil, id_eq, Bool.true_and, Bool.and_true, Bool.false_or, Bool.or_false, Ir.zc0, Ir.zc1, Ir.zc2, Ir.zc3, eq_self, Ir.bools_const, Ir.all_const, Ir.any_const]
    refine Ok.mono (take_run (m := (rows : Int)) hd' (by omega) (by omega) (by omega)) ?_
    rintro p ⟨v, d1, rfl, hv0, hv1, h1⟩
    simp -implicitDefEqProofs only [Ir.Ok_bind, Ir.Ok_map, Ir.Ok_some, Ir.Ok_none, Ir.evSs, Ir.evE.eq_1, Ir.evE.eq_2, Ir.evE.eq_3, Ir.evE.eq_4, Ir.evE.eq_5, Ir.evE.eq_6, Ir.evE.eq_7, Ir.evE.eq_8, Ir.evE.eq_9, Ir.evE.eq_10, Ir.evE.eq_11, Ir.evE.eq_12, Ir.evE.eq_13, Ir.evE.eq_14, Ir.evE.eq_15, Ir.evE.eq_16, Ir.evE.eq_17, Ir.evE.eq_19, Ir.evEs, Ir.evRs, Ir.evO, Ir.evOt, Ir.evT, Ir.evI, Ir.evS.eq_1, Ir.evS.eq_2, Ir.evS.eq_3, Ir.evS.eq_4, Ir.evS.eq_5, Ir.evS.eq_6, Ir.evS.eq_9, Ir.evS.eq_10, Ir.evS.eq_11, Ir.evS.eq_12, Ir.evS.eq_13, Ir.Ok_for, Ir.ev2, Ir.startE, Ir.bT_n, Ir.bT_t, Ir.bT_m, Ir.bTs_n, Ir.bTs_c, Ir.wipeE, Ir.mt0, Ir.mt1, Ir.mt2, Ir.mt3, Ir.mt4, Ir.ad0, Ir.ad1, Ir.ad2, Ir.ad3, Ir.arrU, Ir.fu, Ir.ft, Ir.gd, Ir.gRu, Ir.gRt, Ir.sq1, Ir.sq2, Ir.ls1, Ir.rt1, Ir.rt2, Ir.bopR_d, Ir.b_add, Ir.b_sub, Ir.c_lt, Ir.c_le, Ir.c_gt, Ir.c_ge, Ir.c_eqi, Ir.c_eqs, Ir.c_eqb, Ir.c_nei, Ir.c_nes, Ir.c_neb, Ir.c_is, Ir.c_isn, Ir.n1, Ir.n2, Ir.n3, Ir.n4, Ir.n5, Ir.n6, Ir.d_lt, Ir.d_le, Ir.d_gt, Ir.d_ge, Ir.x_tup, Ir.x_tmp, Ir.x_mix, Ir.x_ref, Ir.a0, Ir.a1, Ir.a2, Ir.i30, Ir.i32, Ir.f_len, Ir.l_tup, Ir.l_tmp, Ir.l_mix, Ir.l_ref, Ir.f_int, Ir.f_intb, Ir.f_abs, Ir.f_max, Ir.f_min, Ir.f_tup, Ir.f_list, Ir.f_all, Ir.f_any, Ir.f_isin, Ir.t_int, Ir.t_str, Ir.t_bl, Ir.t_non, Ir.t_tup, Ir.t_mix, Ir.is_ii, Ir.is_ib, Ir.is_tt, Ir.is_it, Ir.is_ss, Ir.p_j, Ir.p_s, Ir.p_p, Ir.tr_b, Ir.s_tmp, Ir.s_tup, Ir.s_str, Ir.boolsD, Ir.strsD, Ir.sqr, Ir.lsr, Ir.ob1, Ir.ob2, Ir.blU, List.map_cons, List.map_nil, List.length_cons, List.length_nil, List.replicate, List.cons_append, List.nil_append, List.append_nil, List.getElem?_cons_zero, List.getElem?_cons_succ, List.getElem?_nil, List.set_cons_zero, List.set_cons_succ, List.set_nil, Option.bind_some, Option.map_some, Option.map_none, Option.bind_none, if_true, if_false, ite_true, ite_false, reduceIte, Bool.not_true, Bool.not_false, List.take_succ_cons, List.take_length, List.take_zero, Nat.add_sub_cancel, Nat.sub_self, Nat.reduceSub, Nat.reduceAdd, reduceCtorEq, Bool.false_eq_true, decide_true, decide_false, List.all_cons, List.any_cons, List.all_nil, List.any_nil, id_eq, Bool.true_and, Bool.and_true, Bool.false_or, Bool.or_false, Ir.zc0, Ir.zc1, Ir.zc2, Ir.zc3, eq_self, Ir.bools_const, Ir.all_const, Ir.any_const]
    refine Ok.mono (take_run (m := (cols : Int)) h1 (by omega) (by omega) (by omega)) ?_
    rintro p ⟨v2, d2, rfl, hw0, hw1, h2⟩
    simp -implicitDefEqProofs only [Ir.Ok_bind, Ir.Ok_map, Ir.Ok_some, Ir.Ok_none, Ir.evSs, Ir.evE.eq_1, Ir.evE.eq_2, Ir.evE.eq_3, Ir.evE.eq_4, Ir.evE.eq_5, Ir.evE.eq_6, Ir.evE.eq_7, Ir.evE.eq_8, Ir.evE.eq_9, Ir.evE.eq_10, Ir.evE.eq_11, Ir.evE.eq_12, Ir.evE.eq_13, Ir.evE.eq_14, Ir.evE.eq_15, Ir.evE.eq_16, Ir.evE.eq_17, Ir.evE.eq_19, Ir.evEs, Ir.evRs, Ir.evO, Ir.evOt, Ir.evT, Ir.evI, Ir.evS.eq_1, Ir.evS.eq_2, Ir.evS.eq_3, Ir.evS.eq_4, Ir.evS.eq_5, Ir.evS.eq_6, Ir.evS.eq_9, Ir.evS.eq_10, Ir.evS.eq_11, Ir.evS.eq_12, Ir.evS.eq_13, Ir.Ok_for, Ir.ev2, Ir.startE, Ir.bT_n, Ir.bT_t, Ir.bT_m, Ir.bTs_n, Ir.bTs_c, Ir.wipeE, Ir.mt0, Ir.mt1, Ir.mt2, Ir.mt3, Ir.mt4, Ir.ad0, Ir.ad1, Ir.ad2, Ir.ad3, Ir.arrU, Ir.fu, Ir.ft, Ir.gd, Ir.gRu, Ir.gRt, Ir.sq1, Ir.sq2, Ir.ls1, Ir.rt1, Ir.rt2, Ir.bopR_d, Ir.b_add, Ir.b_sub, Ir.c_lt, Ir.c_le, Ir.c_gt, Ir.c_ge, Ir.c_eqi, Ir.c_eqs, Ir.c_eqb, Ir.c_nei, Ir.c_nes, Ir.c_neb, Ir.c_is, Ir.c_isn, Ir.n1, Ir.n2, Ir.n3, Ir.n4, Ir.n5, Ir.n6, Ir.d_lt, Ir.d_le, Ir.d_gt, Ir.d_ge, Ir.x_tup, Ir.x_tmp, Ir.x_mix, Ir.x_ref, Ir.a0, Ir.a1, Ir.a2, Ir.i30, Ir.i32, Ir.f_len, Ir.l_tup, Ir.l_tmp, Ir.l_mix, Ir.l_ref, Ir.f_int, Ir.f_intb, Ir.f_abs, Ir.f_max, Ir.f_min, Ir.f_tup, Ir.f_list, Ir.f_all, Ir.f_any, Ir.f_isin, Ir.t_int, Ir.t_str, Ir.t_bl, Ir.t_non, Ir.t_tup, Ir.t_mix, Ir.is_ii, Ir.is_ib, Ir.is_tt, Ir.is_it, Ir.is_ss, Ir.p_j, Ir.p_s, Ir.p_p, Ir.tr_b, Ir.s_tmp, Ir.s_tup, Ir.s_str, Ir.boolsD, Ir.strsD, Ir.sqr, Ir.lsr, Ir.ob1, Ir.ob2, Ir.blU, List.map_cons, List.map_nil, List.length_cons, List.length_nil, List.replicate, List.cons_append, List.nil_append, List.append_nil, List.getElem?_cons_zero, List.getElem?_cons_succ, List.getElem?_nil, List.set_cons_zero, List.set_cons_succ, List.set_nil, Option.bind_some, Option.map_some, Option.map_none, Option.bind_none, if_true, if_false, ite_true, ite_false, reduceIte, Bool.not_true, Bool.not_false, List.take_succ_cons, List.take_length, List.take_zero, Nat.add_sub_cancel, Nat.sub_self, Nat.reduceSub, Nat.reduceAdd, reduceCtorEq, Bool.false_eq_true, decide_true, decide_false, List.all_cons, List.any_cons, List.all_nil, List.any_nil, id_eq, Bool.true_and, Bool.and_true, Bool.false_or, Bool.or_false, Ir.zc0, Ir.zc1, Ir.zc2, Ir.zc3, eq_self, Ir.bools_const, Ir.all_const, Ir.any_const]
    exact ⟨_, _, rfl, ⟨(v, v2), rfl, by constructor <;> constructor <;> simp only <;> omega⟩, h2.mono (by omega)⟩
  · rintro p ⟨ys, dk', rfl, e1, e2, e3⟩
    obtain ⟨os, rfl, e4, e5⟩ := maps_of ocD (fun r => ((0 ≤ r.1 ∧ r.1 < 1000) ∧ (0 ≤ r.2 ∧ r.2 < 1000))) ys e2
    rw [se] at e1
    refine ⟨os, dk', rfl, by rw [e4, e1], ⟨by rw [e4, e1]; exact hn, e5⟩, e3.mono ?_⟩
    rw [se]
    omega
theorem play_right_ok {k : Nat} {sc : Ob} {dk : List D} {N : Int} {rows cols : Nat} (hr : 0 < rows ∧ rows ≤ 5) (hc : 0 < cols ∧ cols ≤ 5) (hN : N < 2 ^ 39) (hd : Dk dk N) :
    Ok (run pd.fds (k + 3) 32 [.ref 1, .d (.int rows), .d (.int cols)] [sc, .lst dk]) fun p => ∃ dk', p = (.d (.bl true), [sc, .lst dk']) ∧ Dk dk' (N + 300) := by
  refine run_ok ⟨3, 9, ir__law_play_right⟩ rfl rfl ?_
  simp -implicitDefEqProofs only [Ir.Ok_bind, Ir.Ok_map, Ir.Ok_some, Ir.Ok_none, Ir.evSs, Ir.evE.eq_1, Ir.evE.eq_2, Ir.evE.eq_3, Ir.evE.eq_4, Ir.evE.eq_5, Ir.evE.eq_6, Ir.evE.eq_7, Ir.evE.eq_8, Ir.evE.eq_9, Ir.evE.eq_10, Ir.evE.eq_11, Ir.evE.eq_12, Ir.evE.eq_13, Ir.evE.eq_14, Ir.evE.eq_15, Ir.evE.eq_16, Ir.evE.eq_17, Ir.evE.eq_19, Ir.evEs, Ir.evRs, Ir.evO, Ir.evOt, Ir.evT, Ir.evI, Ir.evS.eq_1, Ir.evS.eq_2, Ir.evS.eq_3, Ir.evS.eq_4, Ir.evS.eq_5, Ir.evS.eq_6, Ir.evS.eq_9, Ir.evS.eq_10, Ir.evS.eq_11, Ir.evS.eq_12, Ir.evS.eq_13, Ir.Ok_for, Ir.ev2, Ir.startE, Ir.bT_n, Ir.bT_t, Ir.bT_m, Ir.bTs_n, Ir.bTs_c, Ir.wipeE, Ir.mt0, Ir.mt1, Ir.mt2, Ir.mt3, Ir.mt4, Ir.ad0, Ir.ad1, Ir.ad2, Ir.ad3, Ir.arrU, Ir.fu, Ir.ft, Ir.gd, Ir.gRu, Ir.gRt, Ir.sq1, Ir.sq2, Ir.ls1, Ir.rt1, Ir.rt2, Ir.bopR_d, Ir.b_add, Ir.b_sub, Ir.c_lt, Ir.c_le, Ir.c_gt, Ir.c_ge, Ir.c_eqi, Ir.c_eqs, Ir.c_eqb, Ir.c_nei, Ir.c_nes, Ir.c_neb, Ir.c_is, Ir.c_isn, Ir.n1, Ir.n2, Ir.n3, Ir.n4, Ir.n5, Ir.n6, Ir.d_lt, Ir.d_le, Ir.d_gt, Ir.d_ge, Ir.x_tup, Ir.x_tmp, Ir.x_mix, Ir.x_ref, Ir.a0, Ir.a1, Ir.a2, Ir.i30, Ir.i32, Ir.f_len, Ir.l_tup, Ir.l_tmp, Ir.l_mix, Ir.l_ref, Ir.f_int, Ir.f_intb, Ir.f_abs, Ir.f_max, Ir.f_min, Ir.f_tup, Ir.f_list, Ir.f_all, Ir.f_any, Ir.f_isin, Ir.t_int, Ir.t_str, Ir.t_bl, Ir.t_non, Ir.t_tup, Ir.t_mix, Ir.is_ii, Ir.is_ib, Ir.is_tt, Ir.is_it, Ir.is_ss, Ir.p_j, Ir.p_s, Ir.p_p, Ir.tr_b, Ir.s_tmp, Ir.s_tup, Ir.s_str, Ir.boolsD, Ir.strsD, Ir.sqr, Ir.lsr, Ir.ob1, Ir.ob2, Ir.blU, List.map_cons, List.map_nil, List.length_cons, List.length_nil, List.replicate, List.cons_append, List.nil_append, List.append_nil, List.getElem?_cons_zero, List.getElem?_cons_succ, List.getElem?_nil, List.set_cons_zero, List.set_cons_succ, List.set_nil, Option.bind_some, Option.map_some, Option.map_none, Option.bind_none, if_true, if_false, ite_true, ite_false, reduceIte, Bool.not_true, Bool.not_false, List.take_succ_cons, List.take_length, List.take_zero, Nat.add_sub_cancel, Nat.sub_self, Nat.reduceSub, Nat.reduceAdd, reduceCtorEq, Bool.false_eq_true, decide_true, decide_false, List.all_cons, List.any_cons, List.all_nil, List.any_nil, id_eq, Bool.true_and, Bool.and_true, Bool.false_or, Bool.or_false, Ir.zc0, Ir.zc1, Ir.zc2, Ir.zc3, eq_self, Ir.bools_const, Ir.all_const, Ir.any_const, ir__law_play_right]
  obtain ⟨q, e1, v1, d1, rfl, a1, b1, h1⟩ := take_run (k := k + 1) (sc := sc) (T := []) (m := 13) hd (by omega) (by decide) (by decide)
  refine Ok.mono (pairs_ok (n := v1.toNat) (sc := sc) (dk := d1) hr hc (by omega) rfl (by omega) h1 (evI_rng (j := v1) (by
    have := Ok.eq (y := ((.u (.d (.int v1)), [sc, .lst d1]) : Ir.R × Store)) (m := evE (Ir.run pd.fds (k + 1 + 1)) (.call 25 [.a 0, .a 1] (.cons (.var 0) (.cons (.lit (.int 13)) .nil))) [some (.ref 1), some (.d (.int rows)), some (.d (.int cols)), none, none, none, none, none, none] [sc, .lst dk]) (by simp -implicitDefEqProofs only [Ir.Ok_bind, Ir.Ok_map, Ir.Ok_some, Ir.Ok_none, Ir.evSs, Ir.evE.eq_1, Ir.evE.eq_2, Ir.evE.eq_3, Ir.evE.eq_4, Ir.evE.eq_5, Ir.evE.eq_6, Ir.evE.eq_7, Ir.evE.eq_8, Ir.evE.eq_9, Ir.evE.eq_10, Ir.evE.eq_11, Ir.evE.eq_12, Ir.evE.eq_13, Ir.evE.eq_14, Ir.evE.eq_15, Ir.evE.eq_16, Ir.evE.eq_17, Ir.evE.eq_19, Ir.evEs, Ir.evRs, Ir.evO, Ir.evOt, Ir.evT, Ir.evI, Ir.evS.eq_1, Ir.evS.eq_2, Ir.evS.eq_3, Ir.evS.eq_4, Ir.evS.eq_5, Ir.evS.eq_6, Ir.evS.eq_9, Ir.evS.eq_10, Ir.evS.eq_11, Ir.evS.eq_12, Ir.evS.eq_13, Ir.Ok_for, Ir.ev2, Ir.startE, Ir.bT_n, Ir.bT_t, Ir.bT_m, Ir.bTs_n, Ir.bTs_c, Ir.wipeE, Ir.mt0, Ir.mt1, Ir.mt2, Ir.mt3, Ir.mt4, Ir.ad0, Ir.ad1, Ir.ad2, Ir.ad3, Ir.arrU, Ir.fu, Ir.ft, Ir.gd, Ir.gRu, Ir.gRt, Ir.sq1, Ir.sq2, Ir.ls1, Ir.rt1, Ir.rt2, Ir.bopR_d, Ir.b_add, Ir.b_sub, Ir.c_lt, Ir.c_le, Ir.c_gt, Ir.c_ge, Ir.c_eqi, Ir.c_eqs, Ir.c_eqb, Ir.c_nei, Ir.c_nes, Ir.c_neb, Ir.c_is, Ir.c_isn, Ir.n1, Ir.n2, Ir.n3, Ir.n4, Ir.n5, Ir.n6, Ir.d_lt, Ir.d_le, Ir.d_gt, Ir.d_ge, Ir.x_tup, Ir.x_tmp, Ir.x_mix, Ir.x_ref, Ir.a0, Ir.a1, Ir.a2, Ir.i30, Ir.i32, Ir.f_len, Ir.l_tup, Ir.l_tmp, Ir.l_mix, Ir.l_ref, Ir.f_int, Ir.f_intb, Ir.f_abs, Ir.f_max, Ir.f_min, Ir.f_tup, Ir.f_list, Ir.f_all, Ir.f_any, Ir.f_isin, Ir.t_int, Ir.t_str, Ir.t_bl, Ir.t_non, Ir.t_tup, Ir.t_mix, Ir.is_ii, Ir.is_ib, Ir.is_tt, Ir.is_it, Ir.is_ss, Ir.p_j, Ir.p_s, Ir.p_p, Ir.tr_b, Ir.s_tmp, Ir.s_tup, Ir.s_str, Ir.boolsD, Ir.strsD, Ir.sqr, Ir.lsr, Ir.ob1, Ir.ob2, Ir.blU, List.map_cons, List.map_nil, List.length_cons, List.length_nil, List.replicate, List.cons_append, List.nil_append, List.append_nil, List.getElem?_cons_zero, List.getElem?_cons_succ, List.getElem?_nil, List.set_cons_zero, List.set_cons_succ, List.set_nil, Option.bind_some, Option.map_some, Option.map_none, Option.bind_none, if_true, if_false, ite_true, ite_false, reduceIte, Bool.not_true, Bool.not_false, List.take_succ_cons, List.take_length, List.take_zero, Nat.add_sub_cancel, Nat.sub_self, Nat.reduceSub, Nat.reduceAdd, reduceCtorEq, Bool.false_eq_true, decide_true, decide_false, List.all_cons, List.any_cons, List.all_nil, List.any_nil, id_eq, Bool.true_and, Bool.and_true, Bool.false_or, Bool.or_false, Ir.zc0, Ir.zc1, Ir.zc2, Ir.zc3, eq_self, Ir.bools_const, Ir.all_const, Ir.any_const, e1])
    exact this) a1 (by omega))) ?_
  rintro p ⟨tail, d2, rfl, l1, ht, h2⟩
  simp -implicitDefEqProofs only [Ir.Ok_bind, Ir.Ok_map, Ir.Ok_some, Ir.Ok_none, Ir.evSs, Ir.evE.eq_1, Ir.evE.eq_2, Ir.evE.eq_3, Ir.evE.eq_4, Ir.evE.eq_5, Ir.evE.eq_6, Ir.evE.eq_7, Ir.evE.eq_8, Ir.evE.eq_9, Ir.evE.eq_10, Ir.evE.eq_11, Ir.evE.eq_12, Ir.evE.eq_13, Ir.evE.eq_14, Ir.evE.eq_15, Ir.evE.eq_16, Ir.evE.eq_17, Ir.evE.eq_19, Ir.evEs, Ir.evRs, Ir.evO, Ir.evOt, Ir.evT, Ir.evI, Ir.evS.eq_1, Ir.evS.eq_2, Ir.evS.eq_3, Ir.evS.eq_4, Ir.evS.eq_5, Ir.evS.eq_6, Ir.evS.eq_9, Ir.evS.eq_10, Ir.evS.eq_11, Ir.evS.eq_12, Ir.evS.eq_13, Ir.Ok_for, Ir.ev2, Ir.startE, Ir.bT_n, Ir.bT_t, Ir.bT_m, Ir.bTs_n, Ir.bTs_c, Ir.wipeE, Ir.mt0, Ir.mt1, Ir.mt2, Ir.mt3, Ir.mt4, Ir.ad0, Ir.ad1, Ir.ad2, Ir.ad3, Ir.arrU, Ir.fu, Ir.ft, Ir.gd, Ir.gRu, Ir.gRt, Ir.sq1, Ir.sq2, Ir.ls1, Ir.rt1, Ir.rt2, Ir.bopR_d, Ir.b_add, Ir.b_sub, Ir.c_lt, Ir.c_le, Ir.c_gt, Ir.c_ge, Ir.c_eqi, Ir.c_eqs, Ir.c_eqb, Ir.c_nei, Ir.c_nes, Ir.c_neb, Ir.c_is, Ir.c_isn, Ir.n1, Ir.n2, Ir.n3, Ir.n4, Ir.n5, Ir.n6, Ir.d_lt, Ir.d_le, Ir.d_gt, Ir.d_ge, Ir.x_tup, Ir.x_tmp, Ir.x_mix, Ir.x_ref, Ir.a0, Ir.a1, Ir.a2, Ir.i30, Ir.i32, Ir.f_len, Ir.l_tup, Ir.l_tmp, Ir.l_mix, Ir.l_ref, Ir.f_int, Ir.f_intb, Ir.f_abs, Ir.f_max, Ir.f_min, Ir.f_tup, Ir.f_list, Ir.f_all, Ir.f_any, Ir.f_isin, Ir.t_int, Ir.t_str, Ir.t_bl, Ir.t_non, Ir.t_tup, Ir.t_mix, Ir.is_ii, Ir.is_ib, Ir.is_tt, Ir.is_it, Ir.is_ss, Ir.p_j, Ir.p_s, Ir.p_p, Ir.tr_b, Ir.s_tmp, Ir.s_tup, Ir.s_str, Ir.boolsD, Ir.strsD, Ir.sqr, Ir.lsr, Ir.ob1, Ir.ob2, Ir.blU, List.map_cons, List.map_nil, List.length_cons, List.length_nil, List.replicate, List.cons_append, List.nil_append, List.append_nil, List.getElem?_cons_zero, List.getElem?_cons_succ, List.getElem?_nil, List.set_cons_zero, List.set_cons_succ, List.set_nil, Option.bind_some, Option.map_some, Option.map_none, Option.bind_none, if_true, if_false, ite_true, ite_false, reduceIte, Bool.not_true, Bool.not_false, List.take_succ_cons, List.take_length, List.take_zero, Nat.add_sub_cancel, Nat.sub_self, Nat.reduceSub, Nat.reduceAdd, reduceCtorEq, Bool.false_eq_true, decide_true, decide_false, List.all_cons, List.any_cons, List.all_nil, List.any_nil, id_eq, Bool.true_and, Bool.and_true, Bool.false_or, Bool.or_false, Ir.zc0, Ir.zc1, Ir.zc2, Ir.zc3, eq_self, Ir.bools_const, Ir.all_const, Ir.any_const]
  obtain ⟨q, e2, v2, d3, rfl, a2, b2, h3⟩ := take_run (k := k + 1) (sc := sc) (T := []) (m := 12) h2 (by omega) (by decide) (by decide)
  refine Ok.mono (pairs_ok (n := (1 + v2).toNat) (sc := sc) (dk := d3) hr hc (by omega) rfl (by omega) h3 (evI_rng (j := 1 + v2) (Ok.eq (by simp -implicitDefEqProofs only [Ir.Ok_bind, Ir.Ok_map, Ir.Ok_some, Ir.Ok_none, Ir.evSs, Ir.evE.eq_1, Ir.evE.eq_2, Ir.evE.eq_3, Ir.evE.eq_4, Ir.evE.eq_5, Ir.evE.eq_6, Ir.evE.eq_7, Ir.evE.eq_8, Ir.evE.eq_9, Ir.evE.eq_10, Ir.evE.eq_11, Ir.evE.eq_12, Ir.evE.eq_13, Ir.evE.eq_14, Ir.evE.eq_15, Ir.evE.eq_16, Ir.evE.eq_17, Ir.evE.eq_19, Ir.evEs, Ir.evRs, Ir.evO, Ir.evOt, Ir.evT, Ir.evI, Ir.evS.eq_1, Ir.evS.eq_2, Ir.evS.eq_3, Ir.evS.eq_4, Ir.evS.eq_5, Ir.evS.eq_6, Ir.evS.eq_9, Ir.evS.eq_10, Ir.evS.eq_11, Ir.evS.eq_12, Ir.evS.eq_13, Ir.Ok_for, Ir.ev2, Ir.startE, Ir.bT_n, Ir.bT_t, Ir.bT_m, Ir.bTs_n, Ir.bTs_c, Ir.wipeE, Ir.mt0, Ir.mt1, Ir.mt2, Ir.mt3, Ir.mt4, Ir.ad0, Ir.ad1, Ir.ad2, Ir.ad3, Ir.arrU, Ir.fu, Ir.ft, Ir.gd, Ir.gRu, Ir.gRt, Ir.sq1, Ir.sq2, Ir.ls1, Ir.rt1, Ir.rt2, Ir.bopR_d, Ir.b_add, Ir.b_sub, Ir.c_lt, Ir.c_le, Ir.c_gt, Ir.c_ge, Ir.c_eqi, Ir.c_eqs, Ir.c_eqb, Ir.c_nei, Ir.c_nes, Ir.c_neb, Ir.c_is, Ir.c_isn, Ir.n1, Ir.n2, Ir.n3, Ir.n4, Ir.n5, Ir.n6, Ir.d_lt, Ir.d_le, Ir.d_gt, Ir.d_ge, Ir.x_tup, Ir.x_tmp, Ir.x_mix, Ir.x_ref, Ir.a0, Ir.a1, Ir.a2, Ir.i30, Ir.i32, Ir.f_len, Ir.l_tup, Ir.l_tmp, Ir.l_mix, Ir.l_ref, Ir.f_int, Ir.f_intb, Ir.f_abs, Ir.f_max, Ir.f_min, Ir.f_tup, Ir.f_list, Ir.f_all, Ir.f_any, Ir.f_isin, Ir.t_int, Ir.t_str, Ir.t_bl, Ir.t_non, Ir.t_tup, Ir.t_mix, Ir.is_ii, Ir.is_ib, Ir.is_tt, Ir.is_it, Ir.is_ss, Ir.p_j, Ir.p_s, Ir.p_p, Ir.tr_b, Ir.s_tmp, Ir.s_tup, Ir.s_str, Ir.boolsD, Ir.strsD, Ir.sqr, Ir.lsr, Ir.ob1, Ir.ob2, Ir.blU, List.map_cons, List.map_nil, List.length_cons, List.length_nil, List.replicate, List.cons_append, List.nil_append, List.append_nil, List.getElem?_cons_zero, List.getElem?_cons_succ, List.getElem?_nil, List.set_cons_zero, List.set_cons_succ, List.set_nil, Option.bind_some, Option.map_some, Option.map_none, Option.bind_none, if_true, if_false, ite_true, ite_false, reduceIte, Bool.not_true, Bool.not_false, List.take_succ_cons, List.take_length, List.take_zero, Nat.add_sub_cancel, Nat.sub_self, Nat.reduceSub, Nat.reduceAdd, reduceCtorEq, Bool.false_eq_true, decide_true, decide_false, List.all_cons, List.any_cons, List.all_nil, List.any_nil, id_eq, Bool.true_and, Bool.and_true, Bool.false_or, Bool.or_false, Ir.zc0, Ir.zc1, Ir.zc2, Ir.zc3, eq_self, Ir.bools_const, Ir.all_const, Ir.any_const, e2])) (by omega) (by omega))) ?_
  rintro p ⟨ring, d4, rfl, l2, hg, h4⟩
  have lt := showO_len ht
  have lg := showO_len hg
  have lb : (Str.ofString " | ").length = 3 := rfl
  have lc : (Str.ofString "- | ").length = 4 := rfl
  have c1 : (showO tail).length + (Str.ofString " | ").length ≤ lim := leLim (by omega)
  have c2 : (showO tail ++ Str.ofString " | ").length + (showO ring).length ≤ lim := leLim (by rw [len_app]; omega)
  have c3 : (Str.ofString "- | ").length + (showO ring).length ≤ lim := leLim (by omega)
  have s1 : showPl tail ring = showO tail ++ Str.ofString " | " ++ showO ring := by
    unfold showPl
    refine TL.ext_tl ?_
    simp only [TL.tl_append]
    rfl
  have s2 : showPl [] ring = Str.ofString "- | " ++ showO ring := by
    unfold showPl
    refine TL.ext_tl ?_
    simp only [TL.tl_append]
    rfl
  have he : OcOk [] := ⟨by simp, fun p hp => by cases hp⟩
  have f1 := show_play_eq (k := k) (S := [sc, .lst d4]) ht hg
  have f2 := show_play_eq (k := k) (S := [sc, .lst d4]) he hg
  rw [s1] at f1
  rw [s2] at f2
  simp only [List.map_nil] at f2
  simp -implicitDefEqProofs only [Ir.Ok_bind, Ir.Ok_map, Ir.Ok_some, Ir.Ok_none, Ir.evSs, Ir.evE.eq_1, Ir.evE.eq_2, Ir.evE.eq_3, Ir.evE.eq_4, Ir.evE.eq_5, Ir.evE.eq_6, Ir.evE.eq_7, Ir.evE.eq_8, Ir.evE.eq_9, Ir.evE.eq_10, Ir.evE.eq_11, Ir.evE.eq_12, Ir.evE.eq_13, Ir.evE.eq_14, Ir.evE.eq_15, Ir.evE.eq_16, Ir.evE.eq_17, Ir.evE.eq_19, Ir.evEs, Ir.evRs, Ir.evO, Ir.evOt, Ir.evT, Ir.evI, Ir.evS.eq_1, Ir.evS.eq_2, Ir.evS.eq_3, Ir.evS.eq_4, Ir.evS.eq_5, Ir.evS.eq_6, Ir.evS.eq_9, Ir.evS.eq_10, Ir.evS.eq_11, Ir.evS.eq_12, Ir.evS.eq_13, Ir.Ok_for, Ir.ev2, Ir.startE, Ir.bT_n, Ir.bT_t, Ir.bT_m, Ir.bTs_n, Ir.bTs_c, Ir.wipeE, Ir.mt0, Ir.mt1, Ir.mt2, Ir.mt3, Ir.mt4, Ir.ad0, Ir.ad1, Ir.ad2, Ir.ad3, Ir.arrU, Ir.fu, Ir.ft, Ir.gd, Ir.gRu, Ir.gRt, Ir.sq1, Ir.sq2, Ir.ls1, Ir.rt1, Ir.rt2, Ir.bopR_d, Ir.b_add, Ir.b_sub, Ir.c_lt, Ir.c_le, Ir.c_gt, Ir.c_ge, Ir.c_eqi, Ir.c_eqs, Ir.c_eqb, Ir.c_nei, Ir.c_nes, Ir.c_neb, Ir.c_is, Ir.c_isn, Ir.n1, Ir.n2, Ir.n3, Ir.n4, Ir.n5, Ir.n6, Ir.d_lt, Ir.d_le, Ir.d_gt, Ir.d_ge, Ir.x_tup, Ir.x_tmp, Ir.x_mix, Ir.x_ref, Ir.a0, Ir.a1, Ir.a2, Ir.i30, Ir.i32, Ir.f_len, Ir.l_tup, Ir.l_tmp, Ir.l_mix, Ir.l_ref, Ir.f_int, Ir.f_intb, Ir.f_abs, Ir.f_max, Ir.f_min, Ir.f_tup, Ir.f_list, Ir.f_all, Ir.f_any, Ir.f_isin, Ir.t_int, Ir.t_str, Ir.t_bl, Ir.t_non, Ir.t_tup, Ir.t_mix, Ir.is_ii, Ir.is_ib, Ir.is_tt, Ir.is_it, Ir.is_ss, Ir.p_j, Ir.p_s, Ir.p_p, Ir.tr_b, Ir.s_tmp, Ir.s_tup, Ir.s_str, Ir.boolsD, Ir.strsD, Ir.sqr, Ir.lsr, Ir.ob1, Ir.ob2, Ir.blU, List.map_cons, List.map_nil, List.length_cons, List.length_nil, List.replicate, List.cons_append, List.nil_append, List.append_nil, List.getElem?_cons_zero, List.getElem?_cons_succ, List.getElem?_nil, List.set_cons_zero, List.set_cons_succ, List.set_nil, Option.bind_some, Option.map_some, Option.map_none, Option.bind_none, if_true, if_false, ite_true, ite_false, reduceIte, Bool.not_true, Bool.not_false, List.take_succ_cons, List.take_length, List.take_zero, Nat.add_sub_cancel, Nat.sub_self, Nat.reduceSub, Nat.reduceAdd, reduceCtorEq, Bool.false_eq_true, decide_true, decide_false, List.all_cons, List.any_cons, List.all_nil, List.any_nil, id_eq, Bool.true_and, Bool.and_true, Bool.false_or, Bool.or_false, Ir.zc0, Ir.zc1, Ir.zc2, Ir.zc3, eq_self, Ir.bools_const, Ir.all_const, Ir.any_const, law_outcomes_eq ht, law_outcomes_eq hg, b_cat c1, b_cat c2, f1, f2, b_cat c3]
  exact ⟨d4, rfl, h4.mono (by omega)⟩
end G85

set_option Elab.async false
set_option linter.all false
set_option maxRecDepth 100000
set_option autoImplicit false
/-! P85j: a machine changed. -/
namespace G85
open PySem L2 Ir
theorem cut_lo {α : Type} {xs : List α} {i : Int} (h0 : 0 ≤ i) (h1 : i ≤ xs.length) : cutD xs none (some i) = xs.take i.toNat := by
  obtain ⟨k, rfl⟩ : ∃ k : Nat, i = (k : Int) := ⟨i.toNat, by omega⟩
  have e1 : HT.sIx xs.length xs.length (some (k : Int)) = (k : Int).toNat := by
    rw [HT.sIx_nat, Int.toNat_natCast]
    omega
  have e2 : HT.sIx xs.length 0 none = 0 := rfl
  unfold cutD
  rw [e1, e2, List.drop_zero, Nat.sub_zero]
theorem cut_hi {α : Type} {xs : List α} {i : Int} (h0 : 0 ≤ i) (h1 : i ≤ xs.length) : cutD xs (some i) none = xs.drop i.toNat := by
  obtain ⟨k, rfl⟩ : ∃ k : Nat, i = (k : Int) := ⟨i.toNat, by omega⟩
  have e1 : HT.sIx xs.length 0 (some (k : Int)) = (k : Int).toNat := by
    rw [HT.sIx_nat, Int.toNat_natCast]
    omega
  have e2 : HT.sIx xs.length xs.length none = xs.length := rfl
  unfold cutD
  rw [e1, e2, List.take_of_length_le]
  rw [List.length_drop]
  omega
theorem s_cut {xs : List D} {lo hi : Option Int} {S : Store} : slR (.u (.d (.tup xs))) lo hi S = some (.u (.d (.tup (cutD xs lo hi)))) := rfl
theorem upd_ok {own others : Nat} {m : List (Int × List Int)} {a : Nat} {s : Int × List Int} (hm : MOk own others m) (ha : a < m.length) (hs : StOk own others m.length s) :
    MOk own others (m.take a ++ [s] ++ m.drop (a + 1)) ∧ ((m.map stD).take a ++ [stD s]) ++ (m.map stD).drop (a + 1) = (m.take a ++ [s] ++ m.drop (a + 1)).map stD := by
  have hl : (m.take a ++ [s] ++ m.drop (a + 1)).length = m.length := by
    simp only [List.length_append, List.length_take, List.length_drop, List.length_cons, List.length_nil]
    omega
  refine ⟨⟨by rw [hl]; exact hm.1, fun z hz => ?_⟩, by simp⟩
  rw [hl]
  rcases List.mem_append.mp hz with hz | hz
  · rcases List.mem_append.mp hz with hz | hz
    · exact hm.2 z (List.mem_of_mem_take hz)
    · rw [List.mem_singleton.mp hz]
      exact hs
  · exact hm.2 z (List.mem_of_mem_drop hz)
theorem changed_ok {k : Nat} {sc : Ob} {dk : List D} {N : Int} {own others : Nat} {m : List (Int × List Int)} (hm : MOk own others m) (ho : 0 < own ∧ own ≤ 5) (hz : 1 ≤ others ∧ others ≤ 5) (hN : N < 2 ^ 40) (hd : Dk dk N) :
    Ok (run pd.fds (k + 2) 33 [.ref 1, .d (machD m), .d (.int own)] [sc, .lst dk]) fun p => ∃ (m' : List (Int × List Int)) (dk' : List D), p = (.d (machD m'), [sc, .lst dk']) ∧ MOk own others m' ∧ Dk dk' (N + 10) := by
  refine run_ok ⟨3, 8, ir__law_changed⟩ rfl rfl ?_
  obtain ⟨ml1, ml2⟩ := hm.1
  simp -implicitDefEqProofs only [Ir.Ok_bind, Ir.Ok_map, Ir.Ok_some, Ir.Ok_none, Ir.evSs, Ir.evE.eq_1, Ir.evE.eq_2, Ir.evE.eq_3, Ir.evE.eq_4, Ir.evE.eq_5, Ir.evE.eq_6, Ir.evE.eq_7, Ir.evE.eq_8, Ir.evE.eq_9, Ir.evE.eq_10, Ir.evE.eq_11, Ir.evE.eq_12, Ir.evE.eq_13, Ir.evE.eq_14, Ir.evE.eq_15, Ir.evE.eq_16, Ir.evE.eq_17, Ir.evE.eq_19, Ir.evEs, Ir.evRs, Ir.evO, Ir.evOt, Ir.evT, Ir.evI, Ir.evS.eq_1, Ir.evS.eq_2, Ir.evS.eq_3, Ir.evS.eq_4, Ir.evS.eq_5, Ir.evS.eq_6, Ir.evS.eq_9, Ir.evS.eq_10, Ir.evS.eq_11, Ir.evS.eq_12, Ir.evS.eq_13, Ir.Ok_for, Ir.ev2, Ir.startE, Ir.bT_n, Ir.bT_t, Ir.bT_m, Ir.bTs_n, Ir.bTs_c, Ir.wipeE, Ir.mt0, Ir.mt1, Ir.mt2, Ir.mt3, Ir.mt4, Ir.ad0, Ir.ad1, Ir.ad2, Ir.ad3, Ir.arrU, Ir.fu, Ir.ft, Ir.gd, Ir.gRu, Ir.gRt, Ir.sq1, Ir.sq2, Ir.ls1, Ir.rt1, Ir.rt2, Ir.bopR_d, Ir.b_add, Ir.b_sub, Ir.c_lt, Ir.c_le, Ir.c_gt, Ir.c_ge, Ir.c_eqi, Ir.c_eqs, Ir.c_eqb, Ir.c_nei, Ir.c_nes, Ir.c_neb, Ir.c_is, Ir.c_isn, Ir.n1, Ir.n2, Ir.n3, Ir.n4, Ir.n5, Ir.n6, Ir.d_lt, Ir.d_le, Ir.d_gt, Ir.d_ge, Ir.x_tup, Ir.x_tmp, Ir.x_mix, Ir.x_ref, Ir.a0, Ir.a1, Ir.a2, Ir.i30, Ir.i32, Ir.f_len, Ir.l_tup, Ir.l_tmp, Ir.l_mix, Ir.l_ref, Ir.f_int, Ir.f_intb, Ir.f_abs, Ir.f_max, Ir.f_min, Ir.f_tup, Ir.f_list, Ir.f_all, Ir.f_any, Ir.f_isin, Ir.t_int, Ir.t_str, Ir.t_bl, Ir.t_non, Ir.t_tup, Ir.t_mix, Ir.is_ii, Ir.is_ib, Ir.is_tt, Ir.is_it, Ir.is_ss, Ir.p_j, Ir.p_s, Ir.p_p, Ir.tr_b, Ir.s_tmp, Ir.s_tup, Ir.s_str, Ir.boolsD, Ir.strsD, Ir.sqr, Ir.lsr, Ir.ob1, Ir.ob2, Ir.blU, List.map_cons, List.map_nil, List.length_cons, List.length_nil, List.replicate, List.cons_append, List.nil_append, List.append_nil, List.getElem?_cons_zero, List.getElem?_cons_succ, List.getElem?_nil, List.set_cons_zero, List.set_cons_succ, List.set_nil, Option.bind_some, Option.map_some, Option.map_none, Option.bind_none, if_true, if_false, ite_true, ite_false, reduceIte, Bool.not_true, Bool.not_false, List.take_succ_cons, List.take_length, List.take_zero, Nat.add_sub_cancel, Nat.sub_self, Nat.reduceSub, Nat.reduceAdd, reduceCtorEq, Bool.false_eq_true, decide_true, decide_false, List.all_cons, List.any_cons, List.all_nil, List.any_nil, id_eq, Bool.true_and, Bool.and_true, Bool.false_or, Bool.or_false, Ir.zc0, Ir.zc1, Ir.zc2, Ir.zc3, eq_self, Ir.bools_const, Ir.all_const, Ir.any_const, ir__law_changed, machD, List.length_map]
  refine Ok.mono (take_run (T := []) (m := (m.length : Int)) hd (by omega) (by omega) (by omega)) ?_
  rintro p ⟨v, d1, rfl, a1, b1, h1⟩
  obtain ⟨a, rfl⟩ : ∃ a : Nat, v = (a : Int) := ⟨v.toNat, by omega⟩
  have ha : a < m.length := by omega
  obtain ⟨s, es⟩ : ∃ s, m[a]? = some s := ⟨m[a], List.getElem?_eq_getElem ha⟩
  have hs := hm.2 s (List.mem_of_getElem? es)
  have ea : atI (m.map stD) (a : Int) = some (stD s) := an (by omega) (by rw [Int.toNat_natCast, List.getElem?_map, es]; rfl)
  obtain ⟨s1, s2, s3⟩ := hs
  have c1 : cutD (m.map stD) none (some (a : Int)) = (m.map stD).take a := by
    have := cut_lo (xs := m.map stD) (i := (a : Int)) (by omega) (by rw [List.length_map]; omega)
    rwa [Int.toNat_natCast] at this
  have c2 : cutD (m.map stD) (some ((a : Int) + 1)) none = (m.map stD).drop (a + 1) := by
    have := cut_hi (xs := m.map stD) (i := (a : Int) + 1) (by omega) (by rw [List.length_map]; omega)
    rwa [show ((a : Int) + 1).toNat = a + 1 by omega] at this
  have t1 : ∀ x : D, ((m.map stD).take a).length + [x].length ≤ lim := fun x => leLim (by simp only [List.length_take, List.length_map, List.length_cons, List.length_nil]; omega)
  have t2 : ∀ x : D, ((m.map stD).take a ++ [x]).length + ((m.map stD).drop (a + 1)).length ≤ lim := fun x => leLim (by simp only [List.length_append, List.length_drop, List.length_take, List.length_map, List.length_cons, List.length_nil]; omega)
  simp -implicitDefEqProofs only [Ir.Ok_bind, Ir.Ok_map, Ir.Ok_some, Ir.Ok_none, Ir.evSs, Ir.evE.eq_1, Ir.evE.eq_2, Ir.evE.eq_3, Ir.evE.eq_4, Ir.evE.eq_5, Ir.evE.eq_6, Ir.evE.eq_7, Ir.evE.eq_8, Ir.evE.eq_9, Ir.evE.eq_10, Ir.evE.eq_11, Ir.evE.eq_12, Ir.evE.eq_13, Ir.evE.eq_14, Ir.evE.eq_15, Ir.evE.eq_16, Ir.evE.eq_17, Ir.evE.eq_19, Ir.evEs, Ir.evRs, Ir.evO, Ir.evOt, Ir.evT, Ir.evI, Ir.evS.eq_1, Ir.evS.eq_2, Ir.evS.eq_3, Ir.evS.eq_4, Ir.evS.eq_5, Ir.evS.eq_6, Ir.evS.eq_9, Ir.evS.eq_10, Ir.evS.eq_11, Ir.evS.eq_12, Ir.evS.eq_13, Ir.Ok_for, Ir.ev2, Ir.startE, Ir.bT_n, Ir.bT_t, Ir.bT_m, Ir.bTs_n, Ir.bTs_c, Ir.wipeE, Ir.mt0, Ir.mt1, Ir.mt2, Ir.mt3, Ir.mt4, Ir.ad0, Ir.ad1, Ir.ad2, Ir.ad3, Ir.arrU, Ir.fu, Ir.ft, Ir.gd, Ir.gRu, Ir.gRt, Ir.sq1, Ir.sq2, Ir.ls1, Ir.rt1, Ir.rt2, Ir.bopR_d, Ir.b_add, Ir.b_sub, Ir.c_lt, Ir.c_le, Ir.c_gt, Ir.c_ge, Ir.c_eqi, Ir.c_eqs, Ir.c_eqb, Ir.c_nei, Ir.c_nes, Ir.c_neb, Ir.c_is, Ir.c_isn, Ir.n1, Ir.n2, Ir.n3, Ir.n4, Ir.n5, Ir.n6, Ir.d_lt, Ir.d_le, Ir.d_gt, Ir.d_ge, Ir.x_tup, Ir.x_tmp, Ir.x_mix, Ir.x_ref, Ir.a0, Ir.a1, Ir.a2, Ir.i30, Ir.i32, Ir.f_len, Ir.l_tup, Ir.l_tmp, Ir.l_mix, Ir.l_ref, Ir.f_int, Ir.f_intb, Ir.f_abs, Ir.f_max, Ir.f_min, Ir.f_tup, Ir.f_list, Ir.f_all, Ir.f_any, Ir.f_isin, Ir.t_int, Ir.t_str, Ir.t_bl, Ir.t_non, Ir.t_tup, Ir.t_mix, Ir.is_ii, Ir.is_ib, Ir.is_tt, Ir.is_it, Ir.is_ss, Ir.p_j, Ir.p_s, Ir.p_p, Ir.tr_b, Ir.s_tmp, Ir.s_tup, Ir.s_str, Ir.boolsD, Ir.strsD, Ir.sqr, Ir.lsr, Ir.ob1, Ir.ob2, Ir.blU, List.map_cons, List.map_nil, List.length_cons, List.length_nil, List.replicate, List.cons_append, List.nil_append, List.append_nil, List.getElem?_cons_zero, List.getElem?_cons_succ, List.getElem?_nil, List.set_cons_zero, List.set_cons_succ, List.set_nil, Option.bind_some, Option.map_some, Option.map_none, Option.bind_none, if_true, if_false, ite_true, ite_false, reduceIte, Bool.not_true, Bool.not_false, List.take_succ_cons, List.take_length, List.take_zero, Nat.add_sub_cancel, Nat.sub_self, Nat.reduceSub, Nat.reduceAdd, reduceCtorEq, Bool.false_eq_true, decide_true, decide_false, List.all_cons, List.any_cons, List.all_nil, List.any_nil, id_eq, Bool.true_and, Bool.and_true, Bool.false_or, Bool.or_false, Ir.zc0, Ir.zc1, Ir.zc2, Ir.zc3, eq_self, Ir.bools_const, Ir.all_const, Ir.any_const, ea, stD]
  refine Ok.mono (take_run (T := []) h1 (by omega) (by decide) (by decide)) ?_
  rintro p ⟨w, d2, rfl, a2, b2, h2⟩
  by_cases hw : w = 0
  · simp -implicitDefEqProofs only [Ir.Ok_bind, Ir.Ok_map, Ir.Ok_some, Ir.Ok_none, Ir.evSs, Ir.evE.eq_1, Ir.evE.eq_2, Ir.evE.eq_3, Ir.evE.eq_4, Ir.evE.eq_5, Ir.evE.eq_6, Ir.evE.eq_7, Ir.evE.eq_8, Ir.evE.eq_9, Ir.evE.eq_10, Ir.evE.eq_11, Ir.evE.eq_12, Ir.evE.eq_13, Ir.evE.eq_14, Ir.evE.eq_15, Ir.evE.eq_16, Ir.evE.eq_17, Ir.evE.eq_19, Ir.evEs, Ir.evRs, Ir.evO, Ir.evOt, Ir.evT, Ir.evI, Ir.evS.eq_1, Ir.evS.eq_2, Ir.evS.eq_3, Ir.evS.eq_4, Ir.evS.eq_5, Ir.evS.eq_6, Ir.evS.eq_9, Ir.evS.eq_10, Ir.evS.eq_11, Ir.evS.eq_12, Ir.evS.eq_13, Ir.Ok_for, Ir.ev2, Ir.startE, Ir.bT_n, Ir.bT_t, Ir.bT_m, Ir.bTs_n, Ir.bTs_c, Ir.wipeE, Ir.mt0, Ir.mt1, Ir.mt2, Ir.mt3, Ir.mt4, Ir.ad0, Ir.ad1, Ir.ad2, Ir.ad3, Ir.arrU, Ir.fu, Ir.ft, Ir.gd, Ir.gRu, Ir.gRt, Ir.sq1, Ir.sq2, Ir.ls1, Ir.rt1, Ir.rt2, Ir.bopR_d, Ir.b_add, Ir.b_sub, Ir.c_lt, Ir.c_le, Ir.c_gt, Ir.c_ge, Ir.c_eqi, Ir.c_eqs, Ir.c_eqb, Ir.c_nei, Ir.c_nes, Ir.c_neb, Ir.c_is, Ir.c_isn, Ir.n1, Ir.n2, Ir.n3, Ir.n4, Ir.n5, Ir.n6, Ir.d_lt, Ir.d_le, Ir.d_gt, Ir.d_ge, Ir.x_tup, Ir.x_tmp, Ir.x_mix, Ir.x_ref, Ir.a0, Ir.a1, Ir.a2, Ir.i30, Ir.i32, Ir.f_len, Ir.l_tup, Ir.l_tmp, Ir.l_mix, Ir.l_ref, Ir.f_int, Ir.f_intb, Ir.f_abs, Ir.f_max, Ir.f_min, Ir.f_tup, Ir.f_list, Ir.f_all, Ir.f_any, Ir.f_isin, Ir.t_int, Ir.t_str, Ir.t_bl, Ir.t_non, Ir.t_tup, Ir.t_mix, Ir.is_ii, Ir.is_ib, Ir.is_tt, Ir.is_it, Ir.is_ss, Ir.p_j, Ir.p_s, Ir.p_p, Ir.tr_b, Ir.s_tmp, Ir.s_tup, Ir.s_str, Ir.boolsD, Ir.strsD, Ir.sqr, Ir.lsr, Ir.ob1, Ir.ob2, Ir.blU, List.map_cons, List.map_nil, List.length_cons, List.length_nil, List.replicate, List.cons_append, List.nil_append, List.append_nil, List.getElem?_cons_zero, List.getElem?_cons_succ, List.getElem?_nil, List.set_cons_zero, List.set_cons_succ, List.set_nil, Option.bind_some, Option.map_some, Option.map_none, Option.bind_none, if_true, if_false, ite_true, ite_false, reduceIte, Bool.not_true, Bool.not_false, List.take_succ_cons, List.take_length, List.take_zero, Nat.add_sub_cancel, Nat.sub_self, Nat.reduceSub, Nat.reduceAdd, reduceCtorEq, Bool.false_eq_true, decide_true, decide_false, List.all_cons, List.any_cons, List.all_nil, List.any_nil, id_eq, Bool.true_and, Bool.and_true, Bool.false_or, Bool.or_false, Ir.zc0, Ir.zc1, Ir.zc2, Ir.zc3, eq_self, Ir.bools_const, Ir.all_const, Ir.any_const, hw, s_cut, c1, c2, b_mod (show (0 : Int) < own by omega), b_tup (t1 _), b_tup (t2 _)]
    obtain ⟨u1, u2⟩ := upd_ok hm ha (s := ((s.1 + 1) % own, s.2)) ⟨⟨Int.emod_nonneg _ (by omega), Int.emod_lt_of_pos _ (by omega)⟩, s2, s3⟩
    exact ⟨_, d2, by rw [← u2]; rfl, u1, h2.mono (by omega)⟩
  · simp -implicitDefEqProofs only [Ir.Ok_bind, Ir.Ok_map, Ir.Ok_some, Ir.Ok_none, Ir.evSs, Ir.evE.eq_1, Ir.evE.eq_2, Ir.evE.eq_3, Ir.evE.eq_4, Ir.evE.eq_5, Ir.evE.eq_6, Ir.evE.eq_7, Ir.evE.eq_8, Ir.evE.eq_9, Ir.evE.eq_10, Ir.evE.eq_11, Ir.evE.eq_12, Ir.evE.eq_13, Ir.evE.eq_14, Ir.evE.eq_15, Ir.evE.eq_16, Ir.evE.eq_17, Ir.evE.eq_19, Ir.evEs, Ir.evRs, Ir.evO, Ir.evOt, Ir.evT, Ir.evI, Ir.evS.eq_1, Ir.evS.eq_2, Ir.evS.eq_3, Ir.evS.eq_4, Ir.evS.eq_5, Ir.evS.eq_6, Ir.evS.eq_9, Ir.evS.eq_10, Ir.evS.eq_11, Ir.evS.eq_12, Ir.evS.eq_13, Ir.Ok_for, Ir.ev2, Ir.startE, Ir.bT_n, Ir.bT_t, Ir.bT_m, Ir.bTs_n, Ir.bTs_c, Ir.wipeE, Ir.mt0, Ir.mt1, Ir.mt2, Ir.mt3, Ir.mt4, Ir.ad0, Ir.ad1, Ir.ad2, Ir.ad3, Ir.arrU, Ir.fu, Ir.ft, Ir.gd, Ir.gRu, Ir.gRt, Ir.sq1, Ir.sq2, Ir.ls1, Ir.rt1, Ir.rt2, Ir.bopR_d, Ir.b_add, Ir.b_sub, Ir.c_lt, Ir.c_le, Ir.c_gt, Ir.c_ge, Ir.c_eqi, Ir.c_eqs, Ir.c_eqb, Ir.c_nei, Ir.c_nes, Ir.c_neb, Ir.c_is, Ir.c_isn, Ir.n1, Ir.n2, Ir.n3, Ir.n4, Ir.n5, Ir.n6, Ir.d_lt, Ir.d_le, Ir.d_gt, Ir.d_ge, Ir.x_tup, Ir.x_tmp, Ir.x_mix, Ir.x_ref, Ir.a0, Ir.a1, Ir.a2, Ir.i30, Ir.i32, Ir.f_len, Ir.l_tup, Ir.l_tmp, Ir.l_mix, Ir.l_ref, Ir.f_int, Ir.f_intb, Ir.f_abs, Ir.f_max, Ir.f_min, Ir.f_tup, Ir.f_list, Ir.f_all, Ir.f_any, Ir.f_isin, Ir.t_int, Ir.t_str, Ir.t_bl, Ir.t_non, Ir.t_tup, Ir.t_mix, Ir.is_ii, Ir.is_ib, Ir.is_tt, Ir.is_it, Ir.is_ss, Ir.p_j, Ir.p_s, Ir.p_p, Ir.tr_b, Ir.s_tmp, Ir.s_tup, Ir.s_str, Ir.boolsD, Ir.strsD, Ir.sqr, Ir.lsr, Ir.ob1, Ir.ob2, Ir.blU, List.map_cons, List.map_nil, List.length_cons, List.length_nil, List.replicate, List.cons_append, List.nil_append, List.append_nil, List.getElem?_cons_zero, List.getElem?_cons_succ, List.getElem?_nil, List.set_cons_zero, List.set_cons_succ, List.set_nil, Option.bind_some, Option.map_some, Option.map_none, Option.bind_none, if_true, if_false, ite_true, ite_false, reduceIte, Bool.not_true, Bool.not_false, List.take_succ_cons, List.take_length, List.take_zero, Nat.add_sub_cancel, Nat.sub_self, Nat.reduceSub, Nat.reduceAdd, reduceCtorEq, Bool.false_eq_true, decide_true, decide_false, List.all_cons, List.any_cons, List.all_nil, List.any_nil, id_eq, Bool.true_and, Bool.and_true, Bool.false_or, Bool.or_false, Ir.zc0, Ir.zc1, Ir.zc2, Ir.zc3, eq_self, Ir.bools_const, Ir.all_const, Ir.any_const, decide_eq_false hw, List.length_map]
    refine Ok.mono (take_run (T := []) (m := (s.2.length : Int)) h2 (by omega) (by omega) (by omega)) ?_
    rintro p ⟨v3, d3, rfl, a3, b3, h3⟩
    obtain ⟨b, rfl⟩ : ∃ b : Nat, v3 = (b : Int) := ⟨v3.toNat, by omega⟩
    have hb : b < s.2.length := by omega
    obtain ⟨x, ex⟩ : ∃ x, s.2[b]? = some x := ⟨s.2[b], List.getElem?_eq_getElem hb⟩
    have eb : atI (s.2.map D.int) (b : Int) = some (.int x) := an (by omega) (by rw [Int.toNat_natCast, List.getElem?_map, ex]; rfl)
    have c3 : cutD (s.2.map D.int) none (some (b : Int)) = (s.2.map D.int).take b := by
      have := cut_lo (xs := s.2.map D.int) (i := (b : Int)) (by omega) (by rw [List.length_map]; omega)
      rwa [Int.toNat_natCast] at this
    have c4 : cutD (s.2.map D.int) (some ((b : Int) + 1)) none = (s.2.map D.int).drop (b + 1) := by
      have := cut_hi (xs := s.2.map D.int) (i := (b : Int) + 1) (by omega) (by rw [List.length_map]; omega)
      rwa [show ((b : Int) + 1).toNat = b + 1 by omega] at this
    have t3 : ∀ x : D, ((s.2.map D.int).take b).length + [x].length ≤ lim := fun x => leLim (by simp only [List.length_take, List.length_map, List.length_cons, List.length_nil]; omega)
    have t4 : ∀ x : D, ((s.2.map D.int).take b ++ [x]).length + ((s.2.map D.int).drop (b + 1)).length ≤ lim := fun x => leLim (by simp only [List.length_append, List.length_drop, List.length_take, List.length_map, List.length_cons, List.length_nil]; omega)
    simp -implicitDefEqProofs only [Ir.Ok_bind, Ir.Ok_map, Ir.Ok_some, Ir.Ok_none, Ir.evSs, Ir.evE.eq_1, Ir.evE.eq_2, Ir.evE.eq_3, Ir.evE.eq_4, Ir.evE.eq_5, Ir.evE.eq_6, Ir.evE.eq_7, Ir.evE.eq_8, Ir.evE.eq_9, Ir.evE.eq_10, Ir.evE.eq_11, Ir.evE.eq_12, Ir.evE.eq_13, Ir.evE.eq_14, Ir.evE.eq_15, Ir.evE.eq_16, Ir.evE.eq_17, Ir.evE.eq_19, Ir.evEs, Ir.evRs, Ir.evO, Ir.evOt, Ir.evT, Ir.evI, Ir.evS.eq_1, Ir.evS.eq_2, Ir.evS.eq_3, Ir.evS.eq_4, Ir.evS.eq_5, Ir.evS.eq_6, Ir.evS.eq_9, Ir.evS.eq_10, Ir.evS.eq_11, Ir.evS.eq_12, Ir.evS.eq_13, Ir.Ok_for, Ir.ev2, Ir.startE, Ir.bT_n, Ir.bT_t, Ir.bT_m, Ir.bTs_n, Ir.bTs_c, Ir.wipeE, Ir.mt0, Ir.mt1, Ir.mt2, Ir.mt3, Ir.mt4, Ir.ad0, Ir.ad1, Ir.ad2, Ir.ad3, Ir.arrU, Ir.fu, Ir.ft, Ir.gd, Ir.gRu, Ir.gRt, Ir.sq1, Ir.sq2, Ir.ls1, Ir.rt1, Ir.rt2, Ir.bopR_d, Ir.b_add, Ir.b_sub, Ir.c_lt, Ir.c_le, Ir.c_gt, Ir.c_ge, Ir.c_eqi, Ir.c_eqs, Ir.c_eqb, Ir.c_nei, Ir.c_nes, Ir.c_neb, Ir.c_is, Ir.c_isn, Ir.n1, Ir.n2, Ir.n3, Ir.n4, Ir.n5, Ir.n6, Ir.d_lt, Ir.d_le, Ir.d_gt, Ir.d_ge, Ir.x_tup, Ir.x_tmp, Ir.x_mix, Ir.x_ref, Ir.a0, Ir.a1, Ir.a2, Ir.i30, Ir.i32, Ir.f_len, Ir.l_tup, Ir.l_tmp, Ir.l_mix, Ir.l_ref, Ir.f_int, Ir.f_intb, Ir.f_abs, Ir.f_max, Ir.f_min, Ir.f_tup, Ir.f_list, Ir.f_all, Ir.f_any, Ir.f_isin, Ir.t_int, Ir.t_str, Ir.t_bl, Ir.t_non, Ir.t_tup, Ir.t_mix, Ir.is_ii, Ir.is_ib, Ir.is_tt, Ir.is_it, Ir.is_ss, Ir.p_j, Ir.p_s, Ir.p_p, Ir.tr_b, Ir.s_tmp, Ir.s_tup, Ir.s_str, Ir.boolsD, Ir.strsD, Ir.sqr, Ir.lsr, Ir.ob1, Ir.ob2, Ir.blU, List.map_cons, List.map_nil, List.length_cons, List.length_nil, List.replicate, List.cons_append, List.nil_append, List.append_nil, List.getElem?_cons_zero, List.getElem?_cons_succ, List.getElem?_nil, List.set_cons_zero, List.set_cons_succ, List.set_nil, Option.bind_some, Option.map_some, Option.map_none, Option.bind_none, if_true, if_false, ite_true, ite_false, reduceIte, Bool.not_true, Bool.not_false, List.take_succ_cons, List.take_length, List.take_zero, Nat.add_sub_cancel, Nat.sub_self, Nat.reduceSub, Nat.reduceAdd, reduceCtorEq, Bool.false_eq_true, decide_true, decide_false, List.all_cons, List.any_cons, List.all_nil, List.any_nil, id_eq, Bool.true_and, Bool.and_true, Bool.false_or, Bool.or_false, Ir.zc0, Ir.zc1, Ir.zc2, Ir.zc3, eq_self, Ir.bools_const, Ir.all_const, Ir.any_const, eb, List.length_map, b_mod (show (0 : Int) < m.length by omega), s_cut, c1, c2, c3, c4, b_tup (t3 _), b_tup (t4 _), b_tup (t1 _), b_tup (t2 _)]
    have en : ((s.2.map D.int).take b ++ [D.int ((x + 1) % m.length)]) ++ (s.2.map D.int).drop (b + 1) = (s.2.take b ++ [(x + 1) % (m.length : Int)] ++ s.2.drop (b + 1)).map D.int := by simp
    have hnl : (s.2.take b ++ [(x + 1) % (m.length : Int)] ++ s.2.drop (b + 1)).length = others := by
      simp only [List.length_append, List.length_take, List.length_drop, List.length_cons, List.length_nil]
      omega
    obtain ⟨u1, u2⟩ := upd_ok hm ha (s := (s.1, s.2.take b ++ [(x + 1) % (m.length : Int)] ++ s.2.drop (b + 1))) ⟨s1, hnl, fun z hz => by
      rcases List.mem_append.mp hz with hz | hz
      · rcases List.mem_append.mp hz with hz | hz
        · exact s3 z (List.mem_of_mem_take hz)
        · rw [List.mem_singleton.mp hz]
          exact ⟨Int.emod_nonneg _ (by omega), Int.emod_lt_of_pos _ (by omega)⟩
      · exact s3 z (List.mem_of_mem_drop hz)⟩
    refine ⟨_, d3, ?_, u1, h3.mono (by omega)⟩
    rw [← u2, en]
    rfl
end G85

set_option Elab.async false
set_option linter.all false
set_option maxRecDepth 100000
set_option autoImplicit false
/-! P85k: the deck laid. -/
namespace G85
open PySem L2 Ir
theorem srd {xs : List D} : srcR (.u (.ref 0)) [.rd xs] = some ((xs, none), [.rd xs]) := rfl
theorem gc1 {a b : Ob} : gcU 1 (.ref 1) [a, b] = some (.ref 1, [a, b]) := rfl
theorem deck_ok {k : Nat} {ns : List Int} {kk : Int} (hl : ns.length ≤ 63) (hk : 0 ≤ kk ∧ kk ≤ 10) :
    Ok (run pd.fds (k + 1) 24 [.ref 0, .d (.int kk)] [.rd (ns.map .int)]) fun p => ∃ dk, p = (.ref 1, [.rd (ns.map .int), .lst dk]) ∧ Dk dk 0 := by
  refine run_ok ⟨2, 6, ir__law_deck⟩ rfl rfl ?_
  have m1 : ∀ x, mulOk x 7411 = true := fun x => mulOk_r (by decide)
  have m2 : ∀ x, mulOk x 6389 = true := fun x => mulOk_r (by decide)
  have m3 : ∀ x, mulOk x 23 = true := fun x => mulOk_r (by decide)
  have m4 : ∀ x, mulOk 5 x = true := fun x => mulOk_l (by decide)
  have m5 : ∀ x, mulOk 97 x = true := fun x => mulOk_l (by decide)
  have m6 : ∀ x, mulOk 53 x = true := fun x => mulOk_l (by decide)
  have q1 : (0 : Int) < 100000000000000000000 + 39 := by decide
  have q2 : (0 : Int) < 100000000000000000000000000 + 67 := by decide
  have q3 : (0 : Int) < 100000000000000000000000000000 + 319 := by decide
  have loop : ∀ (cell whole : Int) (Q : Out × Ir.Env × Store → Prop), 0 ≤ whole → (∀ whole', Q (.nx, [some (.ref 0), some (.d (.int kk)), some (.d (.int cell)), some (.d (.int whole')), none, none], [.rd (ns.map .int)])) →
      Ok (forL (turnF (Ir.run pd.fds k) (Tg.n 4) (.cons (.asg (.n 3) (.bin .mod (.bi .int (.cons (.bin .add (.bin .mul (.var 3) (.lit (.int (7411)))) (.bin .mod (.bi .int (.cons (.var 4) .nil)) (.bin .add (.bin .pow (.lit (.int (10))) (.lit (.int (20)))) (.lit (.int (39)))))) .nil)) (.bin .add (.bin .pow (.lit (.int (10))) (.lit (.int (26)))) (.lit (.int (67)))))) .nil))
        (held none (ns.map D.int)) [4] 1 (ns.map D.int) [some (.ref 0), some (.d (.int kk)), some (.d (.int cell)), some (.d (.int whole)), none, none] [.rd (ns.map .int)]) Q := by
    intro cell whole Q hw hQ
    refine forL_ok (fun j ρ S => ∃ w : Int, ρ = [some (.ref 0), some (.d (.int kk)), some (.d (.int cell)), some (.d (.int w)), none, none] ∧ S = [.rd (ns.map .int)]) _ 0 _ _ ⟨whole, rfl, rfl⟩ ?_ ?_
    · rintro j x ρ S e1 ⟨w, rfl, rfl⟩
      rw [List.getElem?_map] at e1
      obtain ⟨y, e2, rfl⟩ := Option.map_eq_some_iff.mp e1
      simp -implicitDefEqProofs only [turnF, Ir.Ok_bind, Ir.Ok_map, Ir.Ok_some, Ir.Ok_none, Ir.evSs, Ir.evE.eq_1, Ir.evE.eq_2, Ir.evE.eq_3, Ir.evE.eq_4, Ir.evE.eq_5, Ir.evE.eq_6, Ir.evE.eq_7, Ir.evE.eq_8, Ir.evE.eq_9, Ir.evE.eq_10, Ir.evE.eq_11, Ir.evE.eq_12, Ir.evE.eq_13, Ir.evE.eq_14, Ir.evE.eq_15, Ir.evE.eq_16, Ir.evE.eq_17, Ir.evE.eq_19, Ir.evEs, Ir.evRs, Ir.evO, Ir.evOt, Ir.evT, Ir.evI, Ir.evS.eq_1, Ir.evS.eq_2, Ir.evS.eq_3, Ir.evS.eq_4, Ir.evS.eq_5, Ir.evS.eq_6, Ir.evS.eq_9, Ir.evS.eq_10, Ir.evS.eq_11, Ir.evS.eq_12, Ir.evS.eq_13, Ir.Ok_for, Ir.ev2, Ir.startE, Ir.bT_n, Ir.bT_t, Ir.bT_m, Ir.bTs_n, Ir.bTs_c, Ir.wipeE, Ir.mt0, Ir.mt1, Ir.mt2, Ir.mt3, Ir.mt4, Ir.ad0, Ir.ad1, Ir.ad2, Ir.ad3, Ir.arrU, Ir.fu, Ir.ft, Ir.gd, Ir.gRu, Ir.gRt, Ir.sq1, Ir.sq2, Ir.ls1, Ir.rt1, Ir.rt2, Ir.bopR_d, Ir.b_add, Ir.b_sub, Ir.c_lt, Ir.c_le, Ir.c_gt, Ir.c_ge, Ir.c_eqi, Ir.c_eqs, Ir.c_eqb, Ir.c_nei, Ir.c_nes, Ir.c_neb, Ir.c_is, Ir.c_isn, Ir.n1, Ir.n2, Ir.n3, Ir.n4, Ir.n5, Ir.n6, Ir.d_lt, Ir.d_le, Ir.d_gt, Ir.d_ge, Ir.x_tup, Ir.x_tmp, Ir.x_mix, Ir.x_ref, Ir.a0, Ir.a1, Ir.a2, Ir.i30, Ir.i32, Ir.f_len, Ir.l_tup, Ir.l_tmp, Ir.l_mix, Ir.l_ref, Ir.f_int, Ir.f_intb, Ir.f_abs, Ir.f_max, Ir.f_min, Ir.f_tup, Ir.f_list, Ir.f_all, Ir.f_any, Ir.f_isin, Ir.t_int, Ir.t_str, Ir.t_bl, Ir.t_non, Ir.t_tup, Ir.t_mix, Ir.is_ii, Ir.is_ib, Ir.is_tt, Ir.is_it, Ir.is_ss, Ir.p_j, Ir.p_s, Ir.p_p, Ir.tr_b, Ir.s_tmp, Ir.s_tup, Ir.s_str, Ir.boolsD, Ir.strsD, Ir.sqr, Ir.lsr, Ir.ob1, Ir.ob2, Ir.blU, List.map_cons, List.map_nil, List.length_cons, List.length_nil, List.replicate, List.cons_append, List.nil_append, List.append_nil, List.getElem?_cons_zero, List.getElem?_cons_succ, List.getElem?_nil, List.set_cons_zero, List.set_cons_succ, List.set_nil, Option.bind_some, Option.map_some, Option.map_none, Option.bind_none, if_true, if_false, ite_true, ite_false, reduceIte, Bool.not_true, Bool.not_false, List.take_succ_cons, List.take_length, List.take_zero, Nat.add_sub_cancel, Nat.sub_self, Nat.reduceSub, Nat.reduceAdd, reduceCtorEq, Bool.false_eq_true, decide_true, decide_false, List.all_cons, List.any_cons, List.all_nil, List.any_nil, id_eq, Bool.true_and, Bool.and_true, Bool.false_or, Bool.or_false, Ir.zc0, Ir.zc1, Ir.zc2, Ir.zc3, eq_self, Ir.bools_const, Ir.all_const, Ir.any_const, b_mul, m1, pw20, pw26, b_mod q1, b_mod q2]
      exact ⟨rfl, _, rfl, rfl⟩
    · rintro ρ S ⟨w, rfl, rfl⟩
      exact hQ w
  have fin : ∀ (cell w : Int), tidy [] 1 [some (.ref 0), some (.d (.int kk)), some (.d (.int cell)), some (.d (.int w)), none, none] [.rd (ns.map .int)] = ([some (.ref 0), some (.d (.int kk)), some (.d (.int cell)), some (.d (.int w)), none, none], [.rd (ns.map .int)]) := fun cell w => rfl
  by_cases hc : kk < ns.length
  · obtain ⟨c, ec⟩ : ∃ c, ns[kk.toNat]? = some c := ⟨_, List.getElem?_eq_getElem (by omega)⟩
    have ea : atI (ns.map D.int) kk = some (.int c) := an hk.1 (by rw [List.getElem?_map, ec]; rfl)
    simp -implicitDefEqProofs only [Ir.Ok_bind, Ir.Ok_map, Ir.Ok_some, Ir.Ok_none, Ir.evSs, Ir.evE.eq_1, Ir.evE.eq_2, Ir.evE.eq_3, Ir.evE.eq_4, Ir.evE.eq_5, Ir.evE.eq_6, Ir.evE.eq_7, Ir.evE.eq_8, Ir.evE.eq_9, Ir.evE.eq_10, Ir.evE.eq_11, Ir.evE.eq_12, Ir.evE.eq_13, Ir.evE.eq_14, Ir.evE.eq_15, Ir.evE.eq_16, Ir.evE.eq_17, Ir.evE.eq_19, Ir.evEs, Ir.evRs, Ir.evO, Ir.evOt, Ir.evT, Ir.evI, Ir.evS.eq_1, Ir.evS.eq_2, Ir.evS.eq_3, Ir.evS.eq_4, Ir.evS.eq_5, Ir.evS.eq_6, Ir.evS.eq_9, Ir.evS.eq_10, Ir.evS.eq_11, Ir.evS.eq_12, Ir.evS.eq_13, Ir.Ok_for, Ir.ev2, Ir.startE, Ir.bT_n, Ir.bT_t, Ir.bT_m, Ir.bTs_n, Ir.bTs_c, Ir.wipeE, Ir.mt0, Ir.mt1, Ir.mt2, Ir.mt3, Ir.mt4, Ir.ad0, Ir.ad1, Ir.ad2, Ir.ad3, Ir.arrU, Ir.fu, Ir.ft, Ir.gd, Ir.gRu, Ir.gRt, Ir.sq1, Ir.sq2, Ir.ls1, Ir.rt1, Ir.rt2, Ir.bopR_d, Ir.b_add, Ir.b_sub, Ir.c_lt, Ir.c_le, Ir.c_gt, Ir.c_ge, Ir.c_eqi, Ir.c_eqs, Ir.c_eqb, Ir.c_nei, Ir.c_nes, Ir.c_neb, Ir.c_is, Ir.c_isn, Ir.n1, Ir.n2, Ir.n3, Ir.n4, Ir.n5, Ir.n6, Ir.d_lt, Ir.d_le, Ir.d_gt, Ir.d_ge, Ir.x_tup, Ir.x_tmp, Ir.x_mix, Ir.x_ref, Ir.a0, Ir.a1, Ir.a2, Ir.i30, Ir.i32, Ir.f_len, Ir.l_tup, Ir.l_tmp, Ir.l_mix, Ir.l_ref, Ir.f_int, Ir.f_intb, Ir.f_abs, Ir.f_max, Ir.f_min, Ir.f_tup, Ir.f_list, Ir.f_all, Ir.f_any, Ir.f_isin, Ir.t_int, Ir.t_str, Ir.t_bl, Ir.t_non, Ir.t_tup, Ir.t_mix, Ir.is_ii, Ir.is_ib, Ir.is_tt, Ir.is_it, Ir.is_ss, Ir.p_j, Ir.p_s, Ir.p_p, Ir.tr_b, Ir.s_tmp, Ir.s_tup, Ir.s_str, Ir.boolsD, Ir.strsD, Ir.sqr, Ir.lsr, Ir.ob1, Ir.ob2, Ir.blU, List.map_cons, List.map_nil, List.length_cons, List.length_nil, List.replicate, List.cons_append, List.nil_append, List.append_nil, List.getElem?_cons_zero, List.getElem?_cons_succ, List.getElem?_nil, List.set_cons_zero, List.set_cons_succ, List.set_nil, Option.bind_some, Option.map_some, Option.map_none, Option.bind_none, if_true, if_false, ite_true, ite_false, reduceIte, Bool.not_true, Bool.not_false, List.take_succ_cons, List.take_length, List.take_zero, Nat.add_sub_cancel, Nat.sub_self, Nat.reduceSub, Nat.reduceAdd, reduceCtorEq, Bool.false_eq_true, decide_true, decide_false, List.all_cons, List.any_cons, List.all_nil, List.any_nil, id_eq, Bool.true_and, Bool.and_true, Bool.false_or, Bool.or_false, Ir.zc0, Ir.zc1, Ir.zc2, Ir.zc3, eq_self, Ir.bools_const, Ir.all_const, Ir.any_const, ir__law_deck, List.length_map, decide_eq_true hc, ea, srd]
    refine loop c _ _ (by omega) fun w => ?_
    simp -implicitDefEqProofs only [Ir.Ok_bind, Ir.Ok_map, Ir.Ok_some, Ir.Ok_none, Ir.evSs, Ir.evE.eq_1, Ir.evE.eq_2, Ir.evE.eq_3, Ir.evE.eq_4, Ir.evE.eq_5, Ir.evE.eq_6, Ir.evE.eq_7, Ir.evE.eq_8, Ir.evE.eq_9, Ir.evE.eq_10, Ir.evE.eq_11, Ir.evE.eq_12, Ir.evE.eq_13, Ir.evE.eq_14, Ir.evE.eq_15, Ir.evE.eq_16, Ir.evE.eq_17, Ir.evE.eq_19, Ir.evEs, Ir.evRs, Ir.evO, Ir.evOt, Ir.evT, Ir.evI, Ir.evS.eq_1, Ir.evS.eq_2, Ir.evS.eq_3, Ir.evS.eq_4, Ir.evS.eq_5, Ir.evS.eq_6, Ir.evS.eq_9, Ir.evS.eq_10, Ir.evS.eq_11, Ir.evS.eq_12, Ir.evS.eq_13, Ir.Ok_for, Ir.ev2, Ir.startE, Ir.bT_n, Ir.bT_t, Ir.bT_m, Ir.bTs_n, Ir.bTs_c, Ir.wipeE, Ir.mt0, Ir.mt1, Ir.mt2, Ir.mt3, Ir.mt4, Ir.ad0, Ir.ad1, Ir.ad2, Ir.ad3, Ir.arrU, Ir.fu, Ir.ft, Ir.gd, Ir.gRu, Ir.gRt, Ir.sq1, Ir.sq2, Ir.ls1, Ir.rt1, Ir.rt2, Ir.bopR_d, Ir.b_add, Ir.b_sub, Ir.c_lt, Ir.c_le, Ir.c_gt, Ir.c_ge, Ir.c_eqi, Ir.c_eqs, Ir.c_eqb, Ir.c_nei, Ir.c_nes, Ir.c_neb, Ir.c_is, Ir.c_isn, Ir.n1, Ir.n2, Ir.n3, Ir.n4, Ir.n5, Ir.n6, Ir.d_lt, Ir.d_le, Ir.d_gt, Ir.d_ge, Ir.x_tup, Ir.x_tmp, Ir.x_mix, Ir.x_ref, Ir.a0, Ir.a1, Ir.a2, Ir.i30, Ir.i32, Ir.f_len, Ir.l_tup, Ir.l_tmp, Ir.l_mix, Ir.l_ref, Ir.f_int, Ir.f_intb, Ir.f_abs, Ir.f_max, Ir.f_min, Ir.f_tup, Ir.f_list, Ir.f_all, Ir.f_any, Ir.f_isin, Ir.t_int, Ir.t_str, Ir.t_bl, Ir.t_non, Ir.t_tup, Ir.t_mix, Ir.is_ii, Ir.is_ib, Ir.is_tt, Ir.is_it, Ir.is_ss, Ir.p_j, Ir.p_s, Ir.p_p, Ir.tr_b, Ir.s_tmp, Ir.s_tup, Ir.s_str, Ir.boolsD, Ir.strsD, Ir.sqr, Ir.lsr, Ir.ob1, Ir.ob2, Ir.blU, List.map_cons, List.map_nil, List.length_cons, List.length_nil, List.replicate, List.cons_append, List.nil_append, List.append_nil, List.getElem?_cons_zero, List.getElem?_cons_succ, List.getElem?_nil, List.set_cons_zero, List.set_cons_succ, List.set_nil, Option.bind_some, Option.map_some, Option.map_none, Option.bind_none, if_true, if_false, ite_true, ite_false, reduceIte, Bool.not_true, Bool.not_false, List.take_succ_cons, List.take_length, List.take_zero, Nat.add_sub_cancel, Nat.sub_self, Nat.reduceSub, Nat.reduceAdd, reduceCtorEq, Bool.false_eq_true, decide_true, decide_false, List.all_cons, List.any_cons, List.all_nil, List.any_nil, id_eq, Bool.true_and, Bool.and_true, Bool.false_or, Bool.or_false, Ir.zc0, Ir.zc1, Ir.zc2, Ir.zc3, eq_self, Ir.bools_const, Ir.all_const, Ir.any_const, forEnd, fin, b_mul, m2, m3, m4, m5, pw29, pw18, b_mod q3, gc1]
    exact ⟨_, rfl, _, _, _, rfl, by split <;> omega, Int.emod_nonneg _ (by decide), Int.lt_of_lt_of_le (Int.emod_lt_of_pos _ q3) (by decide), by omega, by omega⟩
  · simp -implicitDefEqProofs only [Ir.Ok_bind, Ir.Ok_map, Ir.Ok_some, Ir.Ok_none, Ir.evSs, Ir.evE.eq_1, Ir.evE.eq_2, Ir.evE.eq_3, Ir.evE.eq_4, Ir.evE.eq_5, Ir.evE.eq_6, Ir.evE.eq_7, Ir.evE.eq_8, Ir.evE.eq_9, Ir.evE.eq_10, Ir.evE.eq_11, Ir.evE.eq_12, Ir.evE.eq_13, Ir.evE.eq_14, Ir.evE.eq_15, Ir.evE.eq_16, Ir.evE.eq_17, Ir.evE.eq_19, Ir.evEs, Ir.evRs, Ir.evO, Ir.evOt, Ir.evT, Ir.evI, Ir.evS.eq_1, Ir.evS.eq_2, Ir.evS.eq_3, Ir.evS.eq_4, Ir.evS.eq_5, Ir.evS.eq_6, Ir.evS.eq_9, Ir.evS.eq_10, Ir.evS.eq_11, Ir.evS.eq_12, Ir.evS.eq_13, Ir.Ok_for, Ir.ev2, Ir.startE, Ir.bT_n, Ir.bT_t, Ir.bT_m, Ir.bTs_n, Ir.bTs_c, Ir.wipeE, Ir.mt0, Ir.mt1, Ir.mt2, Ir.mt3, Ir.mt4, Ir.ad0, Ir.ad1, Ir.ad2, Ir.ad3, Ir.arrU, Ir.fu, Ir.ft, Ir.gd, Ir.gRu, Ir.gRt, Ir.sq1, Ir.sq2, Ir.ls1, Ir.rt1, Ir.rt2, Ir.bopR_d, Ir.b_add, Ir.b_sub, Ir.c_lt, Ir.c_le, Ir.c_gt, Ir.c_ge, Ir.c_eqi, Ir.c_eqs, Ir.c_eqb, Ir.c_nei, Ir.c_nes, Ir.c_neb, Ir.c_is, Ir.c_isn, Ir.n1, Ir.n2, Ir.n3, Ir.n4, Ir.n5, Ir.n6, Ir.d_lt, Ir.d_le, Ir.d_gt, Ir.d_ge, Ir.x_tup, Ir.x_tmp, Ir.x_mix, Ir.x_ref, Ir.a0, Ir.a1, Ir.a2, Ir.i30, Ir.i32, Ir.f_len, Ir.l_tup, Ir.l_tmp, Ir.l_mix, Ir.l_ref, Ir.f_int, Ir.f_intb, Ir.f_abs, Ir.f_max, Ir.f_min, Ir.f_tup, Ir.f_list, Ir.f_all, Ir.f_any, Ir.f_isin, Ir.t_int, Ir.t_str, Ir.t_bl, Ir.t_non, Ir.t_tup, Ir.t_mix, Ir.is_ii, Ir.is_ib, Ir.is_tt, Ir.is_it, Ir.is_ss, Ir.p_j, Ir.p_s, Ir.p_p, Ir.tr_b, Ir.s_tmp, Ir.s_tup, Ir.s_str, Ir.boolsD, Ir.strsD, Ir.sqr, Ir.lsr, Ir.ob1, Ir.ob2, Ir.blU, List.map_cons, List.map_nil, List.length_cons, List.length_nil, List.replicate, List.cons_append, List.nil_append, List.append_nil, List.getElem?_cons_zero, List.getElem?_cons_succ, List.getElem?_nil, List.set_cons_zero, List.set_cons_succ, List.set_nil, Option.bind_some, Option.map_some, Option.map_none, Option.bind_none, if_true, if_false, ite_true, ite_false, reduceIte, Bool.not_true, Bool.not_false, List.take_succ_cons, List.take_length, List.take_zero, Nat.add_sub_cancel, Nat.sub_self, Nat.reduceSub, Nat.reduceAdd, reduceCtorEq, Bool.false_eq_true, decide_true, decide_false, List.all_cons, List.any_cons, List.all_nil, List.any_nil, id_eq, Bool.true_and, Bool.and_true, Bool.false_or, Bool.or_false, Ir.zc0, Ir.zc1, Ir.zc2, Ir.zc3, eq_self, Ir.bools_const, Ir.all_const, Ir.any_const, ir__law_deck, List.length_map, decide_eq_false hc, srd, b_mul, m6]
    refine loop _ _ _ (by omega) fun w => ?_
    simp -implicitDefEqProofs only [Ir.Ok_bind, Ir.Ok_map, Ir.Ok_some, Ir.Ok_none, Ir.evSs, Ir.evE.eq_1, Ir.evE.eq_2, Ir.evE.eq_3, Ir.evE.eq_4, Ir.evE.eq_5, Ir.evE.eq_6, Ir.evE.eq_7, Ir.evE.eq_8, Ir.evE.eq_9, Ir.evE.eq_10, Ir.evE.eq_11, Ir.evE.eq_12, Ir.evE.eq_13, Ir.evE.eq_14, Ir.evE.eq_15, Ir.evE.eq_16, Ir.evE.eq_17, Ir.evE.eq_19, Ir.evEs, Ir.evRs, Ir.evO, Ir.evOt, Ir.evT, Ir.evI, Ir.evS.eq_1, Ir.evS.eq_2, Ir.evS.eq_3, Ir.evS.eq_4, Ir.evS.eq_5, Ir.evS.eq_6, Ir.evS.eq_9, Ir.evS.eq_10, Ir.evS.eq_11, Ir.evS.eq_12, Ir.evS.eq_13, Ir.Ok_for, Ir.ev2, Ir.startE, Ir.bT_n, Ir.bT_t, Ir.bT_m, Ir.bTs_n, Ir.bTs_c, Ir.wipeE, Ir.mt0, Ir.mt1, Ir.mt2, Ir.mt3, Ir.mt4, Ir.ad0, Ir.ad1, Ir.ad2, Ir.ad3, Ir.arrU, Ir.fu, Ir.ft, Ir.gd, Ir.gRu, Ir.gRt, Ir.sq1, Ir.sq2, Ir.ls1, Ir.rt1, Ir.rt2, Ir.bopR_d, Ir.b_add, Ir.b_sub, Ir.c_lt, Ir.c_le, Ir.c_gt, Ir.c_ge, Ir.c_eqi, Ir.c_eqs, Ir.c_eqb, Ir.c_nei, Ir.c_nes, Ir.c_neb, Ir.c_is, Ir.c_isn, Ir.n1, Ir.n2, Ir.n3, Ir.n4, Ir.n5, Ir.n6, Ir.d_lt, Ir.d_le, Ir.d_gt, Ir.d_ge, Ir.x_tup, Ir.x_tmp, Ir.x_mix, Ir.x_ref, Ir.a0, Ir.a1, Ir.a2, Ir.i30, Ir.i32, Ir.f_len, Ir.l_tup, Ir.l_tmp, Ir.l_mix, Ir.l_ref, Ir.f_int, Ir.f_intb, Ir.f_abs, Ir.f_max, Ir.f_min, Ir.f_tup, Ir.f_list, Ir.f_all, Ir.f_any, Ir.f_isin, Ir.t_int, Ir.t_str, Ir.t_bl, Ir.t_non, Ir.t_tup, Ir.t_mix, Ir.is_ii, Ir.is_ib, Ir.is_tt, Ir.is_it, Ir.is_ss, Ir.p_j, Ir.p_s, Ir.p_p, Ir.tr_b, Ir.s_tmp, Ir.s_tup, Ir.s_str, Ir.boolsD, Ir.strsD, Ir.sqr, Ir.lsr, Ir.ob1, Ir.ob2, Ir.blU, List.map_cons, List.map_nil, List.length_cons, List.length_nil, List.replicate, List.cons_append, List.nil_append, List.append_nil, List.getElem?_cons_zero, List.getElem?_cons_succ, List.getElem?_nil, List.set_cons_zero, List.set_cons_succ, List.set_nil, Option.bind_some, Option.map_some, Option.map_none, Option.bind_none, if_true, if_false, ite_true, ite_false, reduceIte, Bool.not_true, Bool.not_false, List.take_succ_cons, List.take_length, List.take_zero, Nat.add_sub_cancel, Nat.sub_self, Nat.reduceSub, Nat.reduceAdd, reduceCtorEq, Bool.false_eq_true, decide_true, decide_false, List.all_cons, List.any_cons, List.all_nil, List.any_nil, id_eq, Bool.true_and, Bool.and_true, Bool.false_or, Bool.or_false, Ir.zc0, Ir.zc1, Ir.zc2, Ir.zc3, eq_self, Ir.bools_const, Ir.all_const, Ir.any_const, forEnd, fin, b_mul, m2, m3, m4, m5, pw29, pw18, b_mod q3, gc1]
    exact ⟨_, rfl, _, _, _, rfl, by split <;> omega, Int.emod_nonneg _ (by decide), Int.lt_of_lt_of_le (Int.emod_lt_of_pos _ q3) (by decide), by omega, by omega⟩
end G85

set_option Elab.async false
set_option linter.all false
set_option maxRecDepth 100000
set_option autoImplicit false
/-! P85l: great fractions. -/
namespace G85
open PySem L2 Ir PySem.NumText
def showF (a b : Int) : Str := if b = 1 then numT a else ((Str.empty ++ numT a) ++ "/") ++ numT b
theorem show_fraction_eq {k : Nat} {a b : Int} {S : Store} (h1 : digOk a = true) (h2 : digOk b = true) (l1 : (numT a).length ≤ 10000) (l2 : (numT b).length ≤ 10000) : run pd.fds (k + 1) 19 [.d (.tup [.int a, .int b])] S = some (.d (.str (showF a b)), S) := by
  refine run_eq ⟨1, 3, ir_show_fraction⟩ rfl rfl ?_
  have e1 : (Str.empty : Str).length = 0 := rfl
  have e2 : (Str.ofString "/").length = 1 := rfl
  have e3 : ∀ a b c d : Nat, a + [b, c, d].sum = a + b + c + d := fun a b c d => by simp; omega
  by_cases hb : b = 1
  · simp -implicitDefEqProofs only [Ir.Ok_bind, Ir.Ok_map, Ir.Ok_some, Ir.Ok_none, Ir.evSs, Ir.evE.eq_1, Ir.evE.eq_2, Ir.evE.eq_3, Ir.evE.eq_4, Ir.evE.eq_5, Ir.evE.eq_6, Ir.evE.eq_7, Ir.evE.eq_8, Ir.evE.eq_9, Ir.evE.eq_10, Ir.evE.eq_11, Ir.evE.eq_12, Ir.evE.eq_13, Ir.evE.eq_14, Ir.evE.eq_15, Ir.evE.eq_16, Ir.evE.eq_17, Ir.evE.eq_19, Ir.evEs, Ir.evRs, Ir.evO, Ir.evOt, Ir.evT, Ir.evI, Ir.evS.eq_1, Ir.evS.eq_2, Ir.evS.eq_3, Ir.evS.eq_4, Ir.evS.eq_5, Ir.evS.eq_6, Ir.evS.eq_9, Ir.evS.eq_10, Ir.evS.eq_11, Ir.evS.eq_12, Ir.evS.eq_13, Ir.Ok_for, Ir.ev2, Ir.startE, Ir.bT_n, Ir.bT_t, Ir.bT_m, Ir.bTs_n, Ir.bTs_c, Ir.wipeE, Ir.mt0, Ir.mt1, Ir.mt2, Ir.mt3, Ir.mt4, Ir.ad0, Ir.ad1, Ir.ad2, Ir.ad3, Ir.arrU, Ir.fu, Ir.ft, Ir.gd, Ir.gRu, Ir.gRt, Ir.sq1, Ir.sq2, Ir.ls1, Ir.rt1, Ir.rt2, Ir.bopR_d, Ir.b_add, Ir.b_sub, Ir.c_lt, Ir.c_le, Ir.c_gt, Ir.c_ge, Ir.c_eqi, Ir.c_eqs, Ir.c_eqb, Ir.c_nei, Ir.c_nes, Ir.c_neb, Ir.c_is, Ir.c_isn, Ir.n1, Ir.n2, Ir.n3, Ir.n4, Ir.n5, Ir.n6, Ir.d_lt, Ir.d_le, Ir.d_gt, Ir.d_ge, Ir.x_tup, Ir.x_tmp, Ir.x_mix, Ir.x_ref, Ir.a0, Ir.a1, Ir.a2, Ir.i30, Ir.i32, Ir.f_len, Ir.l_tup, Ir.l_tmp, Ir.l_mix, Ir.l_ref, Ir.f_int, Ir.f_intb, Ir.f_abs, Ir.f_max, Ir.f_min, Ir.f_tup, Ir.f_list, Ir.f_all, Ir.f_any, Ir.f_isin, Ir.t_int, Ir.t_str, Ir.t_bl, Ir.t_non, Ir.t_tup, Ir.t_mix, Ir.is_ii, Ir.is_ib, Ir.is_tt, Ir.is_it, Ir.is_ss, Ir.p_j, Ir.p_s, Ir.p_p, Ir.tr_b, Ir.s_tmp, Ir.s_tup, Ir.s_str, Ir.boolsD, Ir.strsD, Ir.sqr, Ir.lsr, Ir.ob1, Ir.ob2, Ir.blU, List.map_cons, List.map_nil, List.length_cons, List.length_nil, List.replicate, List.cons_append, List.nil_append, List.append_nil, List.getElem?_cons_zero, List.getElem?_cons_succ, List.getElem?_nil, List.set_cons_zero, List.set_cons_succ, List.set_nil, Option.bind_some, Option.map_some, Option.map_none, Option.bind_none, if_true, if_false, ite_true, ite_false, reduceIte, Bool.not_true, Bool.not_false, List.take_succ_cons, List.take_length, List.take_zero, Nat.add_sub_cancel, Nat.sub_self, Nat.reduceSub, Nat.reduceAdd, reduceCtorEq, Bool.false_eq_true, decide_true, decide_false, List.all_cons, List.any_cons, List.all_nil, List.any_nil, id_eq, Bool.true_and, Bool.and_true, Bool.false_or, Bool.or_false, Ir.zc0, Ir.zc1, Ir.zc2, Ir.zc3, eq_self, Ir.bools_const, Ir.all_const, Ir.any_const, ir_show_fraction, hb, f_str h1, showF, numT]
  · simp -implicitDefEqProofs only [Ir.Ok_bind, Ir.Ok_map, Ir.Ok_some, Ir.Ok_none, Ir.evSs, Ir.evE.eq_1, Ir.evE.eq_2, Ir.evE.eq_3, Ir.evE.eq_4, Ir.evE.eq_5, Ir.evE.eq_6, Ir.evE.eq_7, Ir.evE.eq_8, Ir.evE.eq_9, Ir.evE.eq_10, Ir.evE.eq_11, Ir.evE.eq_12, Ir.evE.eq_13, Ir.evE.eq_14, Ir.evE.eq_15, Ir.evE.eq_16, Ir.evE.eq_17, Ir.evE.eq_19, Ir.evEs, Ir.evRs, Ir.evO, Ir.evOt, Ir.evT, Ir.evI, Ir.evS.eq_1, Ir.evS.eq_2, Ir.evS.eq_3, Ir.evS.eq_4, Ir.evS.eq_5, Ir.evS.eq_6, Ir.evS.eq_9, Ir.evS.eq_10, Ir.evS.eq_11, Ir.evS.eq_12, Ir.evS.eq_13, Ir.Ok_for, Ir.ev2, Ir.startE, Ir.bT_n, Ir.bT_t, Ir.bT_m, Ir.bTs_n, Ir.bTs_c, Ir.wipeE, Ir.mt0, Ir.mt1, Ir.mt2, Ir.mt3, Ir.mt4, Ir.ad0, Ir.ad1, Ir.ad2, Ir.ad3, Ir.arrU, Ir.fu, Ir.ft, Ir.gd, Ir.gRu, Ir.gRt, Ir.sq1, Ir.sq2, Ir.ls1, Ir.rt1, Ir.rt2, Ir.bopR_d, Ir.b_add, Ir.b_sub, Ir.c_lt, Ir.c_le, Ir.c_gt, Ir.c_ge, Ir.c_eqi, Ir.c_eqs, Ir.c_eqb, Ir.c_nei, Ir.c_nes, Ir.c_neb, Ir.c_is, Ir.c_isn, Ir.n1, Ir.n2, Ir.n3, Ir.n4, Ir.n5, Ir.n6, Ir.d_lt, Ir.d_le, Ir.d_gt, Ir.d_ge, Ir.x_tup, Ir.x_tmp, Ir.x_mix, Ir.x_ref, Ir.a0, Ir.a1, Ir.a2, Ir.i30, Ir.i32, Ir.f_len, Ir.l_tup, Ir.l_tmp, Ir.l_mix, Ir.l_ref, Ir.f_int, Ir.f_intb, Ir.f_abs, Ir.f_max, Ir.f_min, Ir.f_tup, Ir.f_list, Ir.f_all, Ir.f_any, Ir.f_isin, Ir.t_int, Ir.t_str, Ir.t_bl, Ir.t_non, Ir.t_tup, Ir.t_mix, Ir.is_ii, Ir.is_ib, Ir.is_tt, Ir.is_it, Ir.is_ss, Ir.p_j, Ir.p_s, Ir.p_p, Ir.tr_b, Ir.s_tmp, Ir.s_tup, Ir.s_str, Ir.boolsD, Ir.strsD, Ir.sqr, Ir.lsr, Ir.ob1, Ir.ob2, Ir.blU, List.map_cons, List.map_nil, List.length_cons, List.length_nil, List.replicate, List.cons_append, List.nil_append, List.append_nil, List.getElem?_cons_zero, List.getElem?_cons_succ, List.getElem?_nil, List.set_cons_zero, List.set_cons_succ, List.set_nil, Option.bind_some, Option.map_some, Option.map_none, Option.bind_none, if_true, if_false, ite_true, ite_false, reduceIte, Bool.not_true, Bool.not_false, List.take_succ_cons, List.take_length, List.take_zero, Nat.add_sub_cancel, Nat.sub_self, Nat.reduceSub, Nat.reduceAdd, reduceCtorEq, Bool.false_eq_true, decide_true, decide_false, List.all_cons, List.any_cons, List.all_nil, List.any_nil, id_eq, Bool.true_and, Bool.and_true, Bool.false_or, Bool.or_false, Ir.zc0, Ir.zc1, Ir.zc2, Ir.zc3, eq_self, Ir.bools_const, Ir.all_const, Ir.any_const, ir_show_fraction, decide_eq_false hb]
    rw [fs_ok _ _ (by
      simp only [List.map_cons, List.map_nil, txtD, e1, e2, e3]
      exact leLim (by omega)) (by simp only [List.all_cons, List.all_nil, goodD, h1, h2, Bool.and_self])]
    simp -implicitDefEqProofs only [Ir.Ok_bind, Ir.Ok_map, Ir.Ok_some, Ir.Ok_none, Ir.evSs, Ir.evE.eq_1, Ir.evE.eq_2, Ir.evE.eq_3, Ir.evE.eq_4, Ir.evE.eq_5, Ir.evE.eq_6, Ir.evE.eq_7, Ir.evE.eq_8, Ir.evE.eq_9, Ir.evE.eq_10, Ir.evE.eq_11, Ir.evE.eq_12, Ir.evE.eq_13, Ir.evE.eq_14, Ir.evE.eq_15, Ir.evE.eq_16, Ir.evE.eq_17, Ir.evE.eq_19, Ir.evEs, Ir.evRs, Ir.evO, Ir.evOt, Ir.evT, Ir.evI, Ir.evS.eq_1, Ir.evS.eq_2, Ir.evS.eq_3, Ir.evS.eq_4, Ir.evS.eq_5, Ir.evS.eq_6, Ir.evS.eq_9, Ir.evS.eq_10, Ir.evS.eq_11, Ir.evS.eq_12, Ir.evS.eq_13, Ir.Ok_for, Ir.ev2, Ir.startE, Ir.bT_n, Ir.bT_t, Ir.bT_m, Ir.bTs_n, Ir.bTs_c, Ir.wipeE, Ir.mt0, Ir.mt1, Ir.mt2, Ir.mt3, Ir.mt4, Ir.ad0, Ir.ad1, Ir.ad2, Ir.ad3, Ir.arrU, Ir.fu, Ir.ft, Ir.gd, Ir.gRu, Ir.gRt, Ir.sq1, Ir.sq2, Ir.ls1, Ir.rt1, Ir.rt2, Ir.bopR_d, Ir.b_add, Ir.b_sub, Ir.c_lt, Ir.c_le, Ir.c_gt, Ir.c_ge, Ir.c_eqi, Ir.c_eqs, Ir.c_eqb, Ir.c_nei, Ir.c_nes, Ir.c_neb, Ir.c_is, Ir.c_isn, Ir.n1, Ir.n2, Ir.n3, Ir.n4, Ir.n5, Ir.n6, Ir.d_lt, Ir.d_le, Ir.d_gt, Ir.d_ge, Ir.x_tup, Ir.x_tmp, Ir.x_mix, Ir.x_ref, Ir.a0, Ir.a1, Ir.a2, Ir.i30, Ir.i32, Ir.f_len, Ir.l_tup, Ir.l_tmp, Ir.l_mix, Ir.l_ref, Ir.f_int, Ir.f_intb, Ir.f_abs, Ir.f_max, Ir.f_min, Ir.f_tup, Ir.f_list, Ir.f_all, Ir.f_any, Ir.f_isin, Ir.t_int, Ir.t_str, Ir.t_bl, Ir.t_non, Ir.t_tup, Ir.t_mix, Ir.is_ii, Ir.is_ib, Ir.is_tt, Ir.is_it, Ir.is_ss, Ir.p_j, Ir.p_s, Ir.p_p, Ir.tr_b, Ir.s_tmp, Ir.s_tup, Ir.s_str, Ir.boolsD, Ir.strsD, Ir.sqr, Ir.lsr, Ir.ob1, Ir.ob2, Ir.blU, List.map_cons, List.map_nil, List.length_cons, List.length_nil, List.replicate, List.cons_append, List.nil_append, List.append_nil, List.getElem?_cons_zero, List.getElem?_cons_succ, List.getElem?_nil, List.set_cons_zero, List.set_cons_succ, List.set_nil, Option.bind_some, Option.map_some, Option.map_none, Option.bind_none, if_true, if_false, ite_true, ite_false, reduceIte, Bool.not_true, Bool.not_false, List.take_succ_cons, List.take_length, List.take_zero, Nat.add_sub_cancel, Nat.sub_self, Nat.reduceSub, Nat.reduceAdd, reduceCtorEq, Bool.false_eq_true, decide_true, decide_false, List.all_cons, List.any_cons, List.all_nil, List.any_nil, id_eq, Bool.true_and, Bool.and_true, Bool.false_or, Bool.or_false, Ir.zc0, Ir.zc1, Ir.zc2, Ir.zc3, eq_self, Ir.bools_const, Ir.all_const, Ir.any_const, List.foldl_cons, List.foldl_nil, txtD, showF, if_neg hb]
theorem numT_neg {n : Nat} : numT (-((n + 1 : Nat) : Int)) = Str.ofString "-" ++ numT ((n + 1 : Nat) : Int) := by
  refine TL.ext_tl ?_
  have e : (toString (-((n + 1 : Nat) : Int)) : String) = "-" ++ toString ((n + 1 : Nat) : Int) := rfl
  show TL.tl (Str.ofString (toString (-((n + 1 : Nat) : Int)))) = TL.tl (Str.ofString "-" ++ Str.ofString (toString ((n + 1 : Nat) : Int)))
  rw [e, TL.tl_append, TL.tl_ofString, TL.tl_ofString, TL.tl_ofString, String.toList_append, List.map_append]
theorem numT_len {n k : Nat} (hk : 0 < k) (h : n < 10 ^ k) : (numT (n : Int)).length ≤ k := by
  show (Str.ofString (toString ((n : Nat) : Int))).length ≤ k
  rw [TL.len_tl, TL.tl_num]
  exact TL.numL_len hk h
theorem dig_of {i : Int} {k : Nat} (hk : k ≤ 4300) (h : i.natAbs < 10 ^ k) : digOk i = true := by
  unfold digOk
  rw [Bool.or_eq_true]
  exact .inr (decide_eq_true (Nat.lt_of_lt_of_le h (Nat.pow_le_pow_right (by decide) hk)))
/-- the text of f ones and a nought -/
def onesT (f : Nat) : Str := strRep "1" f ++ "0"
theorem tl_ones (f : Nat) : TL.tl (onesT f) = List.replicate f 49 ++ [48] := by
  unfold onesT
  rw [TL.tl_append]
  have : TL.tl (strRep "1" f) = List.replicate f 49 := by
    show (List.replicate f [49]).flatten = _
    induction f with
    | zero => rfl
    | succ f ih => rw [List.replicate_succ, List.flatten_cons, ih]; rfl
  rw [this]
  rfl
theorem fold_lt : ∀ (l : List Nat) (a : Nat), NumText.AllDigits l → l.foldl (fun acc c => acc * 10 + (c - 48)) a < (a + 1) * 10 ^ l.length
  | [], a, _ => by simp
  | c :: l, a, h => by
    have hc := h c (by simp)
    have ih := fold_lt l (a * 10 + (c - 48)) fun d hd => h d (by simp [hd])
    rw [List.foldl_cons, List.length_cons, Nat.pow_succ]
    refine Nat.lt_of_lt_of_le ih ?_
    rw [Nat.mul_comm (10 ^ l.length) 10, ← Nat.mul_assoc]
    exact Nat.mul_le_mul_right _ (by omega)
theorem fold_pos : ∀ (l : List Nat) (a : Nat), 1 ≤ a → 1 ≤ l.foldl (fun acc c => acc * 10 + (c - 48)) a
  | [], a, h => h
  | c :: l, a, h => fold_pos l (a * 10 + (c - 48)) (by omega)
theorem ones_ok {f : Nat} (h1 : 1 ≤ f) (h2 : f ≤ 3999) : intLen (onesT f) = true ∧ ∃ n : Nat, PySem.intText? (onesT f) = some (n : Int) ∧ 1 ≤ n ∧ n < 10 ^ (f + 1) := by
  have e := tl_ones f
  have hd : NumText.AllDigits (TL.tl (onesT f)) := by
    rw [e]
    intro c hc
    rcases List.mem_append.mp hc with hc | hc
    · rw [(List.mem_replicate.mp hc).2]
      decide
    · rw [List.mem_singleton.mp hc]
      decide
  have hl : (onesT f).length = f + 1 := by rw [TL.len_tl, e]; simp
  refine ⟨?_, ?_⟩
  · unfold intLen
    rw [Bool.or_eq_true]
    right
    rw [Bool.and_eq_true]
    refine ⟨decide_eq_true (by omega), List.all_eq_true.mpr fun c hc => decide_eq_true (.inr ?_)⟩
    exact hd c hc
  · have z := intText_digits (x := onesT f) hd (by show TL.tl (onesT f) ≠ []; rw [e]; simp) (by omega)
    refine ⟨NumText.digitsVal (TL.tl (onesT f)), z, ?_, ?_⟩
    · rw [e]
      obtain ⟨g, rfl⟩ : ∃ g, f = g + 1 := ⟨f - 1, by omega⟩
      rw [List.replicate_succ]
      exact fold_pos (List.replicate g 49 ++ [48]) 1 (by decide)
    · have := fold_lt (TL.tl (onesT f)) 0 hd
      rw [Nat.zero_add, Nat.one_mul] at this
      have el : (TL.tl (onesT f)).length = f + 1 := by rw [e]; simp
      rw [el] at this
      exact this
theorem showF_neg {n : Nat} {b : Int} : showF (-((n + 1 : Nat) : Int)) b = Str.ofString "-" ++ showF ((n + 1 : Nat) : Int) b := by
  unfold showF
  split
  · exact numT_neg
  · rw [numT_neg]
    refine TL.ext_tl ?_
    simp only [TL.tl_append]
    simp only [List.append_assoc]
    rfl
/-- the last part, of a fraction that is fixed -/
theorem fr_all {k n e : Nat} {b : Int} {S : Store} (he : 0 < e ∧ e ≤ 4300) (hn : n + 1 < 10 ^ e) (hb : b = 1 ∨ b = 11) :
    run pd.fds (k + 1) 19 [.d (.tup [.int ((n + 1 : Nat) : Int), .int b])] S = some (.d (.str (showF ((n + 1 : Nat) : Int) b)), S) ∧
    run pd.fds (k + 1) 19 [.d (.tup [.int (-((n + 1 : Nat) : Int)), .int b])] S = some (.d (.str (Str.ofString "-" ++ showF ((n + 1 : Nat) : Int) b)), S) ∧ (numT ((n + 1 : Nat) : Int)).length ≤ 4300 ∧ digOk ((n + 1 : Nat) : Int) = true ∧ digOk b = true ∧ (numT b).length ≤ 10 := by
  have l1 := numT_len (n := n + 1) he.1 hn
  have d1 : digOk ((n + 1 : Nat) : Int) = true := dig_of he.2 (by rw [Int.natAbs_natCast]; exact hn)
  have d2 : digOk (-((n + 1 : Nat) : Int)) = true := dig_of he.2 (by rw [Int.natAbs_neg, Int.natAbs_natCast]; exact hn)
  have hb2 : 0 ≤ b ∧ b < 1000 := by omega
  have l2 := nlen hb2
  have l3 : (numT (-((n + 1 : Nat) : Int))).length ≤ 10000 := by
    rw [numT_neg, len_app]
    have : (Str.ofString "-").length = 1 := rfl
    omega
  refine ⟨show_fraction_eq d1 (dig_small hb2) (by omega) (by omega), ?_, by omega, d1, dig_small hb2, by omega⟩
  rw [← showF_neg]
  exact show_fraction_eq d2 (dig_small hb2) l3 (by omega)
end G85

set_option Elab.async false
set_option linter.all false
set_option maxRecDepth 100000
set_option autoImplicit false
/-! P85m: the great look. -/
namespace G85
open PySem L2 Ir
theorem great_ok {k : Nat} {sc : Ob} {dk : List D} {N : Int} (hN : N < 2 ^ 39) (hd : Dk dk N) :
    Ok (run pd.fds (k + 3) 34 [.ref 1] [sc, .lst dk]) fun p => ∃ dk', p = (.d (.bl true), [sc, .lst dk']) ∧ Dk dk' (N + 20000) := by
  refine run_ok ⟨1, 6, ir__law_great_right⟩ rfl rfl ?_
  simp -implicitDefEqProofs only [Ir.Ok_bind, Ir.Ok_map, Ir.Ok_some, Ir.Ok_none, Ir.evSs, Ir.evE.eq_1, Ir.evE.eq_2, Ir.evE.eq_3, Ir.evE.eq_4, Ir.evE.eq_5, Ir.evE.eq_6, Ir.evE.eq_7, Ir.evE.eq_8, Ir.evE.eq_9, Ir.evE.eq_10, Ir.evE.eq_11, Ir.evE.eq_12, Ir.evE.eq_13, Ir.evE.eq_14, Ir.evE.eq_15, Ir.evE.eq_16, Ir.evE.eq_17, Ir.evE.eq_19, Ir.evEs, Ir.evRs, Ir.evO, Ir.evOt, Ir.evT, Ir.evI, Ir.evS.eq_1, Ir.evS.eq_2, Ir.evS.eq_3, Ir.evS.eq_4, Ir.evS.eq_5, Ir.evS.eq_6, Ir.evS.eq_9, Ir.evS.eq_10, Ir.evS.eq_11, Ir.evS.eq_12, Ir.evS.eq_13, Ir.Ok_for, Ir.ev2, Ir.startE, Ir.bT_n, Ir.bT_t, Ir.bT_m, Ir.bTs_n, Ir.bTs_c, Ir.wipeE, Ir.mt0, Ir.mt1, Ir.mt2, Ir.mt3, Ir.mt4, Ir.ad0, Ir.ad1, Ir.ad2, Ir.ad3, Ir.arrU, Ir.fu, Ir.ft, Ir.gd, Ir.gRu, Ir.gRt, Ir.sq1, Ir.sq2, Ir.ls1, Ir.rt1, Ir.rt2, Ir.bopR_d, Ir.b_add, Ir.b_sub, Ir.c_lt, Ir.c_le, Ir.c_gt, Ir.c_ge, Ir.c_eqi, Ir.c_eqs, Ir.c_eqb, Ir.c_nei, Ir.c_nes, Ir.c_neb, Ir.c_is, Ir.c_isn, Ir.n1, Ir.n2, Ir.n3, Ir.n4, Ir.n5, Ir.n6, Ir.d_lt, Ir.d_le, Ir.d_gt, Ir.d_ge, Ir.x_tup, Ir.x_tmp, Ir.x_mix, Ir.x_ref, Ir.a0, Ir.a1, Ir.a2, Ir.i30, Ir.i32, Ir.f_len, Ir.l_tup, Ir.l_tmp, Ir.l_mix, Ir.l_ref, Ir.f_int, Ir.f_intb, Ir.f_abs, Ir.f_max, Ir.f_min, Ir.f_tup, Ir.f_list, Ir.f_all, Ir.f_any, Ir.f_isin, Ir.t_int, Ir.t_str, Ir.t_bl, Ir.t_non, Ir.t_tup, Ir.t_mix, Ir.is_ii, Ir.is_ib, Ir.is_tt, Ir.is_it, Ir.is_ss, Ir.p_j, Ir.p_s, Ir.p_p, Ir.tr_b, Ir.s_tmp, Ir.s_tup, Ir.s_str, Ir.boolsD, Ir.strsD, Ir.sqr, Ir.lsr, Ir.ob1, Ir.ob2, Ir.blU, List.map_cons, List.map_nil, List.length_cons, List.length_nil, List.replicate, List.cons_append, List.nil_append, List.append_nil, List.getElem?_cons_zero, List.getElem?_cons_succ, List.getElem?_nil, List.set_cons_zero, List.set_cons_succ, List.set_nil, Option.bind_some, Option.map_some, Option.map_none, Option.bind_none, if_true, if_false, ite_true, ite_false, reduceIte, Bool.not_true, Bool.not_false, List.take_succ_cons, List.take_length, List.take_zero, Nat.add_sub_cancel, Nat.sub_self, Nat.reduceSub, Nat.reduceAdd, reduceCtorEq, Bool.false_eq_true, decide_true, decide_false, List.all_cons, List.any_cons, List.all_nil, List.any_nil, id_eq, Bool.true_and, Bool.and_true, Bool.false_or, Bool.or_false, Ir.zc0, Ir.zc1, Ir.zc2, Ir.zc3, eq_self, Ir.bools_const, Ir.all_const, Ir.any_const, ir__law_great_right]
  refine Ok.mono (take_run (T := []) hd (by omega) (by decide) (by decide)) ?_
  rintro p ⟨v1, d1, rfl, a1, b1, h1⟩
  simp -implicitDefEqProofs only [Ir.Ok_bind, Ir.Ok_map, Ir.Ok_some, Ir.Ok_none, Ir.evSs, Ir.evE.eq_1, Ir.evE.eq_2, Ir.evE.eq_3, Ir.evE.eq_4, Ir.evE.eq_5, Ir.evE.eq_6, Ir.evE.eq_7, Ir.evE.eq_8, Ir.evE.eq_9, Ir.evE.eq_10, Ir.evE.eq_11, Ir.evE.eq_12, Ir.evE.eq_13, Ir.evE.eq_14, Ir.evE.eq_15, Ir.evE.eq_16, Ir.evE.eq_17, Ir.evE.eq_19, Ir.evEs, Ir.evRs, Ir.evO, Ir.evOt, Ir.evT, Ir.evI, Ir.evS.eq_1, Ir.evS.eq_2, Ir.evS.eq_3, Ir.evS.eq_4, Ir.evS.eq_5, Ir.evS.eq_6, Ir.evS.eq_9, Ir.evS.eq_10, Ir.evS.eq_11, Ir.evS.eq_12, Ir.evS.eq_13, Ir.Ok_for, Ir.ev2, Ir.startE, Ir.bT_n, Ir.bT_t, Ir.bT_m, Ir.bTs_n, Ir.bTs_c, Ir.wipeE, Ir.mt0, Ir.mt1, Ir.mt2, Ir.mt3, Ir.mt4, Ir.ad0, Ir.ad1, Ir.ad2, Ir.ad3, Ir.arrU, Ir.fu, Ir.ft, Ir.gd, Ir.gRu, Ir.gRt, Ir.sq1, Ir.sq2, Ir.ls1, Ir.rt1, Ir.rt2, Ir.bopR_d, Ir.b_add, Ir.b_sub, Ir.c_lt, Ir.c_le, Ir.c_gt, Ir.c_ge, Ir.c_eqi, Ir.c_eqs, Ir.c_eqb, Ir.c_nei, Ir.c_nes, Ir.c_neb, Ir.c_is, Ir.c_isn, Ir.n1, Ir.n2, Ir.n3, Ir.n4, Ir.n5, Ir.n6, Ir.d_lt, Ir.d_le, Ir.d_gt, Ir.d_ge, Ir.x_tup, Ir.x_tmp, Ir.x_mix, Ir.x_ref, Ir.a0, Ir.a1, Ir.a2, Ir.i30, Ir.i32, Ir.f_len, Ir.l_tup, Ir.l_tmp, Ir.l_mix, Ir.l_ref, Ir.f_int, Ir.f_intb, Ir.f_abs, Ir.f_max, Ir.f_min, Ir.f_tup, Ir.f_list, Ir.f_all, Ir.f_any, Ir.f_isin, Ir.t_int, Ir.t_str, Ir.t_bl, Ir.t_non, Ir.t_tup, Ir.t_mix, Ir.is_ii, Ir.is_ib, Ir.is_tt, Ir.is_it, Ir.is_ss, Ir.p_j, Ir.p_s, Ir.p_p, Ir.tr_b, Ir.s_tmp, Ir.s_tup, Ir.s_str, Ir.boolsD, Ir.strsD, Ir.sqr, Ir.lsr, Ir.ob1, Ir.ob2, Ir.blU, List.map_cons, List.map_nil, List.length_cons, List.length_nil, List.replicate, List.cons_append, List.nil_append, List.append_nil, List.getElem?_cons_zero, List.getElem?_cons_succ, List.getElem?_nil, List.set_cons_zero, List.set_cons_succ, List.set_nil, Option.bind_some, Option.map_some, Option.map_none, Option.bind_none, if_true, if_false, ite_true, ite_false, reduceIte, Bool.not_true, Bool.not_false, List.take_succ_cons, List.take_length, List.take_zero, Nat.add_sub_cancel, Nat.sub_self, Nat.reduceSub, Nat.reduceAdd, reduceCtorEq, Bool.false_eq_true, decide_true, decide_false, List.all_cons, List.any_cons, List.all_nil, List.any_nil, id_eq, Bool.true_and, Bool.and_true, Bool.false_or, Bool.or_false, Ir.zc0, Ir.zc1, Ir.zc2, Ir.zc3, eq_self, Ir.bools_const, Ir.all_const, Ir.any_const]
  refine Ok.mono (take_run (T := []) h1 (by omega) (by decide) (by decide)) ?_
  rintro p ⟨v2, d2, rfl, a2, b2, h2⟩
  simp -implicitDefEqProofs only [Ir.Ok_bind, Ir.Ok_map, Ir.Ok_some, Ir.Ok_none, Ir.evSs, Ir.evE.eq_1, Ir.evE.eq_2, Ir.evE.eq_3, Ir.evE.eq_4, Ir.evE.eq_5, Ir.evE.eq_6, Ir.evE.eq_7, Ir.evE.eq_8, Ir.evE.eq_9, Ir.evE.eq_10, Ir.evE.eq_11, Ir.evE.eq_12, Ir.evE.eq_13, Ir.evE.eq_14, Ir.evE.eq_15, Ir.evE.eq_16, Ir.evE.eq_17, Ir.evE.eq_19, Ir.evEs, Ir.evRs, Ir.evO, Ir.evOt, Ir.evT, Ir.evI, Ir.evS.eq_1, Ir.evS.eq_2, Ir.evS.eq_3, Ir.evS.eq_4, Ir.evS.eq_5, Ir.evS.eq_6, Ir.evS.eq_9, Ir.evS.eq_10, Ir.evS.eq_11, Ir.evS.eq_12, Ir.evS.eq_13, Ir.Ok_for, Ir.ev2, Ir.startE, Ir.bT_n, Ir.bT_t, Ir.bT_m, Ir.bTs_n, Ir.bTs_c, Ir.wipeE, Ir.mt0, Ir.mt1, Ir.mt2, Ir.mt3, Ir.mt4, Ir.ad0, Ir.ad1, Ir.ad2, Ir.ad3, Ir.arrU, Ir.fu, Ir.ft, Ir.gd, Ir.gRu, Ir.gRt, Ir.sq1, Ir.sq2, Ir.ls1, Ir.rt1, Ir.rt2, Ir.bopR_d, Ir.b_add, Ir.b_sub, Ir.c_lt, Ir.c_le, Ir.c_gt, Ir.c_ge, Ir.c_eqi, Ir.c_eqs, Ir.c_eqb, Ir.c_nei, Ir.c_nes, Ir.c_neb, Ir.c_is, Ir.c_isn, Ir.n1, Ir.n2, Ir.n3, Ir.n4, Ir.n5, Ir.n6, Ir.d_lt, Ir.d_le, Ir.d_gt, Ir.d_ge, Ir.x_tup, Ir.x_tmp, Ir.x_mix, Ir.x_ref, Ir.a0, Ir.a1, Ir.a2, Ir.i30, Ir.i32, Ir.f_len, Ir.l_tup, Ir.l_tmp, Ir.l_mix, Ir.l_ref, Ir.f_int, Ir.f_intb, Ir.f_abs, Ir.f_max, Ir.f_min, Ir.f_tup, Ir.f_list, Ir.f_all, Ir.f_any, Ir.f_isin, Ir.t_int, Ir.t_str, Ir.t_bl, Ir.t_non, Ir.t_tup, Ir.t_mix, Ir.is_ii, Ir.is_ib, Ir.is_tt, Ir.is_it, Ir.is_ss, Ir.p_j, Ir.p_s, Ir.p_p, Ir.tr_b, Ir.s_tmp, Ir.s_tup, Ir.s_str, Ir.boolsD, Ir.strsD, Ir.sqr, Ir.lsr, Ir.ob1, Ir.ob2, Ir.blU, List.map_cons, List.map_nil, List.length_cons, List.length_nil, List.replicate, List.cons_append, List.nil_append, List.append_nil, List.getElem?_cons_zero, List.getElem?_cons_succ, List.getElem?_nil, List.set_cons_zero, List.set_cons_succ, List.set_nil, Option.bind_some, Option.map_some, Option.map_none, Option.bind_none, if_true, if_false, ite_true, ite_false, reduceIte, Bool.not_true, Bool.not_false, List.take_succ_cons, List.take_length, List.take_zero, Nat.add_sub_cancel, Nat.sub_self, Nat.reduceSub, Nat.reduceAdd, reduceCtorEq, Bool.false_eq_true, decide_true, decide_false, List.all_cons, List.any_cons, List.all_nil, List.any_nil, id_eq, Bool.true_and, Bool.and_true, Bool.false_or, Bool.or_false, Ir.zc0, Ir.zc1, Ir.zc2, Ir.zc3, eq_self, Ir.bools_const, Ir.all_const, Ir.any_const]
  refine Ok.mono (take_run (T := []) h2 (by omega) (by decide) (by decide)) ?_
  rintro p ⟨v3, d3, rfl, a3, b3, h3⟩
  obtain ⟨own, e1⟩ : ∃ r : Nat, 1 + v1 = (r : Int) := ⟨(1 + v1).toNat, by omega⟩
  obtain ⟨others, e2⟩ : ∃ r : Nat, 1 + v2 = (r : Int) := ⟨(1 + v2).toNat, by omega⟩
  obtain ⟨many, e3⟩ : ∃ r : Nat, 390 + v3 = (r : Int) := ⟨(390 + v3).toNat, by omega⟩
  simp -implicitDefEqProofs only [Ir.Ok_bind, Ir.Ok_map, Ir.Ok_some, Ir.Ok_none, Ir.evSs, Ir.evE.eq_1, Ir.evE.eq_2, Ir.evE.eq_3, Ir.evE.eq_4, Ir.evE.eq_5, Ir.evE.eq_6, Ir.evE.eq_7, Ir.evE.eq_8, Ir.evE.eq_9, Ir.evE.eq_10, Ir.evE.eq_11, Ir.evE.eq_12, Ir.evE.eq_13, Ir.evE.eq_14, Ir.evE.eq_15, Ir.evE.eq_16, Ir.evE.eq_17, Ir.evE.eq_19, Ir.evEs, Ir.evRs, Ir.evO, Ir.evOt, Ir.evT, Ir.evI, Ir.evS.eq_1, Ir.evS.eq_2, Ir.evS.eq_3, Ir.evS.eq_4, Ir.evS.eq_5, Ir.evS.eq_6, Ir.evS.eq_9, Ir.evS.eq_10, Ir.evS.eq_11, Ir.evS.eq_12, Ir.evS.eq_13, Ir.Ok_for, Ir.ev2, Ir.startE, Ir.bT_n, Ir.bT_t, Ir.bT_m, Ir.bTs_n, Ir.bTs_c, Ir.wipeE, Ir.mt0, Ir.mt1, Ir.mt2, Ir.mt3, Ir.mt4, Ir.ad0, Ir.ad1, Ir.ad2, Ir.ad3, Ir.arrU, Ir.fu, Ir.ft, Ir.gd, Ir.gRu, Ir.gRt, Ir.sq1, Ir.sq2, Ir.ls1, Ir.rt1, Ir.rt2, Ir.bopR_d, Ir.b_add, Ir.b_sub, Ir.c_lt, Ir.c_le, Ir.c_gt, Ir.c_ge, Ir.c_eqi, Ir.c_eqs, Ir.c_eqb, Ir.c_nei, Ir.c_nes, Ir.c_neb, Ir.c_is, Ir.c_isn, Ir.n1, Ir.n2, Ir.n3, Ir.n4, Ir.n5, Ir.n6, Ir.d_lt, Ir.d_le, Ir.d_gt, Ir.d_ge, Ir.x_tup, Ir.x_tmp, Ir.x_mix, Ir.x_ref, Ir.a0, Ir.a1, Ir.a2, Ir.i30, Ir.i32, Ir.f_len, Ir.l_tup, Ir.l_tmp, Ir.l_mix, Ir.l_ref, Ir.f_int, Ir.f_intb, Ir.f_abs, Ir.f_max, Ir.f_min, Ir.f_tup, Ir.f_list, Ir.f_all, Ir.f_any, Ir.f_isin, Ir.t_int, Ir.t_str, Ir.t_bl, Ir.t_non, Ir.t_tup, Ir.t_mix, Ir.is_ii, Ir.is_ib, Ir.is_tt, Ir.is_it, Ir.is_ss, Ir.p_j, Ir.p_s, Ir.p_p, Ir.tr_b, Ir.s_tmp, Ir.s_tup, Ir.s_str, Ir.boolsD, Ir.strsD, Ir.sqr, Ir.lsr, Ir.ob1, Ir.ob2, Ir.blU, List.map_cons, List.map_nil, List.length_cons, List.length_nil, List.replicate, List.cons_append, List.nil_append, List.append_nil, List.getElem?_cons_zero, List.getElem?_cons_succ, List.getElem?_nil, List.set_cons_zero, List.set_cons_succ, List.set_nil, Option.bind_some, Option.map_some, Option.map_none, Option.bind_none, if_true, if_false, ite_true, ite_false, reduceIte, Bool.not_true, Bool.not_false, List.take_succ_cons, List.take_length, List.take_zero, Nat.add_sub_cancel, Nat.sub_self, Nat.reduceSub, Nat.reduceAdd, reduceCtorEq, Bool.false_eq_true, decide_true, decide_false, List.all_cons, List.any_cons, List.all_nil, List.any_nil, id_eq, Bool.true_and, Bool.and_true, Bool.false_or, Bool.or_false, Ir.zc0, Ir.zc1, Ir.zc2, Ir.zc3, eq_self, Ir.bools_const, Ir.all_const, Ir.any_const, e1, e2, e3]
  refine Ok.mono (any_machine_ok (own := own) (others := others) (many := many) (by omega) (by omega) (by omega) (by omega) h3) ?_
  rintro p ⟨m, d4, rfl, ml, ms, h4⟩
  have hm : MOk own others m := ⟨by omega, fun s hs => by rw [ml]; exact ms s hs⟩
  simp -implicitDefEqProofs only [Ir.Ok_bind, Ir.Ok_map, Ir.Ok_some, Ir.Ok_none, Ir.evSs, Ir.evE.eq_1, Ir.evE.eq_2, Ir.evE.eq_3, Ir.evE.eq_4, Ir.evE.eq_5, Ir.evE.eq_6, Ir.evE.eq_7, Ir.evE.eq_8, Ir.evE.eq_9, Ir.evE.eq_10, Ir.evE.eq_11, Ir.evE.eq_12, Ir.evE.eq_13, Ir.evE.eq_14, Ir.evE.eq_15, Ir.evE.eq_16, Ir.evE.eq_17, Ir.evE.eq_19, Ir.evEs, Ir.evRs, Ir.evO, Ir.evOt, Ir.evT, Ir.evI, Ir.evS.eq_1, Ir.evS.eq_2, Ir.evS.eq_3, Ir.evS.eq_4, Ir.evS.eq_5, Ir.evS.eq_6, Ir.evS.eq_9, Ir.evS.eq_10, Ir.evS.eq_11, Ir.evS.eq_12, Ir.evS.eq_13, Ir.Ok_for, Ir.ev2, Ir.startE, Ir.bT_n, Ir.bT_t, Ir.bT_m, Ir.bTs_n, Ir.bTs_c, Ir.wipeE, Ir.mt0, Ir.mt1, Ir.mt2, Ir.mt3, Ir.mt4, Ir.ad0, Ir.ad1, Ir.ad2, Ir.ad3, Ir.arrU, Ir.fu, Ir.ft, Ir.gd, Ir.gRu, Ir.gRt, Ir.sq1, Ir.sq2, Ir.ls1, Ir.rt1, Ir.rt2, Ir.bopR_d, Ir.b_add, Ir.b_sub, Ir.c_lt, Ir.c_le, Ir.c_gt, Ir.c_ge, Ir.c_eqi, Ir.c_eqs, Ir.c_eqb, Ir.c_nei, Ir.c_nes, Ir.c_neb, Ir.c_is, Ir.c_isn, Ir.n1, Ir.n2, Ir.n3, Ir.n4, Ir.n5, Ir.n6, Ir.d_lt, Ir.d_le, Ir.d_gt, Ir.d_ge, Ir.x_tup, Ir.x_tmp, Ir.x_mix, Ir.x_ref, Ir.a0, Ir.a1, Ir.a2, Ir.i30, Ir.i32, Ir.f_len, Ir.l_tup, Ir.l_tmp, Ir.l_mix, Ir.l_ref, Ir.f_int, Ir.f_intb, Ir.f_abs, Ir.f_max, Ir.f_min, Ir.f_tup, Ir.f_list, Ir.f_all, Ir.f_any, Ir.f_isin, Ir.t_int, Ir.t_str, Ir.t_bl, Ir.t_non, Ir.t_tup, Ir.t_mix, Ir.is_ii, Ir.is_ib, Ir.is_tt, Ir.is_it, Ir.is_ss, Ir.p_j, Ir.p_s, Ir.p_p, Ir.tr_b, Ir.s_tmp, Ir.s_tup, Ir.s_str, Ir.boolsD, Ir.strsD, Ir.sqr, Ir.lsr, Ir.ob1, Ir.ob2, Ir.blU, List.map_cons, List.map_nil, List.length_cons, List.length_nil, List.replicate, List.cons_append, List.nil_append, List.append_nil, List.getElem?_cons_zero, List.getElem?_cons_succ, List.getElem?_nil, List.set_cons_zero, List.set_cons_succ, List.set_nil, Option.bind_some, Option.map_some, Option.map_none, Option.bind_none, if_true, if_false, ite_true, ite_false, reduceIte, Bool.not_true, Bool.not_false, List.take_succ_cons, List.take_length, List.take_zero, Nat.add_sub_cancel, Nat.sub_self, Nat.reduceSub, Nat.reduceAdd, reduceCtorEq, Bool.false_eq_true, decide_true, decide_false, List.all_cons, List.any_cons, List.all_nil, List.any_nil, id_eq, Bool.true_and, Bool.and_true, Bool.false_or, Bool.or_false, Ir.zc0, Ir.zc1, Ir.zc2, Ir.zc3, eq_self, Ir.bools_const, Ir.all_const, Ir.any_const]
  refine Ok.mono (take_run (T := [.lst [.int 1, .int 30, .int 299, .int 301, .int 900, .int 3999]]) h4 (by omega) (by decide) (by decide)) ?_
  rintro p ⟨v4, d5, rfl, a4, b4, h5⟩
  have hx : ∃ f : Nat, atI [D.int 1, .int 30, .int 299, .int 301, .int 900, .int 3999] v4 = some (.int f) ∧ 1 ≤ f ∧ f ≤ 3999 := by
    have : v4 = 0 ∨ v4 = 1 ∨ v4 = 2 ∨ v4 = 3 ∨ v4 = 4 ∨ v4 = 5 := by omega
    rcases this with rfl | rfl | rfl | rfl | rfl | rfl
    · exact ⟨1, an (by decide) rfl, by decide, by decide⟩
    · exact ⟨30, an (by decide) rfl, by decide, by decide⟩
    · exact ⟨299, an (by decide) rfl, by decide, by decide⟩
    · exact ⟨301, an (by decide) rfl, by decide, by decide⟩
    · exact ⟨900, an (by decide) rfl, by decide, by decide⟩
    · exact ⟨3999, an (by decide) rfl, by decide, by decide⟩
  obtain ⟨f, ef, f1, f2⟩ := hx
  obtain ⟨il, n, it, n1, n2⟩ := ones_ok f1 f2
  have rep : bopD .mul (.str "1") (.int (f : Int)) = some (.str (strRep "1" f)) := by
    have := b_rep (x := "1") (n := (f : Int)) ⟨by omega, by omega, leLim (by rw [Int.toNat_natCast, show ("1" : Str).length = 1 from rfl]; omega)⟩
    rwa [Int.toNat_natCast] at this
  have cl : (strRep "1" f).length + (Str.ofString "0").length ≤ lim := by
    have : (strRep "1" f).length + (Str.ofString "0").length = (onesT f).length := (len_app _ _).symm
    rw [this, TL.len_tl, tl_ones]
    exact leLim (by simp; omega)
  have cc : bopD .add (.str (strRep "1" f)) (.str (Str.ofString "0")) = some (.str (onesT f)) := b_cat cl
  simp -implicitDefEqProofs only [Ir.Ok_bind, Ir.Ok_map, Ir.Ok_some, Ir.Ok_none, Ir.evSs, Ir.evE.eq_1, Ir.evE.eq_2, Ir.evE.eq_3, Ir.evE.eq_4, Ir.evE.eq_5, Ir.evE.eq_6, Ir.evE.eq_7, Ir.evE.eq_8, Ir.evE.eq_9, Ir.evE.eq_10, Ir.evE.eq_11, Ir.evE.eq_12, Ir.evE.eq_13, Ir.evE.eq_14, Ir.evE.eq_15, Ir.evE.eq_16, Ir.evE.eq_17, Ir.evE.eq_19, Ir.evEs, Ir.evRs, Ir.evO, Ir.evOt, Ir.evT, Ir.evI, Ir.evS.eq_1, Ir.evS.eq_2, Ir.evS.eq_3, Ir.evS.eq_4, Ir.evS.eq_5, Ir.evS.eq_6, Ir.evS.eq_9, Ir.evS.eq_10, Ir.evS.eq_11, Ir.evS.eq_12, Ir.evS.eq_13, Ir.Ok_for, Ir.ev2, Ir.startE, Ir.bT_n, Ir.bT_t, Ir.bT_m, Ir.bTs_n, Ir.bTs_c, Ir.wipeE, Ir.mt0, Ir.mt1, Ir.mt2, Ir.mt3, Ir.mt4, Ir.ad0, Ir.ad1, Ir.ad2, Ir.ad3, Ir.arrU, Ir.fu, Ir.ft, Ir.gd, Ir.gRu, Ir.gRt, Ir.sq1, Ir.sq2, Ir.ls1, Ir.rt1, Ir.rt2, Ir.bopR_d, Ir.b_add, Ir.b_sub, Ir.c_lt, Ir.c_le, Ir.c_gt, Ir.c_ge, Ir.c_eqi, Ir.c_eqs, Ir.c_eqb, Ir.c_nei, Ir.c_nes, Ir.c_neb, Ir.c_is, Ir.c_isn, Ir.n1, Ir.n2, Ir.n3, Ir.n4, Ir.n5, Ir.n6, Ir.d_lt, Ir.d_le, Ir.d_gt, Ir.d_ge, Ir.x_tup, Ir.x_tmp, Ir.x_mix, Ir.x_ref, Ir.a0, Ir.a1, Ir.a2, Ir.i30, Ir.i32, Ir.f_len, Ir.l_tup, Ir.l_tmp, Ir.l_mix, Ir.l_ref, Ir.f_int, Ir.f_intb, Ir.f_abs, Ir.f_max, Ir.f_min, Ir.f_tup, Ir.f_list, Ir.f_all, Ir.f_any, Ir.f_isin, Ir.t_int, Ir.t_str, Ir.t_bl, Ir.t_non, Ir.t_tup, Ir.t_mix, Ir.is_ii, Ir.is_ib, Ir.is_tt, Ir.is_it, Ir.is_ss, Ir.p_j, Ir.p_s, Ir.p_p, Ir.tr_b, Ir.s_tmp, Ir.s_tup, Ir.s_str, Ir.boolsD, Ir.strsD, Ir.sqr, Ir.lsr, Ir.ob1, Ir.ob2, Ir.blU, List.map_cons, List.map_nil, List.length_cons, List.length_nil, List.replicate, List.cons_append, List.nil_append, List.append_nil, List.getElem?_cons_zero, List.getElem?_cons_succ, List.getElem?_nil, List.set_cons_zero, List.set_cons_succ, List.set_nil, Option.bind_some, Option.map_some, Option.map_none, Option.bind_none, if_true, if_false, ite_true, ite_false, reduceIte, Bool.not_true, Bool.not_false, List.take_succ_cons, List.take_length, List.take_zero, Nat.add_sub_cancel, Nat.sub_self, Nat.reduceSub, Nat.reduceAdd, reduceCtorEq, Bool.false_eq_true, decide_true, decide_false, List.all_cons, List.any_cons, List.all_nil, List.any_nil, id_eq, Bool.true_and, Bool.and_true, Bool.false_or, Bool.or_false, Ir.zc0, Ir.zc1, Ir.zc2, Ir.zc3, eq_self, Ir.bools_const, Ir.all_const, Ir.any_const, lowd, and_self, ef, rep, cc, f_ints il it]
  refine Ok.mono (take_run (T := []) h5 (by omega) (by decide) (by decide)) ?_
  rintro p ⟨v5, d6, rfl, a5, b5, h6⟩
  have mo : mulOk 10 v5 = true := mulOk_l (by decide)
  have hp : ∀ S : Store, run pd.fds (k + 2) 21 [.d (machD m)] S = some (.d (.str (showM m)), S) := fun S => show_machine_eq hm (by omega) (by omega)
  have hq : ∀ S : Store, run pd.fds (k + 2) 28 [.d (machD m)] S = some (.d (.str (showM m)), S) := fun S => law_text_eq hm (by omega) (by omega)
  have dash : (Str.ofString "-").length = 1 := rfl
  have sl : (Str.ofString "/").length = 1 := rfl
  have em : (Str.empty : Str).length = 0 := rfl
  have sum3 : ∀ a b c d : Nat, a + [b, c, d].sum = a + b + c + d := fun a b c d => by simp; omega
  rcases (show v5 = 0 ∨ v5 = 1 by omega) with rfl | rfl
  · obtain ⟨g, rfl⟩ : ∃ g, n = g + 1 := ⟨n - 1, by omega⟩
    obtain ⟨r1, r2, r3, r4, r5, r6⟩ := fr_all (k := k + 1) (S := [sc, .lst d6]) (b := 1) (e := f + 1) (by omega) n2 (.inl rfl)
    have sF : showF ((g + 1 : Nat) : Int) 1 = numT ((g + 1 : Nat) : Int) := by unfold showF; rw [if_pos rfl]
    have q1 : decide ((1 : Int) + 10 * 0 = 11) = false := by decide
    have q2 : decide ((1 : Int) + 10 * 0 = 1) = true := by decide
    have q3 : (1 : Int) + 10 * 0 = 1 := by decide
    have c1 : (Str.ofString "-").length + (showF ((g + 1 : Nat) : Int) 1).length ≤ lim := leLim (by rw [dash, sF]; omega)
    have fs : biR .str [.u (.d (.int ((g + 1 : Nat) : Int)))] [sc, .lst d6] = some (.u (.d (.str (showF ((g + 1 : Nat) : Int) 1)))) := by rw [f_str r4, sF]; rfl
    have q4 : decide ((1 : Int) = 11) = false := by decide
    simp -implicitDefEqProofs only [Ir.Ok_bind, Ir.Ok_map, Ir.Ok_some, Ir.Ok_none, Ir.evSs, Ir.evE.eq_1, Ir.evE.eq_2, Ir.evE.eq_3, Ir.evE.eq_4, Ir.evE.eq_5, Ir.evE.eq_6, Ir.evE.eq_7, Ir.evE.eq_8, Ir.evE.eq_9, Ir.evE.eq_10, Ir.evE.eq_11, Ir.evE.eq_12, Ir.evE.eq_13, Ir.evE.eq_14, Ir.evE.eq_15, Ir.evE.eq_16, Ir.evE.eq_17, Ir.evE.eq_19, Ir.evEs, Ir.evRs, Ir.evO, Ir.evOt, Ir.evT, Ir.evI, Ir.evS.eq_1, Ir.evS.eq_2, Ir.evS.eq_3, Ir.evS.eq_4, Ir.evS.eq_5, Ir.evS.eq_6, Ir.evS.eq_9, Ir.evS.eq_10, Ir.evS.eq_11, Ir.evS.eq_12, Ir.evS.eq_13, Ir.Ok_for, Ir.ev2, Ir.startE, Ir.bT_n, Ir.bT_t, Ir.bT_m, Ir.bTs_n, Ir.bTs_c, Ir.wipeE, Ir.mt0, Ir.mt1, Ir.mt2, Ir.mt3, Ir.mt4, Ir.ad0, Ir.ad1, Ir.ad2, Ir.ad3, Ir.arrU, Ir.fu, Ir.ft, Ir.gd, Ir.gRu, Ir.gRt, Ir.sq1, Ir.sq2, Ir.ls1, Ir.rt1, Ir.rt2, Ir.bopR_d, Ir.b_add, Ir.b_sub, Ir.c_lt, Ir.c_le, Ir.c_gt, Ir.c_ge, Ir.c_eqi, Ir.c_eqs, Ir.c_eqb, Ir.c_nei, Ir.c_nes, Ir.c_neb, Ir.c_is, Ir.c_isn, Ir.n1, Ir.n2, Ir.n3, Ir.n4, Ir.n5, Ir.n6, Ir.d_lt, Ir.d_le, Ir.d_gt, Ir.d_ge, Ir.x_tup, Ir.x_tmp, Ir.x_mix, Ir.x_ref, Ir.a0, Ir.a1, Ir.a2, Ir.i30, Ir.i32, Ir.f_len, Ir.l_tup, Ir.l_tmp, Ir.l_mix, Ir.l_ref, Ir.f_int, Ir.f_intb, Ir.f_abs, Ir.f_max, Ir.f_min, Ir.f_tup, Ir.f_list, Ir.f_all, Ir.f_any, Ir.f_isin, Ir.t_int, Ir.t_str, Ir.t_bl, Ir.t_non, Ir.t_tup, Ir.t_mix, Ir.is_ii, Ir.is_ib, Ir.is_tt, Ir.is_it, Ir.is_ss, Ir.p_j, Ir.p_s, Ir.p_p, Ir.tr_b, Ir.s_tmp, Ir.s_tup, Ir.s_str, Ir.boolsD, Ir.strsD, Ir.sqr, Ir.lsr, Ir.ob1, Ir.ob2, Ir.blU, List.map_cons, List.map_nil, List.length_cons, List.length_nil, List.replicate, List.cons_append, List.nil_append, List.append_nil, List.getElem?_cons_zero, List.getElem?_cons_succ, List.getElem?_nil, List.set_cons_zero, List.set_cons_succ, List.set_nil, Option.bind_some, Option.map_some, Option.map_none, Option.bind_none, if_true, if_false, ite_true, ite_false, reduceIte, Bool.not_true, Bool.not_false, List.take_succ_cons, List.take_length, List.take_zero, Nat.add_sub_cancel, Nat.sub_self, Nat.reduceSub, Nat.reduceAdd, reduceCtorEq, Bool.false_eq_true, decide_true, decide_false, List.all_cons, List.any_cons, List.all_nil, List.any_nil, id_eq, Bool.true_and, Bool.and_true, Bool.false_or, Bool.or_false, Ir.zc0, Ir.zc1, Ir.zc2, Ir.zc3, eq_self, Ir.bools_const, Ir.all_const, Ir.any_const, b_mul, mo, q3, q4, fs, r1, r2, hp, hq, b_cat c1]
    exact ⟨d6, rfl, h6.mono (by omega)⟩
  · obtain ⟨g, eg⟩ : ∃ g : Nat, (n : Int) - (n : Int) % 11 + 1 = ((g + 1 : Nat) : Int) := ⟨((n : Int) - (n : Int) % 11).toNat, by omega⟩
    have gn : g + 1 < 10 ^ (f + 2) := by
      rw [Nat.pow_succ]
      omega
    obtain ⟨r1, r2, r3, r4, r5, r6⟩ := fr_all (k := k + 1) (S := [sc, .lst d6]) (b := 11) (e := f + 2) (by omega) gn (.inr rfl)
    have q3 : (1 : Int) + 10 * 1 = 11 := by decide
    have q4 : decide ((11 : Int) = 1) = false := by decide
    have q5 : (0 : Int) < 11 := by decide
    have sF : showF ((g + 1 : Nat) : Int) 11 = ((Str.empty ++ numT ((g + 1 : Nat) : Int)) ++ "/") ++ numT 11 := by unfold showF; rw [if_neg (by decide)]
    have lF : (showF ((g + 1 : Nat) : Int) 11).length ≤ 5000 := by
      rw [sF, len_app, len_app, len_app, em, show ("/" : Str).length = 1 from rfl]
      omega
    have c1 : (Str.ofString "-").length + (showF ((g + 1 : Nat) : Int) 11).length ≤ lim := leLim (by rw [dash]; omega)
    have fs : fsJoin [.int ((g + 1 : Nat) : Int), .str (Str.ofString "/"), .int 11] Str.empty = some (showF ((g + 1 : Nat) : Int) 11) := by
      rw [fs_ok _ _ (by
        simp only [List.map_cons, List.map_nil, txtD, em, sl, sum3]
        exact leLim (by omega)) (by simp only [List.all_cons, List.all_nil, goodD, r4, r5, Bool.and_self]), sF]
      rfl
    simp -implicitDefEqProofs only [Ir.Ok_bind, Ir.Ok_map, Ir.Ok_some, Ir.Ok_none, Ir.evSs, Ir.evE.eq_1, Ir.evE.eq_2, Ir.evE.eq_3, Ir.evE.eq_4, Ir.evE.eq_5, Ir.evE.eq_6, Ir.evE.eq_7, Ir.evE.eq_8, Ir.evE.eq_9, Ir.evE.eq_10, Ir.evE.eq_11, Ir.evE.eq_12, Ir.evE.eq_13, Ir.evE.eq_14, Ir.evE.eq_15, Ir.evE.eq_16, Ir.evE.eq_17, Ir.evE.eq_19, Ir.evEs, Ir.evRs, Ir.evO, Ir.evOt, Ir.evT, Ir.evI, Ir.evS.eq_1, Ir.evS.eq_2, Ir.evS.eq_3, Ir.evS.eq_4, Ir.evS.eq_5, Ir.evS.eq_6, Ir.evS.eq_9, Ir.evS.eq_10, Ir.evS.eq_11, Ir.evS.eq_12, Ir.evS.eq_13, Ir.Ok_for, Ir.ev2, Ir.startE, Ir.bT_n, Ir.bT_t, Ir.bT_m, Ir.bTs_n, Ir.bTs_c, Ir.wipeE, Ir.mt0, Ir.mt1, Ir.mt2, Ir.mt3, Ir.mt4, Ir.ad0, Ir.ad1, Ir.ad2, Ir.ad3, Ir.arrU, Ir.fu, Ir.ft, Ir.gd, Ir.gRu, Ir.gRt, Ir.sq1, Ir.sq2, Ir.ls1, Ir.rt1, Ir.rt2, Ir.bopR_d, Ir.b_add, Ir.b_sub, Ir.c_lt, Ir.c_le, Ir.c_gt, Ir.c_ge, Ir.c_eqi, Ir.c_eqs, Ir.c_eqb, Ir.c_nei, Ir.c_nes, Ir.c_neb, Ir.c_is, Ir.c_isn, Ir.n1, Ir.n2, Ir.n3, Ir.n4, Ir.n5, Ir.n6, Ir.d_lt, Ir.d_le, Ir.d_gt, Ir.d_ge, Ir.x_tup, Ir.x_tmp, Ir.x_mix, Ir.x_ref, Ir.a0, Ir.a1, Ir.a2, Ir.i30, Ir.i32, Ir.f_len, Ir.l_tup, Ir.l_tmp, Ir.l_mix, Ir.l_ref, Ir.f_int, Ir.f_intb, Ir.f_abs, Ir.f_max, Ir.f_min, Ir.f_tup, Ir.f_list, Ir.f_all, Ir.f_any, Ir.f_isin, Ir.t_int, Ir.t_str, Ir.t_bl, Ir.t_non, Ir.t_tup, Ir.t_mix, Ir.is_ii, Ir.is_ib, Ir.is_tt, Ir.is_it, Ir.is_ss, Ir.p_j, Ir.p_s, Ir.p_p, Ir.tr_b, Ir.s_tmp, Ir.s_tup, Ir.s_str, Ir.boolsD, Ir.strsD, Ir.sqr, Ir.lsr, Ir.ob1, Ir.ob2, Ir.blU, List.map_cons, List.map_nil, List.length_cons, List.length_nil, List.replicate, List.cons_append, List.nil_append, List.append_nil, List.getElem?_cons_zero, List.getElem?_cons_succ, List.getElem?_nil, List.set_cons_zero, List.set_cons_succ, List.set_nil, Option.bind_some, Option.map_some, Option.map_none, Option.bind_none, if_true, if_false, ite_true, ite_false, reduceIte, Bool.not_true, Bool.not_false, List.take_succ_cons, List.take_length, List.take_zero, Nat.add_sub_cancel, Nat.sub_self, Nat.reduceSub, Nat.reduceAdd, reduceCtorEq, Bool.false_eq_true, decide_true, decide_false, List.all_cons, List.any_cons, List.all_nil, List.any_nil, id_eq, Bool.true_and, Bool.and_true, Bool.false_or, Bool.or_false, Ir.zc0, Ir.zc1, Ir.zc2, Ir.zc3, eq_self, Ir.bools_const, Ir.all_const, Ir.any_const, b_mul, mo, q3, b_mod q5, eg, q4, fs, r1, r2, hp, hq, b_cat c1]
    exact ⟨d6, rfl, h6.mono (by omega)⟩
end G85

set_option Elab.async false
set_option linter.all false
set_option maxRecDepth 100000
set_option autoImplicit false
/-! P85n: a turn of the law. -/
namespace G85
open PySem L2 Ir
theorem pyeqs_iff {β : Type} (f : β → D) (h : ∀ a b, pyeq (f a) (f b) = true ↔ a = b) : ∀ xs ys : List β, pyeqs (xs.map f) (ys.map f) = true ↔ xs = ys
  | [], [] => by simp [pyeqs]
  | [], y :: ys => by simp [pyeqs]
  | x :: xs, [] => by simp [pyeqs]
  | x :: xs, y :: ys => by
    rw [List.map_cons, List.map_cons, pyeqs, Bool.and_eq_true, h, pyeqs_iff f h xs ys]
    simp
theorem pyeq_st (a b : Int × List Int) : pyeq (stD a) (stD b) = true ↔ a = b := by
  obtain ⟨a1, a2⟩ := a
  obtain ⟨b1, b2⟩ := b
  have := pyeqs_iff D.int (fun a b => by simp [pyeq]) a2 b2
  simp only [stD, pyeq, pyeqs, Bool.and_eq_true, Bool.and_true, decide_eq_true_eq, this, Prod.mk.injEq]
theorem show_inj {own others : Nat} {m m' : List (Int × List Int)} (h : MOk own others m) (h' : MOk own others m') (ho : own ≤ 5) (hz : 1 ≤ others ∧ others ≤ 5) (e : showM m = showM m') : m = m' := by
  have a := states_in_eq (k := 0) (S := []) h ho hz
  have b := states_in_eq (k := 0) (S := []) h' ho hz
  rw [e, b] at a
  have c : machD m' = machD m := by
    have := congrArg (fun z : Option (U × Store) => match z with
      | some (.d x, _) => x
      | _ => D.non) a
    exact this
  have d : m'.map stD = m.map stD := D.tup.inj c
  have f := (pyeqs_iff stD pyeq_st m' m'  ).mpr rfl
  have g : pyeqs (m'.map stD) (m.map stD) = true := by rw [← d]; exact f
  exact ((pyeqs_iff stD pyeq_st m' m).mp g).symm
theorem okd_mach (m : List (Int × List Int)) : okd 40 (.tup (m.map stD)) = true := by
  show (m.map stD).all (okd 39) = true
  refine List.all_eq_true.mpr fun x hx => ?_
  obtain ⟨s, hs, rfl⟩ := List.mem_map.mp hx
  exact okd_st s 37
theorem eqB {own others : Nat} {m m' : List (Int × List Int)} {S : Store} (h : MOk own others m) (h' : MOk own others m') (ho : own ≤ 5) (hz : 1 ≤ others ∧ others ≤ 5) :
    copR .eq (.u (.d (machD m))) (.u (.d (machD m'))) S = some (decide (showM m = showM m')) := by
  unfold machD
  rw [c_eqt ⟨okd_mach m, okd_mach m'⟩]
  by_cases e : showM m = showM m'
  · rw [decide_eq_true e, (pyeqs_iff stD pyeq_st m m').mpr (show_inj h h' ho hz e)]
  · rw [decide_eq_false e]
    cases q : pyeqs (m.map stD) (m'.map stD) with
    | false => rfl
    | true => exact absurd (congrArg showM ((pyeqs_iff stD pyeq_st m m').mp q)) e
def irTail : Ss := (.cons (.asg (.n 11) (.call 27 [.a 0, .a 1, .a 2, .a 3] (.cons (.var 2) (.cons (.var 8) (.cons (.var 9) (.cons (.var 10) .nil)))))) (.cons (.asg (.n 12) (.call 33 [.a 0, .a 1, .a 2] (.cons (.var 2) (.cons (.var 11) (.cons (.var 8) .nil))))) (.cons (.ite (.not (.tr (.call 30 [.a 0, .a 1, .a 2, .a 3] (.cons (.var 4) (.cons (.var 5) (.cons (.var 11) (.cons (.call 25 [.a 0, .a 1] (.cons (.var 2) (.cons (.lit (.int (2))) .nil))) .nil))))))) (.cons (.ret (.lit (.bl false))) .nil) .nil) (.cons (.ite (.not (.tr (.call 30 [.a 0, .a 1, .a 2, .a 3] (.cons (.var 4) (.cons (.var 5) (.cons (.var 12) (.cons (.call 25 [.a 0, .a 1] (.cons (.var 2) (.cons (.lit (.int (2))) .nil))) .nil))))))) (.cons (.ret (.lit (.bl false))) .nil) .nil) (.cons (.ite (.v (.cmp .ne (.cmp .eq (.call 21 [.a 0] (.cons (.var 11) .nil)) (.call 21 [.a 0] (.cons (.var 12) .nil))) (.cmp .eq (.var 11) (.var 12)))) (.cons (.ret (.lit (.bl false))) .nil) .nil) (.cons (.ite (.not (.tr (.call 32 [.a 0, .a 1, .a 2] (.cons (.var 2) (.cons (.var 6) (.cons (.var 7) .nil)))))) (.cons (.ret (.lit (.bl false))) .nil) .nil) .nil))))))
def irHead (rest : Ss) : Ss := (.cons (.par 4 5 (.call 26 [.a 0, .a 1] (.cons (.var 2) (.cons (.lit (.int (5))) .nil))) (.call 25 [.a 0, .a 1] (.cons (.var 2) (.cons (.lit (.int (2))) .nil)))) (.cons (.par 6 7 (.bi .len (.cons (.idx (.var 4) (.lit (.int (0)))) .nil)) (.bi .len (.cons (.idx (.idx (.var 4) (.lit (.int (0)))) (.lit (.int (0)))) .nil))) (.cons (.asg (.t (.cons (.n 8) (.cons (.n 9) .nil))) (.ite (.v (.cmp .eq (.var 5) (.lit (.int (0))))) (.tup (.cons (.var 6) (.cons (.var 7) .nil))) (.tup (.cons (.var 7) (.cons (.var 6) .nil))))) (.cons (.asg (.n 10) (.bin .add (.lit (.int (1))) (.call 25 [.a 0, .a 1] (.cons (.var 2) (.cons (.idx (.lst (.cons (.lit (.int (1))) (.cons (.lit (.int (3))) (.cons (.lit (.int (12))) (.cons (.lit (.int (12))) .nil))))) (.call 25 [.a 0, .a 1] (.cons (.var 2) (.cons (.lit (.int (4))) .nil)))) .nil))))) (.cons (.ite (.v (.cmp .eq (.call 25 [.a 0, .a 1] (.cons (.var 2) (.cons (.lit (.int (12))) .nil))) (.lit (.int (0))))) (.cons (.asg (.n 10) (.bin .add (.lit (.int (100))) (.call 25 [.a 0, .a 1] (.cons (.var 2) (.cons (.lit (.int (60))) .nil))))) .nil) .nil) rest)))))
abbrev envT (kk : Int) (x3 : Option U) (g : D) (i : Int) (rows cols own others many : Nat) (x11 x12 : Option U) : Ir.Env :=
  [some (.ref 0), some (.d (.int kk)), some (.ref 1), x3, some (.d g), some (.d (.int i)), some (.d (.int rows)), some (.d (.int cols)), some (.d (.int own)), some (.d (.int others)), some (.d (.int many)), x11, x12]
theorem tail_ok {k : Nat} {sc : Ob} {dk : List D} {N kk i : Int} {x3 : Option U} {rows cols own others many : Nat} {t u : List (List Int)} (ht : TabOk rows cols t) (hu : TabOk rows cols u) (h1 : 1 ≤ rows ∧ rows ≤ 5) (h2 : 1 ≤ cols ∧ cols ≤ 5)
    (hs : (i = 0 ∧ own = rows ∧ others = cols) ∨ (i = 1 ∧ own = cols ∧ others = rows)) (hmany : 0 < many ∧ many ≤ 400) (hN : N < 2 ^ 38) (hd : Dk dk N) :
    Ok (evSs (Ir.run pd.fds (k + 20)) irTail (envT kk x3 (.tup [tabD t, tabD u]) i rows cols own others many none none) [sc, .lst dk]) fun p => ∃ x11 x12 dk', p = (.nx, envT kk x3 (.tup [tabD t, tabD u]) i rows cols own others many x11 x12, [sc, .lst dk']) ∧ Dk dk' (N + 20000) := by
  have b : (0 < own ∧ own ≤ 5) ∧ 1 ≤ others ∧ others ≤ 5 := by
    rcases hs with ⟨rfl, rfl, rfl⟩ | ⟨rfl, rfl, rfl⟩ <;> omega
  simp -implicitDefEqProofs only [Ir.Ok_bind, Ir.Ok_map, Ir.Ok_some, Ir.Ok_none, Ir.evSs, Ir.evE.eq_1, Ir.evE.eq_2, Ir.evE.eq_3, Ir.evE.eq_4, Ir.evE.eq_5, Ir.evE.eq_6, Ir.evE.eq_7, Ir.evE.eq_8, Ir.evE.eq_9, Ir.evE.eq_10, Ir.evE.eq_11, Ir.evE.eq_12, Ir.evE.eq_13, Ir.evE.eq_14, Ir.evE.eq_15, Ir.evE.eq_16, Ir.evE.eq_17, Ir.evE.eq_19, Ir.evEs, Ir.evRs, Ir.evO, Ir.evOt, Ir.evT, Ir.evI, Ir.evS.eq_1, Ir.evS.eq_2, Ir.evS.eq_3, Ir.evS.eq_4, Ir.evS.eq_5, Ir.evS.eq_6, Ir.evS.eq_9, Ir.evS.eq_10, Ir.evS.eq_11, Ir.evS.eq_12, Ir.evS.eq_13, Ir.Ok_for, Ir.ev2, Ir.startE, Ir.bT_n, Ir.bT_t, Ir.bT_m, Ir.bTs_n, Ir.bTs_c, Ir.wipeE, Ir.mt0, Ir.mt1, Ir.mt2, Ir.mt3, Ir.mt4, Ir.ad0, Ir.ad1, Ir.ad2, Ir.ad3, Ir.arrU, Ir.fu, Ir.ft, Ir.gd, Ir.gRu, Ir.gRt, Ir.sq1, Ir.sq2, Ir.ls1, Ir.rt1, Ir.rt2, Ir.bopR_d, Ir.b_add, Ir.b_sub, Ir.c_lt, Ir.c_le, Ir.c_gt, Ir.c_ge, Ir.c_eqi, Ir.c_eqs, Ir.c_eqb, Ir.c_nei, Ir.c_nes, Ir.c_neb, Ir.c_is, Ir.c_isn, Ir.n1, Ir.n2, Ir.n3, Ir.n4, Ir.n5, Ir.n6, Ir.d_lt, Ir.d_le, Ir.d_gt, Ir.d_ge, Ir.x_tup, Ir.x_tmp, Ir.x_mix, Ir.x_ref, Ir.a0, Ir.a1, Ir.a2, Ir.i30, Ir.i32, Ir.f_len, Ir.l_tup, Ir.l_tmp, Ir.l_mix, Ir.l_ref, Ir.f_int, Ir.f_intb, Ir.f_abs, Ir.f_max, Ir.f_min, Ir.f_tup, Ir.f_list, Ir.f_all, Ir.f_any, Ir.f_isin, Ir.t_int, Ir.t_str, Ir.t_bl, Ir.t_non, Ir.t_tup, Ir.t_mix, Ir.is_ii, Ir.is_ib, Ir.is_tt, Ir.is_it, Ir.is_ss, Ir.p_j, Ir.p_s, Ir.p_p, Ir.tr_b, Ir.s_tmp, Ir.s_tup, Ir.s_str, Ir.boolsD, Ir.strsD, Ir.sqr, Ir.lsr, Ir.ob1, Ir.ob2, Ir.blU, List.map_cons, List.map_nil, List.length_cons, List.length_nil, List.replicate, List.cons_append, List.nil_append, List.append_nil, List.getElem?_cons_zero, List.getElem?_cons_succ, List.getElem?_nil, List.set_cons_zero, List.set_cons_succ, List.set_nil, Option.bind_some, Option.map_some, Option.map_none, Option.bind_none, if_true, if_false, ite_true, ite_false, reduceIte, Bool.not_true, Bool.not_false, List.take_succ_cons, List.take_length, List.take_zero, Nat.add_sub_cancel, Nat.sub_self, Nat.reduceSub, Nat.reduceAdd, reduceCtorEq, Bool.false_eq_true, decide_true, decide_false, List.all_cons, List.any_cons, List.all_nil, List.any_nil, id_eq, Bool.true_and, Bool.and_true, Bool.false_or, Bool.or_false, Ir.zc0, Ir.zc1, Ir.zc2, Ir.zc3, eq_self, Ir.bools_const, Ir.all_const, Ir.any_const, irTail]
  refine Ok.mono (any_machine_ok (own := own) (others := others) (many := many) (by omega) (by omega) (by omega) (by omega) hd) ?_
  rintro p ⟨m, d1, rfl, ml, ms, e1⟩
  have hm : MOk own others m := ⟨by omega, fun s hs => by rw [ml]; exact ms s hs⟩
  simp -implicitDefEqProofs only [Ir.Ok_bind, Ir.Ok_map, Ir.Ok_some, Ir.Ok_none, Ir.evSs, Ir.evE.eq_1, Ir.evE.eq_2, Ir.evE.eq_3, Ir.evE.eq_4, Ir.evE.eq_5, Ir.evE.eq_6, Ir.evE.eq_7, Ir.evE.eq_8, Ir.evE.eq_9, Ir.evE.eq_10, Ir.evE.eq_11, Ir.evE.eq_12, Ir.evE.eq_13, Ir.evE.eq_14, Ir.evE.eq_15, Ir.evE.eq_16, Ir.evE.eq_17, Ir.evE.eq_19, Ir.evEs, Ir.evRs, Ir.evO, Ir.evOt, Ir.evT, Ir.evI, Ir.evS.eq_1, Ir.evS.eq_2, Ir.evS.eq_3, Ir.evS.eq_4, Ir.evS.eq_5, Ir.evS.eq_6, Ir.evS.eq_9, Ir.evS.eq_10, Ir.evS.eq_11, Ir.evS.eq_12, Ir.evS.eq_13, Ir.Ok_for, Ir.ev2, Ir.startE, Ir.bT_n, Ir.bT_t, Ir.bT_m, Ir.bTs_n, Ir.bTs_c, Ir.wipeE, Ir.mt0, Ir.mt1, Ir.mt2, Ir.mt3, Ir.mt4, Ir.ad0, Ir.ad1, Ir.ad2, Ir.ad3, Ir.arrU, Ir.fu, Ir.ft, Ir.gd, Ir.gRu, Ir.gRt, Ir.sq1, Ir.sq2, Ir.ls1, Ir.rt1, Ir.rt2, Ir.bopR_d, Ir.b_add, Ir.b_sub, Ir.c_lt, Ir.c_le, Ir.c_gt, Ir.c_ge, Ir.c_eqi, Ir.c_eqs, Ir.c_eqb, Ir.c_nei, Ir.c_nes, Ir.c_neb, Ir.c_is, Ir.c_isn, Ir.n1, Ir.n2, Ir.n3, Ir.n4, Ir.n5, Ir.n6, Ir.d_lt, Ir.d_le, Ir.d_gt, Ir.d_ge, Ir.x_tup, Ir.x_tmp, Ir.x_mix, Ir.x_ref, Ir.a0, Ir.a1, Ir.a2, Ir.i30, Ir.i32, Ir.f_len, Ir.l_tup, Ir.l_tmp, Ir.l_mix, Ir.l_ref, Ir.f_int, Ir.f_intb, Ir.f_abs, Ir.f_max, Ir.f_min, Ir.f_tup, Ir.f_list, Ir.f_all, Ir.f_any, Ir.f_isin, Ir.t_int, Ir.t_str, Ir.t_bl, Ir.t_non, Ir.t_tup, Ir.t_mix, Ir.is_ii, Ir.is_ib, Ir.is_tt, Ir.is_it, Ir.is_ss, Ir.p_j, Ir.p_s, Ir.p_p, Ir.tr_b, Ir.s_tmp, Ir.s_tup, Ir.s_str, Ir.boolsD, Ir.strsD, Ir.sqr, Ir.lsr, Ir.ob1, Ir.ob2, Ir.blU, List.map_cons, List.map_nil, List.length_cons, List.length_nil, List.replicate, List.cons_append, List.nil_append, List.append_nil, List.getElem?_cons_zero, List.getElem?_cons_succ, List.getElem?_nil, List.set_cons_zero, List.set_cons_succ, List.set_nil, Option.bind_some, Option.map_some, Option.map_none, Option.bind_none, if_true, if_false, ite_true, ite_false, reduceIte, Bool.not_true, Bool.not_false, List.take_succ_cons, List.take_length, List.take_zero, Nat.add_sub_cancel, Nat.sub_self, Nat.reduceSub, Nat.reduceAdd, reduceCtorEq, Bool.false_eq_true, decide_true, decide_false, List.all_cons, List.any_cons, List.all_nil, List.any_nil, id_eq, Bool.true_and, Bool.and_true, Bool.false_or, Bool.or_false, Ir.zc0, Ir.zc1, Ir.zc2, Ir.zc3, eq_self, Ir.bools_const, Ir.all_const, Ir.any_const]
  refine Ok.mono (changed_ok hm b.1 b.2 (by omega) e1) ?_
  rintro p ⟨m', d2, rfl, hm', e2⟩
  simp -implicitDefEqProofs only [Ir.Ok_bind, Ir.Ok_map, Ir.Ok_some, Ir.Ok_none, Ir.evSs, Ir.evE.eq_1, Ir.evE.eq_2, Ir.evE.eq_3, Ir.evE.eq_4, Ir.evE.eq_5, Ir.evE.eq_6, Ir.evE.eq_7, Ir.evE.eq_8, Ir.evE.eq_9, Ir.evE.eq_10, Ir.evE.eq_11, Ir.evE.eq_12, Ir.evE.eq_13, Ir.evE.eq_14, Ir.evE.eq_15, Ir.evE.eq_16, Ir.evE.eq_17, Ir.evE.eq_19, Ir.evEs, Ir.evRs, Ir.evO, Ir.evOt, Ir.evT, Ir.evI, Ir.evS.eq_1, Ir.evS.eq_2, Ir.evS.eq_3, Ir.evS.eq_4, Ir.evS.eq_5, Ir.evS.eq_6, Ir.evS.eq_9, Ir.evS.eq_10, Ir.evS.eq_11, Ir.evS.eq_12, Ir.evS.eq_13, Ir.Ok_for, Ir.ev2, Ir.startE, Ir.bT_n, Ir.bT_t, Ir.bT_m, Ir.bTs_n, Ir.bTs_c, Ir.wipeE, Ir.mt0, Ir.mt1, Ir.mt2, Ir.mt3, Ir.mt4, Ir.ad0, Ir.ad1, Ir.ad2, Ir.ad3, Ir.arrU, Ir.fu, Ir.ft, Ir.gd, Ir.gRu, Ir.gRt, Ir.sq1, Ir.sq2, Ir.ls1, Ir.rt1, Ir.rt2, Ir.bopR_d, Ir.b_add, Ir.b_sub, Ir.c_lt, Ir.c_le, Ir.c_gt, Ir.c_ge, Ir.c_eqi, Ir.c_eqs, Ir.c_eqb, Ir.c_nei, Ir.c_nes, Ir.c_neb, Ir.c_is, Ir.c_isn, Ir.n1, Ir.n2, Ir.n3, Ir.n4, Ir.n5, Ir.n6, Ir.d_lt, Ir.d_le, Ir.d_gt, Ir.d_ge, Ir.x_tup, Ir.x_tmp, Ir.x_mix, Ir.x_ref, Ir.a0, Ir.a1, Ir.a2, Ir.i30, Ir.i32, Ir.f_len, Ir.l_tup, Ir.l_tmp, Ir.l_mix, Ir.l_ref, Ir.f_int, Ir.f_intb, Ir.f_abs, Ir.f_max, Ir.f_min, Ir.f_tup, Ir.f_list, Ir.f_all, Ir.f_any, Ir.f_isin, Ir.t_int, Ir.t_str, Ir.t_bl, Ir.t_non, Ir.t_tup, Ir.t_mix, Ir.is_ii, Ir.is_ib, Ir.is_tt, Ir.is_it, Ir.is_ss, Ir.p_j, Ir.p_s, Ir.p_p, Ir.tr_b, Ir.s_tmp, Ir.s_tup, Ir.s_str, Ir.boolsD, Ir.strsD, Ir.sqr, Ir.lsr, Ir.ob1, Ir.ob2, Ir.blU, List.map_cons, List.map_nil, List.length_cons, List.length_nil, List.replicate, List.cons_append, List.nil_append, List.append_nil, List.getElem?_cons_zero, List.getElem?_cons_succ, List.getElem?_nil, List.set_cons_zero, List.set_cons_succ, List.set_nil, Option.bind_some, Option.map_some, Option.map_none, Option.bind_none, if_true, if_false, ite_true, ite_false, reduceIte, Bool.not_true, Bool.not_false, List.take_succ_cons, List.take_length, List.take_zero, Nat.add_sub_cancel, Nat.sub_self, Nat.reduceSub, Nat.reduceAdd, reduceCtorEq, Bool.false_eq_true, decide_true, decide_false, List.all_cons, List.any_cons, List.all_nil, List.any_nil, id_eq, Bool.true_and, Bool.and_true, Bool.false_or, Bool.or_false, Ir.zc0, Ir.zc1, Ir.zc2, Ir.zc3, eq_self, Ir.bools_const, Ir.all_const, Ir.any_const]
  refine Ok.mono (take_run (T := []) e2 (by omega) (by decide) (by decide)) ?_
  rintro p ⟨v, d3, rfl, a3, b3, e3⟩
  simp -implicitDefEqProofs only [Ir.Ok_bind, Ir.Ok_map, Ir.Ok_some, Ir.Ok_none, Ir.evSs, Ir.evE.eq_1, Ir.evE.eq_2, Ir.evE.eq_3, Ir.evE.eq_4, Ir.evE.eq_5, Ir.evE.eq_6, Ir.evE.eq_7, Ir.evE.eq_8, Ir.evE.eq_9, Ir.evE.eq_10, Ir.evE.eq_11, Ir.evE.eq_12, Ir.evE.eq_13, Ir.evE.eq_14, Ir.evE.eq_15, Ir.evE.eq_16, Ir.evE.eq_17, Ir.evE.eq_19, Ir.evEs, Ir.evRs, Ir.evO, Ir.evOt, Ir.evT, Ir.evI, Ir.evS.eq_1, Ir.evS.eq_2, Ir.evS.eq_3, Ir.evS.eq_4, Ir.evS.eq_5, Ir.evS.eq_6, Ir.evS.eq_9, Ir.evS.eq_10, Ir.evS.eq_11, Ir.evS.eq_12, Ir.evS.eq_13, Ir.Ok_for, Ir.ev2, Ir.startE, Ir.bT_n, Ir.bT_t, Ir.bT_m, Ir.bTs_n, Ir.bTs_c, Ir.wipeE, Ir.mt0, Ir.mt1, Ir.mt2, Ir.mt3, Ir.mt4, Ir.ad0, Ir.ad1, Ir.ad2, Ir.ad3, Ir.arrU, Ir.fu, Ir.ft, Ir.gd, Ir.gRu, Ir.gRt, Ir.sq1, Ir.sq2, Ir.ls1, Ir.rt1, Ir.rt2, Ir.bopR_d, Ir.b_add, Ir.b_sub, Ir.c_lt, Ir.c_le, Ir.c_gt, Ir.c_ge, Ir.c_eqi, Ir.c_eqs, Ir.c_eqb, Ir.c_nei, Ir.c_nes, Ir.c_neb, Ir.c_is, Ir.c_isn, Ir.n1, Ir.n2, Ir.n3, Ir.n4, Ir.n5, Ir.n6, Ir.d_lt, Ir.d_le, Ir.d_gt, Ir.d_ge, Ir.x_tup, Ir.x_tmp, Ir.x_mix, Ir.x_ref, Ir.a0, Ir.a1, Ir.a2, Ir.i30, Ir.i32, Ir.f_len, Ir.l_tup, Ir.l_tmp, Ir.l_mix, Ir.l_ref, Ir.f_int, Ir.f_intb, Ir.f_abs, Ir.f_max, Ir.f_min, Ir.f_tup, Ir.f_list, Ir.f_all, Ir.f_any, Ir.f_isin, Ir.t_int, Ir.t_str, Ir.t_bl, Ir.t_non, Ir.t_tup, Ir.t_mix, Ir.is_ii, Ir.is_ib, Ir.is_tt, Ir.is_it, Ir.is_ss, Ir.p_j, Ir.p_s, Ir.p_p, Ir.tr_b, Ir.s_tmp, Ir.s_tup, Ir.s_str, Ir.boolsD, Ir.strsD, Ir.sqr, Ir.lsr, Ir.ob1, Ir.ob2, Ir.blU, List.map_cons, List.map_nil, List.length_cons, List.length_nil, List.replicate, List.cons_append, List.nil_append, List.append_nil, List.getElem?_cons_zero, List.getElem?_cons_succ, List.getElem?_nil, List.set_cons_zero, List.set_cons_succ, List.set_nil, Option.bind_some, Option.map_some, Option.map_none, Option.bind_none, if_true, if_false, ite_true, ite_false, reduceIte, Bool.not_true, Bool.not_false, List.take_succ_cons, List.take_length, List.take_zero, Nat.add_sub_cancel, Nat.sub_self, Nat.reduceSub, Nat.reduceAdd, reduceCtorEq, Bool.false_eq_true, decide_true, decide_false, List.all_cons, List.any_cons, List.all_nil, List.any_nil, id_eq, Bool.true_and, Bool.and_true, Bool.false_or, Bool.or_false, Ir.zc0, Ir.zc1, Ir.zc2, Ir.zc3, eq_self, Ir.bools_const, Ir.all_const, Ir.any_const, machine_right_eq ht hu h1 h2 hs hm]
  refine Ok.mono (take_run (T := []) e3 (by omega) (by decide) (by decide)) ?_
  rintro p ⟨v2, d4, rfl, a4, b4, e4⟩
  simp -implicitDefEqProofs only [Ir.Ok_bind, Ir.Ok_map, Ir.Ok_some, Ir.Ok_none, Ir.evSs, Ir.evE.eq_1, Ir.evE.eq_2, Ir.evE.eq_3, Ir.evE.eq_4, Ir.evE.eq_5, Ir.evE.eq_6, Ir.evE.eq_7, Ir.evE.eq_8, Ir.evE.eq_9, Ir.evE.eq_10, Ir.evE.eq_11, Ir.evE.eq_12, Ir.evE.eq_13, Ir.evE.eq_14, Ir.evE.eq_15, Ir.evE.eq_16, Ir.evE.eq_17, Ir.evE.eq_19, Ir.evEs, Ir.evRs, Ir.evO, Ir.evOt, Ir.evT, Ir.evI, Ir.evS.eq_1, Ir.evS.eq_2, Ir.evS.eq_3, Ir.evS.eq_4, Ir.evS.eq_5, Ir.evS.eq_6, Ir.evS.eq_9, Ir.evS.eq_10, Ir.evS.eq_11, Ir.evS.eq_12, Ir.evS.eq_13, Ir.Ok_for, Ir.ev2, Ir.startE, Ir.bT_n, Ir.bT_t, Ir.bT_m, Ir.bTs_n, Ir.bTs_c, Ir.wipeE, Ir.mt0, Ir.mt1, Ir.mt2, Ir.mt3, Ir.mt4, Ir.ad0, Ir.ad1, Ir.ad2, Ir.ad3, Ir.arrU, Ir.fu, Ir.ft, Ir.gd, Ir.gRu, Ir.gRt, Ir.sq1, Ir.sq2, Ir.ls1, Ir.rt1, Ir.rt2, Ir.bopR_d, Ir.b_add, Ir.b_sub, Ir.c_lt, Ir.c_le, Ir.c_gt, Ir.c_ge, Ir.c_eqi, Ir.c_eqs, Ir.c_eqb, Ir.c_nei, Ir.c_nes, Ir.c_neb, Ir.c_is, Ir.c_isn, Ir.n1, Ir.n2, Ir.n3, Ir.n4, Ir.n5, Ir.n6, Ir.d_lt, Ir.d_le, Ir.d_gt, Ir.d_ge, Ir.x_tup, Ir.x_tmp, Ir.x_mix, Ir.x_ref, Ir.a0, Ir.a1, Ir.a2, Ir.i30, Ir.i32, Ir.f_len, Ir.l_tup, Ir.l_tmp, Ir.l_mix, Ir.l_ref, Ir.f_int, Ir.f_intb, Ir.f_abs, Ir.f_max, Ir.f_min, Ir.f_tup, Ir.f_list, Ir.f_all, Ir.f_any, Ir.f_isin, Ir.t_int, Ir.t_str, Ir.t_bl, Ir.t_non, Ir.t_tup, Ir.t_mix, Ir.is_ii, Ir.is_ib, Ir.is_tt, Ir.is_it, Ir.is_ss, Ir.p_j, Ir.p_s, Ir.p_p, Ir.tr_b, Ir.s_tmp, Ir.s_tup, Ir.s_str, Ir.boolsD, Ir.strsD, Ir.sqr, Ir.lsr, Ir.ob1, Ir.ob2, Ir.blU, List.map_cons, List.map_nil, List.length_cons, List.length_nil, List.replicate, List.cons_append, List.nil_append, List.append_nil, List.getElem?_cons_zero, List.getElem?_cons_succ, List.getElem?_nil, List.set_cons_zero, List.set_cons_succ, List.set_nil, Option.bind_some, Option.map_some, Option.map_none, Option.bind_none, if_true, if_false, ite_true, ite_false, reduceIte, Bool.not_true, Bool.not_false, List.take_succ_cons, List.take_length, List.take_zero, Nat.add_sub_cancel, Nat.sub_self, Nat.reduceSub, Nat.reduceAdd, reduceCtorEq, Bool.false_eq_true, decide_true, decide_false, List.all_cons, List.any_cons, List.all_nil, List.any_nil, id_eq, Bool.true_and, Bool.and_true, Bool.false_or, Bool.or_false, Ir.zc0, Ir.zc1, Ir.zc2, Ir.zc3, eq_self, Ir.bools_const, Ir.all_const, Ir.any_const, machine_right_eq ht hu h1 h2 hs hm', show_machine_eq hm b.1.2 b.2.2, show_machine_eq hm' b.1.2 b.2.2, eqB hm hm' b.1.2 b.2, beq_self_eq_true]
  refine Ok.mono (play_right_ok (rows := rows) (cols := cols) (by omega) (by omega) (by omega) e4) ?_
  rintro p ⟨d5, rfl, e5⟩
  simp -implicitDefEqProofs only [Ir.Ok_bind, Ir.Ok_map, Ir.Ok_some, Ir.Ok_none, Ir.evSs, Ir.evE.eq_1, Ir.evE.eq_2, Ir.evE.eq_3, Ir.evE.eq_4, Ir.evE.eq_5, Ir.evE.eq_6, Ir.evE.eq_7, Ir.evE.eq_8, Ir.evE.eq_9, Ir.evE.eq_10, Ir.evE.eq_11, Ir.evE.eq_12, Ir.evE.eq_13, Ir.evE.eq_14, Ir.evE.eq_15, Ir.evE.eq_16, Ir.evE.eq_17, Ir.evE.eq_19, Ir.evEs, Ir.evRs, Ir.evO, Ir.evOt, Ir.evT, Ir.evI, Ir.evS.eq_1, Ir.evS.eq_2, Ir.evS.eq_3, Ir.evS.eq_4, Ir.evS.eq_5, Ir.evS.eq_6, Ir.evS.eq_9, Ir.evS.eq_10, Ir.evS.eq_11, Ir.evS.eq_12, Ir.evS.eq_13, Ir.Ok_for, Ir.ev2, Ir.startE, Ir.bT_n, Ir.bT_t, Ir.bT_m, Ir.bTs_n, Ir.bTs_c, Ir.wipeE, Ir.mt0, Ir.mt1, Ir.mt2, Ir.mt3, Ir.mt4, Ir.ad0, Ir.ad1, Ir.ad2, Ir.ad3, Ir.arrU, Ir.fu, Ir.ft, Ir.gd, Ir.gRu, Ir.gRt, Ir.sq1, Ir.sq2, Ir.ls1, Ir.rt1, Ir.rt2, Ir.bopR_d, Ir.b_add, Ir.b_sub, Ir.c_lt, Ir.c_le, Ir.c_gt, Ir.c_ge, Ir.c_eqi, Ir.c_eqs, Ir.c_eqb, Ir.c_nei, Ir.c_nes, Ir.c_neb, Ir.c_is, Ir.c_isn, Ir.n1, Ir.n2, Ir.n3, Ir.n4, Ir.n5, Ir.n6, Ir.d_lt, Ir.d_le, Ir.d_gt, Ir.d_ge, Ir.x_tup, Ir.x_tmp, Ir.x_mix, Ir.x_ref, Ir.a0, Ir.a1, Ir.a2, Ir.i30, Ir.i32, Ir.f_len, Ir.l_tup, Ir.l_tmp, Ir.l_mix, Ir.l_ref, Ir.f_int, Ir.f_intb, Ir.f_abs, Ir.f_max, Ir.f_min, Ir.f_tup, Ir.f_list, Ir.f_all, Ir.f_any, Ir.f_isin, Ir.t_int, Ir.t_str, Ir.t_bl, Ir.t_non, Ir.t_tup, Ir.t_mix, Ir.is_ii, Ir.is_ib, Ir.is_tt, Ir.is_it, Ir.is_ss, Ir.p_j, Ir.p_s, Ir.p_p, Ir.tr_b, Ir.s_tmp, Ir.s_tup, Ir.s_str, Ir.boolsD, Ir.strsD, Ir.sqr, Ir.lsr, Ir.ob1, Ir.ob2, Ir.blU, List.map_cons, List.map_nil, List.length_cons, List.length_nil, List.replicate, List.cons_append, List.nil_append, List.append_nil, List.getElem?_cons_zero, List.getElem?_cons_succ, List.getElem?_nil, List.set_cons_zero, List.set_cons_succ, List.set_nil, Option.bind_some, Option.map_some, Option.map_none, Option.bind_none, if_true, if_false, ite_true, ite_false, reduceIte, Bool.not_true, Bool.not_false, List.take_succ_cons, List.take_length, List.take_zero, Nat.add_sub_cancel, Nat.sub_self, Nat.reduceSub, Nat.reduceAdd, reduceCtorEq, Bool.false_eq_true, decide_true, decide_false, List.all_cons, List.any_cons, List.all_nil, List.any_nil, id_eq, Bool.true_and, Bool.and_true, Bool.false_or, Bool.or_false, Ir.zc0, Ir.zc1, Ir.zc2, Ir.zc3, eq_self, Ir.bools_const, Ir.all_const, Ir.any_const]
  exact ⟨_, _, d5, rfl, e5.mono (by omega)⟩
theorem head_ok {k : Nat} {sc : Ob} {dk : List D} {N kk : Int} {x3 : Option U} {s0 : Ir.St} {ss0 : Ss} {Q : Out × Ir.Env × Store → Prop} (hN : N < 2 ^ 37) (hd : Dk dk N)
    (rest : ∀ (i : Int) (rows cols own others many : Nat) (t u : List (List Int)) (dk' : List D), TabOk rows cols t → TabOk rows cols u → 1 ≤ rows ∧ rows ≤ 5 → 1 ≤ cols ∧ cols ≤ 5 → ((i = 0 ∧ own = rows ∧ others = cols) ∨ (i = 1 ∧ own = cols ∧ others = rows)) → 0 < many ∧ many ≤ 400 → Dk dk' (N + 200) →
      Ok (evSs (Ir.run pd.fds (k + 20)) (.cons s0 ss0) (envT kk x3 (.tup [tabD t, tabD u]) i rows cols own others many none none) [sc, .lst dk']) Q) :
    Ok (evSs (Ir.run pd.fds (k + 20)) (irHead (.cons s0 ss0)) [some (.ref 0), some (.d (.int kk)), some (.ref 1), x3, none, none, none, none, none, none, none, none, none] [sc, .lst dk]) Q := by
  simp -implicitDefEqProofs only [Ir.Ok_bind, Ir.Ok_map, Ir.Ok_some, Ir.Ok_none, Ir.evSs, Ir.evE.eq_1, Ir.evE.eq_2, Ir.evE.eq_3, Ir.evE.eq_4, Ir.evE.eq_5, Ir.evE.eq_6, Ir.evE.eq_7, Ir.evE.eq_8, Ir.evE.eq_9, Ir.evE.eq_10, Ir.evE.eq_11, Ir.evE.eq_12, Ir.evE.eq_13, Ir.evE.eq_14, Ir.evE.eq_15, Ir.evE.eq_16, Ir.evE.eq_17, Ir.evE.eq_19, Ir.evEs, Ir.evRs, Ir.evO, Ir.evOt, Ir.evT, Ir.evI, Ir.evS.eq_1, Ir.evS.eq_2, Ir.evS.eq_3, Ir.evS.eq_4, Ir.evS.eq_5, Ir.evS.eq_6, Ir.evS.eq_9, Ir.evS.eq_10, Ir.evS.eq_11, Ir.evS.eq_12, Ir.evS.eq_13, Ir.Ok_for, Ir.ev2, Ir.startE, Ir.bT_n, Ir.bT_t, Ir.bT_m, Ir.bTs_n, Ir.bTs_c, Ir.wipeE, Ir.mt0, Ir.mt1, Ir.mt2, Ir.mt3, Ir.mt4, Ir.ad0, Ir.ad1, Ir.ad2, Ir.ad3, Ir.arrU, Ir.fu, Ir.ft, Ir.gd, Ir.gRu, Ir.gRt, Ir.sq1, Ir.sq2, Ir.ls1, Ir.rt1, Ir.rt2, Ir.bopR_d, Ir.b_add, Ir.b_sub, Ir.c_lt, Ir.c_le, Ir.c_gt, Ir.c_ge, Ir.c_eqi, Ir.c_eqs, Ir.c_eqb, Ir.c_nei, Ir.c_nes, Ir.c_neb, Ir.c_is, Ir.c_isn, Ir.n1, Ir.n2, Ir.n3, Ir.n4, Ir.n5, Ir.n6, Ir.d_lt, Ir.d_le, Ir.d_gt, Ir.d_ge, Ir.x_tup, Ir.x_tmp, Ir.x_mix, Ir.x_ref, Ir.a0, Ir.a1, Ir.a2, Ir.i30, Ir.i32, Ir.f_len, Ir.l_tup, Ir.l_tmp, Ir.l_mix, Ir.l_ref, Ir.f_int, Ir.f_intb, Ir.f_abs, Ir.f_max, Ir.f_min, Ir.f_tup, Ir.f_list, Ir.f_all, Ir.f_any, Ir.f_isin, Ir.t_int, Ir.t_str, Ir.t_bl, Ir.t_non, Ir.t_tup, Ir.t_mix, Ir.is_ii, Ir.is_ib, Ir.is_tt, Ir.is_it, Ir.is_ss, Ir.p_j, Ir.p_s, Ir.p_p, Ir.tr_b, Ir.s_tmp, Ir.s_tup, Ir.s_str, Ir.boolsD, Ir.strsD, Ir.sqr, Ir.lsr, Ir.ob1, Ir.ob2, Ir.blU, List.map_cons, List.map_nil, List.length_cons, List.length_nil, List.replicate, List.cons_append, List.nil_append, List.append_nil, List.getElem?_cons_zero, List.getElem?_cons_succ, List.getElem?_nil, List.set_cons_zero, List.set_cons_succ, List.set_nil, Option.bind_some, Option.map_some, Option.map_none, Option.bind_none, if_true, if_false, ite_true, ite_false, reduceIte, Bool.not_true, Bool.not_false, List.take_succ_cons, List.take_length, List.take_zero, Nat.add_sub_cancel, Nat.sub_self, Nat.reduceSub, Nat.reduceAdd, reduceCtorEq, Bool.false_eq_true, decide_true, decide_false, List.all_cons, List.any_cons, List.all_nil, List.any_nil, id_eq, Bool.true_and, Bool.and_true, Bool.false_or, Bool.or_false, Ir.zc0, Ir.zc1, Ir.zc2, Ir.zc3, eq_self, Ir.bools_const, Ir.all_const, Ir.any_const, irHead]
  refine Ok.mono (game_ok (by omega) hd) ?_
  rintro p ⟨rows, cols, t, u, d1, rfl, h1, h2, ht, hu, e1⟩
  simp -implicitDefEqProofs only [Ir.Ok_bind, Ir.Ok_map, Ir.Ok_some, Ir.Ok_none, Ir.evSs, Ir.evE.eq_1, Ir.evE.eq_2, Ir.evE.eq_3, Ir.evE.eq_4, Ir.evE.eq_5, Ir.evE.eq_6, Ir.evE.eq_7, Ir.evE.eq_8, Ir.evE.eq_9, Ir.evE.eq_10, Ir.evE.eq_11, Ir.evE.eq_12, Ir.evE.eq_13, Ir.evE.eq_14, Ir.evE.eq_15, Ir.evE.eq_16, Ir.evE.eq_17, Ir.evE.eq_19, Ir.evEs, Ir.evRs, Ir.evO, Ir.evOt, Ir.evT, Ir.evI, Ir.evS.eq_1, Ir.evS.eq_2, Ir.evS.eq_3, Ir.evS.eq_4, Ir.evS.eq_5, Ir.evS.eq_6, Ir.evS.eq_9, Ir.evS.eq_10, Ir.evS.eq_11, Ir.evS.eq_12, Ir.evS.eq_13, Ir.Ok_for, Ir.ev2, Ir.startE, Ir.bT_n, Ir.bT_t, Ir.bT_m, Ir.bTs_n, Ir.bTs_c, Ir.wipeE, Ir.mt0, Ir.mt1, Ir.mt2, Ir.mt3, Ir.mt4, Ir.ad0, Ir.ad1, Ir.ad2, Ir.ad3, Ir.arrU, Ir.fu, Ir.ft, Ir.gd, Ir.gRu, Ir.gRt, Ir.sq1, Ir.sq2, Ir.ls1, Ir.rt1, Ir.rt2, Ir.bopR_d, Ir.b_add, Ir.b_sub, Ir.c_lt, Ir.c_le, Ir.c_gt, Ir.c_ge, Ir.c_eqi, Ir.c_eqs, Ir.c_eqb, Ir.c_nei, Ir.c_nes, Ir.c_neb, Ir.c_is, Ir.c_isn, Ir.n1, Ir.n2, Ir.n3, Ir.n4, Ir.n5, Ir.n6, Ir.d_lt, Ir.d_le, Ir.d_gt, Ir.d_ge, Ir.x_tup, Ir.x_tmp, Ir.x_mix, Ir.x_ref, Ir.a0, Ir.a1, Ir.a2, Ir.i30, Ir.i32, Ir.f_len, Ir.l_tup, Ir.l_tmp, Ir.l_mix, Ir.l_ref, Ir.f_int, Ir.f_intb, Ir.f_abs, Ir.f_max, Ir.f_min, Ir.f_tup, Ir.f_list, Ir.f_all, Ir.f_any, Ir.f_isin, Ir.t_int, Ir.t_str, Ir.t_bl, Ir.t_non, Ir.t_tup, Ir.t_mix, Ir.is_ii, Ir.is_ib, Ir.is_tt, Ir.is_it, Ir.is_ss, Ir.p_j, Ir.p_s, Ir.p_p, Ir.tr_b, Ir.s_tmp, Ir.s_tup, Ir.s_str, Ir.boolsD, Ir.strsD, Ir.sqr, Ir.lsr, Ir.ob1, Ir.ob2, Ir.blU, List.map_cons, List.map_nil, List.length_cons, List.length_nil, List.replicate, List.cons_append, List.nil_append, List.append_nil, List.getElem?_cons_zero, List.getElem?_cons_succ, List.getElem?_nil, List.set_cons_zero, List.set_cons_succ, List.set_nil, Option.bind_some, Option.map_some, Option.map_none, Option.bind_none, if_true, if_false, ite_true, ite_false, reduceIte, Bool.not_true, Bool.not_false, List.take_succ_cons, List.take_length, List.take_zero, Nat.add_sub_cancel, Nat.sub_self, Nat.reduceSub, Nat.reduceAdd, reduceCtorEq, Bool.false_eq_true, decide_true, decide_false, List.all_cons, List.any_cons, List.all_nil, List.any_nil, id_eq, Bool.true_and, Bool.and_true, Bool.false_or, Bool.or_false, Ir.zc0, Ir.zc1, Ir.zc2, Ir.zc3, eq_self, Ir.bools_const, Ir.all_const, Ir.any_const]
  refine Ok.mono (take_run (T := []) e1 (by omega) (by decide) (by decide)) ?_
  rintro p ⟨i, d2, rfl, a2, b2, e2⟩
  obtain ⟨r0, t', rt⟩ : ∃ r0 t', t = r0 :: t' := by
    cases t with
    | nil => have := ht.1; simp at this; omega
    | cons a b => exact ⟨a, b, rfl⟩
  have lenT : ∀ S : Store, lenR (.u (.d (tabD t))) S = some rows := fun S => by
    show some (t.map rowD).length = some rows
    rw [List.length_map, ht.1]
  have idxT : ∀ S : Store, idxR (.u (.d (tabD t))) (.u (.d (.int 0))) S = some (.u (.d (rowD r0))) := fun S => by
    rw [rt]
    show (atI (rowD r0 :: t'.map rowD) 0).map (fun x => R.u (.d x)) = _
    rw [Ir.a0]
    rfl
  have lenW : ∀ S : Store, lenR (.u (.d (rowD r0))) S = some cols := fun S => by
    show some (r0.map D.int).length = some cols
    rw [List.length_map, (ht.2 r0 (by rw [rt]; simp)).1]
  have hx : ∀ v : Int, 0 ≤ v → v < 4 → ∃ f : Nat, atI [D.int 1, .int 3, .int 12, .int 12] v = some (.int f) ∧ 1 ≤ f ∧ f ≤ 12 := by
    intro v h0 h3
    have : v = 0 ∨ v = 1 ∨ v = 2 ∨ v = 3 := by omega
    rcases this with rfl | rfl | rfl | rfl
    · exact ⟨1, an (by decide) rfl, by decide, by decide⟩
    · exact ⟨3, an (by decide) rfl, by decide, by decide⟩
    · exact ⟨12, an (by decide) rfl, by decide, by decide⟩
    · exact ⟨12, an (by decide) rfl, by decide, by decide⟩
  have hi : ∃ own others : Nat, (if i = 0 then U.d (.tup [.int rows, .int cols]) else U.d (.tup [.int cols, .int rows])) = U.d (.tup [.int own, .int others]) ∧ ((i = 0 ∧ own = rows ∧ others = cols) ∨ (i = 1 ∧ own = cols ∧ others = rows)) := by
    by_cases h : i = 0
    · exact ⟨rows, cols, by rw [if_pos h], .inl ⟨h, rfl, rfl⟩⟩
    · exact ⟨cols, rows, by rw [if_neg h], .inr ⟨by omega, rfl, rfl⟩⟩
  have fork : ∀ (own others : Nat), ((i = 0 ∧ own = rows ∧ others = cols) ∨ (i = 1 ∧ own = cols ∧ others = rows)) → ∀ (many : Nat) (dk' : List D), 0 < many ∧ many ≤ 400 → Dk dk' (N + 200) →
      Ok (evSs (Ir.run pd.fds (k + 20)) (.cons s0 ss0) (envT kk x3 (.tup [tabD t, tabD u]) i rows cols own others many none none) [sc, .lst dk']) Q :=
    fun own others hs many dk' hm hd' => rest i rows cols own others many t u dk' ht hu h1 h2 hs hm hd'
  by_cases h0 : i = 0
  case' pos => have fork2 := fork rows cols (.inl ⟨h0, rfl, rfl⟩); have h00 : decide (i = 0) = true := decide_eq_true h0
  case' neg => have fork2 := fork cols rows (.inr ⟨by omega, rfl, rfl⟩); have h00 : decide (i = 0) = false := decide_eq_false h0
  all_goals
    simp -implicitDefEqProofs only [Ir.Ok_bind, Ir.Ok_map, Ir.Ok_some, Ir.Ok_none, Ir.evSs, Ir.evE.eq_1, Ir.evE.eq_2, Ir.evE.eq_3, Ir.evE.eq_4, Ir.evE.eq_5, Ir.evE.eq_6, Ir.evE.eq_7, Ir.evE.eq_8, Ir.evE.eq_9, Ir.evE.eq_10, Ir.evE.eq_11, Ir.evE.eq_12, Ir.evE.eq_13, Ir.evE.eq_14, Ir.evE.eq_15, Ir.evE.eq_16, Ir.evE.eq_17, Ir.evE.eq_19, Ir.evEs, Ir.evRs, Ir.evO, Ir.evOt, Ir.evT, Ir.evI, Ir.evS.eq_1, Ir.evS.eq_2, Ir.evS.eq_3, Ir.evS.eq_4, Ir.evS.eq_5, Ir.evS.eq_6, Ir.evS.eq_9, Ir.evS.eq_10, Ir.evS.eq_11, Ir.evS.eq_12, Ir.evS.eq_13, Ir.Ok_for, Ir.ev2, Ir.startE, Ir.bT_n, Ir.bT_t, Ir.bT_m, Ir.bTs_n, Ir.bTs_c, Ir.wipeE, Ir.mt0, Ir.mt1, Ir.mt2, Ir.mt3, Ir.mt4, Ir.ad0, Ir.ad1, Ir.ad2, Ir.ad3, Ir.arrU, Ir.fu, Ir.ft, Ir.gd, Ir.gRu, Ir.gRt, Ir.sq1, Ir.sq2, Ir.ls1, Ir.rt1, Ir.rt2, Ir.bopR_d, Ir.b_add, Ir.b_sub, Ir.c_lt, Ir.c_le, Ir.c_gt, Ir.c_ge, Ir.c_eqi, Ir.c_eqs, Ir.c_eqb, Ir.c_nei, Ir.c_nes, Ir.c_neb, Ir.c_is, Ir.c_isn, Ir.n1, Ir.n2, Ir.n3, Ir.n4, Ir.n5, Ir.n6, Ir.d_lt, Ir.d_le, Ir.d_gt, Ir.d_ge, Ir.x_tup, Ir.x_tmp, Ir.x_mix, Ir.x_ref, Ir.a0, Ir.a1, Ir.a2, Ir.i30, Ir.i32, Ir.f_len, Ir.l_tup, Ir.l_tmp, Ir.l_mix, Ir.l_ref, Ir.f_int, Ir.f_intb, Ir.f_abs, Ir.f_max, Ir.f_min, Ir.f_tup, Ir.f_list, Ir.f_all, Ir.f_any, Ir.f_isin, Ir.t_int, Ir.t_str, Ir.t_bl, Ir.t_non, Ir.t_tup, Ir.t_mix, Ir.is_ii, Ir.is_ib, Ir.is_tt, Ir.is_it, Ir.is_ss, Ir.p_j, Ir.p_s, Ir.p_p, Ir.tr_b, Ir.s_tmp, Ir.s_tup, Ir.s_str, Ir.boolsD, Ir.strsD, Ir.sqr, Ir.lsr, Ir.ob1, Ir.ob2, Ir.blU, List.map_cons, List.map_nil, List.length_cons, List.length_nil, List.replicate, List.cons_append, List.nil_append, List.append_nil, List.getElem?_cons_zero, List.getElem?_cons_succ, List.getElem?_nil, List.set_cons_zero, List.set_cons_succ, List.set_nil, Option.bind_some, Option.map_some, Option.map_none, Option.bind_none, if_true, if_false, ite_true, ite_false, reduceIte, Bool.not_true, Bool.not_false, List.take_succ_cons, List.take_length, List.take_zero, Nat.add_sub_cancel, Nat.sub_self, Nat.reduceSub, Nat.reduceAdd, reduceCtorEq, Bool.false_eq_true, decide_true, decide_false, List.all_cons, List.any_cons, List.all_nil, List.any_nil, id_eq, Bool.true_and, Bool.and_true, Bool.false_or, Bool.or_false, Ir.zc0, Ir.zc1, Ir.zc2, Ir.zc3, eq_self, Ir.bools_const, Ir.all_const, Ir.any_const, lenT, idxT, lenW, h00]
    refine Ok.mono (take_run (T := [.lst [.int 1, .int 3, .int 12, .int 12]]) e2 (by omega) (by decide) (by decide)) ?_
    rintro p ⟨v3, d3, rfl, a3, b3, e3⟩
    obtain ⟨f, ef, f1, f2⟩ := hx v3 a3 b3
    simp -implicitDefEqProofs only [Ir.Ok_bind, Ir.Ok_map, Ir.Ok_some, Ir.Ok_none, Ir.evSs, Ir.evE.eq_1, Ir.evE.eq_2, Ir.evE.eq_3, Ir.evE.eq_4, Ir.evE.eq_5, Ir.evE.eq_6, Ir.evE.eq_7, Ir.evE.eq_8, Ir.evE.eq_9, Ir.evE.eq_10, Ir.evE.eq_11, Ir.evE.eq_12, Ir.evE.eq_13, Ir.evE.eq_14, Ir.evE.eq_15, Ir.evE.eq_16, Ir.evE.eq_17, Ir.evE.eq_19, Ir.evEs, Ir.evRs, Ir.evO, Ir.evOt, Ir.evT, Ir.evI, Ir.evS.eq_1, Ir.evS.eq_2, Ir.evS.eq_3, Ir.evS.eq_4, Ir.evS.eq_5, Ir.evS.eq_6, Ir.evS.eq_9, Ir.evS.eq_10, Ir.evS.eq_11, Ir.evS.eq_12, Ir.evS.eq_13, Ir.Ok_for, Ir.ev2, Ir.startE, Ir.bT_n, Ir.bT_t, Ir.bT_m, Ir.bTs_n, Ir.bTs_c, Ir.wipeE, Ir.mt0, Ir.mt1, Ir.mt2, Ir.mt3, Ir.mt4, Ir.ad0, Ir.ad1, Ir.ad2, Ir.ad3, Ir.arrU, Ir.fu, Ir.ft, Ir.gd, Ir.gRu, Ir.gRt, Ir.sq1, Ir.sq2, Ir.ls1, Ir.rt1, Ir.rt2, Ir.bopR_d, Ir.b_add, Ir.b_sub, Ir.c_lt, Ir.c_le, Ir.c_gt, Ir.c_ge, Ir.c_eqi, Ir.c_eqs, Ir.c_eqb, Ir.c_nei, Ir.c_nes, Ir.c_neb, Ir.c_is, Ir.c_isn, Ir.n1, Ir.n2, Ir.n3, Ir.n4, Ir.n5, Ir.n6, Ir.d_lt, Ir.d_le, Ir.d_gt, Ir.d_ge, Ir.x_tup, Ir.x_tmp, Ir.x_mix, Ir.x_ref, Ir.a0, Ir.a1, Ir.a2, Ir.i30, Ir.i32, Ir.f_len, Ir.l_tup, Ir.l_tmp, Ir.l_mix, Ir.l_ref, Ir.f_int, Ir.f_intb, Ir.f_abs, Ir.f_max, Ir.f_min, Ir.f_tup, Ir.f_list, Ir.f_all, Ir.f_any, Ir.f_isin, Ir.t_int, Ir.t_str, Ir.t_bl, Ir.t_non, Ir.t_tup, Ir.t_mix, Ir.is_ii, Ir.is_ib, Ir.is_tt, Ir.is_it, Ir.is_ss, Ir.p_j, Ir.p_s, Ir.p_p, Ir.tr_b, Ir.s_tmp, Ir.s_tup, Ir.s_str, Ir.boolsD, Ir.strsD, Ir.sqr, Ir.lsr, Ir.ob1, Ir.ob2, Ir.blU, List.map_cons, List.map_nil, List.length_cons, List.length_nil, List.replicate, List.cons_append, List.nil_append, List.append_nil, List.getElem?_cons_zero, List.getElem?_cons_succ, List.getElem?_nil, List.set_cons_zero, List.set_cons_succ, List.set_nil, Option.bind_some, Option.map_some, Option.map_none, Option.bind_none, if_true, if_false, ite_true, ite_false, reduceIte, Bool.not_true, Bool.not_false, List.take_succ_cons, List.take_length, List.take_zero, Nat.add_sub_cancel, Nat.sub_self, Nat.reduceSub, Nat.reduceAdd, reduceCtorEq, Bool.false_eq_true, decide_true, decide_false, List.all_cons, List.any_cons, List.all_nil, List.any_nil, id_eq, Bool.true_and, Bool.and_true, Bool.false_or, Bool.or_false, Ir.zc0, Ir.zc1, Ir.zc2, Ir.zc3, eq_self, Ir.bools_const, Ir.all_const, Ir.any_const, lowd, and_self, ef]
    refine Ok.mono (take_run (T := []) (m := (f : Int)) e3 (by omega) (by omega) (by omega)) ?_
    rintro p ⟨v4, d4, rfl, a4, b4, e4⟩
    simp -implicitDefEqProofs only [Ir.Ok_bind, Ir.Ok_map, Ir.Ok_some, Ir.Ok_none, Ir.evSs, Ir.evE.eq_1, Ir.evE.eq_2, Ir.evE.eq_3, Ir.evE.eq_4, Ir.evE.eq_5, Ir.evE.eq_6, Ir.evE.eq_7, Ir.evE.eq_8, Ir.evE.eq_9, Ir.evE.eq_10, Ir.evE.eq_11, Ir.evE.eq_12, Ir.evE.eq_13, Ir.evE.eq_14, Ir.evE.eq_15, Ir.evE.eq_16, Ir.evE.eq_17, Ir.evE.eq_19, Ir.evEs, Ir.evRs, Ir.evO, Ir.evOt, Ir.evT, Ir.evI, Ir.evS.eq_1, Ir.evS.eq_2, Ir.evS.eq_3, Ir.evS.eq_4, Ir.evS.eq_5, Ir.evS.eq_6, Ir.evS.eq_9, Ir.evS.eq_10, Ir.evS.eq_11, Ir.evS.eq_12, Ir.evS.eq_13, Ir.Ok_for, Ir.ev2, Ir.startE, Ir.bT_n, Ir.bT_t, Ir.bT_m, Ir.bTs_n, Ir.bTs_c, Ir.wipeE, Ir.mt0, Ir.mt1, Ir.mt2, Ir.mt3, Ir.mt4, Ir.ad0, Ir.ad1, Ir.ad2, Ir.ad3, Ir.arrU, Ir.fu, Ir.ft, Ir.gd, Ir.gRu, Ir.gRt, Ir.sq1, Ir.sq2, Ir.ls1, Ir.rt1, Ir.rt2, Ir.bopR_d, Ir.b_add, Ir.b_sub, Ir.c_lt, Ir.c_le, Ir.c_gt, Ir.c_ge, Ir.c_eqi, Ir.c_eqs, Ir.c_eqb, Ir.c_nei, Ir.c_nes, Ir.c_neb, Ir.c_is, Ir.c_isn, Ir.n1, Ir.n2, Ir.n3, Ir.n4, Ir.n5, Ir.n6, Ir.d_lt, Ir.d_le, Ir.d_gt, Ir.d_ge, Ir.x_tup, Ir.x_tmp, Ir.x_mix, Ir.x_ref, Ir.a0, Ir.a1, Ir.a2, Ir.i30, Ir.i32, Ir.f_len, Ir.l_tup, Ir.l_tmp, Ir.l_mix, Ir.l_ref, Ir.f_int, Ir.f_intb, Ir.f_abs, Ir.f_max, Ir.f_min, Ir.f_tup, Ir.f_list, Ir.f_all, Ir.f_any, Ir.f_isin, Ir.t_int, Ir.t_str, Ir.t_bl, Ir.t_non, Ir.t_tup, Ir.t_mix, Ir.is_ii, Ir.is_ib, Ir.is_tt, Ir.is_it, Ir.is_ss, Ir.p_j, Ir.p_s, Ir.p_p, Ir.tr_b, Ir.s_tmp, Ir.s_tup, Ir.s_str, Ir.boolsD, Ir.strsD, Ir.sqr, Ir.lsr, Ir.ob1, Ir.ob2, Ir.blU, List.map_cons, List.map_nil, List.length_cons, List.length_nil, List.replicate, List.cons_append, List.nil_append, List.append_nil, List.getElem?_cons_zero, List.getElem?_cons_succ, List.getElem?_nil, List.set_cons_zero, List.set_cons_succ, List.set_nil, Option.bind_some, Option.map_some, Option.map_none, Option.bind_none, if_true, if_false, ite_true, ite_false, reduceIte, Bool.not_true, Bool.not_false, List.take_succ_cons, List.take_length, List.take_zero, Nat.add_sub_cancel, Nat.sub_self, Nat.reduceSub, Nat.reduceAdd, reduceCtorEq, Bool.false_eq_true, decide_true, decide_false, List.all_cons, List.any_cons, List.all_nil, List.any_nil, id_eq, Bool.true_and, Bool.and_true, Bool.false_or, Bool.or_false, Ir.zc0, Ir.zc1, Ir.zc2, Ir.zc3, eq_self, Ir.bools_const, Ir.all_const, Ir.any_const]
    refine Ok.mono (take_run (T := []) e4 (by omega) (by decide) (by decide)) ?_
    rintro p ⟨v5, d5, rfl, a5, b5, e5⟩
    by_cases h5 : v5 = 0
    · simp -implicitDefEqProofs only [Ir.Ok_bind, Ir.Ok_map, Ir.Ok_some, Ir.Ok_none, Ir.evSs, Ir.evE.eq_1, Ir.evE.eq_2, Ir.evE.eq_3, Ir.evE.eq_4, Ir.evE.eq_5, Ir.evE.eq_6, Ir.evE.eq_7, Ir.evE.eq_8, Ir.evE.eq_9, Ir.evE.eq_10, Ir.evE.eq_11, Ir.evE.eq_12, Ir.evE.eq_13, Ir.evE.eq_14, Ir.evE.eq_15, Ir.evE.eq_16, Ir.evE.eq_17, Ir.evE.eq_19, Ir.evEs, Ir.evRs, Ir.evO, Ir.evOt, Ir.evT, Ir.evI, Ir.evS.eq_1, Ir.evS.eq_2, Ir.evS.eq_3, Ir.evS.eq_4, Ir.evS.eq_5, Ir.evS.eq_6, Ir.evS.eq_9, Ir.evS.eq_10, Ir.evS.eq_11, Ir.evS.eq_12, Ir.evS.eq_13, Ir.Ok_for, Ir.ev2, Ir.startE, Ir.bT_n, Ir.bT_t, Ir.bT_m, Ir.bTs_n, Ir.bTs_c, Ir.wipeE, Ir.mt0, Ir.mt1, Ir.mt2, Ir.mt3, Ir.mt4, Ir.ad0, Ir.ad1, Ir.ad2, Ir.ad3, Ir.arrU, Ir.fu, Ir.ft, Ir.gd, Ir.gRu, Ir.gRt, Ir.sq1, Ir.sq2, Ir.ls1, Ir.rt1, Ir.rt2, Ir.bopR_d, Ir.b_add, Ir.b_sub, Ir.c_lt, Ir.c_le, Ir.c_gt, Ir.c_ge, Ir.c_eqi, Ir.c_eqs, Ir.c_eqb, Ir.c_nei, Ir.c_nes, Ir.c_neb, Ir.c_is, Ir.c_isn, Ir.n1, Ir.n2, Ir.n3, Ir.n4, Ir.n5, Ir.n6, Ir.d_lt, Ir.d_le, Ir.d_gt, Ir.d_ge, Ir.x_tup, Ir.x_tmp, Ir.x_mix, Ir.x_ref, Ir.a0, Ir.a1, Ir.a2, Ir.i30, Ir.i32, Ir.f_len, Ir.l_tup, Ir.l_tmp, Ir.l_mix, Ir.l_ref, Ir.f_int, Ir.f_intb, Ir.f_abs, Ir.f_max, Ir.f_min, Ir.f_tup, Ir.f_list, Ir.f_all, Ir.f_any, Ir.f_isin, Ir.t_int, Ir.t_str, Ir.t_bl, Ir.t_non, Ir.t_tup, Ir.t_mix, Ir.is_ii, Ir.is_ib, Ir.is_tt, Ir.is_it, Ir.is_ss, Ir.p_j, Ir.p_s, Ir.p_p, Ir.tr_b, Ir.s_tmp, Ir.s_tup, Ir.s_str, Ir.boolsD, Ir.strsD, Ir.sqr, Ir.lsr, Ir.ob1, Ir.ob2, Ir.blU, List.map_cons, List.map_nil, List.length_cons, List.length_nil, List.replicate, List.cons_append, List.nil_append, List.append_nil, List.getElem?_cons_zero, List.getElem?_cons_succ, List.getElem?_nil, List.set_cons_zero, List.set_cons_succ, List.set_nil, Option.bind_some, Option.map_some, Option.map_none, Option.bind_none, if_true, if_false, ite_true, ite_false, reduceIte, Bool.not_true, Bool.not_false, List.take_succ_cons, List.take_length, List.take_zero, Nat.add_sub_cancel, Nat.sub_self, Nat.reduceSub, Nat.reduceAdd, reduceCtorEq, Bool.false_eq_true, decide_true, decide_false, List.all_cons, List.any_cons, List.all_nil, List.any_nil, id_eq, Bool.true_and, Bool.and_true, Bool.false_or, Bool.or_false, Ir.zc0, Ir.zc1, Ir.zc2, Ir.zc3, eq_self, Ir.bools_const, Ir.all_const, Ir.any_const, decide_eq_true h5]
      refine Ok.mono (take_run (T := []) e5 (by omega) (by decide) (by decide)) ?_
      rintro p ⟨v6, d6, rfl, a6, b6, e6⟩
      obtain ⟨many, em⟩ : ∃ r : Nat, 100 + v6 = (r : Int) := ⟨(100 + v6).toNat, by omega⟩
      simp -implicitDefEqProofs only [Ir.Ok_bind, Ir.Ok_map, Ir.Ok_some, Ir.Ok_none, Ir.evSs, Ir.evE.eq_1, Ir.evE.eq_2, Ir.evE.eq_3, Ir.evE.eq_4, Ir.evE.eq_5, Ir.evE.eq_6, Ir.evE.eq_7, Ir.evE.eq_8, Ir.evE.eq_9, Ir.evE.eq_10, Ir.evE.eq_11, Ir.evE.eq_12, Ir.evE.eq_13, Ir.evE.eq_14, Ir.evE.eq_15, Ir.evE.eq_16, Ir.evE.eq_17, Ir.evE.eq_19, Ir.evEs, Ir.evRs, Ir.evO, Ir.evOt, Ir.evT, Ir.evI, Ir.evS.eq_1, Ir.evS.eq_2, Ir.evS.eq_3, Ir.evS.eq_4, Ir.evS.eq_5, Ir.evS.eq_6, Ir.evS.eq_9, Ir.evS.eq_10, Ir.evS.eq_11, Ir.evS.eq_12, Ir.evS.eq_13, Ir.Ok_for, Ir.ev2, Ir.startE, Ir.bT_n, Ir.bT_t, Ir.bT_m, Ir.bTs_n, Ir.bTs_c, Ir.wipeE, Ir.mt0, Ir.mt1, Ir.mt2, Ir.mt3, Ir.mt4, Ir.ad0, Ir.ad1, Ir.ad2, Ir.ad3, Ir.arrU, Ir.fu, Ir.ft, Ir.gd, Ir.gRu, Ir.gRt, Ir.sq1, Ir.sq2, Ir.ls1, Ir.rt1, Ir.rt2, Ir.bopR_d, Ir.b_add, Ir.b_sub, Ir.c_lt, Ir.c_le, Ir.c_gt, Ir.c_ge, Ir.c_eqi, Ir.c_eqs, Ir.c_eqb, Ir.c_nei, Ir.c_nes, Ir.c_neb, Ir.c_is, Ir.c_isn, Ir.n1, Ir.n2, Ir.n3, Ir.n4, Ir.n5, Ir.n6, Ir.d_lt, Ir.d_le, Ir.d_gt, Ir.d_ge, Ir.x_tup, Ir.x_tmp, Ir.x_mix, Ir.x_ref, Ir.a0, Ir.a1, Ir.a2, Ir.i30, Ir.i32, Ir.f_len, Ir.l_tup, Ir.l_tmp, Ir.l_mix, Ir.l_ref, Ir.f_int, Ir.f_intb, Ir.f_abs, Ir.f_max, Ir.f_min, Ir.f_tup, Ir.f_list, Ir.f_all, Ir.f_any, Ir.f_isin, Ir.t_int, Ir.t_str, Ir.t_bl, Ir.t_non, Ir.t_tup, Ir.t_mix, Ir.is_ii, Ir.is_ib, Ir.is_tt, Ir.is_it, Ir.is_ss, Ir.p_j, Ir.p_s, Ir.p_p, Ir.tr_b, Ir.s_tmp, Ir.s_tup, Ir.s_str, Ir.boolsD, Ir.strsD, Ir.sqr, Ir.lsr, Ir.ob1, Ir.ob2, Ir.blU, List.map_cons, List.map_nil, List.length_cons, List.length_nil, List.replicate, List.cons_append, List.nil_append, List.append_nil, List.getElem?_cons_zero, List.getElem?_cons_succ, List.getElem?_nil, List.set_cons_zero, List.set_cons_succ, List.set_nil, Option.bind_some, Option.map_some, Option.map_none, Option.bind_none, if_true, if_false, ite_true, ite_false, reduceIte, Bool.not_true, Bool.not_false, List.take_succ_cons, List.take_length, List.take_zero, Nat.add_sub_cancel, Nat.sub_self, Nat.reduceSub, Nat.reduceAdd, reduceCtorEq, Bool.false_eq_true, decide_true, decide_false, List.all_cons, List.any_cons, List.all_nil, List.any_nil, id_eq, Bool.true_and, Bool.and_true, Bool.false_or, Bool.or_false, Ir.zc0, Ir.zc1, Ir.zc2, Ir.zc3, eq_self, Ir.bools_const, Ir.all_const, Ir.any_const, em]
      exact fork2 many d6 (by omega) (e6.mono (by omega))
    · obtain ⟨many, em⟩ : ∃ r : Nat, 1 + v4 = (r : Int) := ⟨(1 + v4).toNat, by omega⟩
      simp -implicitDefEqProofs only [Ir.Ok_bind, Ir.Ok_map, Ir.Ok_some, Ir.Ok_none, Ir.evSs, Ir.evE.eq_1, Ir.evE.eq_2, Ir.evE.eq_3, Ir.evE.eq_4, Ir.evE.eq_5, Ir.evE.eq_6, Ir.evE.eq_7, Ir.evE.eq_8, Ir.evE.eq_9, Ir.evE.eq_10, Ir.evE.eq_11, Ir.evE.eq_12, Ir.evE.eq_13, Ir.evE.eq_14, Ir.evE.eq_15, Ir.evE.eq_16, Ir.evE.eq_17, Ir.evE.eq_19, Ir.evEs, Ir.evRs, Ir.evO, Ir.evOt, Ir.evT, Ir.evI, Ir.evS.eq_1, Ir.evS.eq_2, Ir.evS.eq_3, Ir.evS.eq_4, Ir.evS.eq_5, Ir.evS.eq_6, Ir.evS.eq_9, Ir.evS.eq_10, Ir.evS.eq_11, Ir.evS.eq_12, Ir.evS.eq_13, Ir.Ok_for, Ir.ev2, Ir.startE, Ir.bT_n, Ir.bT_t, Ir.bT_m, Ir.bTs_n, Ir.bTs_c, Ir.wipeE, Ir.mt0, Ir.mt1, Ir.mt2, Ir.mt3, Ir.mt4, Ir.ad0, Ir.ad1, Ir.ad2, Ir.ad3, Ir.arrU, Ir.fu, Ir.ft, Ir.gd, Ir.gRu, Ir.gRt, Ir.sq1, Ir.sq2, Ir.ls1, Ir.rt1, Ir.rt2, Ir.bopR_d, Ir.b_add, Ir.b_sub, Ir.c_lt, Ir.c_le, Ir.c_gt, Ir.c_ge, Ir.c_eqi, Ir.c_eqs, Ir.c_eqb, Ir.c_nei, Ir.c_nes, Ir.c_neb, Ir.c_is, Ir.c_isn, Ir.n1, Ir.n2, Ir.n3, Ir.n4, Ir.n5, Ir.n6, Ir.d_lt, Ir.d_le, Ir.d_gt, Ir.d_ge, Ir.x_tup, Ir.x_tmp, Ir.x_mix, Ir.x_ref, Ir.a0, Ir.a1, Ir.a2, Ir.i30, Ir.i32, Ir.f_len, Ir.l_tup, Ir.l_tmp, Ir.l_mix, Ir.l_ref, Ir.f_int, Ir.f_intb, Ir.f_abs, Ir.f_max, Ir.f_min, Ir.f_tup, Ir.f_list, Ir.f_all, Ir.f_any, Ir.f_isin, Ir.t_int, Ir.t_str, Ir.t_bl, Ir.t_non, Ir.t_tup, Ir.t_mix, Ir.is_ii, Ir.is_ib, Ir.is_tt, Ir.is_it, Ir.is_ss, Ir.p_j, Ir.p_s, Ir.p_p, Ir.tr_b, Ir.s_tmp, Ir.s_tup, Ir.s_str, Ir.boolsD, Ir.strsD, Ir.sqr, Ir.lsr, Ir.ob1, Ir.ob2, Ir.blU, List.map_cons, List.map_nil, List.length_cons, List.length_nil, List.replicate, List.cons_append, List.nil_append, List.append_nil, List.getElem?_cons_zero, List.getElem?_cons_succ, List.getElem?_nil, List.set_cons_zero, List.set_cons_succ, List.set_nil, Option.bind_some, Option.map_some, Option.map_none, Option.bind_none, if_true, if_false, ite_true, ite_false, reduceIte, Bool.not_true, Bool.not_false, List.take_succ_cons, List.take_length, List.take_zero, Nat.add_sub_cancel, Nat.sub_self, Nat.reduceSub, Nat.reduceAdd, reduceCtorEq, Bool.false_eq_true, decide_true, decide_false, List.all_cons, List.any_cons, List.all_nil, List.any_nil, id_eq, Bool.true_and, Bool.and_true, Bool.false_or, Bool.or_false, Ir.zc0, Ir.zc1, Ir.zc2, Ir.zc3, eq_self, Ir.bools_const, Ir.all_const, Ir.any_const, decide_eq_false h5, em]
      exact fork2 many d5 (by omega) (e5.mono (by omega))
end G85

set_option Elab.async false
set_option linter.all false
set_option maxRecDepth 100000
set_option autoImplicit false
/-! P85o: the law. -/
namespace G85
open PySem L2 Ir
def irTurn : Ss := irHead irTail
theorem irTail_cons : ∃ s0 ss0, irTail = .cons s0 ss0 := ⟨_, _, rfl⟩
theorem turn_ok {k : Nat} {sc : Ob} {dk : List D} {N kk : Int} {x3 : Option U} (hN : N < 2 ^ 37) (hd : Dk dk N) :
    Ok (evSs (Ir.run pd.fds (k + 20)) irTurn [some (.ref 0), some (.d (.int kk)), some (.ref 1), x3, none, none, none, none, none, none, none, none, none] [sc, .lst dk]) fun p =>
      ∃ x4 x5 x6 x7 x8 x9 x10 x11 x12 dk', p = (.nx, [some (.ref 0), some (.d (.int kk)), some (.ref 1), x3, x4, x5, x6, x7, x8, x9, x10, x11, x12], [sc, .lst dk']) ∧ Dk dk' (N + 30000) := by
  obtain ⟨s0, ss0, e⟩ := irTail_cons
  unfold irTurn
  have tl := fun (i : Int) (rows cols own others many : Nat) (t u : List (List Int)) (dk' : List D) (ht : TabOk rows cols t) (hu : TabOk rows cols u) h1 h2 hs hm (hd' : Dk dk' (N + 200)) =>
    tail_ok (k := k) (sc := sc) (kk := kk) (x3 := x3) (i := i) (own := own) (others := others) (many := many) ht hu h1 h2 hs hm (by omega) hd'
  rw [e] at tl ⊢
  refine head_ok hN hd fun i rows cols own others many t u dk' ht hu h1 h2 hs hm hd' => ?_
  refine Ok.mono (tl i rows cols own others many t u dk' ht hu h1 h2 hs hm hd') ?_
  rintro p ⟨x11, x12, dk2, rfl, e2⟩
  exact ⟨_, _, _, _, _, _, _, _, _, dk2, rfl, e2.mono (by omega)⟩
def irInner : Ir.St := .for_ (.n 3) (.rng1 (.lit (.int (4)))) irTurn [3, 4, 5, 6, 7, 8, 9, 10, 11, 12]
abbrev env2 (kk : Int) (x3 : Option U) : Ir.Env := [some (.ref 0), some (.d (.int kk)), some (.ref 1), x3, none, none, none, none, none, none, none, none, none]
theorem inner_ok {k : Nat} {sc : Ob} {dk : List D} {N kk : Int} (hN : N < 2 ^ 36) (hd : Dk dk N) :
    Ok (evS (Ir.run pd.fds (k + 20)) irInner (env2 kk none) [sc, .lst dk]) fun p => ∃ dk', p = (.nx, env2 kk none, [sc, .lst dk']) := by
  unfold irInner
  rw [Ok_for, evI_rng (j := 4) (S1 := [sc, .lst dk]) (by rw [evE]) (by decide) (by decide), Ok_some]
  refine forL_ok (fun j ρ S => ∃ dk', ρ = env2 kk none ∧ S = [sc, .lst dk'] ∧ Dk dk' (N + 30000 * j)) _ 0 _ _ ⟨dk, rfl, rfl, by simpa using hd⟩ ?_ ?_
  · rintro j x ρ S e1 ⟨dk', rfl, rfl, h⟩
    obtain ⟨rfl, hj⟩ := gE e1
    have hj' : j < 4 := hj
    show Ok (evSs (Ir.run pd.fds (k + 20)) irTurn (env2 kk (some (.d (.int j)))) [sc, .lst dk']) _
    refine Ok.mono (turn_ok (by omega) h) ?_
    rintro p ⟨x4, x5, x6, x7, x8, x9, x10, x11, x12, dk2, rfl, h2⟩
    have td : tidy [3, 4, 5, 6, 7, 8, 9, 10, 11, 12] 2 [some (.ref 0), some (.d (.int kk)), some (.ref 1), some (.d (.int j)), x4, x5, x6, x7, x8, x9, x10, x11, x12] [sc, .lst dk2] = (env2 kk none, [sc, .lst dk2]) := rfl
    show held none _ _ = true ∧ _
    refine ⟨rfl, dk2, ?_, ?_, h2.mono (by omega)⟩
    · exact congrArg (fun z : Ir.Env × Store => z.1) td
    · exact congrArg (fun z : Ir.Env × Store => z.2) td
  · rintro ρ S ⟨dk', rfl, rfl, h⟩
    exact ⟨dk', rfl⟩
def irOuter : Ss := (.cons (.asg (.n 2) (.call 24 [.a 0, .a 1] (.cons (.var 0) (.cons (.var 1) .nil)))) (.cons (.ite (.and (.v (.cmp .eq (.var 1) (.lit (.int (0))))) (.not (.tr (.call 34 [.a 0] (.cons (.var 2) .nil))))) (.cons (.ret (.lit (.bl false))) .nil) .nil) (.cons irInner .nil)))
abbrev env0 : Ir.Env := [some (.ref 0), none, none, none, none, none, none, none, none, none, none, none, none]
theorem outer_ok {k : Nat} {ns : List Int} {j : Nat} (hl : ns.length ≤ 63) (hj : j < 6) :
    Ok (evSs (Ir.run pd.fds (k + 20)) irOuter [some (.ref 0), some (.d (.int j)), none, none, none, none, none, none, none, none, none, none, none] [.rd (ns.map .int)]) fun p => ∃ dk', p = (.nx, env2 j none, [.rd (ns.map .int), .lst dk']) := by
  unfold irOuter
  simp -implicitDefEqProofs only [Ir.Ok_bind, Ir.Ok_map, Ir.Ok_some, Ir.Ok_none, Ir.evSs, Ir.evE.eq_1, Ir.evE.eq_2, Ir.evE.eq_3, Ir.evE.eq_4, Ir.evE.eq_5, Ir.evE.eq_6, Ir.evE.eq_7, Ir.evE.eq_8, Ir.evE.eq_9, Ir.evE.eq_10, Ir.evE.eq_11, Ir.evE.eq_12, Ir.evE.eq_13, Ir.evE.eq_14, Ir.evE.eq_15, Ir.evE.eq_16, Ir.evE.eq_17, Ir.evE.eq_19, Ir.evEs, Ir.evRs, Ir.evO, Ir.evOt, Ir.evT, Ir.evI, Ir.evS.eq_1, Ir.evS.eq_2, Ir.evS.eq_3, Ir.evS.eq_4, Ir.evS.eq_5, Ir.evS.eq_6, Ir.evS.eq_9, Ir.evS.eq_10, Ir.evS.eq_11, Ir.evS.eq_12, Ir.evS.eq_13, Ir.Ok_for, Ir.ev2, Ir.startE, Ir.bT_n, Ir.bT_t, Ir.bT_m, Ir.bTs_n, Ir.bTs_c, Ir.wipeE, Ir.mt0, Ir.mt1, Ir.mt2, Ir.mt3, Ir.mt4, Ir.ad0, Ir.ad1, Ir.ad2, Ir.ad3, Ir.arrU, Ir.fu, Ir.ft, Ir.gd, Ir.gRu, Ir.gRt, Ir.sq1, Ir.sq2, Ir.ls1, Ir.rt1, Ir.rt2, Ir.bopR_d, Ir.b_add, Ir.b_sub, Ir.c_lt, Ir.c_le, Ir.c_gt, Ir.c_ge, Ir.c_eqi, Ir.c_eqs, Ir.c_eqb, Ir.c_nei, Ir.c_nes, Ir.c_neb, Ir.c_is, Ir.c_isn, Ir.n1, Ir.n2, Ir.n3, Ir.n4, Ir.n5, Ir.n6, Ir.d_lt, Ir.d_le, Ir.d_gt, Ir.d_ge, Ir.x_tup, Ir.x_tmp, Ir.x_mix, Ir.x_ref, Ir.a0, Ir.a1, Ir.a2, Ir.i30, Ir.i32, Ir.f_len, Ir.l_tup, Ir.l_tmp, Ir.l_mix, Ir.l_ref, Ir.f_int, Ir.f_intb, Ir.f_abs, Ir.f_max, Ir.f_min, Ir.f_tup, Ir.f_list, Ir.f_all, Ir.f_any, Ir.f_isin, Ir.t_int, Ir.t_str, Ir.t_bl, Ir.t_non, Ir.t_tup, Ir.t_mix, Ir.is_ii, Ir.is_ib, Ir.is_tt, Ir.is_it, Ir.is_ss, Ir.p_j, Ir.p_s, Ir.p_p, Ir.tr_b, Ir.s_tmp, Ir.s_tup, Ir.s_str, Ir.boolsD, Ir.strsD, Ir.sqr, Ir.lsr, Ir.ob1, Ir.ob2, Ir.blU, List.map_cons, List.map_nil, List.length_cons, List.length_nil, List.replicate, List.cons_append, List.nil_append, List.append_nil, List.getElem?_cons_zero, List.getElem?_cons_succ, List.getElem?_nil, List.set_cons_zero, List.set_cons_succ, List.set_nil, Option.bind_some, Option.map_some, Option.map_none, Option.bind_none, if_true, if_false, ite_true, ite_false, reduceIte, Bool.not_true, Bool.not_false, List.take_succ_cons, List.take_length, List.take_zero, Nat.add_sub_cancel, Nat.sub_self, Nat.reduceSub, Nat.reduceAdd, reduceCtorEq, Bool.false_eq_true, decide_true, decide_false, List.all_cons, List.any_cons, List.all_nil, List.any_nil, id_eq, Bool.true_and, Bool.and_true, Bool.false_or, Bool.or_false, Ir.zc0, Ir.zc1, Ir.zc2, Ir.zc3, eq_self, Ir.bools_const, Ir.all_const, Ir.any_const]
  refine Ok.mono (deck_ok hl ⟨by omega, by omega⟩) ?_
  rintro p ⟨dk, rfl, hd⟩
  by_cases h0 : (j : Int) = 0
  · have h00 : decide ((j : Int) = 0) = true := decide_eq_true h0
    simp -implicitDefEqProofs only [Ir.Ok_bind, Ir.Ok_map, Ir.Ok_some, Ir.Ok_none, Ir.evSs, Ir.evE.eq_1, Ir.evE.eq_2, Ir.evE.eq_3, Ir.evE.eq_4, Ir.evE.eq_5, Ir.evE.eq_6, Ir.evE.eq_7, Ir.evE.eq_8, Ir.evE.eq_9, Ir.evE.eq_10, Ir.evE.eq_11, Ir.evE.eq_12, Ir.evE.eq_13, Ir.evE.eq_14, Ir.evE.eq_15, Ir.evE.eq_16, Ir.evE.eq_17, Ir.evE.eq_19, Ir.evEs, Ir.evRs, Ir.evO, Ir.evOt, Ir.evT, Ir.evI, Ir.evS.eq_1, Ir.evS.eq_2, Ir.evS.eq_3, Ir.evS.eq_4, Ir.evS.eq_5, Ir.evS.eq_6, Ir.evS.eq_9, Ir.evS.eq_10, Ir.evS.eq_11, Ir.evS.eq_12, Ir.evS.eq_13, Ir.Ok_for, Ir.ev2, Ir.startE, Ir.bT_n, Ir.bT_t, Ir.bT_m, Ir.bTs_n, Ir.bTs_c, Ir.wipeE, Ir.mt0, Ir.mt1, Ir.mt2, Ir.mt3, Ir.mt4, Ir.ad0, Ir.ad1, Ir.ad2, Ir.ad3, Ir.arrU, Ir.fu, Ir.ft, Ir.gd, Ir.gRu, Ir.gRt, Ir.sq1, Ir.sq2, Ir.ls1, Ir.rt1, Ir.rt2, Ir.bopR_d, Ir.b_add, Ir.b_sub, Ir.c_lt, Ir.c_le, Ir.c_gt, Ir.c_ge, Ir.c_eqi, Ir.c_eqs, Ir.c_eqb, Ir.c_nei, Ir.c_nes, Ir.c_neb, Ir.c_is, Ir.c_isn, Ir.n1, Ir.n2, Ir.n3, Ir.n4, Ir.n5, Ir.n6, Ir.d_lt, Ir.d_le, Ir.d_gt, Ir.d_ge, Ir.x_tup, Ir.x_tmp, Ir.x_mix, Ir.x_ref, Ir.a0, Ir.a1, Ir.a2, Ir.i30, Ir.i32, Ir.f_len, Ir.l_tup, Ir.l_tmp, Ir.l_mix, Ir.l_ref, Ir.f_int, Ir.f_intb, Ir.f_abs, Ir.f_max, Ir.f_min, Ir.f_tup, Ir.f_list, Ir.f_all, Ir.f_any, Ir.f_isin, Ir.t_int, Ir.t_str, Ir.t_bl, Ir.t_non, Ir.t_tup, Ir.t_mix, Ir.is_ii, Ir.is_ib, Ir.is_tt, Ir.is_it, Ir.is_ss, Ir.p_j, Ir.p_s, Ir.p_p, Ir.tr_b, Ir.s_tmp, Ir.s_tup, Ir.s_str, Ir.boolsD, Ir.strsD, Ir.sqr, Ir.lsr, Ir.ob1, Ir.ob2, Ir.blU, List.map_cons, List.map_nil, List.length_cons, List.length_nil, List.replicate, List.cons_append, List.nil_append, List.append_nil, List.getElem?_cons_zero, List.getElem?_cons_succ, List.getElem?_nil, List.set_cons_zero, List.set_cons_succ, List.set_nil, Option.bind_some, Option.map_some, Option.map_none, Option.bind_none, if_true, if_false, ite_true, ite_false, reduceIte, Bool.not_true, Bool.not_false, List.take_succ_cons, List.take_length, List.take_zero, Nat.add_sub_cancel, Nat.sub_self, Nat.reduceSub, Nat.reduceAdd, reduceCtorEq, Bool.false_eq_true, decide_true, decide_false, List.all_cons, List.any_cons, List.all_nil, List.any_nil, id_eq, Bool.true_and, Bool.and_true, Bool.false_or, Bool.or_false, Ir.zc0, Ir.zc1, Ir.zc2, Ir.zc3, eq_self, Ir.bools_const, Ir.all_const, Ir.any_const, gc1, h00]
    refine Ok.mono (great_ok (by decide) hd) ?_
    rintro p ⟨d2, rfl, h2⟩
    simp -implicitDefEqProofs only [Ir.Ok_bind, Ir.Ok_map, Ir.Ok_some, Ir.Ok_none, Ir.evSs, Ir.evE.eq_1, Ir.evE.eq_2, Ir.evE.eq_3, Ir.evE.eq_4, Ir.evE.eq_5, Ir.evE.eq_6, Ir.evE.eq_7, Ir.evE.eq_8, Ir.evE.eq_9, Ir.evE.eq_10, Ir.evE.eq_11, Ir.evE.eq_12, Ir.evE.eq_13, Ir.evE.eq_14, Ir.evE.eq_15, Ir.evE.eq_16, Ir.evE.eq_17, Ir.evE.eq_19, Ir.evEs, Ir.evRs, Ir.evO, Ir.evOt, Ir.evT, Ir.evI, Ir.evS.eq_1, Ir.evS.eq_2, Ir.evS.eq_3, Ir.evS.eq_4, Ir.evS.eq_5, Ir.evS.eq_6, Ir.evS.eq_9, Ir.evS.eq_10, Ir.evS.eq_11, Ir.evS.eq_12, Ir.evS.eq_13, Ir.Ok_for, Ir.ev2, Ir.startE, Ir.bT_n, Ir.bT_t, Ir.bT_m, Ir.bTs_n, Ir.bTs_c, Ir.wipeE, Ir.mt0, Ir.mt1, Ir.mt2, Ir.mt3, Ir.mt4, Ir.ad0, Ir.ad1, Ir.ad2, Ir.ad3, Ir.arrU, Ir.fu, Ir.ft, Ir.gd, Ir.gRu, Ir.gRt, Ir.sq1, Ir.sq2, Ir.ls1, Ir.rt1, Ir.rt2, Ir.bopR_d, Ir.b_add, Ir.b_sub, Ir.c_lt, Ir.c_le, Ir.c_gt, Ir.c_ge, Ir.c_eqi, Ir.c_eqs, Ir.c_eqb, Ir.c_nei, Ir.c_nes, Ir.c_neb, Ir.c_is, Ir.c_isn, Ir.n1, Ir.n2, Ir.n3, Ir.n4, Ir.n5, Ir.n6, Ir.d_lt, Ir.d_le, Ir.d_gt, Ir.d_ge, Ir.x_tup, Ir.x_tmp, Ir.x_mix, Ir.x_ref, Ir.a0, Ir.a1, Ir.a2, Ir.i30, Ir.i32, Ir.f_len, Ir.l_tup, Ir.l_tmp, Ir.l_mix, Ir.l_ref, Ir.f_int, Ir.f_intb, Ir.f_abs, Ir.f_max, Ir.f_min, Ir.f_tup, Ir.f_list, Ir.f_all, Ir.f_any, Ir.f_isin, Ir.t_int, Ir.t_str, Ir.t_bl, Ir.t_non, Ir.t_tup, Ir.t_mix, Ir.is_ii, Ir.is_ib, Ir.is_tt, Ir.is_it, Ir.is_ss, Ir.p_j, Ir.p_s, Ir.p_p, Ir.tr_b, Ir.s_tmp, Ir.s_tup, Ir.s_str, Ir.boolsD, Ir.strsD, Ir.sqr, Ir.lsr, Ir.ob1, Ir.ob2, Ir.blU, List.map_cons, List.map_nil, List.length_cons, List.length_nil, List.replicate, List.cons_append, List.nil_append, List.append_nil, List.getElem?_cons_zero, List.getElem?_cons_succ, List.getElem?_nil, List.set_cons_zero, List.set_cons_succ, List.set_nil, Option.bind_some, Option.map_some, Option.map_none, Option.bind_none, if_true, if_false, ite_true, ite_false, reduceIte, Bool.not_true, Bool.not_false, List.take_succ_cons, List.take_length, List.take_zero, Nat.add_sub_cancel, Nat.sub_self, Nat.reduceSub, Nat.reduceAdd, reduceCtorEq, Bool.false_eq_true, decide_true, decide_false, List.all_cons, List.any_cons, List.all_nil, List.any_nil, id_eq, Bool.true_and, Bool.and_true, Bool.false_or, Bool.or_false, Ir.zc0, Ir.zc1, Ir.zc2, Ir.zc3, eq_self, Ir.bools_const, Ir.all_const, Ir.any_const]
    refine Ok.mono (inner_ok (by decide) h2) ?_
    rintro p ⟨d3, rfl⟩
    exact ⟨d3, rfl⟩
  · have h00 : decide ((j : Int) = 0) = false := decide_eq_false h0
    simp -implicitDefEqProofs only [Ir.Ok_bind, Ir.Ok_map, Ir.Ok_some, Ir.Ok_none, Ir.evSs, Ir.evE.eq_1, Ir.evE.eq_2, Ir.evE.eq_3, Ir.evE.eq_4, Ir.evE.eq_5, Ir.evE.eq_6, Ir.evE.eq_7, Ir.evE.eq_8, Ir.evE.eq_9, Ir.evE.eq_10, Ir.evE.eq_11, Ir.evE.eq_12, Ir.evE.eq_13, Ir.evE.eq_14, Ir.evE.eq_15, Ir.evE.eq_16, Ir.evE.eq_17, Ir.evE.eq_19, Ir.evEs, Ir.evRs, Ir.evO, Ir.evOt, Ir.evT, Ir.evI, Ir.evS.eq_1, Ir.evS.eq_2, Ir.evS.eq_3, Ir.evS.eq_4, Ir.evS.eq_5, Ir.evS.eq_6, Ir.evS.eq_9, Ir.evS.eq_10, Ir.evS.eq_11, Ir.evS.eq_12, Ir.evS.eq_13, Ir.Ok_for, Ir.ev2, Ir.startE, Ir.bT_n, Ir.bT_t, Ir.bT_m, Ir.bTs_n, Ir.bTs_c, Ir.wipeE, Ir.mt0, Ir.mt1, Ir.mt2, Ir.mt3, Ir.mt4, Ir.ad0, Ir.ad1, Ir.ad2, Ir.ad3, Ir.arrU, Ir.fu, Ir.ft, Ir.gd, Ir.gRu, Ir.gRt, Ir.sq1, Ir.sq2, Ir.ls1, Ir.rt1, Ir.rt2, Ir.bopR_d, Ir.b_add, Ir.b_sub, Ir.c_lt, Ir.c_le, Ir.c_gt, Ir.c_ge, Ir.c_eqi, Ir.c_eqs, Ir.c_eqb, Ir.c_nei, Ir.c_nes, Ir.c_neb, Ir.c_is, Ir.c_isn, Ir.n1, Ir.n2, Ir.n3, Ir.n4, Ir.n5, Ir.n6, Ir.d_lt, Ir.d_le, Ir.d_gt, Ir.d_ge, Ir.x_tup, Ir.x_tmp, Ir.x_mix, Ir.x_ref, Ir.a0, Ir.a1, Ir.a2, Ir.i30, Ir.i32, Ir.f_len, Ir.l_tup, Ir.l_tmp, Ir.l_mix, Ir.l_ref, Ir.f_int, Ir.f_intb, Ir.f_abs, Ir.f_max, Ir.f_min, Ir.f_tup, Ir.f_list, Ir.f_all, Ir.f_any, Ir.f_isin, Ir.t_int, Ir.t_str, Ir.t_bl, Ir.t_non, Ir.t_tup, Ir.t_mix, Ir.is_ii, Ir.is_ib, Ir.is_tt, Ir.is_it, Ir.is_ss, Ir.p_j, Ir.p_s, Ir.p_p, Ir.tr_b, Ir.s_tmp, Ir.s_tup, Ir.s_str, Ir.boolsD, Ir.strsD, Ir.sqr, Ir.lsr, Ir.ob1, Ir.ob2, Ir.blU, List.map_cons, List.map_nil, List.length_cons, List.length_nil, List.replicate, List.cons_append, List.nil_append, List.append_nil, List.getElem?_cons_zero, List.getElem?_cons_succ, List.getElem?_nil, List.set_cons_zero, List.set_cons_succ, List.set_nil, Option.bind_some, Option.map_some, Option.map_none, Option.bind_none, if_true, if_false, ite_true, ite_false, reduceIte, Bool.not_true, Bool.not_false, List.take_succ_cons, List.take_length, List.take_zero, Nat.add_sub_cancel, Nat.sub_self, Nat.reduceSub, Nat.reduceAdd, reduceCtorEq, Bool.false_eq_true, decide_true, decide_false, List.all_cons, List.any_cons, List.all_nil, List.any_nil, id_eq, Bool.true_and, Bool.and_true, Bool.false_or, Bool.or_false, Ir.zc0, Ir.zc1, Ir.zc2, Ir.zc3, eq_self, Ir.bools_const, Ir.all_const, Ir.any_const, gc1, h00]
    refine Ok.mono (inner_ok (by decide) hd) ?_
    rintro p ⟨d3, rfl⟩
    exact ⟨d3, rfl⟩
theorem law_true : LawTrue := by
  intro ns hl
  have key : Ok (run pd.fds (39 + 1) lawIx [.ref 0] [.rd (ns.map D.int)]) fun p => p.1 = .d (.bl true) := by
    refine run_ok ⟨1, 13, ir_law⟩ rfl rfl ?_
    unfold ir_law
    rw [show (startE 13 [U.ref 0] : Ir.Env) = [some (.ref 0), none, none, none, none, none, none, none, none, none, none, none, none] from rfl]
    obtain ⟨n, en, n1, n6⟩ : ∃ n : Int, evE (Ir.run pd.fds 39) (.bi .max (.cons (.lit (.int (1))) (.cons (.bi .min (.cons (.lit (.int (6))) (.cons (.bi .len (.cons (.var 0) .nil)) .nil))) .nil))) [some (.ref 0), none, none, none, none, none, none, none, none, none, none, none, none] [.rd (ns.map D.int)] = some (.u (.d (.int n)), [.rd (ns.map D.int)]) ∧ 1 ≤ n ∧ n ≤ 6 := by
      refine ⟨_, Ok.eq (by simp -implicitDefEqProofs only [Ir.Ok_bind, Ir.Ok_map, Ir.Ok_some, Ir.Ok_none, Ir.evSs, Ir.evE.eq_1, Ir.evE.eq_2, Ir.evE.eq_3, Ir.evE.eq_4, Ir.evE.eq_5, Ir.evE.eq_6, Ir.evE.eq_7, Ir.evE.eq_8, Ir.evE.eq_9, Ir.evE.eq_10, Ir.evE.eq_11, Ir.evE.eq_12, Ir.evE.eq_13, Ir.evE.eq_14, Ir.evE.eq_15, Ir.evE.eq_16, Ir.evE.eq_17, Ir.evE.eq_19, Ir.evEs, Ir.evRs, Ir.evO, Ir.evOt, Ir.evT, Ir.evI, Ir.evS.eq_1, Ir.evS.eq_2, Ir.evS.eq_3, Ir.evS.eq_4, Ir.evS.eq_5, Ir.evS.eq_6, Ir.evS.eq_9, Ir.evS.eq_10, Ir.evS.eq_11, Ir.evS.eq_12, Ir.evS.eq_13, Ir.Ok_for, Ir.ev2, Ir.startE, Ir.bT_n, Ir.bT_t, Ir.bT_m, Ir.bTs_n, Ir.bTs_c, Ir.wipeE, Ir.mt0, Ir.mt1, Ir.mt2, Ir.mt3, Ir.mt4, Ir.ad0, Ir.ad1, Ir.ad2, Ir.ad3, Ir.arrU, Ir.fu, Ir.ft, Ir.gd, Ir.gRu, Ir.gRt, Ir.sq1, Ir.sq2, Ir.ls1, Ir.rt1, Ir.rt2, Ir.bopR_d, Ir.b_add, Ir.b_sub, Ir.c_lt, Ir.c_le, Ir.c_gt, Ir.c_ge, Ir.c_eqi, Ir.c_eqs, Ir.c_eqb, Ir.c_nei, Ir.c_nes, Ir.c_neb, Ir.c_is, Ir.c_isn, Ir.n1, Ir.n2, Ir.n3, Ir.n4, Ir.n5, Ir.n6, Ir.d_lt, Ir.d_le, Ir.d_gt, Ir.d_ge, Ir.x_tup, Ir.x_tmp, Ir.x_mix, Ir.x_ref, Ir.a0, Ir.a1, Ir.a2, Ir.i30, Ir.i32, Ir.f_len, Ir.l_tup, Ir.l_tmp, Ir.l_mix, Ir.l_ref, Ir.f_int, Ir.f_intb, Ir.f_abs, Ir.f_max, Ir.f_min, Ir.f_tup, Ir.f_list, Ir.f_all, Ir.f_any, Ir.f_isin, Ir.t_int, Ir.t_str, Ir.t_bl, Ir.t_non, Ir.t_tup, Ir.t_mix, Ir.is_ii, Ir.is_ib, Ir.is_tt, Ir.is_it, Ir.is_ss, Ir.p_j, Ir.p_s, Ir.p_p, Ir.tr_b, Ir.s_tmp, Ir.s_tup, Ir.s_str, Ir.boolsD, Ir.strsD, Ir.sqr, Ir.lsr, Ir.ob1, Ir.ob2, Ir.blU, List.map_cons, List.map_nil, List.length_cons, List.length_nil, List.replicate, List.cons_append, List.nil_append, List.append_nil, List.getElem?_cons_zero, List.getElem?_cons_succ, List.getElem?_nil, List.set_cons_zero, List.set_cons_succ, List.set_nil, Option.bind_some, Option.map_some, Option.map_none, Option.bind_none, if_true, if_false, ite_true, ite_false, reduceIte, Bool.not_true, Bool.not_false, List.take_succ_cons, List.take_length, List.take_zero, Nat.add_sub_cancel, Nat.sub_self, Nat.reduceSub, Nat.reduceAdd, reduceCtorEq, Bool.false_eq_true, decide_true, decide_false, List.all_cons, List.any_cons, List.all_nil, List.any_nil, id_eq, Bool.true_and, Bool.and_true, Bool.false_or, Bool.or_false, Ir.zc0, Ir.zc1, Ir.zc2, Ir.zc3, eq_self, Ir.bools_const, Ir.all_const, Ir.any_const, List.length_map]; rfl), ?_, ?_⟩
      · split <;> (try split) <;> omega
      · split <;> (try split) <;> omega
    change Ok ((evS (Ir.run pd.fds 39) (.for_ (.n 1) (.rng1 (.bi .max (.cons (.lit (.int (1))) (.cons (.bi .min (.cons (.lit (.int (6))) (.cons (.bi .len (.cons (.var 0) .nil)) .nil))) .nil)))) irOuter [1, 2, 3, 4, 5, 6, 7, 8, 9, 10, 11, 12]) env0 [.rd (ns.map D.int)]).bind fun p => (match p.1 with
      | .nx => evSs (Ir.run pd.fds 39) (.cons (.ret (.lit (.bl true))) .nil) p.2.1 p.2.2
      | o => some (o, p.2.1, p.2.2))) _
    rw [Ok_bind, Ok_for, evI_rng en (by omega) (by omega), Ok_some]
    refine forL_ok (fun j ρ S => ρ = env0 ∧ S = [.rd (ns.map D.int)]) _ 0 _ _ ⟨rfl, rfl⟩ ?_ ?_
    · rintro j x ρ S e1 ⟨rfl, rfl⟩
      obtain ⟨rfl, hj⟩ := gE e1
      show Ok (evSs (Ir.run pd.fds (19 + 20)) irOuter [some (.ref 0), some (.d (.int j)), none, none, none, none, none, none, none, none, none, none, none] [.rd (ns.map .int)]) _
      refine Ok.mono (outer_ok hl (by omega)) ?_
      rintro p ⟨dk', rfl⟩
      exact ⟨rfl, rfl, rfl⟩
    · rintro ρ S ⟨rfl, rfl⟩
      exact ⟨_, rfl, _, rfl, rfl⟩
  obtain ⟨p, e, h⟩ := key
  obtain ⟨u, S'⟩ := p
  have h' : u = .d (.bl true) := h
  subst h'
  exact ⟨S', e⟩
theorem all_holds : PySem.Challenge.rw_steadyhands_k85_machines_and_plays_as_te.Holds := holds law_true
end G85

theorem PySem.Challenge.cw_steadyhands_k85_machines_and_plays_as_te_holds : PySem.Challenge.rw_steadyhands_k85_machines_and_plays_as_te.Holds :=
  G85.holds G85.law_true
